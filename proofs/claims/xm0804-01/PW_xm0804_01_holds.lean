import PyProof.Rows.All
import Wide.All
import OpenK.AllK
import Wide.FinOn
import KE.KDictOf
import PyProof.AttrMissHeap
import PyProof.TupleKey
import PyProof.DictFindH
import KE.KDictSum
import KE.KSortTup
import KE.KSortAsk
import KE.KEqDat
import Lean
import PySem.Challenge.RW_xm0804_01
section
open PySem PySem.W PyProof.Rows
set_option Elab.async false
set_option maxRecDepth 100000
namespace Mine
open_top hd for PySem.Challenge.rw_xm0804_01
end Mine
end

section
open PySem PySem.W PyProof.Rows PySem.Spec
set_option Elab.async false
set_option maxRecDepth 100000
namespace Mine
/-- open_top leaves the walker's switch on; the walks below were typed with it off -/
theorem topOff : True := by w_top off; trivial
abbrev PR : PySem.Program := PySem.Challenge.rw_xm0804_01.row.prog
abbrev Led := List (Addr × Obj)
abbrev LMap := PySem.Str → Option Value

/-- what a call of the def at f upon vs gives, whoever calls -/
abbrev FnSpec (w : World) (r : Nat) (f : Addr) (vs : List Value) (news : Led) (Post : Value → Led → Prop) : Prop :=
  ∀ (mg mb : LMap) (mean : ExcName → Option Value) (dp un : Nat) (gd : Option (List Code)) (cn : Str) (cs : Scope) (a : Addr) (ccd : Value) (cl : List (Str × Addr)) (outer : List Env)
    (A₀ : Around) (base h₀ : Heap) (L : Addr) (m : LMap) (s : Shared) (Q E : Value → Shared → Prop),
    Below A₀ base outer h₀ → Fr h₀ L s.heap m → (hd.heap_39 w.params).In h₀ → News h₀ L s.heap news → Top hd.view_39 (looseW hd.view_39 []) mean mg mb h₀ → cs.kind = .function →
    dp + r < recursionLimit → un + 40 * r < cLine →
    (∀ v h' tk' news', Fr h₀ L h' m → News h₀ L h' news' → Post v news' → Q v { s with heap := h', toks := tk' }) →
    wpAny (model PR w) (ktrTop dp un gd cn cs L a ccd cl outer) (call (.ref f) vs) Q E s

/-- the walk stops here -/
def Stop (P : Prop) : Prop := P
theorem stop_here {P : Prop} (h : Stop P) : P := h

/-- a name's value, said in the frame's map -/
theorem know {h₀ h : Heap} {L : Addr} {m : LMap} {x : Str} {v : Value} (e : m x = some v) (F : Fr h₀ L h m) : Fr h₀ L h (fun y => if y = x then some v else m y) := by
  have : (fun y => if y = x then some v else m y) = m := by
    funext y; by_cases h : y = x
    · rw [if_pos h, h, e]
    · rw [if_neg h]
  rw [this]; exact F
/-- names with their values -/
def Knows (m : LMap) : List (Str × Value) → Prop
  | [] => True
  | p :: r => m p.1 = some p.2 ∧ Knows m r
theorem Knows.skip {m : LMap} {x : Str} {v : Value} : ∀ {l : List (Str × Value)}, Knows m l → (l.all fun p => !decide (p.1 = x)) = true → Knows (fun y => if y = x then some v else m y) l
  | [], _, _ => trivial
  | p :: r, h, e => by
    rw [List.all_cons, Bool.and_eq_true] at e
    refine ⟨?_, Knows.skip h.2 e.2⟩
    have : ¬ p.1 = x := by simpa using e.1
    show (if p.1 = x then some v else m p.1) = some p.2
    rw [if_neg this]; exact h.1
def assocs (m : LMap) : List (Str × Value) → LMap
  | [], y => m y
  | p :: r, y => if y = p.1 then some p.2 else assocs m r y
theorem know_all {h₀ h : Heap} {L : Addr} {m : LMap} (F : Fr h₀ L h m) : ∀ (l : List (Str × Value)), Knows m l → Fr h₀ L h (assocs m l)
  | [], _ => F
  | p :: r, k => by
    have ih := know_all F r k.2
    have e : assocs m (p :: r) = assocs m r := by
      funext y
      show (if y = p.1 then some p.2 else assocs m r y) = _
      by_cases h : y = p.1
      · rw [if_pos h, h]
        have : ∀ (l : List (Str × Value)), Knows m l → ∀ z w, m z = some w → assocs m l z = some w := by
          intro l
          induction l with
          | nil => intro _ z w e; exact e
          | cons q t iq =>
            intro k z w e
            show (if z = q.1 then some q.2 else assocs m t z) = some w
            by_cases hz : z = q.1
            · rw [if_pos hz, ← k.1, ← hz]; exact e
            · rw [if_neg hz]; exact iq k.2 z w e
        exact (this r k.2 p.1 p.2 k.1).symm
      · rw [if_neg h]
    rw [e]; exact ih
theorem off_upd {a : Addr} {o o' : Obj} {rest : Led} {I : Addr} (h : ∀ p ∈ (a, o) :: rest, p.1 ≠ I) : ∀ p ∈ (a, o') :: rest, p.1 ≠ I := fun p hp => by
  rcases List.mem_cons.mp hp with rfl | hp
  · exact h (a, o) List.mem_cons_self
  · exact h p (List.mem_cons_of_mem _ hp)
theorem ints_snoc {rv : List Value} {f : Nat → Int} {K : Nat} {v : Int} {t : Tok} (h : IntsAre rv ((List.range K).map f)) (hv : v = f K) : IntsAre (rv ++ [.int v t]) ((List.range (K + 1)).map f) := by
  rw [List.range_succ, List.map_append, hv]
  exact IntsAre.append h (IntsAre.cons _ _ IntsAre.nil)
theorem ints_cons {rv : List Value} {f : Nat → Int} {K : Nat} {v : Int} {t : Tok} (h : IntsAre rv ((List.range K).map fun j => f (j + 1))) (hv : v = f 0) : IntsAre (.int v t :: rv) ((List.range (K + 1)).map f) := by
  rw [List.range_succ_eq_map, List.map_cons, List.map_map, hv]
  exact IntsAre.cons _ _ h
theorem allLt_ne {d : Addr} : ∀ {l : Led}, AllLt d l → ∀ p ∈ l, p.1 ≠ d
  | [], _, _, h => nomatch h
  | q :: r, h, p, hp => by
    rcases List.mem_cons.mp hp with rfl | hp
    · exact Nat.ne_of_lt h.1
    · exact allLt_ne h.2 p hp
theorem lt_ne {d : Addr} {l : Led} (h : ∀ p ∈ l, p.1 < d) : ∀ p ∈ l, p.1 ≠ d := fun p hp => Nat.ne_of_lt (h p hp)
theorem cons_ne {d a : Addr} {o : Obj} {l : Led} (h1 : @Ne Nat a d) (h : ∀ p ∈ l, p.1 ≠ d) : ∀ p ∈ (a, o) :: l, p.1 ≠ d := fun p hp => by
  rcases List.mem_cons.mp hp with rfl | hp
  · exact h1
  · exact h p hp
theorem name_of {h₀ h : Heap} {L : Addr} {m : LMap} (_F : Fr h₀ L h m) (x : Str) {a : Addr} (_e : m x = some (.ref a)) : ∃ r : Addr, r = a := ⟨a, rfl⟩
theorem sub {h₀ h : Heap} {L : Addr} {a b : Led} (hs : ∀ p ∈ b, p ∈ a) (N : News h₀ L h a) : News h₀ L h b := fun p hp => N p (hs p hp)
theorem swap12 {h₀ h : Heap} {L : Addr} {a b : Addr × Obj} {r : Led} (N : News h₀ L h (a :: b :: r)) : News h₀ L h (b :: a :: r) := sub (fun p hp => by
  simp only [List.mem_cons] at hp ⊢
  rcases hp with h | h | h
  · exact .inr (.inl h)
  · exact .inl h
  · exact .inr (.inr h)) N
theorem perm4 {h₀ h : Heap} {L : Addr} {p a b c : Addr × Obj} {r : Led} (N : News h₀ L h (p :: a :: b :: c :: r)) : News h₀ L h (a :: b :: c :: p :: r) := sub (fun q hq => by
  simp only [List.mem_cons] at hq ⊢
  rcases hq with h | h | h | h | h
  · exact .inr (.inl h)
  · exact .inr (.inr (.inl h))
  · exact .inr (.inr (.inr (.inl h)))
  · exact .inl h
  · exact .inr (.inr (.inr (.inr h)))) N
theorem obj_name {o : Obj} {d : Data} (_h : o.data = d) : ∃ p : Obj, p = o := ⟨o, rfl⟩
theorem led_name {h₀ h : Heap} {L a : Addr} {o : Obj} {r : Led} (_N : News h₀ L h ((a, o) :: r)) : ∃ b : Addr, b = a := ⟨a, rfl⟩
theorem lt_name {a b : Nat} (_h : a < b) : ∃ c : Nat, c = b := ⟨b, rfl⟩
theorem swap23 {h₀ h : Heap} {L : Addr} {a b c : Addr × Obj} {r : Led} (N : News h₀ L h (a :: b :: c :: r)) : News h₀ L h (a :: c :: b :: r) := sub (fun p hp => by
  simp only [List.mem_cons] at hp ⊢
  rcases hp with h | h | h | h
  · exact .inl h
  · exact .inr (.inr (.inl h))
  · exact .inr (.inl h)
  · exact .inr (.inr (.inr h))) N
theorem news_lt {h₀ h : Heap} {L : Addr} {a : Led} (N : News h₀ L h a) : ∀ p ∈ a, p.1 < h.objs.size := fun p hp => Heap.lt_size (N p hp).1

section
variable {prog : Program} {w : World} {A : Around} {E : Value → Shared → Prop} {s : Shared} {env : Env} {h₀ : Heap} {x : Str} {body : List Stmt} {Q : Flow → Shared → Prop}

/-- a turn's end: J of the next turn, the iterator untouched -/
def TurnEnd (h₀ : Heap) (L : Addr) (it : Addr × Obj) (J : LMap → Led → Prop) (s₁ : Shared) (Q : Flow → Shared → Prop) (f : Flow) (s₂ : Shared) : Prop :=
  match f with
  | .ret v => Q (.ret v) s₂
  | .brk => Q .next s₂
  | _ => ∃ h' tk' m' news', s₂ = { s₁ with heap := h', toks := tk' } ∧ Fr h₀ L h' m' ∧ News h₀ L h' (it :: news') ∧ (∀ p ∈ news', p.1 ≠ it.1) ∧ J m' news'

theorem TurnEnd.intro {L : Addr} {it : Addr × Obj} {J : LMap → Led → Prop} {s₁ : Shared} {h' : Heap} {tk' : Nat} {m' : LMap} {news' : Led}
    (F : Fr h₀ L h' m') (N : News h₀ L h' (it :: news')) (hi : ∀ p ∈ news', p.1 ≠ it.1) (hj : J m' news') : TurnEnd h₀ L it J s₁ Q .next { s₁ with heap := h', toks := tk' } :=
  ⟨h', tk', m', news', rfl, F, N, hi, hj⟩

theorem rng_loop {r : Addr} {a₀ b₀ c₀ : Int} {t₀ u₀ v₀ : Tok} {n : Nat} {m₀ : LMap} {news : Led} (J : Nat → LMap → Led → Prop)
    (hh : A.handled = none) (hr : IsRange s.heap r a₀ b₀ c₀ t₀ u₀ v₀) (hsmall : Builtin.Range.small a₀ b₀ c₀ = true) (hn : Builtin.Range.rangeSize a₀ b₀ c₀ = (n : Int))
    (F : Fr h₀ env.locals s.heap m₀) (N : News h₀ env.locals s.heap news) (h0 : J 0 m₀ news)
    (turn : ∀ (i : Nat) (k : Int) (t : Tok) (m₁ : LMap) (news₁ : Led) (h : Heap) (tk : Nat) (it : Addr × Obj), i < n → k = a₀ + (i : Int) * c₀ → J i m₁ news₁ → (∀ p ∈ news₁, p.1 ≠ it.1) →
      Fr h₀ env.locals h (fun y => if y = x then some (.int k t) else m₁ y) → News h₀ env.locals h (it :: news₁) →
      wpAny (model prog w) A (execs body env) (TurnEnd h₀ env.locals it (J (i + 1)) { s with heap := h, toks := tk } Q) E { s with heap := h, toks := tk })
    (done : ∀ (m₁ : LMap) (news₁ : Led) (h : Heap) (tk : Nat), J n m₁ news₁ → Fr h₀ env.locals h m₁ → News h₀ env.locals h news₁ → Q .next { s with heap := h, toks := tk }) :
    wpAny (model prog w) A (pyIter (.ref r)) (fun it s₂ => LoopAtV prog w A h₀ env x body Q E it s₂) E s := by
  refine wpAny_pyIter_range hr hsmall ?_
  have W : Walks prog w A s.heap.objs.size [s.heap.objs.size] [s.heap.objs.size] n (fun i v => i < n ∧ ∃ t, v = .int (a₀ + i * c₀) t)
      (fun i h => IsRangeIter h s.heap.objs.size (a₀ + (i : Nat) * c₀) ((n : Int) - (i : Nat)) c₀) := (Walks.range hh _ a₀ c₀ n).bound
  refine ⟨_, _, _, n, _, _, m₀, news, J, rfl, W, ?_, ?_, ?_, (by show IsRangeIter _ _ _ _ _; rw [hn]; simpa using Heap.get?_push_size _ rfl), F.push _, (fun p hp => ⟨Heap.get?_push_of_some _ (N p hp).1, (N p hp).2⟩), h0, ?_, ?_⟩
  · intro hm
    exact absurd F.ns.lt ((List.mem_singleton.mp hm) ▸ Nat.lt_irrefl _)
  · intro b hb
    rw [List.mem_singleton.mp hb]
    exact next_is_new F
  · intro p hp hI
    exact absurd (Heap.lt_size (N p hp).1) ((List.mem_singleton.mp hI) ▸ Nat.lt_irrefl _)
  · rintro i v m₁ news₁ s₁ own ⟨hh', tk', rfl⟩ hin ⟨_, t, rfl⟩ hJ hoff hown hget hfp hst F₁ N₁
    obtain ⟨oI, hst'⟩ : ∃ oI, hh'.get? s.heap.objs.size = some oI := ⟨_, hst⟩
    have hmem := hfp s.heap.objs.size (List.mem_singleton.mpr rfl) (next_is_new F) _ hst'
    have N₂ : News h₀ env.locals hh' ((s.heap.objs.size, oI) :: news₁) := fun p hp => by
      rcases List.mem_cons.mp hp with rfl | hp
      · exact N₁ _ (List.mem_append_left _ hmem)
      · exact N₁ _ (List.mem_append_right _ hp)
    refine wpAny_mono (turn i _ t m₁ news₁ hh' tk' (s.heap.objs.size, oI) hin rfl hJ (fun p hp e => hoff p hp (List.mem_singleton.mpr e)) F₁ N₂) (fun f s₂ p => ?_) fun _ _ e => e
    have fin : (∃ h' tk'' m' news', s₂ = { ({ s with heap := hh', toks := tk' } : Shared) with heap := h', toks := tk'' } ∧ Fr h₀ env.locals h' m' ∧ News h₀ env.locals h' ((s.heap.objs.size, oI) :: news') ∧ (∀ p ∈ news', p.1 ≠ s.heap.objs.size) ∧ J (i + 1) m' news') →
        LoopStepU h₀ env.locals [s.heap.objs.size] own (J (i + 1)) { s with heap := hh', toks := tk' } .next s₂ := by
      rintro ⟨h', tk'', m', news', e, F', N', hi', hJ'⟩
      refine ⟨rfl, h', tk'', m', news', e, F', fun p hp => ?_, fun p hp hI => hi' p hp (List.mem_singleton.mp hI), hJ'⟩
      rcases List.mem_append.mp hp with hp | hp
      · have e1 : p.1 = s.heap.objs.size := List.mem_singleton.mp (hown p hp)
        have e2 := hget p hp
        rw [e1] at e2
        have e3 : p = (s.heap.objs.size, oI) := Prod.ext e1 (Option.some.inj (e2.symm.trans hst'))
        rw [e3]
        exact N' _ List.mem_cons_self
      · exact N' _ (List.mem_cons_of_mem _ hp)
    cases f with
    | ret v => exact .ret p
    | brk => exact .brk p
    | next => exact .next (fin p)
    | cont => exact .cont (fin p)
  · rintro h' tk m' news' F' N' _ hJ
    exact done m' news' h' tk hJ F' N'

theorem list_loop {l : Addr} {vs : List Value} {nn : Nat} {m₀ : LMap} {news : Led} (J : Nat → LMap → Led → Prop)
    (hh : A.handled = none) (hl : (l, listOf vs.toArray nn) ∈ news) (F : Fr h₀ env.locals s.heap m₀) (N : News h₀ env.locals s.heap news) (h0 : J 0 m₀ news)
    (turn : ∀ (i : Nat) (v : Value) (m₁ : LMap) (news₁ : Led) (h : Heap) (tk : Nat) (it : Addr × Obj), vs[i]? = some v → J i m₁ news₁ → (l, listOf vs.toArray nn) ∈ news₁ → (∀ p ∈ news₁, p.1 ≠ it.1) →
      Fr h₀ env.locals h (fun y => if y = x then some v else m₁ y) → News h₀ env.locals h (it :: news₁) →
      wpAny (model prog w) A (execs body env) (TurnEnd h₀ env.locals it (fun m' news' => (l, listOf vs.toArray nn) ∈ news' ∧ J (i + 1) m' news') { s with heap := h, toks := tk } Q) E { s with heap := h, toks := tk })
    (done : ∀ (m₁ : LMap) (news₁ : Led) (h : Heap) (tk : Nat), (l, listOf vs.toArray nn) ∈ news₁ → J vs.length m₁ news₁ → Fr h₀ env.locals h m₁ → News h₀ env.locals h news₁ → Q .next { s with heap := h, toks := tk }) :
    wpAny (model prog w) A (pyIter (.ref l)) (fun it s₂ => LoopAtV prog w A h₀ env x body Q E it s₂) E s := by
  have hol : s.heap.get? l = some (listOf vs.toArray nn) := (N _ hl).1
  have hls : s.heap.IsList l vs.toArray := ⟨_, hol, rfl, nn, rfl⟩
  have hne : l ≠ s.heap.objs.size := Nat.ne_of_lt (Heap.lt_size hol)
  refine wpAny_pyIter_list hls ?_
  have W := Walks.list (prog := prog) (w := w) hh s.heap.objs.size l hne vs.toArray
  have hlen : vs.toArray.size = vs.length := by simp
  rw [hlen] at W
  refine ⟨_, _, _, vs.length, _, _, m₀, news, (fun i m nx => (l, listOf vs.toArray nn) ∈ nx ∧ J i m nx), rfl, W, ?_, ?_, ?_, ⟨⟨_, Heap.get?_push_size _ rfl, rfl, rfl⟩, hls.at fun o e => Heap.get?_push_of_some _ e⟩, F.push _, (fun p hp => ⟨Heap.get?_push_of_some _ (N p hp).1, (N p hp).2⟩), ⟨hl, h0⟩, ?_, ?_⟩
  · intro hm
    rcases List.mem_cons.mp hm with e | hm
    · exact absurd F.ns.lt (e ▸ Nat.lt_irrefl _)
    · exact (N _ hl).2.1 ((List.mem_singleton.mp hm).symm)
  · intro b hb
    rw [List.mem_singleton.mp hb]
    exact next_is_new F
  · intro p hp hI
    exact absurd (Heap.lt_size (N p hp).1) ((List.mem_singleton.mp hI) ▸ Nat.lt_irrefl _)
  · rintro i v m₁ news₁ s₁ own ⟨hh', tk', rfl⟩ hin hP ⟨hl₁, hJ⟩ hoff hown hget hfp hst F₁ N₁
    have hP' : vs[i]? = some v := by simpa using hP
    obtain ⟨⟨oI, heI, _, _⟩, _⟩ := hst
    have hmem := hfp s.heap.objs.size (by simp) (next_is_new F) _ heI
    have hlo : hh'.get? l = some (listOf vs.toArray nn) := (N₁ _ (List.mem_append.mpr (.inr hl₁))).1
    have N₂ : News h₀ env.locals hh' ((s.heap.objs.size, oI) :: news₁) := fun p hp => by
      rcases List.mem_cons.mp hp with rfl | hp
      · exact N₁ _ (List.mem_append_left _ hmem)
      · exact N₁ _ (List.mem_append_right _ hp)
    refine wpAny_mono (turn i v m₁ news₁ hh' tk' (s.heap.objs.size, oI) hP' hJ hl₁ (fun p hp e => hoff p hp (List.mem_singleton.mpr e)) F₁ N₂) (fun f s₂ p => ?_) fun _ _ e => e
    have fin : (∃ h' tk'' m' news', s₂ = { ({ s with heap := hh', toks := tk' } : Shared) with heap := h', toks := tk'' } ∧ Fr h₀ env.locals h' m' ∧ News h₀ env.locals h' ((s.heap.objs.size, oI) :: news') ∧ (∀ p ∈ news', p.1 ≠ s.heap.objs.size) ∧ ((l, listOf vs.toArray nn) ∈ news' ∧ J (i + 1) m' news')) →
        LoopStepU h₀ env.locals [s.heap.objs.size] own (fun m nx => (l, listOf vs.toArray nn) ∈ nx ∧ J (i + 1) m nx) { s with heap := hh', toks := tk' } .next s₂ := by
      rintro ⟨h', tk'', m', news', e, F', N', hi', hJ'⟩
      refine ⟨rfl, h', tk'', m', news', e, F', fun p hp => ?_, fun p hp hI => hi' p hp (List.mem_singleton.mp hI), hJ'⟩
      rcases List.mem_append.mp hp with hp | hp
      · rcases List.mem_cons.mp (hown p hp) with e1 | e1
        · have e2 := hget p hp
          rw [e1] at e2
          have e3 : p = (s.heap.objs.size, oI) := Prod.ext e1 (Option.some.inj (e2.symm.trans heI))
          rw [e3]
          exact N' _ List.mem_cons_self
        · have e1 := List.mem_singleton.mp e1
          have e2 := hget p hp
          rw [e1, hlo] at e2
          have e3 : p = (l, listOf vs.toArray nn) := Prod.ext e1 (Option.some.inj e2).symm
          rw [e3]
          exact N' _ (List.mem_cons_of_mem _ hJ'.1)
      · exact N' _ (List.mem_cons_of_mem _ hp)
    cases f with
    | ret v => exact .ret p
    | brk => exact .brk p
    | next => exact .next (fin p)
    | cont => exact .cont (fin p)
  · rintro h' tk m' news' F' N' _ ⟨hl', hJ⟩
    exact done m' news' h' tk hl' hJ F' N'
end

section
variable {prog : Program} {w : World} {A : Around} {E : Value → Shared → Prop} {s : Shared} {h₀ : Heap} {L : Addr} {news : Led}
theorem item_led {value slice : PySem.Expr} {l : Addr} {its : Array Value} {nn : Nat} {k : Int} {u : Tok} {v : Value} {Q : Value → Shared → Prop}
    (N : News h₀ L s.heap news) (hl : (l, listOf its nn) ∈ news) (h0 : 0 ≤ k) (hhi : k < 2 ^ 63) (hx : its[k.toNat]? = some v) (h : Q v s)
    (hs : subscripted slice false (.ref l) (.int k u) = operate [.ref l, .int k u] (getItem (.ref l) (.int k u)) := by with_unfolding_all rfl) :
    wpAny (model prog w) A (subscriptTail value slice (.ref l) (.int k u)) Q E s :=
  have hl' : s.heap.IsList l its := News.isList N hl
  tail_any hl'.typeIs slot_list_getitem.lookup (wpAny_getItem_list hl' h0 hhi hx h) hs
theorem item_tup_ints {value slice : PySem.Expr} {P : Addr} {items : List Value} {nn : Nat} {k : Int} {u : Tok} {Q : Value → Shared → Prop}
    (N : News h₀ L s.heap news) (hP : (P, ({ cls := .type "tuple", data := .seq items.toArray nn } : Obj)) ∈ news) (h0 : 0 ≤ k) (h1 : k < (items.length : Int)) (hz : items.length ≤ 100) (hall : ∀ v ∈ items, ∃ z t, v = Value.int z t) (h : ∀ z t, Q (.int z t) s)
    (hs : subscripted slice false (.ref P) (.int k u) = operate [.ref P, .int k u] (getItem (.ref P) (.int k u)) := by with_unfolding_all rfl) :
    wpAny (model prog w) A (subscriptTail value slice (.ref P) (.int k u)) Q E s := by
  have hk : k.toNat < items.length := by omega
  obtain ⟨z, t, e⟩ := hall _ (List.getElem_mem hk)
  refine item_tupleT (j := k.toNat) (x := .int z t) (News.isTup N hP) (Int.le_trans (by decide) h0) (Int.lt_of_lt_of_le h1 (by omega)) ?_ ?_ (h z t) hs
  · have hk0 : ¬ k < 0 := by omega
    unfold seqIndex?
    simp [hk0, h0, h1]
  · rw [List.getElem?_eq_getElem hk, e]
theorem getD_rng {f : Nat → Int} {K q : Nat} (hq : q < K) : ((List.range K).map f).getD q 0 = f q := by
  rw [List.getD_eq_getElem?_getD, List.getElem?_map, List.getElem?_range hq]; rfl
theorem ints_at {rv : List Value} {f : Nat → Int} {K q : Nat} {k : Int} (h : IntsAre rv ((List.range K).map f)) (hq : q < K) (hk : k = (q : Int)) : ∃ t, rv.toArray[k.toNat]? = some (.int (f q) t) := by
  obtain ⟨t, ht⟩ := h.get q (f q) (by simp [hq])
  exact ⟨t, by rw [hk, Int.toNat_natCast, List.getElem?_toArray]; exact ht⟩
theorem ints_at' {rv : List Value} {ns : List Int} {q : Nat} {k : Int} (h : IntsAre rv ns) (hq : q < ns.length) (hk : k = (q : Int)) : ∃ t, rv.toArray[k.toNat]? = some (.int (ns.getD q 0) t) := by
  obtain ⟨t, ht⟩ := h.get q (ns.getD q 0) (by rw [List.getD_eq_getElem?_getD, List.getElem?_eq_getElem hq]; rfl)
  exact ⟨t, by rw [hk, Int.toNat_natCast, List.getElem?_toArray]; exact ht⟩
theorem min3_led {m : LMap} {a b c : Int} {t u x : Tok} {Q : Value → Shared → Prop} (hh : A.handled = none) (F : Fr h₀ L s.heap m) (N : News h₀ L s.heap news)
    (h : ∀ (v : Int) (t' : Tok) h' tk, v = min (min a b) c → Fr h₀ L h' m → News h₀ L h' news → Q (.int v t') { s with heap := h', toks := tk }) :
    wpAny (model prog w) A (call (.builtin "min") [.int a t, .int b u, .int c x]) Q E s :=
  min_three_ints hh fun h' tk hk => by
    have F' := F.grownK hk
    have N' := N.grown hk
    by_cases c1 : b < a
    · rw [if_pos c1]
      by_cases c2 : c < b
      · rw [if_pos c2]; exact h _ _ h' tk (by omega) F' N'
      · rw [if_neg c2]; exact h _ _ h' tk (by omega) F' N'
    · rw [if_neg c1]
      by_cases c2 : c < a
      · rw [if_pos c2]; exact h _ _ h' tk (by omega) F' N'
      · rw [if_neg c2]; exact h _ _ h' tk (by omega) F' N'
theorem append_led {m : LMap} {D : Addr} {vs : List Value} {n : Nat} {x : Value} {news' : Led} {Q : Value → Shared → Prop} (F : Fr h₀ L s.heap m) (N : News h₀ L s.heap news)
    (U : Upd D (listOf vs.toArray n) (listOf (vs ++ [x]).toArray (n + 1)) news news') (hz : vs.length ≤ 10000)
    (h : ∀ h', Fr h₀ L h' m → News h₀ L h' news' → Q .none { s with heap := h' }) : wpAny (model prog w) A (call (.builtin "list.append") [.ref D, x]) Q E s := by
  have e : vs.toArray.push x = (vs ++ [x]).toArray := by simp
  rw [← e] at U
  exact append_K F N U h (by rw [List.size_toArray, sizeLine_eq]; omega)
theorem insert0_led {m : LMap} {D : Addr} {vs : List Value} {n : Nat} {x : Value} {u : Tok} {news' : Led} {Q : Value → Shared → Prop} (F : Fr h₀ L s.heap m) (N : News h₀ L s.heap news)
    (U : Upd D (listOf vs.toArray n) (listOf (x :: vs).toArray (n + 1)) news news') (hz : vs.length ≤ 10000)
    (h : ∀ h', Fr h₀ L h' m → News h₀ L h' news' → Q .none { s with heap := h' }) : wpAny (model prog w) A (call (.builtin "list.insert") [.ref D, .int 0 u, x]) Q E s :=
  kl_insert F N (by rfl) (by simp [kl_ins]) U (by rw [sizeLine_eq]; show vs.length ≤ _; omega) h
theorem len_led {l : Addr} {vs : List Value} {nn : Nat} {Q : Value → Shared → Prop} (N : News h₀ L s.heap news) (hl : (l, listOf vs.toArray nn) ∈ news) (hz : vs.length < 2 ^ 62)
    (h : ∀ (n : Int) (t : Tok) (tk : Nat), n = (vs.length : Int) → Q (.int n t) { s with toks := tk }) : wpAny (model prog w) A (call (.builtin "len") [.ref l]) Q E s :=
  len_list (News.isList N hl) (by rw [List.size_toArray]; omega) (by rw [List.size_toArray]; exact h _ _ _ rfl)
end
end Mine
end

section
open PySem PySem.W PyProof.Rows PySem.Spec
set_option Elab.async false
set_option maxRecDepth 100000
namespace Mine
theorem warm2 : (PySem.Challenge.rw_xm0804_01.prog = PySem.Challenge.rw_xm0804_01.prog) ∧ (hd.heap_39 = hd.heap_39) := by k_fill; exact ⟨rfl, rfl⟩
set_option maxHeartbeats 4000000
theorem is_due_spec (w : World) (x y : Int) (tx ty : Tok) (news : Led) : FnSpec w 1 21 [.int x tx, .int y ty] news (fun v news' => v = .bool (x == (y - 1).fmod 8) ∧ news' = news) := by
  intro mg mb mean dp un gd cn cs a ccd cl outer A₀ base h₀ L m s Q E B F X N T hk hd hu hret
  refine wpAny_call ?_
  cell_enter
  k_steps
  exact hret _ _ _ _ (by assumption) (by assumption) ⟨rfl, rfl⟩
end Mine
end

section
open PySem PySem.W PyProof.Rows PySem.Spec
set_option Elab.async false
set_option maxRecDepth 100000
namespace Mine
theorem warm3 : (PySem.Challenge.rw_xm0804_01.prog = PySem.Challenge.rw_xm0804_01.prog) ∧ (hd.heap_39 = hd.heap_39) := by k_fill; exact ⟨rfl, rfl⟩
set_option maxHeartbeats 4000000

local macro_rules | `(tactic| k_mem) => `(tactic| assumption)
local macro_rules | `(tactic| k_all) => `(tactic| assumption)
local macro_rules | `(tactic| is_list) => `(tactic| exact News.isList (by k_asm) (by k_mem))
local macro_rules | `(tactic| walk_at "subscriptTail Name Name ref int") => `(tactic| (k_here; (with_reducible show wpAny _ _ (subscriptTail _ _ (Value.ref _) (Value.int _ _)) _ _ _); (with_unfolding_all refine' item_led ?N ?l ?a ?b ?x ?_ ?s; (case N => k_asm); (case l => k_mem); (case a => omega); (case b => omega); (case x => assumption); (case s => with_unfolding_all rfl); k_whole)))
local macro_rules | `(tactic| walk_at "subscriptTail Name BinOp ref int") => `(tactic| (k_here; (with_reducible show wpAny _ _ (subscriptTail _ _ (Value.ref _) (Value.int _ _)) _ _ _); (with_unfolding_all refine' item_led ?N ?l ?a ?b ?x ?_ ?s; (case N => k_asm); (case l => k_mem); (case a => omega); (case b => omega); (case x => assumption); (case s => with_unfolding_all rfl); k_whole)))
local macro_rules | `(tactic| walk_at "call ref") => `(tactic| (k_here; (with_unfolding_all refine' is_due_spec _ _ _ _ _ _ _ _ _ _ _ _ _ _ _ _ _ _ _ _ _ _ _ _ _ _ ?k1 ?k2 ?k3 ?k4 ?k5 ?kK ?kd ?ku ?kR); (case k1 => k_asm); (case k2 => k_asm); (case k3 => k_asm); (case k4 => k_asm); (case k5 => k_asm); (case kK => exact rfl); (case kd => ktr_room); (case ku => ktr_units); intro v' h' tk' news' F' N' hP; obtain ⟨hp1, hp2⟩ := hP; subst hp1; subst hp2; (try dsimp only); (try k_fold)))
local macro_rules | `(tactic| walk_at "call builtin:min") => `(tactic| (k_here; (with_reducible show wpAny _ _ (call (Value.builtin "min") [Value.int _ _, Value.int _ _, Value.int _ _]) _ _ _); (with_unfolding_all refine' min3_led ?hh ?F ?N ?_; (case hh => with_unfolding_all rfl); (case F => k_asm); (case N => k_asm)); k_whole; intro v' t' h' tk' hv' F' N'; (try k_sweep)))
local macro_rules | `(tactic| walk_at "call builtin:list.append") => `(tactic| (k_here; (with_reducible show wpAny _ _ (call (Value.builtin _) [Value.ref _, _]) _ _ _); k_dflt (refine' append_led ?k1 ?k2 ?k3 ?z ?_; (case k1 => k_asm); (case k2 => k_asm); (case k3 => k_upd); (case z => first | assumption | omega); k_whole); intro h' F' N'; (try k_sweep)))
local macro_rules | `(tactic| walk_at "pyIter ref") => `(tactic| ((with_reducible show wpAny _ _ (pyIter (Value.ref _)) (fun it s₂ => LoopAtV _ _ _ _ _ _ _ _ _ it s₂) _ _); refine stop_here ?_))

def dlt (ns : List Int) (first : Int) (i j : Nat) : Int := if (!(ns.getD i 0 == (first + (j : Int) - 1).fmod 8)) = true then 1 else 0
def Ahead (d : Nat → Nat → Int) : Nat → Nat → Int
  | 0, j => j
  | i + 1, 0 => (i : Int) + 1
  | i + 1, j + 1 => min (min (Ahead d i j + d i j) (Ahead d i (j + 1) + 1)) (Ahead d (i + 1) j + 1)

theorem Ahead_zero (d : Nat → Nat → Int) (i : Nat) : Ahead d (i + 1) 0 = (i : Int) + 1 := by rw [Ahead]
theorem Ahead_top (d : Nat → Nat → Int) (j : Nat) : Ahead d 0 j = (j : Int) := by rw [Ahead]
theorem Ahead_succ (d : Nat → Nat → Int) (i j : Nat) : Ahead d (i + 1) (j + 1) = min (min (Ahead d i j + d i j) (Ahead d i (j + 1) + 1)) (Ahead d (i + 1) j + 1) := by rw [Ahead]

def RowAt (led : Led) (v : Value) (f : Nat → Int) (k : Nat) : Prop := ∃ ra rv re, v = .ref ra ∧ (ra, listOf (List.toArray rv) re) ∈ led ∧ IntsAre rv ((List.range k).map f)
theorem RowAt.mono {led led' : Led} {v : Value} {f : Nat → Int} {k : Nat} (h : RowAt led v f k) (hs : ∀ p ∈ led, p ∈ led') : RowAt led' v f k :=
  let ⟨ra, rv, re, e, hm, hi⟩ := h; ⟨ra, rv, re, e, hs _ hm, hi⟩

def CJ (l : Addr) (first many : Int) (tf tm : Tok) (news : Led) (d : Nat → Nat → Int) (i : Nat) (m : LMap) (led : Led) : Prop :=
  ∃ t ts te tail, Knows m [(Str.ofString "numbers", .ref l), (Str.ofString "first", .int first tf), (Str.ofString "many", .int many tm), (Str.ofString "table", .ref t)] ∧
    led = (t, listOf (List.toArray ts) te) :: tail ∧ ts.length = i + 1 ∧ (∀ p ∈ tail, p.1 ≠ t) ∧ (∀ p ∈ news, p ∈ tail) ∧
    ∀ j, j ≤ i → ∃ v, ts[j]? = some v ∧ RowAt tail v (Ahead d j) (many.toNat + 1)
def CJ2 (l : Addr) (first many : Int) (tf tm : Tok) (d : Nat → Nat → Int) (i : Nat) (k : Int) (t : Tok) (T ra row : Addr) (rest : Led) (q : Nat) (m : LMap) (led : Led) : Prop :=
  Knows m [(Str.ofString "numbers", .ref l), (Str.ofString "first", .int first tf), (Str.ofString "many", .int many tm), (Str.ofString "table", .ref T), (Str.ofString "at", .int k t), (Str.ofString "above", .ref ra), (Str.ofString "row", .ref row)] ∧
  ∃ rv re, led = (row, listOf (List.toArray rv) re) :: rest ∧ IntsAre rv ((List.range (q + 1)).map (Ahead d (i + 1)))

/-- what the table is -/
def TabPost (n many : Nat) (f : Nat → Nat → Int) (news : Led) (v : Value) (news' : Led) : Prop :=
  (∀ p ∈ news, p ∈ news') ∧ ∃ t ts te, v = .ref t ∧ (t, listOf (List.toArray ts) te) ∈ news' ∧ ts.length = n + 1 ∧ ∀ j, j ≤ n → ∃ v, ts[j]? = some v ∧ RowAt news' v (f j) (many + 1)

theorem cheapest_spec (w : World) (l : Addr) (vs : List Value) (e : Nat) (ns : List Int) (first many : Int) (tf tm : Tok) (news : Led) (hl : (l, listOf vs.toArray e) ∈ news) (hI : IntsAre vs ns)
   (hn : ns.length ≤ 100) (hm : 0 ≤ many) (hm2 : many ≤ 100) :
   FnSpec w 3 28 [.ref l, .int first tf, .int many tm] news (TabPost ns.length many.toNat (Ahead (dlt ns first)) news) := by
  intro mg mb mean dp un gd cn cs a ccd cl outer A₀ base h₀ L m s Q E B F X N T hk hd hu hret
  refine wpAny_call ?_
  cell_enter
  k_steps
  unfold Stop
  (rename IsRange _ _ _ _ _ _ _ _ => hr); (rename Fr _ _ _ _ => F1); (rename News _ _ _ _ => N1); (rename IntsAre _ (rangeKs _ _) => hI0); (rename _ ∧ AllLt _ _ => hlt)
  refine rng_loop (CJ l first many tf tm news (dlt ns first)) (by rfl) hr (small_one (by omega) (by omega) (by omega) (by omega)) (rangeSize_nat _ _) F1 N1 ?_ ?_ ?_
  · refine ⟨_, [_], _, _, ⟨rfl, rfl, rfl, rfl, trivial⟩, rfl, rfl, ?_, fun p hp => List.mem_cons_of_mem _ hp, ?_⟩
    · exact cons_ne (by omega) (allLt_ne hlt.2)
    · intro j hj
      obtain rfl : j = 0 := by omega
      refine ⟨_, rfl, _, _, _, rfl, List.mem_cons_self, ?_⟩
      have e0 : rangeKs 0 (many + 1 - 0).toNat = (List.range (many.toNat + 1)).map (Ahead (dlt ns first) 0) := by
        have : (many + 1 - 0).toNat = many.toNat + 1 := by omega
        rw [this]
        unfold rangeKs
        apply List.map_congr_left
        intro x _
        simp [Ahead]
      rw [← e0]; exact hI0
  · rintro i k t m₁ led₁ h tk it hi hk' ⟨T₁, ts, te, tail, hkn, rfl, hts, htl, hnews, hrows⟩ hit F2 N2
    have hln : (l, listOf vs.toArray e) ∈ tail := hnews _ hl
    have F3 := know_all F2 _ (hkn.skip (by rfl))
    clear F1 N1 F2 hr hlt
    obtain ⟨v₀, hv₀, ra, rv, re, rfl, hra, hrv⟩ := hrows i (Nat.le_refl _)
    have hx1 : ts.toArray[k.toNat]? = some (.ref ra) := by rw [show k.toNat = i by omega]; simpa using hv₀
    k_steps
    unfold Stop
    (rename IsRange _ _ _ _ _ _ _ _ => hr); (rename Fr _ _ _ _ => F1); (rename News _ _ _ _ => N1)
    obtain ⟨row, rfl⟩ := name_of F1 (Str.ofString "row") (by rfl)
    (rename _ ∧ _ ∧ AllLt row _ => hlt2)
    have g2 : ∀ p ∈ tail, p.1 ≠ row := allLt_ne hlt2.2.2
    have g4 : @Ne Nat row it.1 := by have := hlt2.1; omega
    have g5 : @Ne Nat row T₁ := by have := hlt2.2.1; omega
    refine rng_loop (CJ2 l first many tf tm (dlt ns first) i k t T₁ ra row (it :: (T₁, listOf ts.toArray te) :: tail)) (by rfl) hr (small_one (by omega) (by omega) (by omega) (by omega)) (rangeSize_nat _ _) F1 (sub (fun p hp => List.mem_cons_of_mem _ hp) N1) ?h0 ?turn ?done
    case h0 =>
      refine ⟨⟨rfl, rfl, rfl, rfl, rfl, rfl, rfl, trivial⟩, [_], _, rfl, ?_⟩
      rw [show (List.range (0 + 1)).map (Ahead (dlt ns first) (i + 1)) = [k + 1] from by simp [List.range_succ, Ahead_zero, show k = (i : Int) by omega]]
      exact IntsAre.cons _ _ IntsAre.nil
    case turn =>
      rintro q k2 t2 m₁ led₁ h tk it2 hq hk2 ⟨hkn2, rv2, re2, rfl, hrv2⟩ hit2 F2 N2
      clear F1 N1 hr
      have F3 := know_all F2 _ (hkn2.skip (by rfl))
      clear F2
      obtain ⟨t3, hx3⟩ := ints_at (k := k2) hrv (q := q) (by omega) (by omega)
      obtain ⟨t4, hx4⟩ := ints_at (k := k2 + 1) hrv (q := q + 1) (by omega) (by omega)
      obtain ⟨t5, hx5⟩ := ints_at (k := k2) hrv2 (q := q) (by omega) (by omega)
      obtain ⟨t6, hx6⟩ := ints_at' (k := k) hI (q := i) (by omega) (by omega)
      have g1 : @Ne Nat row it2.1 := hit2 _ List.mem_cons_self
      have hz2 : rv2.length ≤ 1000 := by have := hrv2.length; simp at this; omega
      k_steps
      refine TurnEnd.intro (by assumption) (by assumption) (off_upd hit2) ⟨⟨rfl, rfl, rfl, rfl, rfl, rfl, rfl, trivial⟩, _, _, rfl, ints_snoc hrv2 ?_⟩
      (rename _ = min _ _ => hv)
      rw [hv, show k2 = (q : Int) by omega, Ahead_succ]
      rfl
    case done =>
      rintro m₁ led₁ h tk ⟨hkn2, rv2, re2, rfl, hrv2⟩ F2 N2
      clear F1 N1 hr
      have F3 := know_all F2 _ hkn2
      clear F2
      have g3 : @Ne Nat T₁ it.1 := hit _ List.mem_cons_self
      have hz2 : ts.length ≤ 1000 := by omega
      k_steps
      refine TurnEnd.intro (by assumption) (sub (b := it :: (T₁, listOf (ts ++ [Value.ref row]).toArray (te + 1)) :: (row, listOf rv2.toArray re2) :: tail) ?_ (by assumption)) ?_ ⟨T₁, ts ++ [.ref row], te + 1, (row, listOf rv2.toArray re2) :: tail, ⟨rfl, rfl, rfl, rfl, trivial⟩, rfl, by simp [hts], cons_ne g5 htl, fun p hp => List.mem_cons_of_mem _ (hnews p hp), ?_⟩
      · intro p hp
        simp only [List.mem_cons] at hp ⊢
        rcases hp with h | h | h | h
        · exact .inr (.inl h)
        · exact .inr (.inr (.inl h))
        · exact .inl h
        · exact .inr (.inr (.inr h))
      · exact cons_ne g3 (cons_ne g4 fun p hp => hit p (List.mem_cons_of_mem _ hp))
      · intro j hj
        by_cases hji : j ≤ i
        · obtain ⟨v, hv, hr⟩ := hrows j hji
          exact ⟨v, by rw [List.getElem?_append_left (by omega)]; exact hv, hr.mono fun p hp => List.mem_cons_of_mem _ hp⟩
        · obtain rfl : j = i + 1 := by omega
          refine ⟨.ref row, by rw [List.getElem?_append_right (by omega), hts]; simp, row, rv2, re2, rfl, List.mem_cons_self, ?_⟩
          rw [show many.toNat + 1 = (many - 0).toNat + 1 by omega]
          exact hrv2
  · rintro m₁ led₁ h tk ⟨T₁, ts, te, tail, hkn, rfl, hts, htl, hnews, hrows⟩ F2 N2
    clear F1 N1 hr hlt
    have F3 := know_all F2 _ hkn
    clear F2
    have hnn : ((ns.length : Int) - 0).toNat = ns.length := by omega
    rw [hnn] at hts hrows
    k_steps
    exact hret _ _ _ _ (by assumption) (by assumption) ⟨fun p hp => List.mem_cons_of_mem _ (hnews p hp), T₁, ts, te, rfl, List.mem_cons_self, hts, fun j hj => let ⟨v, hv, hr⟩ := hrows j hj; ⟨v, hv, hr.mono fun p hp => List.mem_cons_of_mem _ hp⟩⟩
end Mine
end

section
open PySem PySem.W PyProof.Rows PySem.Spec
set_option Elab.async false
set_option maxRecDepth 100000
namespace Mine
theorem warm4 : (PySem.Challenge.rw_xm0804_01.prog = PySem.Challenge.rw_xm0804_01.prog) ∧ (hd.heap_39 = hd.heap_39) := by k_fill; exact ⟨rfl, rfl⟩
set_option maxHeartbeats 4000000

local macro_rules | `(tactic| k_mem) => `(tactic| assumption)
local macro_rules | `(tactic| k_all) => `(tactic| assumption)
local macro_rules | `(tactic| is_list) => `(tactic| exact News.isList (by k_asm) (by k_mem))
local macro_rules | `(tactic| walk_at "subscriptTail Name Name ref int") => `(tactic| (k_here; (with_reducible show wpAny _ _ (subscriptTail _ _ (Value.ref _) (Value.int _ _)) _ _ _); (with_unfolding_all refine' item_led ?N ?l ?a ?b ?x ?_ ?s; (case N => k_asm); (case l => k_mem); (case a => omega); (case b => omega); (case x => assumption); (case s => with_unfolding_all rfl); k_whole)))
local macro_rules | `(tactic| walk_at "subscriptTail Name BinOp ref int") => `(tactic| (k_here; (with_reducible show wpAny _ _ (subscriptTail _ _ (Value.ref _) (Value.int _ _)) _ _ _); (with_unfolding_all refine' item_led ?N ?l ?a ?b ?x ?_ ?s; (case N => k_asm); (case l => k_mem); (case a => omega); (case b => omega); (case x => assumption); (case s => with_unfolding_all rfl); k_whole)))
local macro_rules | `(tactic| walk_at "call ref") => `(tactic| (k_here; (with_unfolding_all refine' is_due_spec _ _ _ _ _ _ _ _ _ _ _ _ _ _ _ _ _ _ _ _ _ _ _ _ _ _ ?k1 ?k2 ?k3 ?k4 ?k5 ?kK ?kd ?ku ?kR); (case k1 => k_asm); (case k2 => k_asm); (case k3 => k_asm); (case k4 => k_asm); (case k5 => k_asm); (case kK => exact rfl); (case kd => ktr_room); (case ku => ktr_units); intro v' h' tk' news' F' N' hP; obtain ⟨hp1, hp2⟩ := hP; subst hp1; subst hp2; (try dsimp only); (try k_fold)))
local macro_rules | `(tactic| walk_at "call builtin:min") => `(tactic| (k_here; (with_reducible show wpAny _ _ (call (Value.builtin "min") [Value.int _ _, Value.int _ _, Value.int _ _]) _ _ _); (with_unfolding_all refine' min3_led ?hh ?F ?N ?_; (case hh => with_unfolding_all rfl); (case F => k_asm); (case N => k_asm)); k_whole; intro v' t' h' tk' hv' F' N'; (try k_sweep)))
local macro_rules | `(tactic| walk_at "call builtin:list.append") => `(tactic| (k_here; (with_reducible show wpAny _ _ (call (Value.builtin _) [Value.ref _, _]) _ _ _); k_dflt (refine' append_led ?k1 ?k2 ?k3 ?z ?_; (case k1 => k_asm); (case k2 => k_asm); (case k3 => k_upd); (case z => first | assumption | omega); k_whole); intro h' F' N'; (try k_sweep)))
local macro_rules | `(tactic| walk_at "pyIter ref") => `(tactic| ((with_reducible show wpAny _ _ (pyIter (Value.ref _)) (fun it s₂ => LoopAtV _ _ _ _ _ _ _ _ _ it s₂) _ _); refine stop_here ?_))


local macro_rules | `(tactic| walk_at "subscriptTail Name Constant ref int") => `(tactic| (k_here; (with_reducible show wpAny _ _ (subscriptTail _ _ (Value.ref _) (Value.int _ _)) _ _ _); (with_unfolding_all refine' item_led ?N ?l ?a ?b ?x ?_ ?s; (case N => k_asm); (case l => k_mem); (case a => omega); (case b => omega); (case x => assumption); (case s => with_unfolding_all rfl); k_whole)))
local macro_rules | `(tactic| walk_at "call builtin:list.insert") => `(tactic| (k_here; (with_reducible show wpAny _ _ (call (Value.builtin _) [Value.ref _, Value.int _ _, _]) _ _ _); k_dflt (refine' insert0_led ?k1 ?k2 ?k3 ?z ?_; (case k1 => k_asm); (case k2 => k_asm); (case k3 => k_upd); (case z => first | assumption | omega); k_whole); intro h' F' N'; (try k_sweep)))

def BJ (l : Addr) (first : Int) (tf : Tok) (c : Addr × Obj) (news : Led) (f : Nat → Nat → Int) (M : Nat) (a : Nat) (m : LMap) (led : Led) : Prop :=
  ∃ t ts te tail, Knows m [(Str.ofString "numbers", .ref l), (Str.ofString "first", .int first tf), (Str.ofString "table", .ref t)] ∧
    led = (t, listOf (List.toArray ts) te) :: c :: tail ∧ ts.length = a + 1 ∧ @Ne Nat c.1 t ∧ (∀ p ∈ tail, p.1 ≠ t) ∧ (∀ p ∈ news, p ∈ tail) ∧
    ∀ j, j ≤ a → ∃ v, ts[j]? = some v ∧ RowAt tail v (fun b => f (a - j) (M - b)) (M + 1)
def BJ2 (l : Addr) (first : Int) (tf : Tok) (f : Nat → Nat → Int) (a : Nat) (k : Int) (t : Tok) (T ra row : Addr) (rest : Led) (q : Nat) (m : LMap) (led : Led) : Prop :=
  Knows m [(Str.ofString "numbers", .ref l), (Str.ofString "first", .int first tf), (Str.ofString "table", .ref T), (Str.ofString "at", .int k t), (Str.ofString "below", .ref ra), (Str.ofString "row", .ref row)] ∧
  ∃ rv re, led = (row, listOf (List.toArray rv) re) :: rest ∧ IntsAre rv ((List.range (q + 1)).map fun b => f (a + 1) (q - b))
def back (d : Nat → Nat → Int) (n M : Nat) (a b : Nat) : Int := d (n - 1 - a) (M - 1 - b)

theorem behind_spec (w : World) (l : Addr) (vs : List Value) (e : Nat) (ns : List Int) (first many : Int) (tf tm : Tok) (news : Led) (hl : (l, listOf vs.toArray e) ∈ news) (hI : IntsAre vs ns)
   (hn : ns.length ≤ 100) (hm : 0 ≤ many) (hm2 : many ≤ 100) :
   FnSpec w 3 33 [.ref l, .int first tf, .int many tm] news (TabPost ns.length many.toNat (fun i j => Ahead (back (dlt ns first) ns.length many.toNat) (ns.length - i) (many.toNat - j)) news) := by
  intro mg mb mean dp un gd cn cs a ccd cl outer A₀ base h₀ L m s Q E B F X N T hk hd hu hret
  refine wpAny_call ?_
  (refine' code_defC ?k1 ?k2 ?k3 ?k4 ?k5 ?kA ?kF ?kK ?k6 ?k7 ?k8 ?k9 ?kB ?kD ?_ ?c2 ?c3 ?c4; (case kA => exact rfl); (case kF => exact rfl); (case kK => assumption); (case k1 => k_asm); (case k2 => k_asm); (case k3 => k_asm); (case k4 => k_asm); (case k5 => k_asm); (case k6 => k_is); (case k7 => k_is); (case k8 => ktr_room); (case k9 => exact BindsTo.of_eq rfl); (case kB => exact rfl); (case kD => decide +kernel); (case c2 => exact rfl); (case c3 => exact rfl); (case c4 => exact rfl); k_whole)
  intro g' L' h' tk' cells' FG' F' N' Y' B' X' T' l1
  obtain ⟨oc, hE', hoc⟩ := CellsAre.one Y'
  subst hE'
  clear Y'
  (try simp only [List.cons_append, List.nil_append] at N')
  (try dsimp only)
  (try k_lift B')
  (try k_fold)
  k_steps
  unfold Stop
  (rename IsRange _ _ _ _ _ _ _ _ => hr); (rename Fr _ _ _ _ => F1); (rename News _ _ _ _ => N1); (rename IntsAre _ (List.map _ (rangeKs _ _)) => hI0); (rename _ ∧ _ ∧ AllLt _ _ => hlt); (rename _ ∧ LCg.Off1 _ _ => hlt0)
  obtain ⟨M, rfl⟩ : ∃ M : Nat, many = (M : Int) := ⟨many.toNat, by omega⟩
  rw [Int.toNat_natCast] at hret
  generalize hf : Ahead (back (dlt ns first) ns.length M) = f at hret
  refine rng_loop (BJ l first tf (L' + 1, oc) news f M) (by rfl) hr (small_down (by omega) (by omega) (by omega) (by omega)) (rangeSize_downNat _ _) F1 (swap23 N1) ?_ ?_ ?_
  · refine ⟨_, [_], _, _ :: news, ⟨rfl, rfl, rfl, trivial⟩, rfl, rfl, ?_, ?_, fun p hp => List.mem_cons_of_mem _ hp, ?_⟩
    · have := hlt.2.1; omega
    · exact cons_ne (by omega) (allLt_ne hlt.2.2)
    · intro j hj
      obtain rfl : j = 0 := by omega
      refine ⟨_, rfl, _, _, _, rfl, List.mem_cons_self, ?_⟩
      have e0 : (rangeKs 0 ((M : Int) + 1 - 0).toNat).map (fun k' => (M : Int) - k') = (List.range (M + 1)).map fun b => f (0 - 0) (M - b) := by
        have : ((M : Int) + 1 - 0).toNat = M + 1 := by omega
        rw [this, ← hf]
        unfold rangeKs
        rw [List.map_map]
        apply List.map_congr_left
        intro x hx
        have := List.mem_range.mp hx
        simp only [Function.comp, Nat.sub_self, Ahead_top]
        omega
      rw [← e0]; exact hI0
  · rintro i k t m₁ led₁ h tk it hi hk' ⟨T₁, ts, te, tail, hkn, rfl, hts, hct, htl, hnews, hrows⟩ hit F2 N2
    have hln : (l, listOf vs.toArray e) ∈ tail := hnews _ hl
    have F3 := know_all F2 _ (hkn.skip (by rfl))
    clear F1 N1 F2 hr hlt
    obtain ⟨v₀, hv₀, ra, rv, re, rfl, hra, hrv⟩ := hrows 0 (Nat.zero_le _)
    have hx1 : ts.toArray[(0 : Int).toNat]? = some (.ref ra) := by simpa using hv₀
    k_steps
    unfold Stop
    (rename IsRange _ _ _ _ _ _ _ _ => hr); (rename Fr _ _ _ _ => F1); (rename News _ _ _ _ => N1)
    obtain ⟨row, rfl⟩ := name_of F1 (Str.ofString "row") (by rfl)
    (rename _ ∧ _ ∧ _ ∧ AllLt row _ => hlt2)
    have g2 : ∀ p ∈ tail, p.1 ≠ row := allLt_ne hlt2.2.2.2
    have g4 : @Ne Nat row it.1 := by have := hlt2.1; omega
    have g5 : @Ne Nat row T₁ := by have := hlt2.2.1; omega
    have g6 : @Ne Nat (L' + 1) row := by have := hlt2.2.2.1; omega
    have g7 : @Ne Nat (L' + 1) T₁ := hct
    refine rng_loop (BJ2 l first tf f i k t T₁ ra row (it :: (T₁, listOf ts.toArray te) :: (L' + 1, oc) :: tail)) (by rfl) hr (small_down (by omega) (by omega) (by omega) (by omega)) (rangeSize_downNat _ _) F1 (sub (fun p hp => List.mem_cons_of_mem _ hp) N1) ?h0 ?turn ?done
    case h0 =>
      refine ⟨⟨rfl, rfl, rfl, rfl, rfl, rfl, trivial⟩, [_], _, rfl, ?_⟩
      rw [show (List.range (0 + 1)).map (fun b => f (i + 1) (0 - b)) = [(ns.length : Int) - k] from by simp [List.range_succ, ← hf, Ahead_zero]; omega]
      exact IntsAre.cons _ _ IntsAre.nil
    case turn =>
      rintro q k2 t2 m₁ led₁ h tk it2 hq hk2 ⟨hkn2, rv2, re2, rfl, hrv2⟩ hit2 F2 N2
      clear F1 N1 hr
      have F3 := know_all F2 _ (hkn2.skip (by rfl))
      clear F2
      obtain ⟨t3, hx3⟩ := ints_at (k := k2 + 1) hrv (q := M - q) (by omega) (by omega)
      obtain ⟨t4, hx4⟩ := ints_at (k := k2) hrv (q := M - (q + 1)) (by omega) (by omega)
      obtain ⟨t5, hx5⟩ := ints_at (k := 0) hrv2 (q := 0) (by omega) (by omega)
      obtain ⟨t6, hx6⟩ := ints_at' (k := k) hI (q := ns.length - 1 - i) (by omega) (by omega)
      have g1 : @Ne Nat row it2.1 := hit2 _ List.mem_cons_self
      have hz2 : rv2.length ≤ 1000 := by have := hrv2.length; simp at this; omega
      k_steps
      refine TurnEnd.intro (by assumption) (by assumption) (off_upd hit2) ⟨⟨rfl, rfl, rfl, rfl, rfl, rfl, trivial⟩, _, _, rfl, ints_cons (f := fun b => f (i + 1) (q + 1 - b)) ?_ ?_⟩
      · have e : (fun j => f (i + 1) (q + 1 - (j + 1))) = fun b => f (i + 1) (q - b) := by funext j; rw [Nat.add_sub_add_right]
        rw [e]; exact hrv2
      · (rename _ = min _ _ => hv)
        rw [hv]
        show _ = f (i + 1) (q + 1)
        rw [show M - (M - q) = q by omega, show M - (M - (q + 1)) = q + 1 by omega, Nat.sub_zero, Nat.sub_zero, ← hf, Ahead_succ]
        have ed : (if (!(ns.getD (ns.length - 1 - i) 0 == (first + k2 - 1).fmod 8)) = true then (1 : Int) else 0) = back (dlt ns first) ns.length M i q := by
          unfold back dlt
          rw [show k2 = ((M - 1 - q : Nat) : Int) by omega]
        rw [ed]
    case done =>
      rintro m₁ led₁ h tk ⟨hkn2, rv2, re2, rfl, hrv2⟩ F2 N2
      clear F1 N1 hr
      have F3 := know_all F2 _ hkn2
      clear F2
      have g3 : @Ne Nat T₁ it.1 := hit _ List.mem_cons_self
      have hz2 : ts.length ≤ 1000 := by omega
      k_steps
      refine TurnEnd.intro (by assumption) (sub (b := it :: (T₁, listOf (Value.ref row :: ts).toArray (te + 1)) :: (L' + 1, oc) :: (row, listOf rv2.toArray re2) :: tail) ?_ (by assumption)) ?_ ⟨T₁, .ref row :: ts, te + 1, (row, listOf rv2.toArray re2) :: tail, ⟨rfl, rfl, rfl, trivial⟩, rfl, by simp [hts], hct, cons_ne g5 htl, fun p hp => List.mem_cons_of_mem _ (hnews p hp), ?_⟩
      · intro p hp
        simp only [List.mem_cons] at hp ⊢
        rcases hp with h | h | h | h | h
        · exact .inr (.inl h)
        · exact .inr (.inr (.inl h))
        · exact .inr (.inr (.inr (.inl h)))
        · exact .inl h
        · exact .inr (.inr (.inr (.inr h)))
      · exact cons_ne g3 (cons_ne (hit _ (List.mem_cons_of_mem _ List.mem_cons_self)) (cons_ne g4 fun p hp => hit p (List.mem_cons_of_mem _ (List.mem_cons_of_mem _ hp))))
      · intro j hj
        cases j with
        | zero =>
          refine ⟨.ref row, rfl, row, rv2, re2, rfl, List.mem_cons_self, ?_⟩
          rw [show ((M : Int) - 1 - -1).toNat = M by omega] at hrv2
          exact hrv2
        | succ j =>
          obtain ⟨v, hv, hr⟩ := hrows j (by omega)
          refine ⟨v, hv, ?_⟩
          rw [show i + 1 - (j + 1) = i - j by omega]
          exact hr.mono fun p hp => List.mem_cons_of_mem _ hp
  · rintro m₁ led₁ h tk ⟨T₁, ts, te, tail, hkn, rfl, hts, hct, htl, hnews, hrows⟩ F2 N2
    clear F1 N1 hr hlt
    have F3 := know_all F2 _ hkn
    clear F2
    have hnn : ((ns.length : Int) - 1 - -1).toNat = ns.length := by omega
    rw [hnn] at hts hrows
    k_steps
    exact hret _ _ _ _ (by assumption) (by assumption) ⟨fun p hp => List.mem_cons_of_mem _ (List.mem_cons_of_mem _ (hnews p hp)), T₁, ts, te, rfl, List.mem_cons_self, hts, fun j hj => let ⟨v, hv, hr⟩ := hrows j hj; ⟨v, hv, hr.mono fun p hp => List.mem_cons_of_mem _ (List.mem_cons_of_mem _ hp)⟩⟩
end Mine
end

section
open PySem PySem.W PyProof.Rows PySem.Spec
set_option Elab.async false
set_option maxRecDepth 100000
namespace Mine
theorem warm5 : (PySem.Challenge.rw_xm0804_01.prog = PySem.Challenge.rw_xm0804_01.prog) ∧ (hd.heap_39 = hd.heap_39) := by k_fill; exact ⟨rfl, rfl⟩
set_option maxHeartbeats 4000000

local macro_rules | `(tactic| k_mem) => `(tactic| assumption)
local macro_rules | `(tactic| k_all) => `(tactic| assumption)
local macro_rules | `(tactic| is_list) => `(tactic| exact News.isList (by k_asm) (by k_mem))
local macro_rules | `(tactic| walk_at "subscriptTail Name Name ref int") => `(tactic| (k_here; (with_reducible show wpAny _ _ (subscriptTail _ _ (Value.ref _) (Value.int _ _)) _ _ _); (with_unfolding_all refine' item_led ?N ?l ?a ?b ?x ?_ ?s; (case N => k_asm); (case l => k_mem); (case a => omega); (case b => omega); (case x => assumption); (case s => with_unfolding_all rfl); k_whole)))
local macro_rules | `(tactic| walk_at "subscriptTail Name BinOp ref int") => `(tactic| (k_here; (with_reducible show wpAny _ _ (subscriptTail _ _ (Value.ref _) (Value.int _ _)) _ _ _); (with_unfolding_all refine' item_led ?N ?l ?a ?b ?x ?_ ?s; (case N => k_asm); (case l => k_mem); (case a => omega); (case b => omega); (case x => assumption); (case s => with_unfolding_all rfl); k_whole)))
local macro_rules | `(tactic| walk_at "call ref") => `(tactic| (k_here; (with_unfolding_all refine' is_due_spec _ _ _ _ _ _ _ _ _ _ _ _ _ _ _ _ _ _ _ _ _ _ _ _ _ _ ?k1 ?k2 ?k3 ?k4 ?k5 ?kK ?kd ?ku ?kR); (case k1 => k_asm); (case k2 => k_asm); (case k3 => k_asm); (case k4 => k_asm); (case k5 => k_asm); (case kK => exact rfl); (case kd => ktr_room); (case ku => ktr_units); intro v' h' tk' news' F' N' hP; obtain ⟨hp1, hp2⟩ := hP; subst hp1; subst hp2; (try dsimp only); (try k_fold)))
local macro_rules | `(tactic| walk_at "call ref") => `(tactic| ((with_reducible show wpAny _ _ (call (Value.ref 28) _) _ _ _); refine stop_here ?_))
local macro_rules | `(tactic| walk_at "call ref") => `(tactic| ((with_reducible show wpAny _ _ (call (Value.ref 33) _) _ _ _); refine stop_here ?_))
local macro_rules | `(tactic| walk_at "call builtin:min") => `(tactic| (k_here; (with_reducible show wpAny _ _ (call (Value.builtin "min") [Value.int _ _, Value.int _ _, Value.int _ _]) _ _ _); (with_unfolding_all refine' min3_led ?hh ?F ?N ?_; (case hh => with_unfolding_all rfl); (case F => k_asm); (case N => k_asm)); k_whole; intro v' t' h' tk' hv' F' N'; (try k_sweep)))
local macro_rules | `(tactic| walk_at "call builtin:list.append") => `(tactic| (k_here; (with_reducible show wpAny _ _ (call (Value.builtin _) [Value.ref _, _]) _ _ _); k_dflt (refine' append_led ?k1 ?k2 ?k3 ?z ?_; (case k1 => k_asm); (case k2 => k_asm); (case k3 => k_upd); (case z => first | assumption | omega); k_whole); intro h' F' N'; (try k_sweep)))
local macro_rules | `(tactic| walk_at "pyIter ref") => `(tactic| ((with_reducible show wpAny _ _ (pyIter (Value.ref _)) (fun it s₂ => LoopAtV _ _ _ _ _ _ _ _ _ it s₂) _ _); refine stop_here ?_))


local macro_rules | `(tactic| walk_at "subscriptTail Name Constant ref int") => `(tactic| (k_here; (with_reducible show wpAny _ _ (subscriptTail _ _ (Value.ref _) (Value.int _ _)) _ _ _); (with_unfolding_all refine' item_led ?N ?l ?a ?b ?x ?_ ?s; (case N => k_asm); (case l => k_mem); (case a => omega); (case b => omega); (case x => assumption); (case s => with_unfolding_all rfl); k_whole)))
local macro_rules | `(tactic| walk_at "call builtin:list.insert") => `(tactic| (k_here; (with_reducible show wpAny _ _ (call (Value.builtin _) [Value.ref _, Value.int _ _, _]) _ _ _); k_dflt (refine' insert0_led ?k1 ?k2 ?k3 ?z ?_; (case k1 => k_asm); (case k2 => k_asm); (case k3 => k_upd); (case z => first | assumption | omega); k_whole); intro h' F' N'; (try k_sweep)))

local macro_rules | `(tactic| walk_at "subscriptTail") => `(tactic| (k_here; (with_reducible show wpAny _ _ (subscriptTail _ _ (Value.ref _) (Value.int _ _)) _ _ _); (with_unfolding_all refine' item_led ?N ?l ?a ?b ?x ?_ ?s; (case N => k_asm); (case l => k_mem); (case a => omega); (case b => omega); (case x => assumption); (case s => with_unfolding_all rfl); k_whole)))

abbrev tup2 (v u : Value) : Obj := { cls := .type "tuple", data := .seq #[v, u] }
/-- references to pairs of ints -/
inductive TupsAre (led : Led) : List Value → List (Int × Int) → Prop
  | nil : TupsAre led [] []
  | cons {a : Addr} {t u : Tok} {x y : Int} {vs : List Value} {ps : List (Int × Int)} : (a, tup2 (.int x t) (.int y u)) ∈ led → TupsAre led vs ps → TupsAre led (.ref a :: vs) ((x, y) :: ps)
theorem TupsAre.mono {led led' : Led} (hs : ∀ p ∈ led, p ∈ led') {vs : List Value} {ps : List (Int × Int)} (h : TupsAre led vs ps) : TupsAre led' vs ps := by
  induction h with
  | nil => exact .nil
  | cons hm _ ih => exact .cons (hs _ hm) ih
theorem TupsAre.append {led : Led} {vs ws : List Value} {ps qs : List (Int × Int)} (h : TupsAre led vs ps) (k : TupsAre led ws qs) : TupsAre led (vs ++ ws) (ps ++ qs) := by
  induction h with
  | nil => exact k
  | cons hm _ ih => exact .cons hm ih
theorem TupsAre.length {led : Led} {vs : List Value} {ps : List (Int × Int)} (h : TupsAre led vs ps) : vs.length = ps.length := by
  induction h with
  | nil => rfl
  | cons _ _ ih => simp [ih]

/-- the places that the function tells -/
def hits (ns : List Int) (first : Int) (M : Nat) (i j : Nat) : Bool :=
  Ahead (dlt ns first) i j + dlt ns first i j + Ahead (back (dlt ns first) ns.length M) (ns.length - (i + 1)) (M - (j + 1)) == Ahead (back (dlt ns first) ns.length M) ns.length M
def rowP (c : Nat → Nat → Bool) (first : Int) (i q : Nat) : List (Int × Int) := ((List.range q).filter (c i)).map fun (j : Nat) => ((i : Int), first + (j : Int))
def front (c : Nat → Nat → Bool) (first : Int) (M i : Nat) : List (Int × Int) := (List.range i).flatMap fun i => rowP c first i M
theorem front_succ (c : Nat → Nat → Bool) (first : Int) (M i : Nat) : front c first M (i + 1) = front c first M i ++ rowP c first i M := by
  unfold front; rw [List.range_succ, List.flatMap_append]; simp
theorem rowP_yes {c : Nat → Nat → Bool} {first : Int} {i q : Nat} (h : c i q = true) : rowP c first i (q + 1) = rowP c first i q ++ [((i : Int), first + (q : Int))] := by
  unfold rowP; rw [List.range_succ, List.filter_append, List.map_append]; simp [h]
theorem rowP_no {c : Nat → Nat → Bool} {first : Int} {i q : Nat} (h : c i q = false) : rowP c first i (q + 1) = rowP c first i q := by
  unfold rowP; rw [List.range_succ, List.filter_append, List.map_append]; simp [h]
def PairsPost (n M : Nat) (first : Int) (c : Nat → Nat → Bool) (news : Led) (v : Value) (news' : Led) : Prop :=
  (∀ p ∈ news, p ∈ news') ∧ ∃ D fs fe, v = .ref D ∧ (D, listOf (List.toArray fs) fe) ∈ news' ∧ TupsAre news' fs (front c first M n)

def PJ (l A Bt D : Addr) (first : Int) (many : Int) (tf tm : Tok) (news : Led) (c : Nat → Nat → Bool) (M : Nat) (i : Nat) (m : LMap) (led : Led) : Prop :=
  Knows m [(Str.ofString "numbers", .ref l), (Str.ofString "first", .int first tf), (Str.ofString "many", .int many tm), (Str.ofString "ahead", .ref A), (Str.ofString "behind", .ref Bt), (Str.ofString "found", .ref D)] ∧
  ∃ fs fe tail, led = (D, listOf (List.toArray fs) fe) :: tail ∧ (∀ p ∈ tail, p.1 ≠ D) ∧ (∀ p ∈ news, p ∈ tail) ∧ TupsAre tail fs (front c first M i) ∧ fs.length ≤ i * M
def PJ2 (l A Bt D : Addr) (first : Int) (many : Int) (tf tm : Tok) (news : Led) (c : Nat → Nat → Bool) (M : Nat) (i : Nat) (k : Int) (t : Tok) (it : Addr × Obj) (q : Nat) (m : LMap) (led : Led) : Prop :=
  Knows m [(Str.ofString "numbers", .ref l), (Str.ofString "first", .int first tf), (Str.ofString "many", .int many tm), (Str.ofString "ahead", .ref A), (Str.ofString "behind", .ref Bt), (Str.ofString "found", .ref D), (Str.ofString "at", .int k t)] ∧
  ∃ fs fe tail, led = (D, listOf (List.toArray fs) fe) :: it :: tail ∧ (∀ p ∈ tail, p.1 ≠ D) ∧ (∀ p ∈ tail, p.1 ≠ it.1) ∧ (∀ p ∈ news, p ∈ tail) ∧ TupsAre tail fs (front c first M i ++ rowP c first i q) ∧ fs.length ≤ i * M + q

theorem pairs_spec (w : World) (l : Addr) (vs : List Value) (e : Nat) (ns : List Int) (first many : Int) (tf tm : Tok) (news : Led) (hl : (l, listOf vs.toArray e) ∈ news) (hI : IntsAre vs ns)
   (hn : ns.length ≤ 100) (hm : 0 ≤ many) (hm2 : many ≤ 100) :
   FnSpec w 5 40 [.ref l, .int first tf, .int many tm] news (PairsPost ns.length many.toNat first (hits ns first many.toNat) news) := by
  intro mg mb mean dp un gd cn cs a ccd cl outer A₀ base h₀ L m s Q E B F X N T hk hd hu hret
  refine wpAny_call ?_
  cell_enter
  k_steps
  unfold Stop
  (with_unfolding_all refine' cheapest_spec w l vs e ns first many _ _ _ hl hI hn hm hm2 _ _ _ _ _ _ _ _ _ _ _ _ _ _ _ _ _ _ _ _ ?k1 ?k2 ?k3 ?k4 ?k5 ?kK ?kd ?ku ?kR; (case k1 => k_asm); (case k2 => k_asm); (case k3 => k_asm); (case k4 => k_asm); (case k5 => k_asm); (case kK => exact rfl); (case kd => ktr_room); (case ku => ktr_units))
  rintro _ h1 tk1 news1 F1 N1 ⟨hs1, A, as, ae, rfl, hA, hAl, hAr⟩
  k_steps
  unfold Stop
  (with_unfolding_all refine' behind_spec w l vs e ns first many _ _ _ (hs1 _ hl) hI hn hm hm2 _ _ _ _ _ _ _ _ _ _ _ _ _ _ _ _ _ _ _ _ ?j1 ?j2 ?j3 ?j4 ?j5 ?jK ?jd ?ju ?jR; (case j1 => k_asm); (case j2 => k_asm); (case j3 => k_asm); (case j4 => k_asm); (case j5 => k_asm); (case jK => exact rfl); (case jd => ktr_room); (case ju => ktr_units))
  rintro _ h2 tk2 news2 F2 N2 ⟨hs2, Bt, bs, be, rfl, hB, hBl, hBr⟩
  have hA2 := hs2 _ hA
  have hl2 := hs2 _ (hs1 _ hl)
  clear F1 N1
  k_steps
  unfold Stop
  (rename IsRange _ _ _ _ _ _ _ _ => hr); (rename Fr _ _ _ _ => F1); (rename News _ _ _ _ => N1); (rename _ ∧ AllLt _ _ => hlt)
  obtain ⟨D, rfl⟩ := name_of F1 (Str.ofString "found") (by rfl)
  obtain ⟨M, rfl⟩ : ∃ M : Nat, many = (M : Int) := ⟨many.toNat, by omega⟩
  rw [Int.toNat_natCast] at hret hAr hBr
  generalize hc : hits ns first M = c at hret
  refine rng_loop (PJ l A Bt D first M tf tm news2 c M) (by rfl) hr (small_one (by omega) (by omega) (by omega) (by omega)) (rangeSize_nat _ _) F1 N1 ?_ ?_ ?_
  · refine ⟨⟨rfl, rfl, rfl, rfl, rfl, rfl, trivial⟩, [], _, _, rfl, ?_, fun p hp => List.mem_cons_of_mem _ hp, .nil, Nat.zero_le _⟩
    exact cons_ne (by omega) (allLt_ne hlt.2)
  · rintro i k t m₁ led₁ h tk it hi hk' ⟨hkn, fs, fe, tail, rfl, htl, hnews, htups, hfl⟩ hit F2 N2
    have F3 := know_all F2 _ (hkn.skip (by rfl))
    clear F1 N1 F2 hr hlt
    k_steps
    unfold Stop
    (rename IsRange _ _ _ _ _ _ _ _ => hr); (rename Fr _ _ _ _ => F1); (rename News _ _ _ _ => N1)
    have g3 : @Ne Nat D it.1 := hit _ List.mem_cons_self
    have g8 : ∀ p ∈ tail, p.1 ≠ it.1 := fun p hp => hit p (List.mem_cons_of_mem _ hp)
    refine rng_loop (PJ2 l A Bt D first M tf tm news2 c M i k t it) (by rfl) hr (small_one (by omega) (by omega) (by omega) (by omega)) (rangeSize_nat _ _) F1 (swap12 N1) ?h0 ?turn ?done
    case h0 => exact ⟨⟨rfl, rfl, rfl, rfl, rfl, rfl, rfl, trivial⟩, fs, fe, tail, rfl, htl, g8, hnews, by simpa [rowP] using htups, hfl⟩
    case turn =>
      rintro q k2 t2 m₁ led₁ h tk it2 hq hk2 ⟨hkn2, fs2, fe2, tail2, rfl, htl2, g9, hnews2, htups2, hfl2⟩ hit2 F2 N2
      have F3 := know_all F2 _ (hkn2.skip (by rfl))
      clear F1 N1 hr F2
      obtain ⟨_, hv1, ra, rav, rae, rfl, hra, hrav⟩ := hAr i (by omega)
      obtain ⟨_, hv2, rb, rbv, rbe, rfl, hrb, hrbv⟩ := hBr (i + 1) (by omega)
      obtain ⟨_, hv3, rz, rzv, rze, rfl, hrz, hrzv⟩ := hBr 0 (by omega)
      have hra := hnews2 _ (hs2 _ hra)
      have hrb := hnews2 _ hrb
      have hrz := hnews2 _ hrz
      have hA3 := hnews2 _ hA2
      have hB3 := hnews2 _ hB
      have hl3 := hnews2 _ hl2
      have hx1 : as.toArray[k.toNat]? = some (.ref ra) := by rw [show k.toNat = i by omega]; simpa using hv1
      have hx2 : bs.toArray[(k + 1).toNat]? = some (.ref rb) := by rw [show (k + 1).toNat = i + 1 by omega]; simpa using hv2
      have hx3 : bs.toArray[(0 : Int).toNat]? = some (.ref rz) := by simpa using hv3
      obtain ⟨t3, hx4⟩ := ints_at (k := k2) hrav (q := q) (by omega) (by omega)
      obtain ⟨t4, hx5⟩ := ints_at (k := k2 + 1) hrbv (q := q + 1) (by omega) (by omega)
      obtain ⟨t5, hx6⟩ := ints_at (k := 0) hrzv (q := 0) (by omega) (by omega)
      obtain ⟨t6, hx7⟩ := ints_at' (k := k) hI (q := i) (by omega) (by omega)
      have g1 : @Ne Nat D it2.1 := hit2 _ List.mem_cons_self
      have hz2 : fs2.length ≤ 10000 := by
        have := Nat.mul_le_mul (show i ≤ 99 by omega) (show M ≤ 100 by omega)
        omega
      have e4 : (if (!(ns.getD i 0 == (first + k2 - 1).fmod 8)) = true then (1 : Int) else 0) = dlt ns first i q := by unfold dlt; rw [show k2 = (q : Int) by omega]
      k_steps
      · (rename _ + _ = Ahead _ _ _ => hyes)
        (rename _ ∧ _ ∧ _ ∧ AllLt _ _ => hlt2)
        rw [e4] at hyes
        have hyes' : c i q = true := by rw [← hc]; unfold hits; rw [beq_iff_eq]; exact hyes
        (rename News _ _ _ _ => N9)
        obtain ⟨P, rfl⟩ := lt_name hlt2.1
        refine TurnEnd.intro (by assumption) (perm4 N9) ?_ ⟨⟨rfl, rfl, rfl, rfl, rfl, rfl, rfl, trivial⟩, _, _, _, rfl, ?_, ?_, fun p hp => List.mem_cons_of_mem _ (hnews2 p hp), ?_, ?_⟩
        · exact cons_ne g1 (cons_ne (hit2 _ (List.mem_cons_of_mem _ List.mem_cons_self)) (cons_ne (by have := hlt2.1; omega) fun p hp => hit2 p (List.mem_cons_of_mem _ (List.mem_cons_of_mem _ hp))))
        · exact cons_ne (by have := hlt2.2.1; omega) htl2
        · exact cons_ne (by have := hlt2.2.2.1; omega) g9
        · rw [rowP_yes hyes', ← List.append_assoc]
          refine (htups2.mono fun p hp => List.mem_cons_of_mem _ hp).append ?_
          rw [show (i : Int) = k by omega, show (q : Int) = k2 by omega]
          exact .cons List.mem_cons_self .nil
        · rw [List.length_append, List.length_singleton]; omega
      · (rename _ + _ ≠ Ahead _ _ _ => hno)
        rw [e4] at hno
        have hno' : c i q = false := by rw [← hc]; unfold hits; rw [beq_eq_false_iff_ne]; exact hno
        exact TurnEnd.intro (by assumption) (by assumption) hit2 ⟨⟨rfl, rfl, rfl, rfl, rfl, rfl, rfl, trivial⟩, fs2, fe2, tail2, rfl, htl2, g9, hnews2, by rw [rowP_no hno']; exact htups2, by omega⟩
    case done =>
      rintro m₁ led₁ h tk ⟨hkn2, fs2, fe2, tail2, rfl, htl2, g9, hnews2, htups2, hfl2⟩ F2 N2
      clear F1 N1 hr
      have F3 := know_all F2 _ hkn2
      clear F2
      k_steps
      refine TurnEnd.intro (by assumption) (swap12 (by assumption)) (cons_ne g3 g9) ⟨⟨rfl, rfl, rfl, rfl, rfl, rfl, trivial⟩, fs2, fe2, tail2, rfl, htl2, hnews2, ?_, ?_⟩
      · rw [front_succ]
        rw [show ((M : Int) - 0).toNat = M by omega] at htups2
        exact htups2
      · rw [Nat.succ_mul]; omega
  · rintro m₁ led₁ h tk ⟨hkn, fs, fe, tail, rfl, htl, hnews, htups, hfl⟩ F2 N2
    clear F1 N1 hr hlt
    have F3 := know_all F2 _ hkn
    clear F2
    k_steps
    rw [show ((ns.length : Int) - 0).toNat = ns.length by omega] at htups
    exact hret _ _ _ _ (by assumption) (by assumption) ⟨fun p hp => List.mem_cons_of_mem _ (hnews _ (hs2 _ (hs1 _ hp))), D, fs, fe, rfl, List.mem_cons_self, htups.mono fun p hp => List.mem_cons_of_mem _ hp⟩
end Mine
end

section
open PySem PySem.W PyProof.Rows PySem.Spec
set_option Elab.async false
set_option maxRecDepth 100000
namespace Mine
theorem warm6 : (PySem.Challenge.rw_xm0804_01.prog = PySem.Challenge.rw_xm0804_01.prog) ∧ (hd.heap_39 = hd.heap_39) := by k_fill; exact ⟨rfl, rfl⟩
set_option maxHeartbeats 4000000

local macro_rules | `(tactic| k_mem) => `(tactic| assumption)
local macro_rules | `(tactic| k_all) => `(tactic| assumption)
local macro_rules | `(tactic| is_list) => `(tactic| exact News.isList (by k_asm) (by k_mem))
local macro_rules | `(tactic| walk_at "subscriptTail Name Name ref int") => `(tactic| (k_here; (with_reducible show wpAny _ _ (subscriptTail _ _ (Value.ref _) (Value.int _ _)) _ _ _); (with_unfolding_all refine' item_led ?N ?l ?a ?b ?x ?_ ?s; (case N => k_asm); (case l => k_mem); (case a => omega); (case b => omega); (case x => assumption); (case s => with_unfolding_all rfl); k_whole)))
local macro_rules | `(tactic| walk_at "subscriptTail Name BinOp ref int") => `(tactic| (k_here; (with_reducible show wpAny _ _ (subscriptTail _ _ (Value.ref _) (Value.int _ _)) _ _ _); (with_unfolding_all refine' item_led ?N ?l ?a ?b ?x ?_ ?s; (case N => k_asm); (case l => k_mem); (case a => omega); (case b => omega); (case x => assumption); (case s => with_unfolding_all rfl); k_whole)))
local macro_rules | `(tactic| walk_at "call ref") => `(tactic| (k_here; (with_unfolding_all refine' is_due_spec _ _ _ _ _ _ _ _ _ _ _ _ _ _ _ _ _ _ _ _ _ _ _ _ _ _ ?k1 ?k2 ?k3 ?k4 ?k5 ?kK ?kd ?ku ?kR); (case k1 => k_asm); (case k2 => k_asm); (case k3 => k_asm); (case k4 => k_asm); (case k5 => k_asm); (case kK => exact rfl); (case kd => ktr_room); (case ku => ktr_units); intro v' h' tk' news' F' N' hP; obtain ⟨hp1, hp2⟩ := hP; subst hp1; subst hp2; (try dsimp only); (try k_fold)))
local macro_rules | `(tactic| walk_at "call ref") => `(tactic| ((with_reducible show wpAny _ _ (call (Value.ref 28) _) _ _ _); refine stop_here ?_))
local macro_rules | `(tactic| walk_at "call ref") => `(tactic| ((with_reducible show wpAny _ _ (call (Value.ref 33) _) _ _ _); refine stop_here ?_))
local macro_rules | `(tactic| walk_at "call builtin:min") => `(tactic| (k_here; (with_reducible show wpAny _ _ (call (Value.builtin "min") [Value.int _ _, Value.int _ _, Value.int _ _]) _ _ _); (with_unfolding_all refine' min3_led ?hh ?F ?N ?_; (case hh => with_unfolding_all rfl); (case F => k_asm); (case N => k_asm)); k_whole; intro v' t' h' tk' hv' F' N'; (try k_sweep)))
local macro_rules | `(tactic| walk_at "call builtin:list.append") => `(tactic| (k_here; (with_reducible show wpAny _ _ (call (Value.builtin _) [Value.ref _, _]) _ _ _); k_dflt (refine' append_led ?k1 ?k2 ?k3 ?z ?_; (case k1 => k_asm); (case k2 => k_asm); (case k3 => k_upd); (case z => first | assumption | omega); k_whole); intro h' F' N'; (try k_sweep)))
local macro_rules | `(tactic| walk_at "pyIter ref") => `(tactic| ((with_reducible show wpAny _ _ (pyIter (Value.ref _)) (fun it s₂ => LoopAtV _ _ _ _ _ _ _ _ _ it s₂) _ _); refine stop_here ?_))


local macro_rules | `(tactic| walk_at "subscriptTail Name Constant ref int") => `(tactic| (k_here; (with_reducible show wpAny _ _ (subscriptTail _ _ (Value.ref _) (Value.int _ _)) _ _ _); (with_unfolding_all refine' item_led ?N ?l ?a ?b ?x ?_ ?s; (case N => k_asm); (case l => k_mem); (case a => omega); (case b => omega); (case x => assumption); (case s => with_unfolding_all rfl); k_whole)))
local macro_rules | `(tactic| walk_at "call builtin:list.insert") => `(tactic| (k_here; (with_reducible show wpAny _ _ (call (Value.builtin _) [Value.ref _, Value.int _ _, _]) _ _ _); k_dflt (refine' insert0_led ?k1 ?k2 ?k3 ?z ?_; (case k1 => k_asm); (case k2 => k_asm); (case k3 => k_upd); (case z => first | assumption | omega); k_whole); intro h' F' N'; (try k_sweep)))

local macro_rules | `(tactic| walk_at "subscriptTail") => `(tactic| (k_here; (with_reducible show wpAny _ _ (subscriptTail _ _ (Value.ref _) (Value.int _ _)) _ _ _); (with_unfolding_all refine' item_led ?N ?l ?a ?b ?x ?_ ?s; (case N => k_asm); (case l => k_mem); (case a => omega); (case b => omega); (case x => assumption); (case s => with_unfolding_all rfl); k_whole)))


theorem ford_spec (w : World) (l : Addr) (lvs : List Value) (ns : List Int) (news : Led) (hI : IntsAre lvs ns) (hz : ns.length < 2 ^ 20)
    (mg mb : LMap) (mean : ExcName → Option Value) (dp un : Nat) (gd : Option (List Code)) (cn : Str) (cs : Scope) (a : Addr) (ccd : Value) (cl : List (Str × Addr)) (outer : List Env)
    (A₀ : Around) (base h₀ : Heap) (L : Addr) (m : LMap) (s : Shared) (Q E : Value → Shared → Prop) (hbl : base.IsList l lvs.toArray)
    (B : Below A₀ base outer h₀) (F : Fr h₀ L s.heap m) (X : (hd.heap_39 w.params).In h₀) (N : News h₀ L s.heap news) (T : Top hd.view_39 (looseW hd.view_39 []) mean mg mb h₀) (hk : cs.kind = .function)
    (hd : dp + 3 < recursionLimit) (hu : un + 40 * 3 < cLine)
    (hret : ∀ v h' tk' f x tx y ty, Fr h₀ L h' m → News h₀ L h' ((f, listOf (List.toArray [.int x tx, .int y ty]) 0) :: news) → (∀ p ∈ news, p.1 < f) → v = .ref f → 0 ≤ x → 0 ≤ y → y ≤ 70000 → Q v { s with heap := h', toks := tk' }) :
    wpAny (model PR w) (ktrTop dp un gd cn cs L a ccd cl outer) (call (.ref 47) [.ref l]) Q E s := by
  refine wpAny_call ?_
  cell_enter
  k_steps
  all_goals
    refine hret _ _ _ _ _ _ _ _ (by assumption) (by assumption) (by assumption) rfl ?_ ?_ ?_
    · first | decide | assumption | omega
    · exact Int.add_nonneg (fmod_lo _ (by decide)) (by decide)
    · exact Int.le_trans (Int.add_le_add_right (Int.le_of_lt (fmod_hi _ (by decide))) _) (by decide)

theorem stone_spec (w : World) (f : Addr) (x y n : Int) (tx ty tn : Tok) (e : Nat) (rest : Led) (hx : 0 ≤ x) (hy : 0 ≤ y) (hy2 : y ≤ 70000) (hn : 0 < n) (hn2 : n ≤ 100) (hrest : ∀ p ∈ rest, p.1 ≠ f) :
    FnSpec w 2 54 [.ref f, .int n tn] ((f, listOf (List.toArray [.int x tx, .int y ty]) e) :: rest)
      (fun v news' => ∃ r t x' tx' y' ty' e', v = .int r t ∧ 0 ≤ r ∧ r < n ∧ news' = (f, listOf (List.toArray [.int x' tx', .int y' ty']) e') :: rest ∧ 0 ≤ x' ∧ 0 ≤ y' ∧ y' ≤ 70000) := by
  intro mg mb mean dp un gd cn cs a ccd cl outer A₀ base h₀ L m s Q E B F X N T hk hd hu hret
  refine wpAny_call ?_
  cell_enter
  k_steps
  · refine hret _ _ _ _ (by assumption) (by assumption) ⟨_, _, _, _, _, _, _, rfl, fmod_lo _ hn, fmod_hi _ hn, rfl, ?_, ?_, ?_⟩
    · exact Int.fdiv_nonneg hx (Int.le_of_lt hn)
    · exact hy
    · exact hy2
  · refine hret _ _ _ _ (by assumption) (by assumption) ⟨_, _, _, _, _, _, _, rfl, fmod_lo _ hn, fmod_hi _ hn, rfl, ?_, ?_, ?_⟩
    · exact hx
    · exact fmod_lo _ (by decide)
    · exact Int.le_trans (Int.le_of_lt (fmod_hi _ (by decide))) (by decide)
end Mine
end

section
open PySem PySem.W PyProof.Rows PySem.Spec PySem.Calls PyProof.Rows.LCg
set_option Elab.async false
set_option maxRecDepth 100000
namespace Mine
/-! a comprehension over a range whose name is a cell (an inner one reads it) -/
def Off4 (I C X D : Addr) (l : Led) : Prop := ∀ p ∈ l, p.1 ≠ I ∧ p.1 ≠ C ∧ p.1 ≠ X ∧ p.1 ≠ D
section
variable {prog : Program} {w : World} {A : Around} {E : Value → Shared → Prop} {s : Shared} {h₀ : Heap} {L : Addr} {m : LMap} {env : Env}

/-- a turn's end -/
def CellEnd (h₀ : Heap) (L : Addr) (m : LMap) (s : Shared) (I : Addr) (oI : Obj) (C : Addr) (oC : Obj) (X : Addr) (oX : Obj) (D : Addr) (ys : List Value) (J : List Value → Led → Prop) (y : Value) (s' : Shared) : Prop :=
  ∃ h' tk' news', s' = { s with heap := h', toks := tk' } ∧ Fr h₀ L h' m ∧ News h₀ L h' ((I, oI) :: (C, oC) :: (X, oX) :: (D, lst ys) :: news') ∧ Off4 I C X D news' ∧ J (ys ++ [y]) news'

def CellSrc (prog : Program) (w : World) (A : Around) (h₀ : Heap) (L : Addr) (m : LMap) (env : Env) (elt : PySem.Expr) (x : Str) (scope : Scope) (cl : List (Str × Addr)) (J : Nat → List Value → Led → Prop) (Q : Value → Shared → Prop) (xv : Value) (s₁ : Shared) : Prop :=
  ∃ r a b t u v n news, xv = .ref r ∧ A.handled = none ∧ Fr h₀ L s₁.heap m ∧ News h₀ L s₁.heap news ∧ IsRange s₁.heap r a b 1 t u v ∧ Builtin.Range.small a b 1 = true ∧ Builtin.Range.rangeSize a b 1 = ((n : Nat) : Int) ∧ n ≤ sizeLine ∧
      J 0 [] news ∧
      (∀ (i : Nat) (k : Int) (tt : Tok) (ys : List Value) (news₁ : Led) (I : Addr) (oI : Obj) (C : Addr) (oC : Obj) (X : Addr) (oX : Obj) (D : Addr) (h : Heap) (tk : Nat) (E' : Value → Shared → Prop), i < n → k = a + (i : Int) → ys.length = i → J i ys news₁ → Fr h₀ L h m → oX.data = .cell (some (.int k tt)) →
        News h₀ L h ((I, oI) :: (C, oC) :: (X, oX) :: (D, lst ys) :: news₁) → Off4 I C X D news₁ → (@Ne Nat I C ∧ @Ne Nat I X ∧ @Ne Nat I D ∧ @Ne Nat C X ∧ @Ne Nat C D ∧ @Ne Nat X D) →
        wpAny (model prog w) A (eval elt (compEnvC scope ((x, X) :: cl) C env)) (CellEnd h₀ L m { s₁ with heap := h, toks := tk } I oI C oC X oX D ys (J (i + 1))) E' { s₁ with heap := h, toks := tk }) ∧
      (∀ D ys news' h tk, ys.length = n → J n ys news' → Fr h₀ L h m → News h₀ L h ((D, lst ys) :: news') → (∀ p ∈ news', p.1 ≠ D) → Q (.ref D) { s₁ with heap := h, toks := tk })

theorem comp_cell {elt iter : PySem.Expr} {x : Str} {px : Pos} {scope : Scope} {cl : List (Str × Addr)} {pos : Pos} {Q : Value → Shared → Prop} (J : Nat → List Value → Led → Prop) (_F₀ : Fr h₀ L s.heap m)
    (hclos : closureFor scope env = pure cl) (hcf : ∀ n, cellsFrom n scope.names cl = (x, n) :: cl) (hpc : ∀ h : Heap, pushCells h scope.names = h.push { cls := .type "cell", data := .cell none })
    (hkind : scope.kind = .function) (hnames : ∀ y ∈ scope.names, y.2 = .local → scope.names.lookup y.1 = some .local)
    (hx : (relabel scope env).names.lookup x = some .cell)
    (h : wpAny (model prog w) A (eval iter env) (CellSrc prog w A h₀ L m env elt x scope cl J Q) E s)
    (hs : ∀ x, foldedSetIterable iter env x = pure x := by intro _; rfl) :
    wpAny (model prog w) A (eval (.ListComp elt [⟨.Name x px, iter, [], 0⟩] scope pos) env) Q E s := by
  rw [eval_ListComp]
  refine wpAny_comprehension_free (use := none) rfl hs hclos hkind hnames (wpAny_mono h (fun xv s₁ h₁ => ?_) fun _ _ e => e)
  obtain ⟨r, a, b, t, u, v, n, news, rfl, hh, F, N, hr, hsm, hn, hsz, j0, turn, done⟩ := h₁
  refine wpAny_pyIter_range hr hsm ?_
  rw [hn]
  generalize hH2 : s₁.heap.push { cls := .type "range_iterator", data := .fields #[rawInt a, rawInt (n : Int), rawInt 1] } = H2
  have hz2 : H2.objs.size = s₁.heap.objs.size + 1 := by rw [← hH2, Heap.size_push]
  have hI2 : IsRangeIter H2 s₁.heap.objs.size (a + ((0 : Nat) : Int) * 1) ((n : Int) - ((0 : Nat) : Int)) 1 := by
    show Heap.get? _ _ = some _
    rw [← hH2]
    simpa using Heap.get?_push_size s₁.heap (o := { cls := .type "range_iterator", data := .fields #[rawInt a, rawInt (n : Int), rawInt 1] }) rfl
  have old2 : ∀ b o, s₁.heap.get? b = some o → H2.get? b = some o := fun _ _ e => hH2 ▸ Heap.get?_push_of_some _ e
  refine wpAny_newObj_type ?_
  dsimp only
  generalize hH3 : H2.push { cls := .type "list", dict := none, data := .seq ([] : List Value).toArray } = H3
  have hz3 : H3.objs.size = s₁.heap.objs.size + 2 := by rw [← hH3, Heap.size_push, hz2]
  simp only [newFunctionEnv, Option.isSome_some, if_true]
  refine wpAny_bind (wpAny_alloc ?_)
  dsimp only
  generalize hH4 : H3.push { cls := .type "dict", data := .dict #[] } = H4
  have hz4 : H4.objs.size = s₁.heap.objs.size + 3 := by rw [← hH4, Heap.size_push, hz3]
  refine wpAny_bind (wpAny_layCells _ (fun name kind cells => by cases hkc : kind == NameKind.cell <;> simp [hkc]) _ _ _ _ ?_)
  dsimp only
  rw [hcf, hpc]
  generalize hH5 : H4.push { cls := .type "cell", data := .cell none } = H5
  have hz5 : H5.objs.size = s₁.heap.objs.size + 4 := by rw [← hH5, Heap.size_push, hz4]
  refine wpAny_bind ?_
  rw [List.forIn_nil]
  refine wpAny_pure (wpAny_pure ?_)
  have old5 : ∀ b o, s₁.heap.get? b = some o → H5.get? b = some o := fun b o e => hH5 ▸ Heap.get?_push_of_some _ (hH4 ▸ Heap.get?_push_of_some _ (hH3 ▸ Heap.get?_push_of_some _ (old2 b o e)))
  have hI5 : IsRangeIter H5 s₁.heap.objs.size (a + ((0 : Nat) : Int) * 1) ((n : Int) - ((0 : Nat) : Int)) 1 := by
    have : H2.get? _ = some _ := hI2
    exact hH5 ▸ Heap.get?_push_of_some _ (hH4 ▸ Heap.get?_push_of_some _ (hH3 ▸ Heap.get?_push_of_some _ this))
  have hD5 : H5.get? H2.objs.size = some (lst []) := hH5 ▸ Heap.get?_push_of_some _ (hH4 ▸ Heap.get?_push_of_some _ (hH3 ▸ Heap.get?_push_size _ rfl))
  have hC5 : H5.get? H3.objs.size = some { cls := .type "dict", data := .dict #[] } := hH5 ▸ Heap.get?_push_of_some _ (hH4 ▸ Heap.get?_push_size _ rfl)
  have hX5 : H5.get? H4.objs.size = some { cls := .type "cell", data := .cell none } := hH5 ▸ Heap.get?_push_size _ rfl
  have hCns : NsObj { cls := .type "dict", data := .dict #[] } (fun _ => none) := by
    have := Heap.Ns.new H3 (.type "dict")
    obtain ⟨o, e, r⟩ := ns_obj this
    rw [Heap.get?_push_size _ rfl] at e
    cases e; exact r
  clear hH2 hH3 hH4 hH5
  generalize hIdef : s₁.heap.objs.size = I at *
  generalize hDdef : H2.objs.size = D at *
  generalize hCdef : H3.objs.size = C at *
  generalize hXdef : H4.objs.size = X at *
  have fresh₀ : ∀ b, I ≤ b → h₀.get? b = none := fun b hb => by
    cases e : h₀.get? b with
    | none => rfl
    | some o' => exact absurd (Heap.lt_size (F.keep b o' e)) (by rw [hIdef]; exact Nat.not_lt.mpr hb)
  have hLlt : @LT.lt Nat _ L I := hIdef ▸ F.ns.lt
  have hI₀ := fresh₀ I (Nat.le_refl _)
  have hD₀ := fresh₀ D (by omega)
  have hC₀ := fresh₀ C (by omega)
  have hX₀ := fresh₀ X (by omega)
  have hLI : L ≠ I := Nat.ne_of_lt hLlt
  have hLD : D ≠ L := Nat.ne_of_gt (by omega)
  have hLC : C ≠ L := Nat.ne_of_gt (by omega)
  have hLX : X ≠ L := Nat.ne_of_gt (by omega)
  have hIC : I ≠ C := Nat.ne_of_lt (by omega)
  have hIX : I ≠ X := Nat.ne_of_lt (by omega)
  have hID : I ≠ D := Nat.ne_of_lt (by omega)
  have hCX : C ≠ X := Nat.ne_of_lt (by omega)
  have hCD : C ≠ D := Nat.ne_of_gt (by omega)
  have hXD : X ≠ D := Nat.ne_of_gt (by omega)
  have W := range_walks (prog := prog) (w := w) (I := I) hh a n
  have newslt : ∀ p ∈ news, p.1 < I := fun p hp => hIdef ▸ Heap.lt_size (N p hp).1
  have loop : codeAny (model prog w) A (.compLoop (.ListComp elt [⟨.Name x px, iter, [], 0⟩] scope pos) 0 (.ref I) (.ref D) (compEnvC scope ((x, X) :: cl) C env))
      (compPost (model prog w) A E none Q (.ref D) C) { s₁ with heap := H5 } := by
    refine codeAny_compLoop_tests
      (fun k s' => ∃ h' tk i ys v₀ oX news', s' = { s₁ with heap := h', toks := tk } ∧ i ≤ n ∧ k = n + 1 - i ∧ ys.length = i ∧ IsRangeIter h' I (a + (i : Nat) * 1) ((n : Int) - (i : Nat)) 1 ∧ Fr h₀ L h' m ∧ oX.data = .cell v₀ ∧
        News h₀ L h' ((C, { cls := .type "dict", data := .dict #[] }) :: (X, oX) :: (D, lst ys) :: news') ∧ Off4 I C X D news' ∧ J i ys news') ?_ (n + 1)
      ⟨H5, _, 0, [], none, { cls := .type "cell", data := .cell none }, news, rfl, Nat.zero_le _, rfl, rfl, hI5, F.keeps old5, rfl, fun p hp => ?_, fun p hp => ?_, j0⟩
    · rintro k s' ⟨h', tk, i, ys, v₀, oX, news', rfl, hi, rfl, hyl, hst', F', hoX, N', off', hJ⟩
      by_cases hlt : i < n
      · refine W.item i _ _ _ hlt hst' fun v h₂ tk₂ hPv hst₂ hk₂ => ?_
        obtain ⟨tt, rfl⟩ := hPv
        have F₂ : Fr h₀ L h₂ m := fr_but F' hk₂ hLI hI₀
        have N₂ : News h₀ L h₂ ((C, { cls := .type "dict", data := .dict #[] }) :: (X, oX) :: (D, lst ys) :: news') := news_but N' hk₂ fun p hp => by
          rcases List.mem_cons.mp hp with rfl | hp
          · exact Ne.symm hIC
          · rcases List.mem_cons.mp hp with rfl | hp
            · exact Ne.symm hIX
            · rcases List.mem_cons.mp hp with rfl | hp
              · exact Ne.symm hID
              · exact (off' p hp).1
        refine wpAny_assign_Name (wpAny_storeName_cell (c := X) (v₀ := v₀) (by show (relabel scope env).kind = _; exact hkind) (by show (relabel scope env).names.lookup x = _; exact hx) (by show List.lookup x ((x, X) :: cl) = some X; simp) ⟨oX, (N₂ (X, oX) (by simp)).1, hoX⟩ (fun h₃ hv₃ hs₃ => ?_))
        obtain ⟨oX', heX, hdX⟩ := hv₃
        refine wpAny_tests_nil ?_
        simp only [if_true]
        have hst₃ : IsRangeIter h₃ I (a + ((i + 1 : Nat) : Int) * 1) ((n : Int) - ((i + 1 : Nat) : Int)) 1 := by
          have q : h₂.get? I = some _ := hst₂
          exact hs₃.extBut _ _ hIX q
        obtain ⟨oI, heI⟩ : ∃ oI, h₃.get? I = some oI := ⟨_, hst₃⟩
        have F₃ : Fr h₀ L h₃ m := F₂.change hs₃ hLX hX₀
        have N₃ : News h₀ L h₃ ((I, oI) :: (C, { cls := .type "dict", data := .dict #[] }) :: (X, oX') :: (D, lst ys) :: news') := fun p hp => by
          rcases List.mem_cons.mp hp with rfl | hp
          · exact ⟨heI, Ne.symm hLI, hI₀⟩
          · rcases List.mem_cons.mp hp with rfl | hp
            · have z := N₂ (C, { cls := .type "dict", data := .dict #[] }) (by simp)
              exact ⟨hs₃.extBut _ _ hCX z.1, z.2⟩
            · rcases List.mem_cons.mp hp with rfl | hp
              · exact ⟨heX, hLX, hX₀⟩
              · rcases List.mem_cons.mp hp with rfl | hp
                · have z := N₂ (D, lst ys) (by simp)
                  exact ⟨hs₃.extBut _ _ (Ne.symm hXD) z.1, z.2⟩
                · have z := N₂ p (by simp [hp])
                  exact ⟨hs₃.extBut _ _ (off' p hp).2.2.1 z.1, z.2⟩
        refine wpAny_mono (turn i _ tt ys news' I oI C { cls := .type "dict", data := .dict #[] } X oX' D h₃ _ _ hlt rfl hyl hJ F₃ hdX N₃ off' ⟨hIC, hIX, hID, hCX, hCD, hXD⟩) (fun y s₄ h₄ => ?_) fun _ _ e => e
        obtain ⟨h₄, tk₄, news₄, rfl, F₄, N₄, off₄, hJ₄⟩ := h₄
        have zI := (N₄ (I, oI) (by simp)).1
        have zD := (N₄ (D, lst ys) (by simp)).1
        have hst₄ : IsRangeIter h₄ I (a + ((i + 1 : Nat) : Int) * 1) ((n : Int) - ((i + 1 : Nat) : Int)) 1 := by
          have q : h₃.get? I = some _ := hst₃
          rw [heI] at q
          show h₄.get? I = some _
          rw [zI]; exact q
        refine append_at (hsz := by show ys.toArray.size ≤ sizeLine; rw [List.size_toArray, hyl]; exact Nat.le_trans hi hsz) zD fun h₅ hs₅ hD₅ => ?_
        refine ⟨n + 1 - (i + 1), by omega, h₅, tk₄, i + 1, ys ++ [y], _, oX', news₄, rfl, hlt, rfl, by rw [List.length_append, List.length_singleton, hyl], ?_, F₄.change hs₅ hLD hD₀, hdX, fun p hp => ?_, off₄, hJ₄⟩
        · have q : h₄.get? I = some _ := hst₄
          exact hs₅.extBut _ _ hID q
        · rcases List.mem_cons.mp hp with rfl | hp
          · have z := N₄ (C, { cls := .type "dict", data := .dict #[] }) (by simp)
            exact ⟨hs₅.extBut _ _ hCD z.1, z.2⟩
          · rcases List.mem_cons.mp hp with rfl | hp
            · have z := N₄ (X, oX') (by simp)
              exact ⟨hs₅.extBut _ _ hXD z.1, z.2⟩
            · rcases List.mem_cons.mp hp with rfl | hp
              · exact ⟨hD₅.trans (congrArg some (lst_snoc ys y)), hLD, hD₀⟩
              · have z := N₄ p (by simp [hp])
                exact ⟨hs₅.extBut _ _ (off₄ p hp).2.2.2 z.1, z.2⟩
      · obtain rfl : i = n := Nat.le_antisymm hi (Nat.not_lt.mp hlt)
        refine W.done _ _ _ hst' fun h₂ tk₂ hk₂ => ?_
        have F₂ : Fr h₀ L h₂ m := fr_but F' hk₂ hLI hI₀
        have zC := (N' (C, { cls := .type "dict", data := .dict #[] }) (by simp)).1
        refine ⟨_, hCns.ns (hk₂ _ _ (by simp; exact Ne.symm hIC) zC), fun h'' hs'' => ?_⟩
        refine done D ys news' h'' _ hyl hJ (F₂.change hs'' hLC hC₀) (fun p hp => ?_) (fun p hp => (off' p hp).2.2.2)
        rcases List.mem_cons.mp hp with rfl | hp
        · have z := N' (D, lst ys) (by simp)
          exact ⟨hs''.extBut _ _ (Ne.symm hCD) (hk₂ _ _ (by simp; exact Ne.symm hID) z.1), z.2⟩
        · have z := N' p (by simp [hp])
          exact ⟨hs''.extBut _ _ (off' p hp).2.1 (hk₂ _ _ (by simp; exact (off' p hp).1) z.1), z.2⟩
    · rcases List.mem_cons.mp hp with rfl | hp
      · exact ⟨hC5, hLC, hC₀⟩
      · rcases List.mem_cons.mp hp with rfl | hp
        · exact ⟨hX5, hLX, hX₀⟩
        · rcases List.mem_cons.mp hp with rfl | hp
          · exact ⟨hD5, hLD, hD₀⟩
          · exact ⟨old5 _ _ (N p hp).1, (N p hp).2⟩
    · have : @LT.lt Nat _ p.1 I := newslt p hp
      exact ⟨Nat.ne_of_lt this, Nat.ne_of_lt (by omega), Nat.ne_of_lt (by omega), Nat.ne_of_lt (by omega)⟩
  exact codeAny_compStart_list loop (W.self 0 _ _ _ hI5 loop)

/-- the turns of a comprehension with a test, by what holds between them -/
theorem restT {ct elt : PySem.Expr} {x : Str} {scope : Scope} {cl : List (Str × Addr)} {S : Led → Prop} {P : Nat → Value → Prop} {Fin : List Value → Led → Prop} {n : Nat} (J : Nat → List Value → Led → Prop)
    (turn : ∀ (i : Nat) (ys : List Value) (news : Led) v I oI C oC D m₂ h tk (E' : Value → Shared → Prop), i < n → J i ys news → P i v → NsObj oC m₂ → m₂ x = some v → Fr h₀ L h m → News h₀ L h ((I, oI) :: (C, oC) :: (D, lst ys) :: news) → Off3 I C D news → ((@Ne Nat I C) ∧ (@Ne Nat I D) ∧ (@Ne Nat C D)) →
      wpAny (model prog w) A (isTrue ct (compEnvC scope cl C env) (eval ct (compEnvC scope cl C env))) (fun ok s' => if ok = true then
        wpAny (model prog w) A (eval elt (compEnvC scope cl C env)) (CompEnd h₀ L m { s with heap := h, toks := tk } I oI C oC D (lst ys) S (fun y news' => J (i + 1) (ys ++ [y]) news')) E' s'
        else CompEnd h₀ L m { s with heap := h, toks := tk } I oI C oC D (lst ys) S (fun _ news' => J (i + 1) ys news') Value.none s') E' { s with heap := h, toks := tk })
    (done : ∀ ys news, J n ys news → Fin ys news) : ∀ (k i : Nat) (ys : List Value) (news : Led), k + i = n → J i ys news → LCt.CompRestT prog w A h₀ L m env ct elt x scope cl s S P Fin k i ys news
  | 0, i, ys, news, e, hj => by
    have : i = n := by omega
    subst this
    exact LCt.CompRestT.zero (done ys news hj)
  | k + 1, i, ys, news, e, hj => by
    refine LCt.CompRestT.succ fun v I oI C oC D m₂ h tk E' hP hN hm F N off hne => ?_
    refine wpAny_mono (turn i ys news v I oI C oC D m₂ h tk E' (by omega) hj hP hN hm F N off hne) (fun ok s' hk => ?_) fun _ _ x => x
    cases ok with
    | true =>
      simp only [if_true] at hk ⊢
      refine wpAny_mono hk (fun y s₂ hy => ?_) fun _ _ x => x
      obtain ⟨h', tk', news', e1, F', N', off', hS, hr⟩ := hy
      exact ⟨h', tk', news', e1, F', N', off', hS, restT J turn done k (i + 1) _ _ (by omega) hr⟩
    | false =>
      simp only [Bool.false_eq_true, if_false] at hk ⊢
      obtain ⟨h', tk', news', e1, F', N', off', hS, hr⟩ := hk
      exact ⟨h', tk', news', e1, F', N', off', hS, restT J turn done k (i + 1) _ _ (by omega) hr⟩
/-- without a test -/
theorem restU {elt : PySem.Expr} {x : Str} {scope : Scope} {cl : List (Str × Addr)} {S : Led → Prop} {P : Nat → Value → Prop} {Fin : List Value → Led → Prop} {n : Nat} (J : Nat → List Value → Led → Prop)
    (turn : ∀ (i : Nat) (ys : List Value) (news : Led) v I oI C oC D m₂ h tk (E' : Value → Shared → Prop), i < n → ys.length = i → J i ys news → P i v → NsObj oC m₂ → m₂ x = some v → Fr h₀ L h m → News h₀ L h ((I, oI) :: (C, oC) :: (D, lst ys) :: news) → Off3 I C D news → ((@Ne Nat I C) ∧ (@Ne Nat I D) ∧ (@Ne Nat C D)) →
      wpAny (model prog w) A (eval elt (compEnvC scope cl C env)) (CompEnd h₀ L m { s with heap := h, toks := tk } I oI C oC D (lst ys) S (fun y news' => J (i + 1) (ys ++ [y]) news')) E' { s with heap := h, toks := tk })
    (done : ∀ ys news, ys.length = n → J n ys news → Fin ys news) : ∀ (k i : Nat) (ys : List Value) (news : Led), k + i = n → ys.length = i → J i ys news → CompRest prog w A h₀ L m env elt x scope cl s S P Fin k i ys news
  | 0, i, ys, news, e, hl, hj => by
    have : i = n := by omega
    subst this
    exact CompRest.zero (done ys news hl hj)
  | k + 1, i, ys, news, e, hl, hj => by
    refine CompRest.succ fun v I oI C oC D m₂ h tk E' hP hN hm F N off hne => ?_
    refine wpAny_mono (turn i ys news v I oI C oC D m₂ h tk E' (by omega) hl hj hP hN hm F N off hne) (fun y s' hk => ?_) fun _ _ x => x
    obtain ⟨h', tk', news', e1, F', N', off', hS, hr⟩ := hk
    exact ⟨h', tk', news', e1, F', N', off', hS, restU J turn done k (i + 1) _ _ (by omega) (by simp [hl]) hr⟩
end
end Mine
end

section
open PySem PySem.W PyProof.Rows PySem.Spec
set_option Elab.async false
set_option maxRecDepth 100000
namespace Mine
theorem warm8 : (PySem.Challenge.rw_xm0804_01.prog = PySem.Challenge.rw_xm0804_01.prog) ∧ (hd.heap_39 = hd.heap_39) := by k_fill; exact ⟨rfl, rfl⟩
set_option maxHeartbeats 4000000
local macro_rules | `(tactic| k_mem) => `(tactic| assumption)
local macro_rules | `(tactic| k_all) => `(tactic| assumption)
local macro_rules | `(tactic| is_list) => `(tactic| exact News.isList (by k_asm) (by k_mem))

local macro_rules | `(tactic| walk_at "CompSrcT") => `(tactic| (refine stop_here ?_))

def pickTo (a j : Nat) : List Int := ((List.range a).filter fun a => j / 2 ^ a % 2 == 1).map fun (a : Nat) => (a : Int)
theorem pick_yes {a j : Nat} (h : j / 2 ^ a % 2 = 1) : pickTo (a + 1) j = pickTo a j ++ [(a : Int)] := by
  unfold pickTo; rw [List.range_succ, List.filter_append, List.map_append]; simp [h]
theorem pick_no {a j : Nat} (h : j / 2 ^ a % 2 ≠ 1) : pickTo (a + 1) j = pickTo a j := by
  unfold pickTo; rw [List.range_succ, List.filter_append, List.map_append]; simp [h]
theorem bit_eq (j a : Nat) : ((j : Int).fdiv (2 ^ (a : Int).toNat)).fmod 2 = ((j / 2 ^ a % 2 : Nat) : Int) := by
  rw [Int.toNat_natCast, show (2 : Int) ^ a = ((2 ^ a : Nat) : Int) by rw [Int.natCast_pow]; rfl, Int.fdiv_eq_ediv_of_nonneg _ (Int.natCast_nonneg _), ← Int.natCast_ediv, Int.fmod_eq_emod_of_nonneg _ (by decide)]
  rfl
def SubAt (led : Led) (v : Value) (l : List Int) : Prop := ∃ a vs e, v = .ref a ∧ (a, listOf (List.toArray vs) e) ∈ led ∧ IntsAre vs l
theorem SubAt.mono {led led' : Led} {v : Value} {l : List Int} (h : SubAt led v l) (hs : ∀ p ∈ led, p ∈ led') : SubAt led' v l := let ⟨a, vs, e, e1, hm, hi⟩ := h; ⟨a, vs, e, e1, hs _ hm, hi⟩
def ChJ (c : Addr × Obj) (news : Led) (n : Nat) (i : Nat) (ys : List Value) (led : Led) : Prop := c ∈ led ∧ (∀ p ∈ news, p ∈ led) ∧ ∀ j, j < i → ∃ v, ys[j]? = some v ∧ SubAt led v (pickTo n j)
def ChPost (n : Nat) (news : Led) (v : Value) (news' : Led) : Prop :=
  (∀ p ∈ news, p ∈ news') ∧ ∃ t ys e, v = .ref t ∧ (t, listOf (List.toArray ys) e) ∈ news' ∧ ys.length = 2 ^ n ∧ ∀ j, j < 2 ^ n → ∃ v, ys[j]? = some v ∧ SubAt news' v (pickTo n j)

theorem chosen_spec (w : World) (n : Nat) (tn : Tok) (news : Led) (hn2 : n ≤ 4) :
    FnSpec w 2 59 [.int (n : Int) tn] news (ChPost n news) := by
  intro mg mb mean dp un gd cn cs a ccd cl outer A₀ base h₀ L m s Q E B F X N T hk hd hu hret
  refine wpAny_call ?_
  (refine' code_defC ?k1 ?k2 ?k3 ?k4 ?k5 ?kA ?kF ?kK ?k6 ?k7 ?k8 ?k9 ?kB ?kD ?_ ?c2 ?c3 ?c4; (case kA => exact rfl); (case kF => exact rfl); (case kK => assumption); (case k1 => k_asm); (case k2 => k_asm); (case k3 => k_asm); (case k4 => k_asm); (case k5 => k_asm); (case k6 => k_is); (case k7 => k_is); (case k8 => ktr_room); (case k9 => exact BindsTo.of_eq rfl); (case kB => exact rfl); (case kD => decide +kernel); (case c2 => exact rfl); (case c3 => exact rfl); (case c4 => exact rfl); k_whole)
  intro g' L' h' tk' cells' FG' F' N' Y' B' X' T' l1
  obtain ⟨oc, hE', hoc⟩ := CellsAre.one Y'
  subst hE'
  clear Y'
  (try simp only [List.cons_append, List.nil_append] at N')
  (try dsimp only)
  (try k_lift B')
  (try k_fold)
  k_steps
  refine comp_cell (ChJ (L' + 1, oc) news n) F' (by with_unfolding_all rfl) (fun _ => rfl) (fun _ => rfl) rfl (by decide) rfl ?_
  k_steps
  (rename IsRange _ _ _ _ _ _ _ _ => hr); (rename Fr _ _ _ _ => F1); (rename News _ _ _ _ => N1)
  have h16 : 2 ^ n ≤ 16 := Nat.pow_le_pow_right (by decide) hn2 |> fun h => Nat.le_trans h (by decide)
  refine ⟨_, _, _, _, _, _, 2 ^ n, (L' + 1, oc) :: news, rfl, rfl, F1, N1, hr, ?_, ?_, ?_, ⟨List.mem_cons_self, fun p hp => List.mem_cons_of_mem _ hp, fun j hj => absurd hj (Nat.not_lt_zero _)⟩, ?_, ?_⟩
  · have e2 : (2 : Int) ^ ((n : Int)).toNat = ((2 ^ n : Nat) : Int) := by rw [Int.toNat_natCast, Int.natCast_pow]; rfl
    rw [e2]; clear e2 hr; generalize 2 ^ n = p at h16 ⊢; exact small_one (by omega) (by omega) (by omega) (by omega)
  · have e2 : (2 : Int) ^ ((n : Int)).toNat = ((2 ^ n : Nat) : Int) := by rw [Int.toNat_natCast, Int.natCast_pow]; rfl
    rw [e2, rangeSize_nat]; congr 1
  · rw [sizeLine_eq]; omega
  · rintro i k tt ys news₁ I oI C oC X oX D h tk E₂ hi hk' hyl ⟨hc, hnews, hsub⟩ F2 hoX N2 off hne
    clear F1 N1 hr
    refine LCt.ListComp_T (F₀ := F2) (by with_unfolding_all rfl) (by decide) (by rfl) (by decide) (by rfl) ?_
    k_steps
    unfold Stop
    (rename IsRange _ _ _ _ _ _ _ _ => hr2); (rename Fr _ _ _ _ => F3); (rename News _ _ _ _ => N3)
    refine LCt.CompSrcT.range (by rfl) F3 N3 hr2 (small_one (by omega) (by omega) (by omega) (by omega)) (rangeSize_nat _ _) (by rw [sizeLine_eq]; omega) ?_
    intro hg
    obtain rfl : k = (i : Int) := by omega
    refine restT (fun a zs led => led = (I, oI) :: (C, oC) :: (X, oX) :: (D, LCg.lst ys) :: news₁ ∧ IntsAre zs (pickTo a i)) ?_ ?_ _ 0 [] _ rfl ⟨rfl, .nil⟩
    · rintro a zs led v I2 oI2 C2 oC2 D2 m₂ h tk E' ha ⟨rfl, hzs⟩ ⟨t2, rfl⟩ hN hm F4 N4 off4 hne4
      clear F3 N3 hr2
      k_steps
      · (rename _ = (1 : Int) => hb)
        rw [Int.zero_add, bit_eq] at hb
        refine LCg.CompEnd.intro F4 N4 _ (fun p hp => hp) off4 trivial ⟨rfl, ?_⟩
        rw [pick_yes (by omega), Int.zero_add]
        exact hzs.append (.cons _ _ .nil)
      · (rename _ ≠ (1 : Int) => hb)
        rw [Int.zero_add, bit_eq] at hb
        refine LCg.CompEnd.intro F4 N4 _ (fun p hp => hp) off4 trivial ⟨rfl, ?_⟩
        rw [pick_no (by omega)]
        exact hzs
    · rintro zs led ⟨rfl, hzs⟩ D3 h3 tk3 F5 N5 off5
      rw [show ((n : Int) - 0).toNat + 0 = n by omega] at hzs
      refine ⟨h3, tk3, (D3, LCg.lst zs) :: news₁, rfl, F5, sub (fun p hp => ?_) N5, fun p hp => ?_, ?_⟩
      · simp only [List.mem_cons] at hp ⊢
        rcases hp with h | h | h | h | h | h
        · exact .inr (.inl h)
        · exact .inr (.inr (.inl h))
        · exact .inr (.inr (.inr (.inl h)))
        · exact .inr (.inr (.inr (.inr (.inl h))))
        · exact .inl h
        · exact .inr (.inr (.inr (.inr (.inr h))))
      · rcases List.mem_cons.mp hp with rfl | hp
        · exact ⟨Ne.symm off5.1, Ne.symm off5.2.1, Ne.symm off5.2.2.1, Ne.symm off5.2.2.2.1⟩
        · exact off p hp
      · refine ⟨List.mem_cons_of_mem _ hc, fun p hp => List.mem_cons_of_mem _ (hnews p hp), fun j hj => ?_⟩
        by_cases hji : j < i
        · obtain ⟨v, hv, hs⟩ := hsub j hji
          exact ⟨v, by rw [List.getElem?_append_left (by omega)]; exact hv, hs.mono fun p hp => List.mem_cons_of_mem _ hp⟩
        · obtain rfl : j = i := by omega
          exact ⟨.ref D3, by rw [List.getElem?_append_right (by omega), hyl]; simp, D3, zs, zs.length, rfl, List.mem_cons_self, hzs⟩
  · rintro D ys news' h tk hyl ⟨hc, hnews, hsub⟩ F2 N2 hne
    clear F1 N1 hr
    k_steps
    exact hret _ _ _ _ (by assumption) (by assumption) ⟨fun p hp => List.mem_cons_of_mem _ (hnews p hp), D, ys, ys.length, rfl, List.mem_cons_self, hyl, fun j hj => let ⟨v, hv, hs⟩ := hsub j hj; ⟨v, hv, hs.mono fun p hp => List.mem_cons_of_mem _ hp⟩⟩
end Mine
end

section
open PySem PySem.W PyProof.Rows PySem.Spec PySem.Calls PyProof.Rows.LCg PyProof.Rows.LCp
set_option Elab.async false
set_option maxRecDepth 100000
set_option maxHeartbeats 2000000
namespace Mine
def ownOf (h₀ h : Heap) (fp : List Addr) : Led := fp.filterMap fun b => match h₀.get? b, h.get? b with
  | none, some o => some (b, o)
  | _, _ => none
theorem mem_own {h₀ h : Heap} {fp : List Addr} {p : Addr × Obj} : p ∈ ownOf h₀ h fp ↔ p.1 ∈ fp ∧ h₀.get? p.1 = none ∧ h.get? p.1 = some p.2 := by
  unfold ownOf
  rw [List.mem_filterMap]
  constructor
  · rintro ⟨b, hb, e⟩
    cases e0 : h₀.get? b with
    | some o => rw [e0] at e; cases e
    | none =>
      cases e1 : h.get? b with
      | none => rw [e0, e1] at e; cases e
      | some o => rw [e0, e1] at e; cases e; exact ⟨hb, e0, e1⟩
  · rintro ⟨hb, e0, e1⟩
    exact ⟨p.1, hb, by rw [e0, e1]⟩
section
variable {prog : Program} {w : World} {A : Around} {E : Value → Shared → Prop} {s : Shared} {h₀ : Heap} {L : Addr} {m : LMap} {env : Env}

/-- a source of pairs that are made as they are drawn (zip) -/
def PairSrc (prog : Program) (w : World) (A : Around) (h₀ : Heap) (L : Addr) (m : LMap) (env : Env) (elt : PySem.Expr) (x x₂ y : Str) (scope : Scope) (cl : List (Str × Addr)) (J : Nat → List Value → Led → Prop) (Q : Flow → Shared → Prop) (xv : Value) (s₁ : Shared) : Prop :=
  ∃ I fp wr n Pt St Mid news, xv = .ref I ∧ A.handled = none ∧ WalksT prog w A I fp wr n Pt St Mid ∧ Fr h₀ L s₁.heap m ∧ News h₀ L s₁.heap news ∧ St 0 s₁.heap ∧ (∀ b ∈ fp, b < s₁.heap.objs.size) ∧ (∀ b ∈ wr, h₀.get? b = none) ∧ L ∉ fp ∧ (∀ p ∈ news, p.1 ∉ wr) ∧
    (∀ b ∈ fp, h₀.get? b = none → ∀ i h, St i h → ∃ o, h.get? b = some o) ∧ n ≤ sizeLine ∧ J 0 [] news ∧ (∀ i vals, Pt i vals → ∃ v₁ v₂, vals = #[v₁, v₂]) ∧
    (∀ (i : Nat) (ys : List Value) (news₁ own : Led) (C : Addr) (oC : Obj) (D : Addr) (m₂ : LMap) (v₁ v₂ : Value) (h : Heap) (tk : Nat) (E' : Value → Shared → Prop), i < n → ys.length = i → J i ys news₁ → Pt i #[v₁, v₂] → NsObj oC m₂ → m₂ x = some v₁ → m₂ x₂ = some v₂ → Fr h₀ L h m →
      News h₀ L h ((C, oC) :: (D, lst ys) :: (news₁ ++ own)) → (∀ b ∈ wr, ∃ o, (b, o) ∈ own) → (∀ p ∈ news₁, p.1 ≠ C ∧ p.1 ≠ D ∧ p.1 ∉ wr) → (∀ p ∈ own, p.1 ≠ C ∧ p.1 ≠ D) → @Ne Nat C D →
      wpAny (model prog w) A (eval elt (compEnvC scope cl C env)) (fun y s' => ∃ h' tk' news', s' = { s₁ with heap := h', toks := tk' } ∧ Fr h₀ L h' m ∧ News h₀ L h' ((C, oC) :: (D, lst ys) :: (news' ++ own)) ∧ (∀ p ∈ news', p.1 ≠ C ∧ p.1 ≠ D ∧ p.1 ∉ wr) ∧ J (i + 1) (ys ++ [y]) news') E' { s₁ with heap := h, toks := tk }) ∧
    (∀ D ys news' h tk, ys.length = n → J n ys news' → Fr h₀ L h (fun z => if z = y then some (.ref D) else m z) → News h₀ L h ((D, lst ys) :: news') → (∀ p ∈ news', p.1 ≠ D) → Q .next { s₁ with heap := h, toks := tk })

theorem assign_zip {elt iter : PySem.Expr} {x x₂ y : Str} {px px₂ tp py : Pos} {tkk} {scope : Scope} {cl : List (Str × Addr)} {pos spos : Pos} {Q : Flow → Shared → Prop} (J : Nat → List Value → Led → Prop) (F₀ : Fr h₀ L s.heap m) (hLe : env.locals = L)
    (hsw : swapsWith (.ListComp elt [⟨.Tuple [.Name x px, .Name x₂ px₂] tkk tp, iter, [], 0⟩] scope pos) (some (.Name y py)) spos.line env = pure true)
    (hclos : closureFor scope env = pure cl) (hcell : ∀ z ∈ scope.names, z.2 ≠ .cell) (hkind : scope.kind = .function)
    (hnames : ∀ z ∈ scope.names, z.2 = .local → scope.names.lookup z.1 = some .local) (hx : scope.names.lookup x = some .local) (hx₂ : scope.names.lookup x₂ = some .local) (hxx : x ≠ x₂)
    (hy : env.kindOf y = some .local) (hp : (env.scope.kind == .class || (env.scope.kind == .module && env.locals != env.globals)) = false)
    (h : wpAny (model prog w) A (eval iter env) (PairSrc prog w A h₀ L m env elt x x₂ y scope cl J Q) E s)
    (hs : ∀ x, foldedSetIterable iter env x = pure x := by intro _; rfl) :
    wpAny (model prog w) A (exec (.Assign [.Name y py] (.ListComp elt [⟨.Tuple [.Name x px, .Name x₂ px₂] tkk tp, iter, [], 0⟩] scope pos) spos) env) Q E s := by
  subst hLe
  rw [exec_Assign_Name_used _ _ _ _ hsw]
  refine wpAny_bind (wpAny_standAt (wpAny_bind ?_))
  show wpAny _ A (do let _ ← comprehension (.ListComp elt [⟨.Tuple [.Name x px, .Name x₂ px₂] tkk tp, iter, [], 0⟩] scope pos) scope env _ (newList []) false (eval iter env) (some (assign (.Name y py) env))) _ _ s
  refine wpAny_bind (wpAny_mono (wpAny_comprehension_free (use := some (assign (.Name y py) env)) (Q := fun _ s' => Q .next s') rfl hs hclos hkind hnames
    (wpAny_mono h (fun xv s₁ h₁ => ?_) fun _ _ e => e)) (fun _ s' hq => wpAny_pure (wpAny_pure hq)) fun _ _ e => e)
  obtain ⟨I, fp, wr, n, Pt, St, Mid, news, rfl, hh, W, F, N, hst, hfp, hw₀, hLf, off, hlive, hsz, j0, hpair, turn, done⟩ := h₁
  refine W.self 0 _ _ _ hst ?_
  refine wpAny_newObj_type (wpAny_newFunctionEnv hcell (by intro y hy; simp at hy) (fun h₁ hns₁ hsb₁ => ?_) hkind)
  dsimp only at hns₁ hsb₁ ⊢
  generalize hH2 : s₁.heap.push { cls := .type "list", dict := none, data := .seq ([] : List Value).toArray } = H2 at hns₁ hsb₁ ⊢
  have hC : H2.objs.size = s₁.heap.objs.size + 1 := by rw [← hH2, Heap.size_push]
  have old : ∀ b o, s₁.heap.get? b = some o → h₁.get? b = some o := fun b o e => hsb₁.extBut b o (by have := Heap.lt_size e; rw [hC]; exact Nat.ne_of_lt (Nat.lt_succ_of_lt this)) (Heap.get?_push_of_some _ (hH2 ▸ Heap.get?_push_of_some _ e))
  have hacc : h₁.get? s₁.heap.objs.size = some (lst []) := hsb₁.extBut _ _ (by rw [hC]; exact Nat.ne_of_lt (Nat.lt_succ_self _)) (Heap.get?_push_of_some _ (hH2 ▸ Heap.get?_push_size _ rfl))
  have hst₁ : St 0 h₁ := W.frame _ _ _ hst fun b _ o e => old b o e
  have hDdef : s₁.heap.objs.size = s₁.heap.objs.size := rfl
  generalize hDd : s₁.heap.objs.size = D at *
  generalize hCd : H2.objs.size = C at *
  clear hH2
  have newlt : ∀ p ∈ news, @LT.lt Nat _ p.1 D := fun p hp => hDd ▸ Heap.lt_size (N p hp).1
  have fplt : ∀ b ∈ fp, @LT.lt Nat _ b D := hfp
  have hLlt : @LT.lt Nat _ env.locals D := hDd ▸ F.ns.lt
  have fresh₀ : ∀ b, @LE.le Nat _ D b → h₀.get? b = none := fun b hb => by
    cases e : h₀.get? b with
    | none => rfl
    | some o' => exact absurd (Heap.lt_size (F.keep b o' e)) (by rw [hDd]; exact Nat.not_lt.mpr hb)
  have hD₀ : h₀.get? D = none := fresh₀ _ (Nat.le_refl _)
  have hC₀ : h₀.get? C = none := fresh₀ _ (by omega)
  have hDL : D ≠ env.locals := Nat.ne_of_gt hLlt
  have hCL : C ≠ env.locals := Nat.ne_of_gt (by omega)
  have hDC : D ≠ C := Nat.ne_of_lt (by omega)
  have hLw : env.locals ∉ wr := fun hm => hLf (W.sub _ hm)
  have hDf : D ∉ fp := fun hm => Nat.lt_irrefl _ (fplt _ hm)
  have hCf : C ∉ fp := fun hm => by have := fplt _ hm; omega
  have old₀ : ∀ b o, h₀.get? b = some o → b ∉ wr := fun b o e hb => by rw [hw₀ b hb] at e; cases e
  have but : ∀ {h h' : Heap} {m' : LMap}, Fr h₀ env.locals h m' → (∀ b o, b ∉ wr → h.get? b = some o → h'.get? b = some o) → Fr h₀ env.locals h' m' := fun F' hk =>
    ⟨F'.ns.at' fun o e => hk _ o hLw e, fun b o e => hk b o (old₀ b o e) (F'.keep b o e), F'.above⟩
  have loop : ∀ s₃ : Shared, s₃ = { s₁ with heap := h₁, toks := s₁.toks + ([] : List (Str × Value)).length } →
      codeAny (model prog w) A (.compLoop (.ListComp elt [⟨.Tuple [.Name x px, .Name x₂ px₂] tkk tp, iter, [], 0⟩] scope pos) 0 (.ref I) (.ref D) (compEnvC scope cl C env))
        (compPost (model prog w) A E (some (assign (.Name y py) env)) (fun _ s' => Q .next s') (.ref D) C) s₃ := by
    rintro s₃ rfl
    refine codeAny_compLoop_pair
      (fun k s' => ∃ h' tk i ys m' news', s' = { s₁ with heap := h', toks := tk } ∧ i ≤ n ∧ k = n + 1 - i ∧ ys.length = i ∧ St i h' ∧ Fr h₀ env.locals h' m ∧ h'.Ns C m' ∧ News h₀ env.locals h' ((D, lst ys) :: news') ∧
        (∀ p ∈ news', p.1 ≠ C ∧ p.1 ≠ D ∧ p.1 ∉ wr) ∧ J i ys news') ?_ (n + 1)
      ⟨h₁, _, 0, [], _, news, rfl, Nat.zero_le _, rfl, rfl, hst₁, F.keeps old, hns₁, fun p hp => ?_, fun p hp => ?_, j0⟩
    · rintro k s' ⟨h', tk, i, ys, m', news', rfl, hi, rfl, hyl, hst', F', hn', N', off', hJ⟩
      by_cases hlt : i < n
      · refine W.item i _ _ _ hlt hst' fun T vals h₂ tk₂ hPt hTsz hT hMid hk₂ => ?_
        have F₂ := but F' hk₂
        refine W.go _ _ _ i T _ _ _ hMid fun h₃ hst₃ hk₃ => ?_
        have F₃ := but F₂ hk₃
        have hT₃ : h₃.IsTuple T vals := by
          obtain ⟨o, e, r⟩ := hT
          exact ⟨o, hk₃ _ _ (W.apart _ _ _ hMid) e, r⟩
        have keep23 : ∀ b o, b ∉ wr → h'.get? b = some o → h₃.get? b = some o := fun b o hb e => hk₃ _ _ hb (hk₂ _ _ hb e)
        obtain ⟨v₁, v₂, rfl⟩ := hpair i vals hPt
        have hCw : C ∉ wr := fun hm => hCf (W.sub _ hm)
        have hDw : D ∉ wr := fun hm => hDf (W.sub _ hm)
        have hn₃ : h₃.Ns C m' := hn'.at' fun o e => keep23 _ o hCw e
        obtain ⟨oT, eT, cT, nT, dT⟩ := hT₃
        refine assign_Tuple_tuple hh (items := #[v₁, v₂]) ⟨oT, eT, cT, nT, dT⟩ rfl rfl fun h₅ he => ?_
        have he' : ∀ b o, h₃.get? b = some o → h₅.get? b = some o := fun b o e => he b o (Nat.ne_of_lt (Heap.lt_size e)) e
        refine assignInOrder_cons (wpAny_assign_Name (wpAny_storeName_local (lookup_relabel_local hx) (hn₃.at' fun o e => he' _ o e) (fun h₆ hn₆ hs₆ => ?_) (by simp [compEnvC, relabel, hkind])))
        refine assignInOrder_cons (wpAny_assign_Name (wpAny_storeName_local (lookup_relabel_local hx₂) hn₆ (fun h₇ hn₇ hs₇ => ?_) (by simp [compEnvC, relabel, hkind])))
        refine assignInOrder_nil ?_
        have old7 : ∀ b o, b ≠ C → h₃.get? b = some o → h₇.get? b = some o := fun b o hb e => hs₇.extBut b o hb (hs₆.extBut b o hb (he' b o e))
        have hst₇ : St (i + 1) h₇ := W.frame _ _ _ hst₃ fun b hb o e => old7 b o (fun q => hCf (by rw [← q]; exact hb)) e
        obtain ⟨oC, heC, hoC⟩ := ns_obj hn₇
        have F₇ : Fr h₀ env.locals h₇ m := ((F₃.keeps he').change hs₆ hCL hC₀).change hs₇ hCL hC₀
        have N₇ : News h₀ env.locals h₇ ((C, oC) :: (D, lst ys) :: (news' ++ ownOf h₀ h₇ fp)) := fun p hp => by
          rcases List.mem_cons.mp hp with rfl | hp
          · exact ⟨heC, hCL, hC₀⟩
          · rcases List.mem_cons.mp hp with rfl | hp
            · have z := N' (D, lst ys) List.mem_cons_self
              exact ⟨old7 _ _ hDC (keep23 _ _ hDw z.1), z.2⟩
            · rcases List.mem_append.mp hp with hp | hp
              · have z := N' p (List.mem_cons_of_mem _ hp)
                exact ⟨old7 _ _ (off' p hp).1 (keep23 _ _ (off' p hp).2.2 z.1), z.2⟩
              · have q := mem_own.mp hp
                exact ⟨q.2.2, fun e => hLf (e ▸ q.1), q.2.1⟩
        refine wpAny_mono (turn i ys news' (ownOf h₀ h₇ fp) C oC D _ v₁ v₂ h₇ _ _ hlt hyl hJ hPt hoC (by simp [hxx]) (by simp) F₇ N₇ (fun b hb => ?_) off' (fun p hp => ?_) (Ne.symm hDC)) (fun y' s₄ h₄ => ?_) fun _ _ e => e
        · obtain ⟨o, e⟩ := hlive b (W.sub b hb) (hw₀ b hb) (i + 1) h₇ hst₇
          exact ⟨o, mem_own.mpr ⟨W.sub b hb, hw₀ b hb, e⟩⟩
        · have q := mem_own.mp hp
          exact ⟨fun e => hCf (e ▸ q.1), fun e => hDf (e ▸ q.1)⟩
        obtain ⟨h₄, tk₄, news₄, rfl, F₄, N₄, off₄, hJ₄⟩ := h₄
        have zC := (N₄ (C, oC) List.mem_cons_self).1
        have zD := (N₄ (D, lst ys) (List.mem_cons_of_mem _ List.mem_cons_self)).1
        have hst₄ : St (i + 1) h₄ := W.frame _ _ _ hst₇ fun b hb o e => by
          cases e0 : h₀.get? b with
          | some o' =>
            have k1 := F₇.keep b o' e0
            rw [e] at k1
            cases k1
            exact F₄.keep b _ e0
          | none => exact (N₄ (b, o) (List.mem_cons_of_mem _ (List.mem_cons_of_mem _ (List.mem_append_right _ (mem_own.mpr ⟨hb, e0, e⟩))))).1
        refine append_at (hsz := by show ys.toArray.size ≤ sizeLine; rw [List.size_toArray, hyl]; exact Nat.le_trans hi hsz) zD fun h₈ hs₈ hD₈ => ?_
        refine ⟨n + 1 - (i + 1), by omega, h₈, tk₄, i + 1, ys ++ [y'], _, news₄, rfl, hlt, rfl, by rw [List.length_append, List.length_singleton, hyl], W.frame _ _ _ hst₄ fun b hb o e => hs₈.extBut b o (fun q => hDf (q ▸ hb)) e, F₄.change hs₈ hDL hD₀,
          (hoC.ns zC).sameBut hs₈ (Ne.symm hDC), fun p hp => ?_, off₄, hJ₄⟩
        rcases List.mem_cons.mp hp with rfl | hp
        · exact ⟨hD₈.trans (congrArg some (lst_snoc ys y')), hDL, hD₀⟩
        · have z := N₄ p (List.mem_cons_of_mem _ (List.mem_cons_of_mem _ (List.mem_append_left _ hp)))
          exact ⟨hs₈.extBut _ _ (off₄ p hp).2.1 z.1, z.2⟩
      · obtain rfl : i = n := Nat.le_antisymm hi (Nat.not_lt.mp hlt)
        refine W.done _ _ _ hst' fun h₂ tk₂ hk₂ => ?_
        have F₂ := but F' hk₂
        show wpAny _ A (assign (.Name y py) env (.ref D)) _ _ _
        refine wpAny_assign_Name (wpAny_storeName_local hy F₂.ns (fun h₃ hn₃ hs₃ => ?_) hp)
        have hL₀ : h₀.get? env.locals = none := Heap.get?_none_of_le F₂.above
        have F₃ : Fr h₀ env.locals h₃ (fun z => if z = y then some (.ref D) else m z) := ⟨hn₃, fun b o e => hs₃.extBut b o (fun q => by rw [q, hL₀] at e; cases e) (F₂.keep b o e), F₂.above⟩
        have hCw : C ∉ wr := fun hm => hCf (W.sub _ hm)
        have hDw : D ∉ wr := fun hm => hDf (W.sub _ hm)
        have hn₂ : h₂.Ns C m' := hn'.at' fun o e => hk₂ _ o hCw e
        refine ⟨m', hn₂.sameBut hs₃ hCL, fun h'' hs'' => ?_⟩
        refine done D ys news' h'' _ hyl hJ (F₃.change hs'' hCL hC₀) (fun p hp => ?_) (fun p hp => (off' p hp).2.1)
        rcases List.mem_cons.mp hp with rfl | hp
        · have z := N' (D, lst ys) List.mem_cons_self
          exact ⟨hs''.extBut _ _ hDC (hs₃.extBut _ _ hDL (hk₂ _ _ hDw z.1)), z.2⟩
        · have z := N' p (List.mem_cons_of_mem _ hp)
          exact ⟨hs''.extBut _ _ (off' p hp).1 (hs₃.extBut _ _ z.2.1 (hk₂ _ _ (off' p hp).2.2 z.1)), z.2⟩
    · rcases List.mem_cons.mp hp with rfl | hp
      · exact ⟨hacc, hDL, hD₀⟩
      · exact ⟨old _ _ (N p hp).1, (N p hp).2⟩
    · have := newlt p hp
      exact ⟨Nat.ne_of_lt (by omega), Nat.ne_of_lt this, off p hp⟩
  exact codeAny_compStart_list (loop _ rfl) (W.self 0 _ _ _ hst₁ (loop _ rfl))
end
end Mine
end

section
open PySem PySem.W PyProof.Rows PySem.Spec PySem.Calls PyProof.Rows.LCg PyProof.Rows.LCp
set_option Elab.async false
set_option maxRecDepth 100000
set_option maxHeartbeats 2000000
namespace Mine
/-- a turn's end: what is new goes ahead of the ledger -/
def ZEnd (h₀ : Heap) (L : Addr) (m : LMap) (s : Shared) (l news₁ : Led) (J : Led → Prop) (s' : Shared) : Prop :=
  ∃ h' tk' add, s' = { s with heap := h', toks := tk' } ∧ Fr h₀ L h' m ∧ News h₀ L h' (add ++ l) ∧ (∀ p ∈ add, ∀ q ∈ l, q.1 ≠ p.1) ∧ J (add ++ news₁)
theorem ZEnd.intro {h₀ : Heap} {L : Addr} {m : LMap} {s : Shared} {l news₁ : Led} {J : Led → Prop} {h' : Heap} {tk' : Nat} (add : Led) (F : Fr h₀ L h' m) (N : News h₀ L h' (add ++ l)) (ho : ∀ p ∈ add, ∀ q ∈ l, q.1 ≠ p.1) (hj : J (add ++ news₁)) :
    ZEnd h₀ L m s l news₁ J { s with heap := h', toks := tk' } := ⟨h', tk', add, rfl, F, N, ho, hj⟩
section
variable {prog : Program} {w : World} {A : Around} {E : Value → Shared → Prop} {s : Shared} {h₀ : Heap} {L : Addr} {m : LMap} {env : Env}
theorem call_zip_src {elt : PySem.Expr} {x x₂ y : Str} {scope : Scope} {cl : List (Str × Addr)} {J : Nat → List Value → Led → Prop} {Q : Flow → Shared → Prop} {l1 l2 : Addr} {as bs : List Value} {k1 k2 : Nat} {news : Led}
    (hh : A.handled = none) (F : Fr h₀ L s.heap m) (N : News h₀ L s.heap news) (ha : (l1, listOf as.toArray k1) ∈ news) (hb : (l2, listOf bs.toArray k2) ∈ news) (hsz : as.length ≤ 1000) (j0 : J 0 [] news)
    (turn : ∀ (i : Nat) (ys : List Value) (news₁ own : Led) (C : Addr) (oC : Obj) (D : Addr) (m₂ : LMap) (v₁ v₂ : Value) (h : Heap) (tk : Nat) (E' : Value → Shared → Prop), as[i]? = some v₁ → bs[i]? = some v₂ → ys.length = i → J i ys news₁ → NsObj oC m₂ → m₂ x = some v₁ → m₂ x₂ = some v₂ → Fr h₀ L h m →
      News h₀ L h ((C, oC) :: (D, lst ys) :: (news₁ ++ own)) →
      wpAny (model prog w) A (eval elt (compEnvC scope cl C env)) (fun y s' => ZEnd h₀ L m { s with heap := h, toks := tk } ((C, oC) :: (D, lst ys) :: (news₁ ++ own)) news₁ (J (i + 1) (ys ++ [y])) s') E' { s with heap := h, toks := tk })
    (done : ∀ D ys news' h tk, ys.length = min as.length bs.length → J (min as.length bs.length) ys news' → Fr h₀ L h (fun z => if z = y then some (.ref D) else m z) → News h₀ L h ((D, lst ys) :: news') → (∀ p ∈ news', p.1 ≠ D) → Q .next { s with heap := h, toks := tk }) :
    wpAny (model prog w) A (call (.type "zip") [.ref l1, .ref l2]) (PairSrc prog w A h₀ L m env elt x x₂ y scope cl J Q) E s := by
  have hl1 : s.heap.IsList l1 as.toArray := News.isList N ha
  have hl2 : s.heap.IsList l2 bs.toArray := News.isList N hb
  have lt1 : @LT.lt Nat _ l1 s.heap.objs.size := Heap.lt_size (N _ ha).1
  have lt2 : @LT.lt Nat _ l2 s.heap.objs.size := Heap.lt_size (N _ hb).1
  have hLlt : @LT.lt Nat _ L s.heap.objs.size := F.ns.lt
  have newlt : ∀ p ∈ news, @LT.lt Nat _ p.1 s.heap.objs.size := fun p hp => Heap.lt_size (N p hp).1
  have fresh₀ : ∀ b, @LE.le Nat _ s.heap.objs.size b → h₀.get? b = none := fun b hb => by
    cases e : h₀.get? b with
    | none => rfl
    | some o' => exact absurd (Heap.lt_size (F.keep b o' e)) (Nat.not_lt.mpr hb)
  refine call_zip_2 hl1 hl2 fun h' hz hTI hTO h1 h2 hs5 hold => ?_
  have Dz : ZipApart (s.heap.objs.size + 4) (s.heap.objs.size + 2) (s.heap.objs.size + 3) s.heap.objs.size (s.heap.objs.size + 1) l1 l2 := by
    generalize s.heap.objs.size = z at lt1 lt2
    constructor <;> first | exact Nat.ne_of_gt (by omega) | exact Nat.ne_of_lt (by omega)
  have W := WalksT.zip2 (prog := prog) (w := w) hh _ _ _ _ _ l1 l2 Dz as.toArray bs.toArray
  have hmin : min as.toArray.size bs.toArray.size = min as.length bs.length := by simp
  rw [hmin] at W
  have inwr : ∀ b ∈ [s.heap.objs.size + 4, s.heap.objs.size + 3, s.heap.objs.size, s.heap.objs.size + 1], s.heap.objs.size ≤ b := fun b hb => by
    simp only [List.mem_cons, List.not_mem_nil, or_false] at hb
    rcases hb with rfl | rfl | rfl | rfl <;> exact (by omega)
  refine ⟨_, _, _, _, _, _, _, news, rfl, hh, W, F.keeps hold, N.grown hold, ⟨hz, hTI, ⟨_, _, hTO⟩, h1, h2, hl1.at fun o e => hold _ o e, hl2.at fun o e => hold _ o e⟩, fun b hb => ?_, fun b hb => fresh₀ b (inwr b hb), fun hm => ?_, fun p hp hw => absurd (newlt p hp) (Nat.not_lt.mpr (inwr _ hw)), ?_, ?_, j0, fun i vals hP => ?_, ?_, done⟩
  · show @LT.lt Nat _ b h'.objs.size
    rw [hs5]
    simp only [List.mem_cons, List.not_mem_nil, or_false] at hb
    rcases hb with rfl | rfl | rfl | rfl | rfl | rfl | rfl <;> exact (by omega)
  · simp only [List.mem_cons, List.not_mem_nil, or_false] at hm
    rcases hm with rfl | rfl | rfl | rfl | rfl | rfl | rfl
    · exact absurd hLlt (by omega)
    · exact absurd hLlt (by omega)
    · exact absurd hLlt (by omega)
    · exact absurd hLlt (by omega)
    · exact absurd hLlt (by omega)
    · exact (N _ ha).2.1 rfl
    · exact (N _ hb).2.1 rfl
  · rintro b hb - i h ⟨a1, a2, ⟨_, _, a3⟩, ⟨_, a4, _⟩, ⟨_, a5, _⟩, ⟨_, a6, _⟩, ⟨_, a7, _⟩⟩
    simp only [List.mem_cons, List.not_mem_nil, or_false] at hb
    rcases hb with rfl | rfl | rfl | rfl | rfl | rfl | rfl
    · exact ⟨_, a1⟩
    · exact ⟨_, a2⟩
    · exact ⟨_, a3⟩
    · exact ⟨_, a4⟩
    · exact ⟨_, a5⟩
    · exact ⟨_, a6⟩
    · exact ⟨_, a7⟩
  · rw [sizeLine_eq]; omega
  · obtain ⟨a, b, _, _, e⟩ := hP
    exact ⟨a, b, e⟩
  · intro i ys news₁ own C oC D m₂ v₁ v₂ h tk E' hi hyl hJ hP hN hx hx₂ F₁ N₁ hown off₁ offo hCD
    obtain ⟨a, b, ea, eb, e⟩ := hP
    simp only [Array.mk.injEq, List.cons.injEq, and_true] at e
    obtain ⟨rfl, rfl⟩ := e
    rw [List.getElem?_toArray] at ea eb
    refine wpAny_mono (turn i ys news₁ own C oC D m₂ _ _ h tk E' ea eb hyl hJ hN hx hx₂ F₁ N₁) (fun y' s' hq => ?_) fun _ _ e => e
    obtain ⟨h₂, tk₂, add, rfl, F₂, N₂, offA, hJ₂⟩ := hq
    refine ⟨h₂, tk₂, add ++ news₁, rfl, F₂, sub (fun p hp => ?_) N₂, fun p hp => ?_, hJ₂⟩
    · simp only [List.mem_cons, List.mem_append] at hp ⊢
      rcases hp with hp | hp | (hp | hp) | hp
      · exact .inr (.inl hp)
      · exact .inr (.inr (.inl hp))
      · exact .inl hp
      · exact .inr (.inr (.inr (.inl hp)))
      · exact .inr (.inr (.inr (.inr hp)))
    · rcases List.mem_append.mp hp with hp | hp
      · refine ⟨Ne.symm (offA p hp (C, oC) List.mem_cons_self), Ne.symm (offA p hp (D, lst ys) (List.mem_cons_of_mem _ List.mem_cons_self)), fun hw => ?_⟩
        obtain ⟨o, ho⟩ := hown _ hw
        exact offA p hp (p.1, o) (List.mem_cons_of_mem _ (List.mem_cons_of_mem _ (List.mem_append_right _ ho))) rfl
      · exact off₁ p hp
end
end Mine
end

section
open PySem PySem.W PyProof.Rows PySem.Spec PySem.Calls PyProof.Rows.LCg PyProof.Rows.LCp
set_option Elab.async false
set_option maxRecDepth 100000
set_option maxHeartbeats 2000000
namespace Mine
section
variable {prog : Program} {w : World} {A : Around} {E : Value → Shared → Prop} {s : Shared} {h₀ : Heap} {L : Addr} {m : LMap} {env : Env}
/-- a turn's end: the ledger as it was -/
def PEnd (h₀ : Heap) (L : Addr) (m : LMap) (s : Shared) (l : Led) (J : Prop) (s' : Shared) : Prop := ∃ h' tk', s' = { s with heap := h', toks := tk' } ∧ Fr h₀ L h' m ∧ News h₀ L h' l ∧ J
theorem PEnd.intro {h₀ : Heap} {L : Addr} {m : LMap} {s : Shared} {l : Led} {J : Prop} {h' : Heap} {tk' : Nat} (F : Fr h₀ L h' m) (N : News h₀ L h' l) (hj : J) : PEnd h₀ L m s l J { s with heap := h', toks := tk' } := ⟨h', tk', rfl, F, N, hj⟩
/-- a ledger's list of pairs, one test, an element that makes nothing -/
def PtSrc (prog : Program) (w : World) (A : Around) (h₀ : Heap) (L : Addr) (m : LMap) (env : Env) (ct elt : PySem.Expr) (x x₂ : Str) (scope : Scope) (cl : List (Str × Addr)) (J : Nat → List Value → Prop) (Q : Value → Shared → Prop) (xv : Value) (s₁ : Shared) : Prop :=
  ∃ ax vs k news, xv = .ref ax ∧ A.handled = none ∧ Fr h₀ L s₁.heap m ∧ News h₀ L s₁.heap news ∧ (ax, listOf vs k) ∈ news ∧ vs.size ≤ sizeLine ∧ J 0 [] ∧
    (∀ (i : Nat), i < vs.size → ∃ t ot v₁ v₂ nt, vs[i]? = some (.ref t) ∧ (t, ot) ∈ news ∧ ot.cls = .type "tuple" ∧ ot.data = .seq #[v₁, v₂] nt ∧
      ∀ (ys : List Value) (I : Addr) (oI : Obj) (C : Addr) (oC : Obj) (D : Addr) (m₂ : LMap) (h : Heap) (tk : Nat) (E' : Value → Shared → Prop), J i ys → NsObj oC m₂ → m₂ x = some v₁ → m₂ x₂ = some v₂ → Fr h₀ L h m →
        News h₀ L h ((I, oI) :: (C, oC) :: (D, lst ys) :: news) → Off3 I C D news → (@Ne Nat I C ∧ @Ne Nat I D ∧ @Ne Nat C D) →
        wpAny (model prog w) A (isTrue ct (compEnvC scope cl C env) (eval ct (compEnvC scope cl C env))) (fun ok s' =>
          if ok = true then wpAny (model prog w) A (eval elt (compEnvC scope cl C env)) (fun y s'' => PEnd h₀ L m { s₁ with heap := h, toks := tk } ((I, oI) :: (C, oC) :: (D, lst ys) :: news) (J (i + 1) (ys ++ [y])) s'') E' s'
          else PEnd h₀ L m { s₁ with heap := h, toks := tk } ((I, oI) :: (C, oC) :: (D, lst ys) :: news) (J (i + 1) ys) s') E' { s₁ with heap := h, toks := tk }) ∧
    (∀ D ys h tk, ys.length ≤ vs.size → J vs.size ys → Fr h₀ L h m → News h₀ L h ((D, lst ys) :: news) → (∀ p ∈ news, p.1 ≠ D) → Q (.ref D) { s₁ with heap := h, toks := tk })

theorem comp_ptest {ct elt iter : PySem.Expr} {x x₂ : Str} {px px₂ tp : Pos} {tkk} {scope : Scope} {cl : List (Str × Addr)} {pos : Pos} {Q : Value → Shared → Prop} (J : Nat → List Value → Prop) (_F₀ : Fr h₀ L s.heap m)
    (hclos : closureFor scope env = pure cl) (hcell : ∀ z ∈ scope.names, z.2 ≠ .cell) (hkind : scope.kind = .function)
    (hnames : ∀ z ∈ scope.names, z.2 = .local → scope.names.lookup z.1 = some .local) (hx : scope.names.lookup x = some .local) (hx₂ : scope.names.lookup x₂ = some .local) (hxx : x ≠ x₂)
    (h : wpAny (model prog w) A (eval iter env) (PtSrc prog w A h₀ L m env ct elt x x₂ scope cl J Q) E s)
    (hs : ∀ x, foldedSetIterable iter env x = pure x := by intro _; rfl) :
    wpAny (model prog w) A (eval (.ListComp elt [⟨.Tuple [.Name x px, .Name x₂ px₂] tkk tp, iter, [ct], 0⟩] scope pos) env) Q E s := by
  rw [eval_ListComp]
  refine wpAny_comprehension_free (use := none) rfl hs hclos hkind hnames (wpAny_mono h (fun xv s₁ h₁ => ?_) fun _ _ e => e)
  obtain ⟨ax, vs, k₀, news, rfl, hh, F, N, hax, hsz, j0, turn, done⟩ := h₁
  have hl : s₁.heap.IsList ax vs := ⟨_, (N _ hax).1, rfl, k₀, rfl⟩
  have hlt : @LT.lt Nat _ ax s₁.heap.objs.size := Heap.lt_size (N _ hax).1
  refine wpAny_pyIter_list hl ?_
  generalize hH1 : s₁.heap.push { cls := .type "list_iterator", data := .fields #[.ref ax, .int 0 0] } = H1
  have up : ∀ b o, s₁.heap.get? b = some o → H1.get? b = some o := fun b o e => hH1 ▸ Heap.get?_push_of_some _ e
  have hz1 : H1.objs.size = s₁.heap.objs.size + 1 := by rw [← hH1, Heap.size_push]
  have W := Walks.list (prog := prog) (w := w) hh s₁.heap.objs.size ax (Nat.ne_of_lt hlt) vs
  have hst : H1.IsListIter s₁.heap.objs.size ax 0 ∧ H1.IsList ax vs := ⟨⟨_, by rw [← hH1]; exact Heap.get?_push_size _ rfl, rfl, rfl⟩, hH1 ▸ hl.push _⟩
  refine wpAny_newObj_type (wpAny_newFunctionEnv hcell (by intro y hy; simp at hy) (fun h₁ hns₁ hsb₁ => ?_) hkind)
  dsimp only at hns₁ hsb₁ ⊢
  generalize hH2 : H1.push { cls := .type "list", dict := none, data := .seq ([] : List Value).toArray } = H2 at hns₁ hsb₁ ⊢
  have hC : H2.objs.size = s₁.heap.objs.size + 2 := by rw [← hH2, Heap.size_push, hz1]
  have old1 : ∀ b o, H1.get? b = some o → h₁.get? b = some o := fun b o e => hsb₁.extBut b o (by have := Heap.lt_size e; rw [hz1] at this; rw [hC]; exact Nat.ne_of_lt (Nat.lt_succ_of_lt this)) (Heap.get?_push_of_some _ (hH2 ▸ Heap.get?_push_of_some _ e))
  have old : ∀ b o, s₁.heap.get? b = some o → h₁.get? b = some o := fun b o e => old1 b o (up b o e)
  have hacc : h₁.get? H1.objs.size = some (lst []) := hsb₁.extBut _ _ (by rw [hC, hz1]; exact Nat.ne_of_lt (Nat.lt_succ_self _)) (Heap.get?_push_of_some _ (hH2 ▸ Heap.get?_push_size _ rfl))
  have hst₁ : h₁.IsListIter s₁.heap.objs.size ax 0 ∧ h₁.IsList ax vs := W.frame _ _ _ hst fun b _ o e => old1 b o e
  generalize hId : s₁.heap.objs.size = I at *
  generalize hDd : H1.objs.size = D at *
  generalize hCd : H2.objs.size = C at *
  clear hH2 hH1
  have newlt : ∀ p ∈ news, @LT.lt Nat _ p.1 I := fun p hp => hId ▸ Heap.lt_size (N p hp).1
  have hLlt : @LT.lt Nat _ L I := hId ▸ F.ns.lt
  have fresh₀ : ∀ b, @LE.le Nat _ I b → h₀.get? b = none := fun b hb => by
    cases e : h₀.get? b with
    | none => rfl
    | some o' => exact absurd (Heap.lt_size (F.keep b o' e)) (by rw [hId]; exact Nat.not_lt.mpr hb)
  have hI₀ : h₀.get? I = none := fresh₀ _ (Nat.le_refl _)
  have hD₀ : h₀.get? D = none := fresh₀ _ (by omega)
  have hC₀ : h₀.get? C = none := fresh₀ _ (by omega)
  have hIL : L ≠ I := Nat.ne_of_lt hLlt
  have hDL : D ≠ L := Nat.ne_of_gt (by omega)
  have hCL : C ≠ L := Nat.ne_of_gt (by omega)
  have hDC : D ≠ C := Nat.ne_of_lt (by omega)
  have hID : I ≠ D := Nat.ne_of_lt (by omega)
  have hIC : I ≠ C := Nat.ne_of_lt (by omega)
  have off : ∀ p ∈ news, p.1 ≠ I ∧ p.1 ≠ C ∧ p.1 ≠ D := fun p hp => by
    have := newlt p hp
    exact ⟨Nat.ne_of_lt this, Nat.ne_of_lt (by omega), Nat.ne_of_lt (by omega)⟩
  have loop : ∀ s₃ : Shared, s₃ = { s₁ with heap := h₁, toks := s₁.toks + ([] : List (Str × Value)).length } →
      codeAny (model prog w) A (.compLoop (.ListComp elt [⟨.Tuple [.Name x px, .Name x₂ px₂] tkk tp, iter, [ct], 0⟩] scope pos) 0 (.ref I) (.ref D) (compEnvC scope cl C env))
        (compPost (model prog w) A E none Q (.ref D) C) s₃ := by
    rintro s₃ rfl
    refine PySem.W.kct_loop
      (fun k s' => ∃ h' tk i ys m', s' = { s₁ with heap := h', toks := tk } ∧ i ≤ vs.size ∧ k = vs.size + 1 - i ∧ ys.length ≤ i ∧ (h'.IsListIter I ax i ∧ h'.IsList ax vs) ∧ Fr h₀ L h' m ∧ h'.Ns C m' ∧ News h₀ L h' ((D, lst ys) :: news) ∧ J i ys) ?_ (vs.size + 1)
      ⟨h₁, _, 0, [], _, rfl, Nat.zero_le _, rfl, Nat.le_refl _, hst₁, F.keeps old, hns₁, fun p hp => ?_, j0⟩
    · rintro k s' ⟨h', tk, i, ys, m', rfl, hi, rfl, hyl, hst', F', hn', N', hJ⟩
      by_cases hlti : i < vs.size
      · refine W.item i _ _ _ hlti hst' fun v h₂ tk₂ hPv hst₂ hk₂ => ?_
        obtain ⟨t, ot, v₁, v₂, nt, hvt, hmt, hct, hdt, R''⟩ := turn i hlti
        have hPv' : vs[i]? = some v := hPv
        rw [hvt] at hPv'
        cases hPv'
        have N₂ : News h₀ L h₂ ((D, lst ys) :: news) := news_but N' hk₂ fun p hp => by
          rcases List.mem_cons.mp hp with rfl | hp
          · exact Ne.symm hID
          · exact (off p hp).1
        have ht : IsTup h₂ t #[v₁, v₂] := ⟨ot, (N₂ _ (List.mem_cons_of_mem _ hmt)).1, hct, nt, hdt⟩
        refine wpAny_letOwnedTupleGo_listiter hst₂.1 ?_
        refine assign_Tuple_tuple hh ht rfl rfl fun h₅ he => ?_
        have he' : ∀ b o, h₂.get? b = some o → h₅.get? b = some o := fun b o e => he b o (Nat.ne_of_lt (Heap.lt_size e)) e
        refine assignInOrder_cons (wpAny_assign_Name (wpAny_storeName_local (lookup_relabel_local hx) ((hn'.at' fun o e => hk₂ _ o (by simpa using Ne.symm hIC) e).at' fun o e => he' _ o e) (fun h₆ hn₆ hs₆ => ?_) (by simp [compEnvC, relabel, hkind])))
        refine assignInOrder_cons (wpAny_assign_Name (wpAny_storeName_local (lookup_relabel_local hx₂) hn₆ (fun h₃ hn₃ hs₃ => ?_) (by simp [compEnvC, relabel, hkind])))
        refine assignInOrder_nil ?_
        have old3 : ∀ b o, b ≠ C → h₂.get? b = some o → h₃.get? b = some o := fun b o hb e => hs₃.extBut b o hb (hs₆.extBut b o hb (he' b o e))
        have hst₃ : h₃.IsListIter I ax (i + 1) ∧ h₃.IsList ax vs := W.frame _ _ _ hst₂ fun b hb o e => old3 b o (by
          rcases List.mem_cons.mp hb with rfl | hb
          · exact hIC
          · rw [List.mem_singleton.mp hb]; exact (off _ hax).2.1) e
        obtain ⟨oI, heI, hoI⟩ := hst₃.1
        obtain ⟨oC, heC, hoC⟩ := ns_obj hn₃
        have F₃ : Fr h₀ L h₃ m := (((fr_but F' hk₂ hIL hI₀).keeps he').change hs₆ hCL hC₀).change hs₃ hCL hC₀
        have N₃ : News h₀ L h₃ ((I, oI) :: (C, oC) :: (D, lst ys) :: news) := fun p hp => by
          rcases List.mem_cons.mp hp with rfl | hp
          · exact ⟨heI, Ne.symm hIL, hI₀⟩
          · rcases List.mem_cons.mp hp with rfl | hp
            · exact ⟨heC, hCL, hC₀⟩
            · have z := N₂ p hp
              refine ⟨old3 _ _ ?_ z.1, z.2⟩
              rcases List.mem_cons.mp hp with rfl | hp
              · exact hDC
              · exact (off p hp).2.1
        have offs : Off3 I C D news := Off3.of off
        refine wpAny_mono (R'' ys I oI C oC D _ h₃ _ _ hJ hoC (by simp [hxx]) (by simp) F₃ N₃ offs ⟨hIC, hID, Ne.symm hDC⟩) (fun ok s₄ h₄ => ?_) fun _ _ e => e
        have fin : ∀ h₅ tk₅ ys', ys'.length ≤ i + 1 → Fr h₀ L h₅ m → News h₀ L h₅ ((D, lst ys') :: news) → h₅.get? I = some oI → h₅.get? C = some oC → J (i + 1) ys' →
            ∃ m_1, m_1 < vs.size + 1 - i ∧ ∃ h' tk i ys m', ({ s₁ with heap := h₅, toks := tk₅ } : Shared) = { s₁ with heap := h', toks := tk } ∧ i ≤ vs.size ∧ m_1 = vs.size + 1 - i ∧ ys.length ≤ i ∧ (h'.IsListIter I ax i ∧ h'.IsList ax vs) ∧ Fr h₀ L h' m ∧ h'.Ns C m' ∧ News h₀ L h' ((D, lst ys) :: news) ∧ J i ys :=
          fun h₅ tk₅ ys' hy F₅ N₅ eI eC hJ' => ⟨vs.size + 1 - (i + 1), by omega, h₅, tk₅, i + 1, ys', _, rfl, hlti, rfl, hy, ⟨⟨oI, eI, hoI⟩, ⟨_, (N₅ _ (List.mem_cons_of_mem _ hax)).1, rfl, k₀, rfl⟩⟩, F₅, hoC.ns eC, N₅, hJ'⟩
        cases ok with
        | true =>
          simp only [if_true] at h₄ ⊢
          refine wpAny_mono h₄ (fun y s₅ h₅ => ?_) fun _ _ e => e
          obtain ⟨h₄, tk₄, rfl, F₄, N₄, hJ₄⟩ := h₅
          have zI := (N₄ (I, oI) List.mem_cons_self).1
          have zC := (N₄ (C, oC) (List.mem_cons_of_mem _ List.mem_cons_self)).1
          have zD := (N₄ (D, lst ys) (List.mem_cons_of_mem _ (List.mem_cons_of_mem _ List.mem_cons_self))).1
          refine append_at (hsz := by show ys.toArray.size ≤ sizeLine; rw [List.size_toArray]; exact Nat.le_trans hyl (Nat.le_trans hi hsz)) zD fun h₅ hs₅ hD₅ => ?_
          refine fin h₅ tk₄ (ys ++ [y]) (by simp; exact hyl) (F₄.change hs₅ hDL hD₀) (fun p hp => ?_) (hs₅.extBut _ _ hID zI) (hs₅.extBut _ _ (Ne.symm hDC) zC) hJ₄
          rcases List.mem_cons.mp hp with rfl | hp
          · exact ⟨hD₅.trans (congrArg some (lst_snoc ys y)), hDL, hD₀⟩
          · have z := N₄ p (List.mem_cons_of_mem _ (List.mem_cons_of_mem _ (List.mem_cons_of_mem _ hp)))
            exact ⟨hs₅.extBut _ _ (off p hp).2.2 z.1, z.2⟩
        | false =>
          simp only [Bool.false_eq_true, if_false] at h₄ ⊢
          obtain ⟨h₄, tk₄, rfl, F₄, N₄, hJ₄⟩ := h₄
          exact fin h₄ tk₄ ys (Nat.le_succ_of_le hyl) F₄ (fun p hp => N₄ p (List.mem_cons_of_mem _ (List.mem_cons_of_mem _ hp))) (N₄ (I, oI) List.mem_cons_self).1 (N₄ (C, oC) (List.mem_cons_of_mem _ List.mem_cons_self)).1 hJ₄
      · obtain rfl : i = vs.size := Nat.le_antisymm hi (Nat.not_lt.mp hlti)
        refine W.done _ _ _ hst' fun h₂ tk₂ hk₂ => ?_
        have F₂ : Fr h₀ L h₂ m := fr_but F' hk₂ hIL hI₀
        refine ⟨m', hn'.at' fun o e => hk₂ _ o (by simpa using Ne.symm hIC) e, fun h'' hs'' => ?_⟩
        refine done D ys h'' _ hyl hJ (F₂.change hs'' hCL hC₀) (fun p hp => ?_) (fun p hp => (off p hp).2.2)
        rcases List.mem_cons.mp hp with rfl | hp
        · have z := N' (D, lst ys) List.mem_cons_self
          exact ⟨hs''.extBut _ _ hDC (hk₂ _ _ (by simpa using Ne.symm hID) z.1), z.2⟩
        · have z := N' p (List.mem_cons_of_mem _ hp)
          exact ⟨hs''.extBut _ _ (off p hp).2.1 (hk₂ _ _ (by simpa using (off p hp).1) z.1), z.2⟩
    · rcases List.mem_cons.mp hp with rfl | hp
      · exact ⟨hacc, hDL, hD₀⟩
      · exact ⟨old _ _ (N p hp).1, (N p hp).2⟩
  exact codeAny_compStart_list (loop _ rfl) (W.self 0 _ _ _ hst₁ (loop _ rfl))
end
end Mine
end

section
open PySem PySem.W PyProof.Rows PySem.Spec
set_option Elab.async false
set_option maxRecDepth 100000
namespace Mine
/-! what the law's loops compute -/
def zipP (first : Int) : List Int → List Int → List (Int × Int)
  | a :: as, b :: bs => (a, first + b) :: zipP first as bs
  | _, _ => []
def missN (ns : List Int) (P : List (Int × Int)) : Nat := (P.filter fun p => !decide ((p.2 + 7).fmod 8 = ns.getD p.1.toNat 0)).length
def costP (ns : List Int) (M : Nat) (P : List (Int × Int)) : Int := (ns.length : Int) + (M : Int) - 2 * (P.length : Int) + (missN ns P : Int)
abbrev St := Int × List (Int × Int)
def stepF (ns : List Int) (first : Int) (M : Nat) (a : List Int) (st : St) (b : List Int) : St :=
  if a.length = b.length then
    if costP ns M (zipP first a b) < st.1 then (costP ns M (zipP first a b), zipP first a b)
    else if costP ns M (zipP first a b) = st.1 then (st.1, st.2 ++ zipP first a b) else st
  else st
def innerF (ns : List Int) (first : Int) (M : Nat) (a : List Int) (st : St) : Nat → St
  | 0 => st
  | j + 1 => stepF ns first M a (innerF ns first M a st j) (pickTo M j)
def outerF (ns : List Int) (first : Int) (M : Nat) : Nat → St
  | 0 => ((ns.length : Int) + (M : Int) + 9, [])
  | i + 1 => innerF ns first M (pickTo ns.length i) (outerF ns first M i) (2 ^ M)

theorem zipP_len (first : Int) : ∀ (a b : List Int), (zipP first a b).length ≤ a.length
  | [], _ => by simp [zipP]
  | _ :: _, [] => by simp [zipP]
  | a :: as, b :: bs => by have := zipP_len first as bs; simp [zipP]; omega
theorem pickTo_len (a j : Nat) : (pickTo a j).length ≤ a := by
  unfold pickTo; rw [List.length_map]
  exact Nat.le_trans (List.length_filter_le _ _) (by simp)
theorem step_len (ns : List Int) (first : Int) (M : Nat) (a : List Int) (st : St) (b : List Int) : (stepF ns first M a st b).2.length ≤ st.2.length + a.length := by
  have := zipP_len first a b
  unfold stepF
  split
  · split
    · show (zipP first a b).length ≤ _; omega
    · split
      · show (st.2 ++ zipP first a b).length ≤ _; rw [List.length_append]; omega
      · omega
  · omega
theorem inner_len (ns : List Int) (first : Int) (M : Nat) (a : List Int) (st : St) : ∀ j, (innerF ns first M a st j).2.length ≤ st.2.length + j * a.length
  | 0 => by simp [innerF]
  | j + 1 => by
    have h1 := inner_len ns first M a st j
    have h2 := step_len ns first M a (innerF ns first M a st j) (pickTo M j)
    rw [innerF, Nat.succ_mul]; omega
theorem outer_len (ns : List Int) (first : Int) (M : Nat) : ∀ i, (outerF ns first M i).2.length ≤ i * (2 ^ M * ns.length)
  | 0 => by simp [outerF]
  | i + 1 => by
    have h1 := outer_len ns first M i
    have h2 := inner_len ns first M (pickTo ns.length i) (outerF ns first M i) (2 ^ M)
    have h3 : 2 ^ M * (pickTo ns.length i).length ≤ 2 ^ M * ns.length := Nat.mul_le_mul_left _ (pickTo_len _ _)
    rw [outerF, Nat.succ_mul]; omega
theorem outer_small {ns : List Int} {first : Int} {M i : Nat} (hn : ns.length ≤ 4) (hM : M ≤ 4) (hi : i ≤ 2 ^ ns.length) : (outerF ns first M i).2.length ≤ 1024 := by
  have h1 := outer_len ns first M i
  have a1 : 2 ^ ns.length ≤ 16 := Nat.le_trans (Nat.pow_le_pow_right (by decide) hn) (by decide)
  have a2 : 2 ^ M ≤ 16 := Nat.le_trans (Nat.pow_le_pow_right (by decide) hM) (by decide)
  have : i * (2 ^ M * ns.length) ≤ 16 * (16 * 4) := Nat.mul_le_mul (by omega) (Nat.mul_le_mul a2 hn)
  omega
theorem inner_small {ns : List Int} {first : Int} {M i j : Nat} (hn : ns.length ≤ 4) (hM : M ≤ 4) (hi : i < 2 ^ ns.length) (hj : j ≤ 2 ^ M) : (innerF ns first M (pickTo ns.length i) (outerF ns first M i) j).2.length ≤ 2000 := by
  have h1 := outer_small (first := first) hn hM (Nat.le_of_lt hi)
  have h2 := inner_len ns first M (pickTo ns.length i) (outerF ns first M i) j
  have a2 : 2 ^ M ≤ 16 := Nat.le_trans (Nat.pow_le_pow_right (by decide) hM) (by decide)
  have h3 : j * (pickTo ns.length i).length ≤ 16 * 4 := Nat.mul_le_mul (by omega) (Nat.le_trans (pickTo_len _ _) hn)
  omega

/-- between the turns -/
def LJ2 (Kn : List (Str × Value)) (base : Led) (stt : Nat → St) (i : Nat) (m : LMap) (led : Led) : Prop :=
  (∀ p ∈ base, p ∈ led) ∧ ∃ lt fo fs fe, Knows m ((Str.ofString "least", .int (stt i).1 lt) :: (Str.ofString "found", .ref fo) :: Kn) ∧ (fo, listOf (List.toArray fs) fe) ∈ led ∧ TupsAre led fs (stt i).2
def LJ3 (Kn : List (Str × Value)) (base : Led) (it : Addr × Obj) (stt : Nat → St) (j : Nat) (m : LMap) (led : Led) : Prop :=
  ∃ tail, led = it :: tail ∧ (∀ p ∈ tail, p.1 ≠ it.1) ∧ LJ2 Kn base stt j m tail
theorem LJ3.intro {Kn : List (Str × Value)} {base : Led} {it : Addr × Obj} {stt : Nat → St} {j : Nat} {m : LMap} {tail : Led} {lt : Tok} {fo : Addr} {fs : List Value} {fe : Nat} (st' : St) (hst : stt j = st') (hoff : ∀ p ∈ tail, p.1 ≠ it.1) (hb : ∀ p ∈ base, p ∈ tail)
    (hk : Knows m ((Str.ofString "least", .int st'.1 lt) :: (Str.ofString "found", .ref fo) :: Kn)) (hm : (fo, listOf (List.toArray fs) fe) ∈ tail) (ht : TupsAre tail fs st'.2) : LJ3 Kn base it stt j m (it :: tail) := by
  subst hst; exact ⟨tail, rfl, hoff, hb, lt, fo, fs, fe, hk, hm, ht⟩
theorem step_ne {ns : List Int} {first : Int} {M : Nat} {a : List Int} {st : St} {b : List Int} (h : (a.length : Int) ≠ (b.length : Int)) : stepF ns first M a st b = st := by
  unfold stepF; rw [if_neg (by omega)]
theorem led_whole {h₀ h : Heap} {L : Addr} {l : Led} (_N : News h₀ L h l) : ∃ l', l' = l := ⟨l, rfl⟩
theorem ints_val {vs : List Value} {ns : List Int} (h : IntsAre vs ns) {q : Nat} {v : Value} (e : vs[q]? = some v) : ∃ a t, v = .int a t ∧ ns[q]? = some a := by
  have hq : q < vs.length := (List.getElem?_eq_some_iff.mp e).1
  have hq' : q < ns.length := h.length ▸ hq
  obtain ⟨t, ht⟩ := h.get q ns[q] (List.getElem?_eq_getElem hq')
  rw [e] at ht
  exact ⟨_, t, Option.some.inj ht, List.getElem?_eq_getElem hq'⟩
theorem zipP_take (first : Int) {a b : Int} : ∀ {as bs : List Int} {q : Nat}, as[q]? = some a → bs[q]? = some b → zipP first (as.take (q + 1)) (bs.take (q + 1)) = zipP first (as.take q) (bs.take q) ++ [(a, first + b)]
  | x :: as, y :: bs, 0, h1, h2 => by simp at h1 h2; subst h1 h2; simp [zipP]
  | x :: as, y :: bs, q + 1, h1, h2 => by
    simp only [List.getElem?_cons_succ] at h1 h2
    have := zipP_take first h1 h2
    simp only [List.take_succ_cons, zipP, this, List.cons_append]
  | [], _, q, h1, _ => by simp at h1
  | _ :: _, [], q, _, h2 => by simp at h2
/-- pairs made so far -/
def ZJ (L16 : Led) (it it2 : Addr × Obj) (first : Int) (as bs : List Int) (q : Nat) (ys : List Value) (led : Led) : Prop :=
  ∃ own, led = own ++ L16 ∧ (∀ p ∈ own, p.1 ≠ it.1 ∧ p.1 ≠ it2.1) ∧ TupsAre own ys (zipP first (as.take q) (bs.take q))
theorem more1 {h₀ h : Heap} {L : Addr} {a b c : Addr × Obj} {r : Led} (hc : c ∈ r) (N : News h₀ L h (a :: b :: r)) : News h₀ L h (a :: b :: c :: r) :=
  sub (fun p hp => by simp only [List.mem_cons] at hp ⊢; rcases hp with rfl | rfl | rfl | h <;> first | exact .inl rfl | exact .inr (.inl rfl) | exact .inr (.inr (by assumption))) N
theorem zipP_full {first : Int} {as bs : List Int} {vs ws : List Value} (ha : IntsAre vs as) (hb : IntsAre ws bs) (h : (as.length : Int) = (bs.length : Int)) :
    zipP first (as.take (min vs.length ws.length)) (bs.take (min vs.length ws.length)) = zipP first as bs := by
  have h1 := ha.length
  have h2 := hb.length
  rw [List.take_of_length_le (by omega), List.take_of_length_le (by omega)]
theorem off_tuple {C D c P : Addr} {oC oD : Obj} {l : Led} (h : C < P ∧ D < P ∧ c < P ∧ AllLt P l) : ∀ q ∈ (C, oC) :: (D, oD) :: l, q.1 ≠ P := fun q hq => by
  rcases List.mem_cons.mp hq with rfl | hq
  · exact Nat.ne_of_lt h.1
  · rcases List.mem_cons.mp hq with rfl | hq
    · exact Nat.ne_of_lt h.2.1
    · exact allLt_ne h.2.2.2 q hq
theorem ZJ.step {L16 own2 : Led} {it it2 : Addr × Obj} {first : Int} {as bs : List Int} {q : Nat} {ys : List Value} {P : Addr} {a b : Int} {ta tb : Tok} (hoff : ∀ p ∈ own2, p.1 ≠ it.1 ∧ p.1 ≠ it2.1) (htz : TupsAre own2 ys (zipP first (as.take q) (bs.take q)))
    (ea : as[q]? = some a) (eb : bs[q]? = some b) (h1 : it.1 ≠ P) (h2 : it2.1 ≠ P) : ZJ L16 it it2 first as bs (q + 1) (ys ++ [.ref P]) ([(P, tup2 (.int a ta) (.int (first + b) tb))] ++ (own2 ++ L16)) := by
  refine ⟨(P, tup2 (.int a ta) (.int (first + b) tb)) :: own2, rfl, List.forall_mem_cons.mpr ⟨⟨Ne.symm h1, Ne.symm h2⟩, hoff⟩, ?_⟩
  rw [zipP_take first ea eb]
  exact (htz.mono fun p hp => List.mem_cons_of_mem _ hp).append (.cons List.mem_cons_self .nil)
theorem more66 {h₀ h : Heap} {L : Addr} {x a b c d e f : Addr × Obj} {r : Led} (ha : a ∈ r) (hb : b ∈ r) (hc : c ∈ r) (hd' : d ∈ r) (he : e ∈ r) (hf : f ∈ r) (N : News h₀ L h (x :: r)) : News h₀ L h (x :: a :: b :: c :: d :: e :: f :: r) :=
  sub (fun p hp => by simp only [List.mem_cons] at hp ⊢; rcases hp with rfl | rfl | rfl | rfl | rfl | rfl | rfl | h <;> first | exact .inl rfl | exact .inr (by assumption)) N
theorem more66l {h₀ h : Heap} {L D : Addr} {ys : List Value} {a b c d e f : Addr × Obj} {r : Led} (ha : a ∈ r) (hb : b ∈ r) (hc : c ∈ r) (hd' : d ∈ r) (he : e ∈ r) (hf : f ∈ r) (N : News h₀ L h ((D, LCg.lst ys) :: r)) : News h₀ L h ((D, listOf ys.toArray ys.length) :: a :: b :: c :: d :: e :: f :: r) := more66 ha hb hc hd' he hf N
theorem TupsAre.get {led : Led} {vs : List Value} {ps : List (Int × Int)} (h : TupsAre led vs ps) : ∀ {q : Nat}, q < vs.length → ∃ (a : Addr) (x y : Int) (t u : Tok), vs[q]? = some (.ref a) ∧ (a, tup2 (.int x t) (.int y u)) ∈ led ∧ ps[q]? = some (x, y) := by
  induction h with
  | nil => intro q hq; simp at hq
  | cons hm _ ih =>
    intro q hq
    cases q with
    | zero => exact ⟨_, _, _, _, _, rfl, hm, rfl⟩
    | succ q => exact ih (by simpa using hq)
theorem miss_take {ns : List Int} {P : List (Int × Int)} {q : Nat} {x y : Int} (e : P[q]? = some (x, y)) : missN ns (P.take (q + 1)) = missN ns (P.take q) + if (y + 7).fmod 8 = ns.getD x.toNat 0 then 0 else 1 := by
  unfold missN
  rw [List.take_add_one, e, List.filter_append, List.length_append]
  congr 1
  by_cases h : (y + 7).fmod 8 = ns.getD x.toNat 0
  · rw [if_pos h]; simp [h]
  · rw [if_neg h, Option.toList_some, List.filter_cons_of_pos (by simpa using h)]; rfl
theorem zipP_fst {first : Int} : ∀ {as bs : List Int} {q : Nat} {x y : Int}, (zipP first as bs)[q]? = some (x, y) → as[q]? = some x
  | a :: as, b :: bs, 0, x, y, h => by simp [zipP] at h; simp [h.1]
  | a :: as, b :: bs, q + 1, x, y, h => by
    simp only [zipP, List.getElem?_cons_succ] at h ⊢
    exact zipP_fst h
  | [], _, q, _, _, h => by simp [zipP] at h
  | _ :: _, [], q, _, _, h => by simp [zipP] at h
theorem pickTo_at {n i q : Nat} {x : Int} (h : (pickTo n i)[q]? = some x) : 0 ≤ x ∧ x < (n : Int) := by
  have hm : x ∈ pickTo n i := List.mem_of_getElem? h
  unfold pickTo at hm
  obtain ⟨k, hk, rfl⟩ := List.mem_map.mp hm
  have := List.mem_range.mp (List.mem_filter.mp hk).1
  omega
theorem miss_end {ns : List Int} {P : List (Int × Int)} {k : Nat} (h : k = P.length) : missN ns (P.take k) = missN ns P := by subst h; rw [List.take_length]
theorem step_lt {ns : List Int} {first : Int} {M : Nat} {a : List Int} {st : St} {b : List Int} {c : Int} (h : (a.length : Int) = (b.length : Int)) (hc : costP ns M (zipP first a b) = c) (hlt : c < st.1) : stepF ns first M a st b = (c, zipP first a b) := by
  subst hc; unfold stepF; rw [if_pos (by omega), if_pos hlt]
theorem step_eq {ns : List Int} {first : Int} {M : Nat} {a : List Int} {st : St} {b : List Int} {c : Int} (h : (a.length : Int) = (b.length : Int)) (hc : costP ns M (zipP first a b) = c) (hlt : ¬ c < st.1) (he : c = st.1) : stepF ns first M a st b = (st.1, st.2 ++ zipP first a b) := by
  subst hc; unfold stepF; rw [if_pos (by omega), if_neg hlt, if_pos he]
theorem step_gt {ns : List Int} {first : Int} {M : Nat} {a : List Int} {st : St} {b : List Int} {c : Int} (h : (a.length : Int) = (b.length : Int)) (hc : costP ns M (zipP first a b) = c) (hlt : ¬ c < st.1) (he : c ≠ st.1) : stepF ns first M a st b = st := by
  subst hc; unfold stepF; rw [if_pos (by omega), if_neg hlt, if_neg he]
theorem cost_is {ns : List Int} {M : Nat} {P : List (Int × Int)} {k z : Nat} (h1 : k = P.length) (h2 : z = missN ns P) : costP ns M P = (ns.length : Int) + (M : Int) - 2 * (k : Int) + (z : Int) := by subst h1 h2; rfl
theorem news_end {h₀ h' : Heap} {L : Addr} {it it2 new : Addr × Obj} {own2 tail led' : Led} (N' : News h₀ L h' led') (m2 : it2 ∈ led') (m1 : it ∈ led') (mn : new ∈ led') (mo : ∀ p ∈ own2, p ∈ led') (mt : ∀ p ∈ tail, p ∈ led') :
    News h₀ L h' (it2 :: it :: new :: (own2 ++ tail)) := sub (fun p hp => by
  simp only [List.mem_cons, List.mem_append] at hp
  rcases hp with rfl | rfl | rfl | hp | hp
  · exact m2
  · exact m1
  · exact mn
  · exact mo _ hp
  · exact mt _ hp) N'
theorem off_end2 {it it2 new : Addr × Obj} {own2 tail : Led} (hit2 : ∀ p ∈ it :: tail, p.1 ≠ it2.1) (hoff : ∀ p ∈ own2, p.1 ≠ it.1 ∧ p.1 ≠ it2.1) (hn : it2.1 < new.1) : ∀ p ∈ it :: new :: (own2 ++ tail), p.1 ≠ it2.1 := fun p hp => by
  simp only [List.mem_cons, List.mem_append] at hp
  rcases hp with rfl | rfl | hp | hp
  · exact hit2 _ List.mem_cons_self
  · exact Nat.ne_of_gt hn
  · exact (hoff _ hp).2
  · exact hit2 _ (List.mem_cons_of_mem _ hp)
theorem off_end1 {it it2 new : Addr × Obj} {own2 tail : Led} (hit : ∀ p ∈ tail, p.1 ≠ it.1) (hoff : ∀ p ∈ own2, p.1 ≠ it.1 ∧ p.1 ≠ it2.1) (hn : it.1 < new.1) : ∀ p ∈ new :: (own2 ++ tail), p.1 ≠ it.1 := fun p hp => by
  simp only [List.mem_cons, List.mem_append] at hp
  rcases hp with rfl | hp | hp
  · exact Nat.ne_of_gt hn
  · exact (hoff _ hp).1
  · exact hit _ hp
section
variable {prog : Program} {w : World} {A : Around} {E : Value → Shared → Prop} {s : Shared} {h₀ : Heap} {L : Addr} {news : Led}
theorem add_led {m : LMap} {a b : Addr} {vs ws : List Value} {n k : Nat} {Q : Value → Shared → Prop} (F : Fr h₀ L s.heap m) (N : News h₀ L s.heap news) (ha : (a, listOf vs.toArray n) ∈ news) (hb : (b, listOf ws.toArray k) ∈ news) (hz : vs.length + ws.length ≤ 10000)
    (h : ∀ D h', Fr h₀ L h' m → News h₀ L h' ((D, listOf (vs ++ ws).toArray 0) :: news) → (∀ p ∈ news, p.1 < D) → Q (.ref D) { s with heap := h' }) : wpAny (model prog w) A (binaryOp .Add (.ref a) (.ref b)) Q E s :=
  add_lists F N (News.isList N ha) (News.isList N hb) (fun h' F' N' => h _ h' F' N' fun p hp => Heap.lt_size (N p hp).1) (by rw [sizeLine_eq]; omega)
end
theorem front_len (c : Nat → Nat → Bool) (first : Int) (M n : Nat) : (front c first M n).length ≤ n * M := by
  induction n with
  | zero => simp [front]
  | succ n ih =>
    have : (rowP c first n M).length ≤ M := by unfold rowP; rw [List.length_map]; exact Nat.le_trans (List.length_filter_le _ _) (by simp)
    rw [front_succ, List.length_append, Nat.succ_mul]; omega
/-- references to pairs (what is told, True) -/
inductive DPairs (led : Led) : List Value → List Value → Prop
  | nil : DPairs led [] []
  | cons {a : Addr} {v : Value} {vs ps : List Value} : (a, tup2 v (.bool true)) ∈ led → DPairs led vs ps → DPairs led (.ref a :: vs) (v :: ps)
theorem DPairs.mono {led led' : Led} (hs : ∀ p ∈ led, p ∈ led') {vs ps : List Value} (h : DPairs led vs ps) : DPairs led' vs ps := by
  induction h with
  | nil => exact .nil
  | cons hm _ ih => exact .cons (hs _ hm) ih
theorem DPairs.append {led : Led} {vs ws ps qs : List Value} (h : DPairs led vs ps) (k : DPairs led ws qs) : DPairs led (vs ++ ws) (ps ++ qs) := by
  induction h with
  | nil => exact k
  | cons hm _ ih => exact .cons hm ih
theorem off3_new {I C D P : Addr} {o : Obj} {l : Led} (off : LCg.Off3 I C D l) (h : I < P ∧ C < P ∧ D < P ∧ AllLt P l) : LCg.Off3 I C D ((P, o) :: l) := LCg.Off3.of fun p hp => by
  rcases List.mem_cons.mp hp with rfl | hp
  · exact ⟨Nat.ne_of_gt h.1, Nat.ne_of_gt h.2.1, Nat.ne_of_gt h.2.2.1⟩
  · exact off.mem p hp
end Mine
end

section
open PySem PySem.W PyProof.Rows PySem.Spec PySem.Calls
set_option Elab.async false
set_option maxRecDepth 100000
set_option maxHeartbeats 2000000
namespace Mine
theorem plain_upd_loop : plainId "dict.update.loop" = true := by decide +kernel
theorem entry_upd_loop : entryFor table "dict.update.loop" = some Builtin.«dict.update.loop» := entryFor_of_fast (by kernel_rfl)
abbrev K2 := List Int
abbrev knd2 (prog : Program) (w : World) : HeapKind prog w K2 := tupleKind (intKind prog w)
def Kept (d I : Addr) (h₁ h : Heap) : Prop := ∀ b o, b ≠ d → b ≠ I → h₁.get? b = some o → h.get? b = some o
def putAll (xs : List (K2 × Addr × Value)) (l : List (K2 × Addr)) : List (K2 × Addr × Value) := l.foldl (fun xs p => storedH xs p.1 p.2 (.bool true)) xs
theorem stored_len (xs : List (K2 × Addr × Value)) (k : K2) (a : Addr) (v : Value) : (storedH xs k a v).length ≤ xs.length + 1 := by
  unfold storedH; split <;> simp
section
variable {prog : Program} {w : World} {A : Around} {E : Value → Shared → Prop} {s : Shared} {h₀ : Heap} {L : Addr} {m : LMap}

theorem dict_keep {d I l : Addr} {i : Nat} {xs : List (K2 × Addr × Value)} {h h' : Heap} (hd : h.DictOfH (knd2 prog w) d xs) (hit : h.IsListIter I l i) (hId : I ≠ d) (hk : ∀ b o, b ∉ [I] → h.get? b = some o → h'.get? b = some o) : h'.DictOfH (knd2 prog w) d xs := by
  obtain ⟨o, es, ep, ho, hc, hdat, he, his, hn⟩ := hd
  obtain ⟨oI, hI, _, hIdat⟩ := hit
  refine ⟨o, es, ep, hk _ _ (by simpa using Ne.symm hId) ho, hc, hdat, he, fun x hx => ?_, hn⟩
  obtain ⟨o', items, n, ho', hc', hd', hi'⟩ := his x hx
  refine ⟨o', items, n, hk _ _ (fun hm => ?_) ho', hc', hd', hi'⟩
  rw [List.mem_singleton.mp hm, hI] at ho'
  obtain rfl := Option.some.inj ho'
  rw [hIdat] at hd'; cases hd'

theorem upd_loop {d I D3 : Addr} {zs : List Value} {kas : List (K2 × Addr)} {h₁ : Heap} {R : Result → Shared → Prop} (hh : A.handled = none) (hu : A.units + 1 < cLine) (hDI : D3 ≠ I) (hDd : D3 ≠ d) (hId : I ≠ d)
    (hl : h₁.IsList D3 zs.toArray) (hz : zs.length ≤ 5000) (hkl : kas.length = zs.length)
    (items : ∀ (j : Nat) (v : Value), zs[j]? = some v → ∃ P a key oP n, v = .ref P ∧ P ≠ d ∧ P ≠ I ∧ h₁.get? P = some oP ∧ oP.cls = .type "tuple" ∧ oP.data = .seq #[.ref a, .bool true] n ∧ a ≠ d ∧ a ≠ I ∧ IsTupleKey (intKind prog w) h₁ key a ∧ kas[j]? = some (key, a)) :
    ∀ (k i : Nat) (xs : List (K2 × Addr × Value)) (s : Shared), k + i = zs.length → Kept d I h₁ s.heap → s.heap.IsListIter I D3 i → s.heap.DictOfH (knd2 prog w) d xs → xs.length ≤ i →
      (∀ h' tk, Kept d I h₁ h' → h'.DictOfH (knd2 prog w) d (putAll xs (kas.drop i)) → R (.ok (.ret .none)) { s with heap := h', toks := tk }) →
      codeAny (model prog w) A (.builtin "dict.update.loop" ⟨[.ref d, .ref I, rawInt i, .none], []⟩) R s := by
  intro k
  induction k with
  | zero =>
    intro i xs s hk hkept hit hd hx hR
    obtain rfl : i = zs.length := by omega
    refine codeAny_builtin entry_upd_loop ?_
    rw [Around.under_plainId plain_upd_loop _]
    have W := Walks.list (prog := prog) (w := w) (A := A.in1) hh I D3 hDI zs.toArray
    show wpAny _ _ (pyNext (.ref I) >>= _) _ _ _
    refine wpAny_bind (W.done _ _ _ ⟨by simpa using hit, hl.at fun o e => hkept _ o hDd hDI e⟩ fun h' tk hk' => ?_)
    show wpAny _ _ (Builtin.Dict.addKeywords d [] >>= _) _ _ _
    refine wpAny_bind (wpAny_pure (wpAny_pure ?_))
    have := hR h' tk (fun b o h1 h2 e => hk' _ _ (by simpa using h2) (hkept b o h1 h2 e)) ?_
    · exact this
    · rw [List.drop_of_length_le (by omega)]
      exact dict_keep hd hit hId hk'
  | succ k ih =>
    intro i xs s hk hkept hit hd hx hR
    refine codeAny_builtin entry_upd_loop ?_
    rw [Around.under_plainId plain_upd_loop _]
    have W := Walks.list (prog := prog) (w := w) (A := A.in1) hh I D3 hDI zs.toArray
    show wpAny _ _ (pyNext (.ref I) >>= _) _ _ _
    refine wpAny_bind (W.item i _ _ _ (by simp; omega) ⟨hit, hl.at fun o e => hkept _ o hDd hDI e⟩ fun v h' tk hP hst hk' => ?_)
    obtain ⟨P, a, key, oP, n, rfl, hPd, hPI, hPo, hPc, hPdat, had, haI, hkey, hkas⟩ := items i v (by simpa using hP)
    refine wpAny_bind (wpAny_holding ?_)
    have kP : ∀ b o, b ≠ d → b ≠ I → h₁.get? b = some o → h'.get? b = some o := fun b o h1 h2 e => hk' _ _ (by simpa using h2) (hkept b o h1 h2 e)
    refine wpAny_bind (wpAny_tryCatch ?_)
    unfold Builtin.Dict.pairItems
    refine wpAny_bind (wpAny_typeOf (T := "tuple") ⟨oP, kP _ _ hPd hPI hPo, hPc⟩ ?_)
    rw [if_pos (by decide)]
    refine wpAny_bind (wpAny_seqItems (kP _ _ hPd hPI hPo) hPdat (wpAny_pure ?_))
    show wpAny _ _ (holding _ (dictSet d (.ref a) (.bool true))) _ _ _
    have hkey' : IsTupleKey (intKind prog w) h' key a := by
      obtain ⟨o', items', n', ho', hc', hd', hi'⟩ := hkey
      exact ⟨o', items', n', kP _ _ had haI ho', hc', hd', hi'⟩
    refine wpAny_holding (wpAny_dictSet_heap (knd := knd2 prog w) (hsz := by rw [sizeLine_eq]; omega) (show A.in1.units < cLine from hu) hkey' (dict_keep hd hit hId hk') fun h₂ hd₂ hs₂ => ?_)
    refine wpAny_pure ⟨plainId_quiet plain_upd_loop _, ?_⟩
    have ei : ((i : Int) + 1) = ((i + 1 : Nat) : Int) := by push_cast; rfl
    rw [ei]
    refine ih (i + 1) _ _ (by omega) (fun b o h1 h2 e => hs₂.extBut b o h1 (kP b o h1 h2 e)) ?_ hd₂ (Nat.le_trans (stored_len _ _ _ _) (by omega)) fun h₃ tk₃ hk₃ hd₃ => ?_
    · obtain ⟨oI, hI, r⟩ := hst.1
      exact ⟨oI, hs₂.extBut _ _ hId hI, r⟩
    · refine hR h₃ tk₃ hk₃ ?_
      have hlt : i < kas.length := by omega
      have e : kas.drop i = (key, a) :: kas.drop (i + 1) := by
        rw [List.drop_eq_getElem_cons hlt]
        congr 1
        have := List.getElem?_eq_getElem hlt
        rw [hkas] at this
        exact (Option.some.inj this).symm
      rw [e]
      exact hd₃
theorem list_no_keys : typeLookup (.type "list") (Str.ofString "keys") = pure none := am_miss_of_fast (by decide +kernel)
theorem keys_miss {a : Addr} {xs : Array Value} {k : Nat} {Q : Option Value → Shared → Prop} (hx : s.heap.get? a = some (listOf xs k)) (hA : A.handled = none)
    (h : ∀ h' tk, (∀ b o, s.heap.get? b = some o → h'.get? b = some o) → Q none { s with heap := h', toks := tk }) : wpAny (model prog w) A (getAttr? (.ref a) (Str.ofString "keys")) Q E s := by
  obtain ⟨hp, g, d, tk, os⟩ := s
  have hT : ∀ tk', (⟨hp, g, d, tk', os⟩ : Shared).TypeIs (.ref a) "list" := fun _ => ⟨_, hx, rfl⟩
  have f1 := sub_AttributeError
  have f3 := PySem.F.slot_list_getattribute.lookup
  have f4 := PySem.F.slot_list_getattribute.bind (.ref a)
  have f5 := am_list_getattr_none
  unfold getAttr? getAttrBy? getAttrBy
  repeat (any_goals (first | assumption | exact hT _ | ((with_reducible show wpAny _ _ (call (Value.builtin "list.__getattribute__") _ _) _ _ _); refine call_meets PySem.F.slot_list_getattribute (hT _) am_entry_list_getattribute (PySem.F.args_list_getattribute_2 _ _) (meets_getattribute_miss_list a xs k #[] (Str.ofString "keys") _ list_no_keys (by decide +kernel) (by decide +kernel)) ⟨hx, hA, fun h' tk' e hx' => ?_⟩) | wp_step))
  obtain ⟨t', u', he⟩ := hx'.there
  show wpAny _ _ (getattributeRaised _ _ _ _ _ _ _) _ _ _
  unfold getattributeRaised
  repeat (any_goals (first | assumption | wp_step))
  exact h _ _ hx'.keeps
def addrV : Value → Addr
  | .ref a => a
  | _ => 0
def kasOf : List Value → List (Int × Int) → List (K2 × Addr)
  | v :: vs, p :: ps => ([p.1, p.2], addrV v) :: kasOf vs ps
  | _, _ => []
theorem pair_at {news : Led} {zs fs : List Value} (hz : DPairs news zs fs) : ∀ {ps : List (Int × Int)}, TupsAre news fs ps → ∀ (j : Nat) (v : Value), zs[j]? = some v →
    ∃ (P a : Addr) (x y : Int) (t u : Tok), v = .ref P ∧ (P, tup2 (.ref a) (.bool true)) ∈ news ∧ (a, tup2 (.int x t) (.int y u)) ∈ news ∧ (kasOf fs ps)[j]? = some ([x, y], a) := by
  induction hz with
  | nil => intro ps _ j v h; simp at h
  | cons hm _ ih =>
    intro ps ht j v h
    cases ht with
    | cons ha hr =>
      cases j with
      | zero =>
        simp at h; subst h
        exact ⟨_, _, _, _, _, _, rfl, hm, ha, rfl⟩
      | succ j => exact ih hr j v (by simpa using h)
theorem kas_len {news : Led} {fs : List Value} {ps : List (Int × Int)} (h : TupsAre news fs ps) : (kasOf fs ps).length = fs.length := by
  induction h with
  | nil => rfl
  | cons _ _ ih => simp [kasOf, ih]
theorem dpairs_len {news : Led} {zs fs : List Value} (h : DPairs news zs fs) : zs.length = fs.length := by
  induction h with
  | nil => rfl
  | cons _ _ ih => simp [ih]

theorem call_dict_pairs {D3 : Addr} {zs fs : List Value} {ps : List (Int × Int)} {k : Nat} {news : Led} {Q : Value → Shared → Prop} (hh : A.handled = none) (hu : A.units + 3 < cLine) (F : Fr h₀ L s.heap m) (N : News h₀ L s.heap news)
    (hD : (D3, listOf zs.toArray k) ∈ news) (hzs : DPairs news zs fs) (hfs : TupsAre news fs ps) (hz : zs.length ≤ 5000)
    (h : ∀ h' tk d o, Fr h₀ L h' m → News h₀ L h' ((d, o) :: news) → (∀ p ∈ news, p.1 < d) → h'.DictOfH (knd2 prog w) d (putAll [] (kasOf fs ps)) → Q (.ref d) { s with heap := h', toks := tk }) :
    wpAny (model prog w) A (call (.type "dict") [.ref D3]) Q E s := by
  refine callType_codes (Q₁ := fun obj s₁ => obj = .ref s.heap.objs.size ∧ s₁ = { s with heap := s.heap.push { cls := .type "dict", data := .dict #[] } }) PySem.F.kt_called_dict (PySem.F.kt_typeCall_dict_1 _) PySem.F.entry_dict_init (kt_code_dict_new _ ⟨rfl, rfl⟩) ?_
  rintro obj s₁ ⟨rfl, rfl⟩
  have hnew : (s.heap.push { cls := .type "dict", data := .dict #[] }).DictOfH (knd2 prog w) s.heap.objs.size [] := Heap.DictOfH.new s.heap
  have up1 : ∀ b o, s.heap.get? b = some o → (s.heap.push { cls := .type "dict", data := .dict #[] }).get? b = some o := fun b o e => Heap.get?_push_of_some _ e
  have hdnew : (s.heap.push { cls := .type "dict", data := .dict #[] }).get? s.heap.objs.size = some { cls := .type "dict", data := .dict #[] } := Heap.get?_push_size _ rfl
  generalize hH1 : s.heap.push { cls := .type "dict", data := .dict #[] } = H1 at hnew up1 hdnew ⊢
  refine ⟨hnew.typeIs (s := { s with heap := H1 }), PySem.F.args_dict_init_2 _ _, ?_⟩
  have hDl : H1.get? D3 = some (listOf zs.toArray k) := up1 _ _ (N _ hD).1
  unfold Builtin.«dict.__init__»
  refine wpAny_bind ?_
  unfold Builtin.Dict.selfAndRest
  refine wpAny_bind (wpAny_notOrdered_dict (hnew.typeIs (s := { s with heap := H1 })) ?_)
  show wpAny _ _ (pure (s.heap.objs.size, [Value.ref D3])) _ _ _
  refine wpAny_pure ?_
  show wpAny _ _ (Builtin.Dict.updateFrom "dict.__init__" s.heap.objs.size (.ref D3) [] .none) _ _ _
  unfold Builtin.Dict.updateFrom
  refine wpAny_bind (wpAny_typeOf (T := "list") ⟨_, hDl, rfl⟩ ?_)
  rw [if_pos (by decide)]
  refine wpAny_bind (keys_miss (s := { s with heap := H1 }) hDl hh fun h₂ tk₂ up2 => ?_)
  simp only [Option.isNone_none, if_true]
  have hl2 : h₂.IsList D3 zs.toArray := ⟨_, up2 _ _ hDl, rfl, k, rfl⟩
  refine wpAny_bind (wpAny_rule ?_)
  refine wpAny_bind (wpAny_pyIter_list (s := { s with heap := h₂, toks := tk₂ }) hl2 ?_)
  refine wpAny_bind (wpAny_pure (wpAny_pure ⟨plainId_quiet plain_upd_loop _, ?_⟩))
  dsimp only
  have hsz2 : s.heap.objs.size < h₂.objs.size := Heap.lt_size (up2 _ _ hdnew)
  have up3 : ∀ b o, h₂.get? b = some o → (h₂.push { cls := .type "list_iterator", data := .fields #[.ref D3, .int 0 0] }).get? b = some o := fun b o e => Heap.get?_push_of_some _ e
  have hI3 : (h₂.push { cls := .type "list_iterator", data := .fields #[.ref D3, .int 0 0] }).IsListIter h₂.objs.size D3 0 := ⟨_, Heap.get?_push_size _ rfl, rfl, rfl⟩
  generalize hH3 : h₂.push { cls := .type "list_iterator", data := .fields #[.ref D3, .int 0 0] } = H3 at up3 hI3 ⊢
  have up : ∀ b o, s.heap.get? b = some o → H3.get? b = some o := fun b o e => up3 _ _ (up2 _ _ (up1 _ _ e))
  have newlt : ∀ p ∈ news, @LT.lt Nat _ p.1 s.heap.objs.size := fun p hp => Heap.lt_size (N p hp).1
  have hDlt : @LT.lt Nat _ D3 s.heap.objs.size := newlt _ hD
  have hd3 : H3.DictOfH (knd2 prog w) s.heap.objs.size [] := by
    obtain ⟨o, es, ep, ho, hc, hdat, he, his, hn⟩ := hnew
    exact ⟨o, es, ep, up3 _ _ (up2 _ _ ho), hc, hdat, he, fun x hx => (by cases hx), hn⟩
  refine upd_loop (A := A.in1) (h₁ := H3) (kas := kasOf fs ps) hh (show A.units + 1 + 1 < cLine by omega) (Nat.ne_of_lt (by omega)) (Nat.ne_of_lt hDlt) (Nat.ne_of_gt hsz2) ⟨_, up _ _ (N _ hD).1, rfl, k, rfl⟩ hz (by rw [kas_len hfs, dpairs_len hzs])
    (fun j v hv => ?_) zs.length 0 [] _ rfl (fun b o _ _ e => e) hI3 hd3 (Nat.le_refl _) fun h' tk hk' hd' => ?_
  · obtain ⟨P, a, x, y, t, u, rfl, hP, ha, hk⟩ := pair_at hzs hfs j v hv
    have hPlt : @LT.lt Nat _ P s.heap.objs.size := newlt _ hP
    have halt : @LT.lt Nat _ a s.heap.objs.size := newlt _ ha
    exact ⟨P, a, [x, y], _, _, rfl, Nat.ne_of_lt hPlt, Nat.ne_of_lt (by omega), up _ _ (N _ hP).1, rfl, rfl, Nat.ne_of_lt halt, Nat.ne_of_lt (by omega),
      ⟨_, _, _, up _ _ (N _ ha).1, rfl, rfl, .cons (by simp [intKind, Value.isInt]) (.cons (by simp [intKind, Value.isInt]) .nil)⟩, hk⟩
  · obtain ⟨o, es, ep, ho, hc, hdat, he, his, hn⟩ := id hd'
    have hLlt : @LT.lt Nat _ L s.heap.objs.size := F.ns.lt
    have keep : ∀ b o, @LT.lt Nat _ b s.heap.objs.size → s.heap.get? b = some o → h'.get? b = some o := fun b o hb e => hk' _ _ (Nat.ne_of_lt hb) (Nat.ne_of_lt (by omega)) (up _ _ e)
    have hd0 : h₀.get? s.heap.objs.size = none := by
      cases e : h₀.get? s.heap.objs.size with
      | none => rfl
      | some o' => exact absurd (Heap.lt_size (F.keep _ o' e)) (Nat.lt_irrefl _)
    refine ⟨rfl, h h' tk s.heap.objs.size o ⟨F.ns.at' fun o e => keep _ o hLlt e, fun b o e => keep _ _ (Heap.lt_size (F.keep b o e)) (F.keep b o e), F.above⟩ (fun p hp => ?_) newlt hd'⟩
    rcases List.mem_cons.mp hp with rfl | hp
    · exact ⟨ho, Nat.ne_of_gt hLlt, hd0⟩
    · exact ⟨keep _ _ (newlt p hp) (N p hp).1, (N p hp).2⟩
end
end Mine
end

section
open PySem PySem.W PyProof.Rows PySem.Spec PySem.Calls
set_option Elab.async false
set_option maxRecDepth 100000
set_option maxHeartbeats 2000000
namespace Mine
/-! the keys of a dict, whatever they are, in their order -/
section
variable {prog : Program} {w : World} {A : Around} {E : Value → Shared → Prop} {s : Shared} {h₀ : Heap} {L : Addr} {m : LMap} {d : Addr} {od : Obj} {es : Array DictEntry} {ep : Nat}
theorem obj_item {it : Addr} {i : Nat} {Q : Option Value → Shared → Prop} (hit : s.heap.IsKeyIter it d i es.size ep) (hod : s.heap.get? d = some od) (hdd : od.data = .dict es ep) (hlt' : i < es.size)
    (hQ : ∀ h', h'.IsKeyIter it d (i + 1) es.size ep → Heap.SameBut it s.heap h' → Q (some es[i].key) { s with heap := h' }) :
    wpAny (model prog w) A (pyNext (.ref it)) Q E s := by
  have hT := hit.typeIs
  obtain ⟨o, ho, hc, hd⟩ := hit
  have hit' : (s.heap.update it (Obj.mapFields (·.setIfInBounds 1 (rawInt ((i : Int) + 1))))).IsKeyIter it d (i + 1) es.size ep :=
    ⟨_, Heap.get?_update_self _ ho (Obj.isFreed_of_fields (Obj.data_mapFields hd _)), by rw [Obj.cls_mapFields, hc], by rw [Obj.data_mapFields hd]; simp [rawInt]⟩
  have look : (if (i : Int) < 0 then none else es[(i : Int).toNat]?) = some es[i] := by rw [if_neg (by omega), Int.toNat_natCast, Array.getElem?_eq_getElem hlt']
  unfold pyNext
  refine wpAny_bind (wpAny_attempt (wpAny_callSpecial?_slot (name := Str.ofString "__next__") hT PySem.F.slot_dict_keyiterator_next
    (wpAny_call_entry PySem.F.slot_dict_keyiterator_next hT PySem.F.entry_dict_keyiterator_next ?_ (PySem.F.args_dict_keyiterator_next_1 _))))
  wp_walk using wpAny_typeNameOfWhole_keyiter hT, wpAny_fieldsOf ho hd, wpAny_dictEntries hod hdd, wpAny_dictEpoch hod hdd
  rw [look]
  wp_walk using wpAny_typeNameOfWhole_keyiter hT, wpAny_isOneOf_keyiter hT
  rw [hd]
  show wpAny _ _ (update it (Obj.mapFields (·.setIfInBounds 1 (rawInt ((i : Int) + 1))))) _ _ _
  wp_walk using wpAny_isOneOf_keyiter (Heap.IsKeyIter.typeIs (s := { s with heap := _ }) hit')
  exact ⟨_, rfl, wpAny_pure (hQ _ hit' (Heap.SameBut.update ..))⟩
theorem obj_end {it : Addr} {i : Nat} {Q : Option Value → Shared → Prop} (hh : A.handled = none) (hit : s.heap.IsKeyIter it d i es.size ep) (hod : s.heap.get? d = some od) (hdd : od.data = .dict es ep) (hge : es.size ≤ i)
    (hQ : ∀ h', Heap.ExtBut it s.heap h' → Q none { s with heap := h' }) : wpAny (model prog w) A (pyNext (.ref it)) Q E s := by
  have hT := hit.typeIs
  obtain ⟨o, ho, hc, hd⟩ := hit
  have look : (if (i : Int) < 0 then none else es[(i : Int).toNat]?) = none := by rw [if_neg (by omega), Int.toNat_natCast, Array.getElem?_eq_none hge]
  unfold pyNext
  refine wpAny_bind (wpAny_attempt (wpAny_callSpecial?_slot (name := Str.ofString "__next__") hT PySem.F.slot_dict_keyiterator_next
    (wpAny_call_entry PySem.F.slot_dict_keyiterator_next hT PySem.F.entry_dict_keyiterator_next ?_ (PySem.F.args_dict_keyiterator_next_1 _))))
  wp_walk using wpAny_typeNameOfWhole_keyiter hT, wpAny_fieldsOf ho hd, wpAny_dictEntries hod hdd, wpAny_dictEpoch hod hdd
  rw [look]
  wp_walk using wpAny_typeNameOfWhole_keyiter hT
  rw [hd]
  show wpAny _ _ (update it (Obj.mapFields (·.setIfInBounds 0 .none))) _ _ _
  have hh1 : A.in1.handled = none := hh
  wp_walk
  unfold raiseNew
  wp_walk
  refine wpAny_of_eq isSubtype_stop ?_
  wp_walk
  exact hQ _ (((Heap.SameBut.update ..).extBut.push _).push _)
theorem obj_iter {Q : Value → Shared → Prop} (hd : (d == sysModules) = false) (ho : s.heap.get? d = some od) (hc : od.ExactDict) (hdat : od.data = .dict es ep)
    (hQ : Q (.ref s.heap.objs.size) { s with heap := s.heap.push { cls := .type "dict_keyiterator", data := .fields #[.ref d, .int 0 0, .int es.size 0, .int ep 0] } }) :
    wpAny (model prog w) A (pyIter (.ref d)) Q E s := by
  have hT : s.TypeIs (.ref d) "dict" := ⟨od, ho, hc.1⟩
  refine wpAny_pyIter_slot hT PySem.F.slot_dict_iter (wpAny_call_entry PySem.F.slot_dict_iter hT PySem.F.entry_dict_iter ?_ (PySem.F.args_dict_iter_1 _))
  wp_walk using wpAny_notOrdered_dict hT, wpAny_dictEntries ho hdat, wpAny_dictEpoch ho hdat, wpAny_newObj_type
  · exact ⟨_, rfl, "dict_keyiterator", _, ⟨_, Heap.get?_push_size _ rfl, rfl⟩, PySem.F.slot_dict_keyiterator_next.lookup, hQ⟩
  · size_fits
theorem walks_obj (hh : A.handled = none) (I : Addr) (hne : d ≠ I) (hdd : od.data = .dict es ep) :
    Walks prog w A I [I, d] [I] es.size (fun i v => (es[i]?).map (·.key) = some v) (fun i h => h.IsKeyIter I d i es.size ep ∧ h.get? d = some od) where
  sub := fun b hb => by simp at hb; simp [hb]
  frame := fun _ _ _ st hk => ⟨st.1.at fun o e => hk I (by simp) o e, hk d (by simp) _ st.2⟩
  item := fun i s Q E hi st hQ => obj_item st.1 st.2 hdd hi fun h' hit' hs' =>
    hQ _ h' s.toks (by rw [Array.getElem?_eq_getElem hi]; rfl) ⟨hit', hs'.extBut _ _ hne st.2⟩ fun b o hb e => hs'.extBut b o (fun h => hb (by simp [h])) e
  done := fun s Q E st hQ => obj_end hh st.1 st.2 hdd (Nat.le_refl _) fun h' he' => hQ h' s.toks fun b o hb e => he' b o (fun h => hb (by simp [h])) e
  self := fun _ _ _ _ st hQ => wpAny_pyIter_keyiter st.1 hQ
theorem src_obj (lo : (d == sysModules) = false) (hc : od.ExactDict) (hdd : od.data = .dict es ep) : KdlSrc prog w "dict" d d es.size (fun i v => (es[i]?).map (·.key) = some v) (fun h => h.get? d = some od) where
  type := fun _ ho => ⟨od, ho, hc.1⟩
  there := fun _ ho => ⟨Heap.lt_size ho, Heap.lt_size ho⟩
  keep := fun _ _ ho hk => hk d (.inl rfl) _ ho
  notList := by decide
  notTuple := by decide
  hint := fun _ _ _ _ ho hq => kdl_hint_dict ⟨od, ho, hc.1⟩ hq
  iter := fun _ _ hh ho => ⟨_, _, (fun _ _ hq => obj_iter lo ho hc hdd hq), walks_obj hh _ (Nat.ne_of_lt (Heap.lt_size ho)) hdd, ⟨⟨_, Heap.get?_push_size _ rfl, rfl, rfl⟩, Heap.get?_push_of_some _ ho⟩⟩
end
end Mine
end

section
open PySem PySem.W PyProof.Rows
set_option Elab.async false
set_option maxHeartbeats 1000000
namespace Mine
/-! what sorted asks, answered by a strict order upon the places below N -/
def KasOK {α : Type} (lt : Nat → Nat → Bool) (N : Nat) : KasT α → (α → Prop) → Prop
  | .ret a, Q => Q a
  | .ask i j k, Q => i < N ∧ j < N ∧ KasOK lt N (k (lt i j)) Q
theorem KasOK.bind {α β : Type} {lt : Nat → Nat → Bool} {N : Nat} {f : α → KasT β} {Q : β → Prop} : ∀ {t : KasT α}, KasOK lt N t (fun a => KasOK lt N (f a) Q) → KasOK lt N (t.bind f) Q
  | .ret _, h => h
  | .ask _ _ _, h => ⟨h.1, h.2.1, KasOK.bind h.2.2⟩
theorem KasOK.wp {α : Type} {lt : Nat → Nat → Bool} {N : Nat} {cmp : Nat → Nat → (Bool → Shared → Prop) → Shared → Prop} {Q : α → Shared → Prop} {s : Shared} (hc : ∀ i j C, i < N → j < N → C (lt i j) s → cmp i j C s) :
    ∀ {t : KasT α}, KasOK lt N t (fun a => Q a s) → t.kasWp cmp Q s
  | .ret _, h => h
  | .ask i j k, h => hc i j _ h.1 h.2.1 (KasOK.wp hc h.2.2)
structure Strict (lt : Nat → Nat → Bool) (N : Nat) : Prop where
  trans : ∀ i j k, i < N → j < N → k < N → lt i j = true → lt j k = true → lt i k = true
  total : ∀ i j, i < N → j < N → i ≠ j → lt i j = false → lt j i = true
  asym : ∀ i j, i < N → j < N → lt i j = true → lt j i = false
abbrev g (p : Array Nat) (i : Nat) : Nat := p.getD i 0
structure Val (N : Nat) (p : Array Nat) : Prop where
  perm : p.toList.Perm (List.range N)
theorem Val.size {N : Nat} {p : Array Nat} (h : Val N p) : p.size = N := by have := h.perm.length_eq; simpa using this
theorem Val.get {N : Nat} {p : Array Nat} (h : Val N p) {i : Nat} (hi : i < N) : p[i]? = some (g p i) := by
  have : i < p.size := by rw [h.size]; exact hi
  simp [g, Array.getD, this]
theorem Val.lt {N : Nat} {p : Array Nat} (h : Val N p) {i : Nat} (hi : i < N) : g p i < N := by
  have e := h.get hi
  rw [← Array.getElem?_toList] at e
  exact List.mem_range.mp (h.perm.mem_iff.mp (List.mem_of_getElem? e))
theorem Val.ne {N : Nat} {p : Array Nat} (h : Val N p) {i j : Nat} (hi : i < N) (hj : j < N) (hne : i ≠ j) : g p i ≠ g p j := fun e => by
  have hn : p.toList.Nodup := h.perm.nodup_iff.mpr List.nodup_range
  have ei := h.get hi
  have ej := h.get hj
  rw [← Array.getElem?_toList] at ei ej
  have hl : i < p.toList.length := by rw [Array.length_toList, h.size]; exact hi
  exact hne ((List.getElem?_inj hl hn).mp (ei.trans (e ▸ ej.symm)))
def SP (lt : Nat → Nat → Bool) (p : Array Nat) (k : Nat) : Prop := ∀ i j, i < j → j < k → lt (g p i) (g p j) = true
def DP (lt : Nat → Nat → Bool) (p : Array Nat) (k : Nat) : Prop := ∀ i j, i < j → j < k → lt (g p j) (g p i) = true
section
variable {lt : Nat → Nat → Bool} {N : Nat} (S : Strict lt N)
include S
theorem SP.succ {p : Array Nat} (V : Val N p) {n : Nat} (h1 : 1 ≤ n) (hn : n < N) (h : SP lt p n) (hl : lt (g p (n - 1)) (g p n) = true) : SP lt p (n + 1) := fun i j hij hj => by
  by_cases hjn : j < n
  · exact h i j hij hjn
  · obtain rfl : j = n := by omega
    by_cases hi : i = j - 1
    · subst hi; exact hl
    · exact S.trans _ _ _ (V.lt (by omega)) (V.lt (by omega)) (V.lt hn) (h i (j - 1) (by omega) (by omega)) hl
theorem DP.succ {p : Array Nat} (V : Val N p) {n : Nat} (h1 : 1 ≤ n) (hn : n < N) (h : DP lt p n) (hl : lt (g p n) (g p (n - 1)) = true) : DP lt p (n + 1) := fun i j hij hj => by
  by_cases hjn : j < n
  · exact h i j hij hjn
  · obtain rfl : j = n := by omega
    by_cases hi : i = j - 1
    · subst hi; exact hl
    · exact S.trans _ _ _ (V.lt hn) (V.lt (by omega)) (V.lt (by omega)) hl (h i (j - 1) (by omega) (by omega))
theorem asc_ok {p : Array Nat} (V : Val N p) {Q : Nat → Prop} : ∀ (f n : Nat), 1 ≤ n → n + f ≤ N → SP lt p n → (∀ m, n ≤ m → m ≤ n + f → SP lt p m → (m = n + f ∨ lt (g p m) (g p (m - 1)) = true) → Q m) → KasOK lt N (kas_asc p f n) Q
  | 0, n, _, _, h, hq => hq n (Nat.le_refl _) (Nat.le_refl _) h (.inl rfl)
  | f + 1, n, h1, hn, h, hq => by
    refine ⟨V.lt (by omega), V.lt (by omega), ?_⟩
    show KasOK lt N (if lt (g p n) (g p (n - 1)) = true then .ret n else kas_asc p f (n + 1)) Q
    by_cases c : lt (g p n) (g p (n - 1)) = true
    · rw [if_pos c]; exact hq n (Nat.le_refl _) (by omega) h (.inr c)
    · rw [if_neg c]
      have hl := S.total _ _ (V.lt (by omega)) (V.lt (by omega)) (V.ne (i := n) (j := n - 1) (by omega) (by omega) (by omega)) (by simpa using c)
      exact asc_ok V f (n + 1) (by omega) (by omega) (SP.succ S V h1 (by omega) h hl) fun m a b c d => hq m (by omega) (by omega) c (by rcases d with d | d; exact .inl (by omega); exact .inr d)
theorem desc_ok {p : Array Nat} (V : Val N p) {Q : Array Nat × Nat × Nat → Prop} : ∀ (f n : Nat), 1 ≤ n → n + f ≤ N → DP lt p n → (∀ m, n ≤ m → m ≤ n + f → DP lt p m → Q (p, m, 0)) → KasOK lt N (kas_desc f p n 0) Q
  | 0, n, _, _, h, hq => hq n (Nat.le_refl _) (Nat.le_refl _) h
  | f + 1, n, h1, hn, h, hq => by
    refine ⟨V.lt (by omega), V.lt (by omega), ?_⟩
    by_cases c : lt (g p n) (g p (n - 1)) = true
    · have c' : lt (p.getD n 0) (p.getD (n - 1) 0) = true := c
      dsimp only
      rw [if_pos c', if_neg (by omega)]
      exact desc_ok V f (n + 1) (by omega) (by omega) (DP.succ S V h1 (by omega) h c) fun m a b d => hq m (by omega) (by omega) d
    · have c' : ¬ lt (p.getD n 0) (p.getD (n - 1) 0) = true := c
      dsimp only
      rw [if_neg c']
      have hl := S.total _ _ (V.lt (by omega)) (V.lt (by omega)) (V.ne (i := n) (j := n - 1) (by omega) (by omega) (by omega)) (by simpa using c)
      refine ⟨V.lt (by omega), V.lt (by omega), ?_⟩
      have hl' : lt (p.getD (n - 1) 0) (p.getD n 0) = true := hl
      dsimp only
      rw [if_pos hl']
      exact hq n (Nat.le_refl _) (by omega) h
omit S in
theorem rev_val {p : Array Nat} (V : Val N p) (i j : Nat) : Val N (kas_rev p i j) := ⟨(Array.perm_iff_toList_perm.mp (mirror_perm _ _ _ _)).trans V.perm⟩
omit S in
theorem rev_get {p : Array Nat} (V : Val N p) {n : Nat} (hn : n ≤ N) {k : Nat} (hk : k < n) : g (kas_rev p 0 n) k = g p (n - 1 - k) := by
  have e := getElem?_mirror_all (xs := p) (i := 0) (j := n) (by rw [V.size]; exact hn) k
  rw [if_pos ⟨Nat.zero_le _, hk⟩] at e
  have e1 := (rev_val V 0 n).get (i := k) (by omega)
  have e2 := V.get (i := 0 + n - 1 - k) (by omega)
  unfold kas_rev at e1
  rw [e1, e2] at e
  have := Option.some.inj e
  unfold kas_rev
  rw [this]; congr 1; omega
omit S in
theorem rev_sp {p : Array Nat} (V : Val N p) {n : Nat} (hn : n ≤ N) (h : DP lt p n) : SP lt (kas_rev p 0 n) n := fun i j hij hj => by
  rw [rev_get V hn (by omega), rev_get V hn hj]
  exact h _ _ (by omega) (by omega)
theorem tail_ok {p : Array Nat} (V : Val N p) {n : Nat} (h1 : 1 ≤ n) (hn : n ≤ N) (h : DP lt p n) {Q : Nat × Array Nat → Prop} (hq : ∀ m p', 1 ≤ m → m ≤ N → Val N p' → SP lt p' m → Q (m, p')) : KasOK lt N (kas_tail3 n N p) Q := by
  refine KasOK.bind (asc_ok S (rev_val V 0 n) (N - n) n h1 (by omega) (rev_sp V hn h) fun m a b c _ => ?_)
  exact hq m _ (by omega) (by omega) (rev_val V 0 n) c
theorem count_ok {p : Array Nat} (V : Val N p) (hN : 1 ≤ N) {Q : Nat × Array Nat → Prop} (hq : ∀ m p', 1 ≤ m → m ≤ N → Val N p' → SP lt p' m → Q (m, p')) : KasOK lt N (kas_count N p) Q := by
  refine KasOK.bind (asc_ok S V (N - 1) 1 (Nat.le_refl _) (by omega) (fun i j a b => by omega) fun m a b c d => ?_)
  by_cases e : m = N
  · rw [if_pos (by simpa using e)]; exact hq m p a (by omega) V c
  · rw [if_neg (by simpa using e)]
    by_cases e1 : m > 1
    · rw [if_pos e1]
      refine ⟨V.lt (by omega), V.lt (by omega), ?_⟩
      have hl : lt (p.getD 0 0) (p.getD (m - 1) 0) = true := c 0 (m - 1) (by omega) (by omega)
      dsimp only
      rw [if_pos hl]
      exact hq m p a (by omega) V c
    · rw [if_neg e1]
      obtain rfl : m = 1 := by omega
      rcases d with d | d
      · omega
      · refine KasOK.bind (desc_ok S V (N - (1 + 1)) (1 + 1) (by omega) (by omega) (fun i j a b => ?_) fun m' a' b' c' => ?_)
        · obtain rfl : j = 1 := by omega
          obtain rfl : i = 0 := by omega
          exact d
        · show KasOK lt N (if 0 > 0 then _ else kas_tail3 m' N p) Q
          rw [if_neg (by omega)]
          exact tail_ok S V (by omega) (by omega) c' hq
theorem place_ok {p : Array Nat} (V : Val N p) {k : Nat} (hk : k < N) (h : SP lt p k) {Q : Nat → Prop} (hq : ∀ l, l ≤ k → (∀ i, i < l → lt (g p i) (g p k) = true) → (∀ i, l ≤ i → i < k → lt (g p k) (g p i) = true) → Q l) :
    ∀ (f l r : Nat), r - l ≤ f → l ≤ r → r ≤ k → (∀ i, i < l → lt (g p i) (g p k) = true) → (∀ i, r ≤ i → i < k → lt (g p k) (g p i) = true) → KasOK lt N (kas_place p k f l r) Q
  | 0, l, r, hf, hlr, hr, a, b => by
    obtain rfl : l = r := by omega
    exact hq l hr a b
  | f + 1, l, r, hf, hlr, hr, a, b => by
    unfold kas_place
    by_cases c : l ≥ r
    · rw [if_pos c]
      obtain rfl : l = r := by omega
      exact hq l hr a b
    · rw [if_neg c]
      refine ⟨V.lt hk, V.lt (by omega), ?_⟩
      by_cases e : lt (g p k) (g p ((l + r) / 2)) = true
      · have e' : lt (p.getD k 0) (p.getD ((l + r) / 2) 0) = true := e
        dsimp only
        rw [if_pos e']
        refine place_ok V hk h hq f l _ (by omega) (by omega) (by omega) a fun i hi hik => ?_
        by_cases q : i = (l + r) / 2
        · subst q; exact e
        · exact S.trans _ _ _ (V.lt hk) (V.lt (by omega)) (V.lt (by omega)) e (h _ _ (by omega) hik)
      · have e' : ¬ lt (p.getD k 0) (p.getD ((l + r) / 2) 0) = true := e
        dsimp only
        rw [if_neg e']
        have hl := S.total _ _ (V.lt hk) (V.lt (i := (l + r) / 2) (by omega)) (V.ne hk (by omega) (by omega)) (by simpa using e)
        refine place_ok V hk h hq f _ r (by omega) (by omega) hr (fun i hi => ?_) b
        by_cases q : i = (l + r) / 2
        · subst q; exact hl
        · exact S.trans _ _ _ (V.lt (by omega)) (V.lt (by omega)) (V.lt hk) (h _ _ (by omega) (by omega)) hl
omit S in
theorem bub_val {p : Array Nat} (V : Val N p) (i d : Nat) : Val N (bubble p i d) := ⟨(Array.perm_iff_toList_perm.mp (bubble_perm _ _ _)).trans V.perm⟩
omit S in
theorem bub_get {p : Array Nat} (V : Val N p) {k l : Nat} (hk : k < N) (hl : l ≤ k) {i : Nat} (hi : i < N) : g (bubble p k (k - l)) i = if i = l then g p k else if l < i ∧ i ≤ k then g p (i - 1) else g p i := by
  have e := getElem?_bubble (xs := p) (src := k) (by rw [V.size]; exact hk) (k - l) (by omega) i
  rw [(bub_val V k (k - l)).get hi, show k - (k - l) = l by omega, V.get hk, V.get hi, V.get (i := i - 1) (by omega)] at e
  by_cases c1 : i = l
  · rw [if_pos c1] at e ⊢; exact Option.some.inj e
  · rw [if_neg c1] at e ⊢
    by_cases c2 : l < i ∧ i ≤ k
    · rw [if_pos c2] at e ⊢; exact Option.some.inj e
    · rw [if_neg c2] at e ⊢; exact Option.some.inj e
theorem bin_ok {Q : Array Nat → Prop} (hq : ∀ p', Val N p' → SP lt p' N → Q p') : ∀ (f : Nat) (p : Array Nat) (k : Nat), Val N p → k + f = N → SP lt p k → KasOK lt N (kas_bin f p k) Q
  | 0, p, k, V, e, h => by
    obtain rfl : k = N := by omega
    exact hq p V h
  | f + 1, p, k, V, e, h => by
    refine KasOK.bind (place_ok S V (by omega) h (fun l hl a b => ?_) k 0 k (by omega) (by omega) (Nat.le_refl _) (fun i hi => by omega) (fun i hi hk => by omega))
    refine bin_ok hq f _ (k + 1) (bub_val V _ _) (by omega) fun i j hij hj => ?_
    rw [bub_get V (by omega) hl (by omega), bub_get V (by omega) hl (by omega)]
    by_cases i1 : i = l
    · subst i1
      rw [if_pos rfl, if_neg (by omega), if_pos (by omega)]
      exact b _ (by omega) (by omega)
    · rw [if_neg i1]
      by_cases j1 : j = l
      · subst j1
        rw [if_pos rfl, if_neg (by omega)]
        exact a _ (by omega)
      · rw [if_neg j1]
        by_cases i2 : l < i ∧ i ≤ k
        · rw [if_pos i2, if_pos (by omega)]
          exact h _ _ (by omega) (by omega)
        · rw [if_neg i2]
          by_cases j2 : l < j ∧ j ≤ k
          · rw [if_pos j2]
            exact h _ _ (by omega) (by omega)
          · rw [if_neg j2]
            exact h _ _ (by omega) (by omega)
theorem sort_ok (hN : 1 ≤ N) {Q : Array Nat → Prop} (hq : ∀ p', Val N p' → SP lt p' N → Q p') : KasOK lt N (kas_sort N) Q := by
  unfold kas_sort
  have V : Val N (List.toArray (List.range N)) := ⟨by simp⟩
  refine KasOK.bind (count_ok S V hN fun m p' h1 h2 V' h => ?_)
  show KasOK lt N (if m < N then kas_bin (N - max m 1) p' (max m 1) else .ret p') Q
  have hm : max m 1 = m := by omega
  rw [hm]
  by_cases c : m < N
  · rw [if_pos c]; exact bin_ok S hq _ _ _ V' (by omega) h
  · rw [if_neg c]
    obtain rfl : m = N := by omega
    exact hq p' V' h
end
end Mine
end

section
open PySem PySem.W PyProof.Rows PySem.Spec PySem.Calls
set_option Elab.async false
set_option maxRecDepth 100000
set_option maxHeartbeats 2000000
namespace Mine
def lexB (p q : Int × Int) : Bool := decide (p.1 < q.1) || (decide (p.1 = q.1) && decide (p.2 < q.2))
section
variable {prog : Program} {w : World} {A : Around} {E : Value → Shared → Prop} {s : Shared} {h₀ : Heap} {L : Addr} {m : LMap}
theorem lt_pair {a b : Addr} {x y x' y' : Int} {t u t' u' : Tok} {Q : Bool → Shared → Prop} (ha : s.heap.get? a = some (tup2 (.int x t) (.int y u))) (hb : s.heap.get? b = some (tup2 (.int x' t') (.int y' u'))) (h : Q (lexB (x, y) (x', y')) s) :
    wpAny (model prog w) A (keyLt' (tuples' true) (.ref a) (.ref b)) Q E s := by
  refine kat_lt ha rfl hb rfl ?_
  refine kat_cons (wpAny_eqBool_int ?_)
  refine kat_go (fun e => kat_yes ?_) (fun e => kat_no ?_)
  · refine kat_cons (wpAny_eqBool_int ?_)
    refine kat_go (fun e2 => kat_yes (kat_nil ?_)) (fun e2 => kat_no ?_)
    · have e' : x = x' := by simpa using e
      have e2' : y = y' := by simpa using e2
      have : lexB (x, y) (x', y') = false := by unfold lexB; simp [e', e2']
      rw [this] at h
      exact h
    · have e' : x = x' := by simpa using e
      have : lexB (x, y) (x', y') = decide (y < y') := by unfold lexB; simp [e']
      rw [this] at h
      show wpAny _ _ (oneLt' false _ _) _ _ _
      exact kat_one _ _ (wpAny_lt_int h)
  · have e' : ¬ x = x' := by simpa using e
    have : lexB (x, y) (x', y') = decide (x < x') := by unfold lexB; simp [e']
    rw [this] at h
    show wpAny _ _ (oneLt' true _ _) _ _ _
    exact oneLt_int h
theorem lex_strict {ps : List (Int × Int)} (hn : ps.Nodup) : Strict (fun i j => lexB (ps.getD i (0, 0)) (ps.getD j (0, 0))) ps.length where
  trans := fun i j k _ _ _ h1 h2 => by
    unfold lexB at *
    simp only [Bool.or_eq_true, Bool.and_eq_true, decide_eq_true_eq] at *
    omega
  asym := fun i j _ _ h => by
    unfold lexB at *
    simp only [Bool.or_eq_true, Bool.and_eq_true, decide_eq_true_eq, Bool.or_eq_false_iff, Bool.and_eq_false_imp, decide_eq_false_iff_not] at *
    omega
  total := fun i j hi hj hij h => by
    have hne : ps.getD i (0, 0) ≠ ps.getD j (0, 0) := fun e => hij ((List.getElem?_inj hi hn).mp (by rw [List.getElem?_eq_getElem hi, List.getElem?_eq_getElem hj]; simpa [hi, hj] using e))
    have hne' : ¬ ((ps.getD i (0, 0)).1 = (ps.getD j (0, 0)).1 ∧ (ps.getD i (0, 0)).2 = (ps.getD j (0, 0)).2) := fun e => hne (Prod.ext e.1 e.2)
    unfold lexB at *
    simp only [Bool.or_eq_true, Bool.and_eq_true, decide_eq_true_eq, Bool.or_eq_false_iff, Bool.and_eq_false_imp, decide_eq_false_iff_not] at *
    omega

theorem zip_snd (vs : List Value) : (vs.toArray.zip vs.toArray).map (·.2) = vs.toArray := by
  apply Array.toList_inj.mp
  simp [List.map_snd_zip]
theorem sort_short {a : Addr} {vs : List Value} {n : Nat} {news : Led} {P : PySem.Fin → Shared → Prop} (F : Fr h₀ L s.heap m) (N : News h₀ L s.heap news) (ho : s.heap.get? a = some (seqObj "list" vs.toArray n)) (haL : a ≠ L) (ha0 : h₀.get? a = none) (hna : ∀ p ∈ news, p.1 ≠ a)
    (h2 : vs.length < 2) (h : ∀ h' c, Fr h₀ L h' m → News h₀ L h' ((a, listOf vs.toArray c) :: news) → P (.done (.ret .none)) { s with heap := h' }) :
    wpAny (model prog w) A (Builtin.«list.sort» ⟨[.ref a], []⟩) P E s := by
  obtain ⟨c, hc⟩ := sortedHeap_at (out := vs.toArray) ho
  have old : ∀ b o, ¬ b ∈ [a] → s.heap.get? b = some o → (sortedHeap s.heap a vs vs.toArray).get? b = some o := fun b o hb e => (sortedHeap_old (by simpa using hb) (Heap.lt_size e)).trans e
  have fin := h _ c (LCg.fr_but F old haL.symm ha0) fun p hp => by
    rcases hp with _ | ⟨_, hp⟩
    · exact ⟨hc, haL, ha0⟩
    · exact ⟨old _ _ (by simpa using hna p hp) (N p hp).1, (N p hp).2⟩
  obtain ⟨e1, he1⟩ : ∃ e1, (s.heap.update a (Obj.mapSeq fun _ => (#[] : Array Value))).get? a = some (seqObj "list" #[] e1) := ⟨_, get?_update_seq ho fun _ => #[]⟩
  have he3 : (((s.heap.update a (Obj.mapSeq fun _ => (#[] : Array Value))).push (seqObj "tuple" vs.toArray 0)).push (seqObj "list" #[] 0)).get? a = some (seqObj "list" #[] e1) := Heap.get?_push_of_some _ (Heap.get?_push_of_some _ he1)
  have small : vs.length ≤ sizeLine := by rw [sizeLine_eq]; omega
  have hn2 : vs.toArray.size < 2 := by simpa using h2
  have same : (arrOf (SortSt.mk' general' (vs.toArray.zip vs.toArray) #[] 7 none)).map (·.2) = vs.toArray := zip_snd vs
  rw [list_sort_plain]
  wp_walk using listItems_at ho rfl, listUpdate_at ho rfl (hsz := small) (hsz2 := Nat.zero_le _), seqEpoch_at he1 rfl, seqEpoch_at he3 rfl, wpAny_newTuple (hsz := small), wpAny_newList (hsz := Nat.zero_le _), wpAny_ite_true (decide_eq_true hn2)
  rw [if_pos hn2]
  refine wpAny_pure ?_
  dsimp only
  rw [same]
  wp_walk using seqEpoch_at he3 rfl, listUpdate_at he3 rfl (hsz := Nat.zero_le _) (hsz2 := Nat.le_succ_of_le small)
  exact fin
end
end Mine
end

section
open PySem PySem.W PyProof.Rows PySem.Spec PySem.Calls
set_option Elab.async false
set_option maxRecDepth 100000
set_option maxHeartbeats 2000000
namespace Mine
section
variable {prog : Program} {w : World} {A : Around} {E : Value → Shared → Prop} {s : Shared} {h₀ : Heap} {L : Addr} {m : LMap}
theorem kat_of {h : Heap} {news : Led} (N : News h₀ L h news) {vs : List Value} {ps : List (Int × Int)} (ht : TupsAre news vs ps) : ∃ fs, KatTups h vs fs ∧ fs.length = vs.length ∧ ∀ v ∈ fs, ∃ x t, v = Value.int x t := by
  induction ht with
  | nil => exact ⟨[], KatTups.nil, rfl, fun v hv => by cases hv⟩
  | cons hm _ ih =>
    obtain ⟨fs, k, hl, hf⟩ := ih
    refine ⟨_ :: fs, KatTups.cons (N _ hm).1 rfl rfl rfl k, by simp [hl], fun v hv => ?_⟩
    rcases List.mem_cons.mp hv with rfl | hv
    · exact ⟨_, _, rfl⟩
    · exact hf v hv
theorem tups_perm {news : Led} {vs : List Value} {ps : List (Int × Int)} (ht : TupsAre news vs ps) : ∀ (l : List Nat), (∀ i ∈ l, i < vs.length) → TupsAre news (l.map fun i => vs.getD i Value.none) (l.map fun i => ps.getD i (0, 0))
  | [], _ => .nil
  | i :: l, hl => by
    obtain ⟨a, x, y, t, u, e1, e2, e3⟩ := ht.get (hl i List.mem_cons_self)
    have r := tups_perm ht l fun j hj => hl j (List.mem_cons_of_mem _ hj)
    simp only [List.map_cons, List.getD_eq_getElem?_getD, e1, e3, Option.getD_some] at r ⊢
    exact .cons e2 r
theorem range_map {α : Type} {d : α} (l : List α) : (List.range l.length).map (fun i => l.getD i d) = l := by
  refine List.ext_getElem (by simp) fun i h1 h2 => ?_
  simp [h2]
theorem sort_pairs {a : Addr} {vs : List Value} {ps : List (Int × Int)} {n : Nat} {news : Led} {P : PySem.Fin → Shared → Prop} (F : Fr h₀ L s.heap m) (N : News h₀ L s.heap news) (ho : s.heap.get? a = some (seqObj "list" vs.toArray n)) (haL : a ≠ L) (ha0 : h₀.get? a = none) (hna : ∀ p ∈ news, p.1 ≠ a)
    (ht : TupsAre news vs ps) (hn : ps.Nodup) (h64 : vs.length < 64)
    (h : ∀ h' c out qs, Fr h₀ L h' m → News h₀ L h' ((a, listOf (List.toArray out) c) :: news) → TupsAre news out qs → qs.Perm ps → qs.Pairwise (fun p q => lexB p q = true) → P (.done (.ret .none)) { s with heap := h' }) :
    wpAny (model prog w) A (Builtin.«list.sort» ⟨[.ref a], []⟩) P E s := by
  by_cases h2 : vs.length < 2
  · refine sort_short F N ho haL ha0 hna h2 fun h' c F' N' => h h' c vs ps F' N' ht (List.Perm.refl _) ?_
    have hl := ht.length
    match ps, hl with
    | [], _ => exact .nil
    | [p], _ => exact List.pairwise_singleton _ _
    | p :: q :: r, hl => simp at hl; omega
  · refine kat_list_sort F N ho haL ha0 hna (by omega) h64 fun e1 h' F' N' => ?_
    have N2 : News h₀ L h' news := fun p hp => N' p (.tail _ hp)
    obtain ⟨fs, hk, hfl, hfi⟩ := kat_of N2 ht
    refine kat_kind (T := Value.type "int") hk (by omega) (fun v hv => ?_) (by decide) ?_
    · obtain ⟨x, t, rfl⟩ := hfi v hv
      exact .now
    have hkd : (Value.type "int" != Value.type "tuple") = true := by decide
    rw [hkd]
    have hpl : ps.length = vs.length := ht.length.symm
    have S := lex_strict hn
    rw [hpl] at S
    refine KasOK.wp (lt := fun i j => lexB (ps.getD i (0, 0)) (ps.getD j (0, 0))) (N := vs.length) (fun i j C hi hj hC => ?_) (sort_ok S (by omega) fun p' V hs => ?_)
    · unfold kas_ask
      obtain ⟨a1, x1, y1, t1, u1, e1', e2, e3⟩ := ht.get hi
      obtain ⟨a2, x2, y2, t2, u2, f1, f2, f3⟩ := ht.get hj
      simp only [List.getD_eq_getElem?_getD, e1', f1, e3, f3, Option.getD_some] at hC ⊢
      exact lt_pair (N2 _ e2).1 (N2 _ f2).1 hC
    · have hp : ∀ i ∈ p'.toList, i < vs.length := fun i hi => List.mem_range.mp (V.perm.mem_iff.mp hi)
      refine KasFin.intro (g := fun o => (a, o) :: news) F' N' (.head hna) fun h'' c F'' N'' => h h'' c _ (p'.toList.map fun i => ps.getD i (0, 0)) F'' N'' (tups_perm ht _ hp) ?_ ?_
      · have := V.perm.map fun i => ps.getD i (0, 0)
        rw [← hpl, range_map] at this
        exact this
      · rw [List.pairwise_map]
        rw [List.pairwise_iff_getElem]
        intro i j hi hj hij
        have hi' : i < vs.length := by rw [Array.length_toList, V.size] at hi; exact hi
        have hj' : j < vs.length := by rw [Array.length_toList, V.size] at hj; exact hj
        have e := hs i j hij hj'
        have ei := V.get hi'
        have ej := V.get hj'
        rw [← Array.getElem?_toList, List.getElem?_eq_getElem hi] at ei
        rw [← Array.getElem?_toList, List.getElem?_eq_getElem hj] at ej
        rw [Option.some.inj ei, Option.some.inj ej]
        exact e
theorem items_eq {P : Nat → Value → Prop} {acc : Array Value} {ks : List Value} (hit : ItemsOf P acc ks.length) (hP : ∀ j v, P j v → ks[j]? = some v) : acc.toList = ks := by
  have hs : acc.size = ks.length := hit.1
  refine List.ext_getElem? fun j => ?_
  by_cases hj : j < ks.length
  · have hj' : j < acc.size := by omega
    rw [Array.getElem?_toList, Array.getElem?_eq_getElem hj']
    exact (hP j _ (hit.2 j _ (Array.getElem?_eq_getElem hj'))).symm
  · rw [List.getElem?_eq_none (by simp; omega), List.getElem?_eq_none (by omega)]
theorem sorted_dict {d : Addr} {od : Obj} {es : Array DictEntry} {ep : Nat} {ks : List Value} {ps : List (Int × Int)} {news : Led} {Q : Value → Shared → Prop} (hh : A.handled = none) (F : Fr h₀ L s.heap m) (N : News h₀ L s.heap news) (hod : (d, od) ∈ news) (lo : (d == sysModules) = false)
    (hc : od.ExactDict) (hdat : od.data = .dict es ep) (hks : es.toList.map (·.key) = ks) (ht : TupsAre news ks ps) (hn : ps.Nodup) (h64 : ks.length < 64)
    (h : ∀ D c h' tk out qs, Fr h₀ L h' m → News h₀ L h' ((D, listOf (List.toArray out) c) :: news) → (∀ p ∈ news, p.1 < D) → TupsAre news out qs → qs.Perm ps → qs.Pairwise (fun p q => lexB p q = true) → Q (.ref D) { s with heap := h', toks := tk }) :
    wpAny (model prog w) A (call (.builtin "sorted") [.ref d]) Q E s := by
  have hlen : es.size = ks.length := by rw [← hks]; simp
  refine Calls.call_function_entry kind_sorted plain_sorted entry_sorted (args_sorted1 _) ?_
  unfold Builtin.«sorted»
  refine wpAny_bind (m := checkCount "sorted" 1 1 _) (wpAny_pure ?_)
  refine wpAny_bind (kdu_collect (src_obj lo hc hdat) hh (N _ hod).1 (by rw [hlen, sizeLine_eq]; omega) fun h₁ tk₁ acc hk hit => ?_)
  have hacc : acc.toList = ks := items_eq (hlen ▸ hit) fun j v hv => by
    rw [← hks, List.getElem?_map, Array.getElem?_toList]; exact hv
  rw [hacc]
  refine wpAny_bind (wpAny_newList ?_ (by rw [sizeLine_eq]; omega))
  have F1 := F.keeps hk
  have N1 := N.grown hk
  have hL : L < h₁.objs.size := F1.ns.lt
  have keep : ∀ b o, h₁.get? b = some o → (h₁.push (seqObj "list" ks.toArray 0)).get? b = some o := fun b o e => Heap.get?_push_of_some _ e
  have hoL : (h₁.push (seqObj "list" ks.toArray 0)).get? h₁.objs.size = some (seqObj "list" ks.toArray 0) := Heap.get?_push_size _ rfl
  refine wpAny_bind (wpAny_holding (wpAny_call_entry slot_list_sort ⟨_, hoL, rfl⟩ entry_list_sort ?body (args_list_sort _)))
  case body =>
    refine sort_pairs (s := { s with heap := h₁.push (seqObj "list" ks.toArray 0), toks := tk₁ }) (F1.keeps keep) (N1.grown keep) hoL (Nat.ne_of_gt hL) (Heap.get?_none_of_le (Nat.le_trans F1.above (Nat.le_of_lt hL))) (fun p hp => Nat.ne_of_lt (Heap.lt_size (N1 p hp).1)) ht hn h64 fun h' c out qs F' N' ht' hp hs => ?_
    exact ⟨_, rfl, wpAny_pure ⟨_, rfl, h _ c h' tk₁ out qs F' N' (fun p hp => Heap.lt_size (N1 p hp).1) ht' hp hs⟩⟩
end
end Mine
end

section
open PySem PySem.W PyProof.Rows PySem.Spec PySem.Calls
set_option Elab.async false
set_option maxRecDepth 100000
set_option maxHeartbeats 2000000
namespace Mine
def datP (p : Int × Int) : PySem.W.Dat := .tuple [.int p.1, .int p.2]
theorem dat_all {news : Led} {vs : List Value} {ps : List (Int × Int)} (h : TupsAre news vs ps) : DatAll news vs (ps.map datP) := by
  induction h with
  | nil => exact .nil
  | @cons a t u x y vs ps hm _ ih => exact .cons (.tuple (vs := [.int x t, .int y u]) hm (.cons (.int _ _) (.cons (.int _ _) .nil))) ih
theorem dat_ok {ps : List (Int × Int)} : ∀ d ∈ ps.map datP, kqdOk 8 d = true := fun d hd => by
  obtain ⟨p, _, rfl⟩ := List.mem_map.mp hd
  rfl
section
variable {prog : Program} {w : World} {A : Around} {E : Value → Shared → Prop} {s : Shared} {h₀ : Heap} {L : Addr} {m : LMap}
theorem eq_pairs {a b : Addr} {xs ys : List Value} {ka kb : Nat} {ps qs : List (Int × Int)} {news : Led} {Q : Value → Shared → Prop} (N : News h₀ L s.heap news) (ma : (a, listOf xs.toArray ka) ∈ news) (mb : (b, listOf ys.toArray kb) ∈ news)
    (ha : TupsAre news xs ps) (hb : TupsAre news ys qs) (hu : A.units + 64 < cLine) (e : ps = qs) (h : Q (.bool true) s) : wpAny (model prog w) A (compareOp .Eq (.ref a) (.ref b)) Q E s := by
  refine kqd_eq N ma rfl rfl (dat_all ha) (fun p hp => hp) mb rfl rfl (dat_all hb) (fun p hp => hp) dat_ok dat_ok hu ?_
  subst e
  simpa using h
end
/-- what is told, each once -/
def dq (ps : List (Int × Int)) : List (Int × Int) := ps.foldl (fun acc p => if p ∈ acc then acc else acc ++ [p]) []
def keyP (p : Int × Int) : K2 := [p.1, p.2]
theorem keyP_inj {p q : Int × Int} (h : keyP p = keyP q) : p = q := by
  unfold keyP at h
  simp at h
  exact Prod.ext h.1 h.2
def refsOf (xs : List (K2 × Addr × Value)) : List Value := xs.map fun x => Value.ref x.2.1
theorem put_refs (xs : List (K2 × Addr × Value)) (k : K2) (v : Value) : refsOf (xs.map (putAt k v)) = refsOf xs := by
  unfold refsOf
  rw [List.map_map]
  refine List.map_congr_left fun x _ => ?_
  simp only [Function.comp, putAt]
  split <;> rfl
theorem atKey_iff {xs : List (K2 × Addr × Value)} {acc : List (Int × Int)} (hk : xs.map (·.1) = acc.map keyP) (p : Int × Int) : (atKey xs (keyP p)).isSome = true ↔ p ∈ acc := by
  unfold atKey
  rw [Option.isSome_map, List.find?_isSome]
  constructor
  · rintro ⟨x, hx, e⟩
    have : keyP p ∈ acc.map keyP := hk ▸ List.mem_map.mpr ⟨x, hx, of_decide_eq_true e⟩
    obtain ⟨q, hq, e'⟩ := List.mem_map.mp this
    rw [← keyP_inj e']; exact hq
  · intro hp
    have : keyP p ∈ xs.map (·.1) := hk ▸ List.mem_map.mpr ⟨p, hp, rfl⟩
    obtain ⟨x, hx, e⟩ := List.mem_map.mp this
    exact ⟨x, hx, decide_eq_true e⟩
theorem put_all {news : Led} {fs : List Value} {ps : List (Int × Int)} (h : TupsAre news fs ps) : ∀ (xs : List (K2 × Addr × Value)) (acc : List (Int × Int)), xs.map (·.1) = acc.map keyP → TupsAre news (refsOf xs) acc →
    TupsAre news (refsOf (putAll xs (kasOf fs ps))) (ps.foldl (fun acc p => if p ∈ acc then acc else acc ++ [p]) acc) := by
  induction h with
  | nil => intro xs acc _ ht; exact ht
  | @cons a t u x y vs ps hm _ ih =>
    intro xs acc hk ht
    show TupsAre news (refsOf (putAll (storedH xs [x, y] a (.bool true)) (kasOf vs ps))) (ps.foldl _ (if (x, y) ∈ acc then acc else acc ++ [(x, y)]))
    by_cases hin : (x, y) ∈ acc
    · rw [if_pos hin]
      have hs : (atKey xs [x, y]).isSome = true := (atKey_iff hk (x, y)).mpr hin
      have e : storedH xs [x, y] a (.bool true) = xs.map (putAt [x, y] (.bool true)) := by
        unfold storedH; rw [if_pos hs]
      rw [e]
      exact ih _ acc (by rw [keys_map_putAt]; exact hk) (by rw [put_refs]; exact ht)
    · rw [if_neg hin]
      have hs : ¬ (atKey xs [x, y]).isSome = true := fun q => hin ((atKey_iff hk (x, y)).mp q)
      have e : storedH xs [x, y] a (.bool true) = xs ++ [([x, y], a, .bool true)] := by
        unfold storedH; rw [if_neg hs]
      rw [e]
      refine ih _ _ (by rw [List.map_append, List.map_append, hk]; rfl) ?_
      unfold refsOf at ht ⊢
      rw [List.map_append]
      exact ht.append (.cons hm .nil)
theorem dq_go (ps : List (Int × Int)) : ∀ acc : List (Int × Int), acc.Nodup → (ps.foldl (fun acc p => if p ∈ acc then acc else acc ++ [p]) acc).Nodup ∧ ∀ p, p ∈ ps.foldl (fun acc p => if p ∈ acc then acc else acc ++ [p]) acc ↔ p ∈ acc ∨ p ∈ ps := by
  induction ps with
  | nil => intro acc h; exact ⟨h, fun p => by simp⟩
  | cons q ps ih =>
    intro acc h
    rw [List.foldl_cons]
    by_cases hq : q ∈ acc
    · rw [if_pos hq]
      refine ⟨(ih acc h).1, fun p => ?_⟩
      rw [(ih acc h).2, List.mem_cons]
      constructor
      · rintro (a | a); exact .inl a; exact .inr (.inr a)
      · rintro (a | rfl | a); exact .inl a; exact .inl hq; exact .inr a
    · rw [if_neg hq]
      have h' : (acc ++ [q]).Nodup := by
        rw [List.nodup_append]
        exact ⟨h, (by simp), fun a ha b hb e => by rw [List.mem_singleton] at hb; subst hb; subst e; exact hq ha⟩
      refine ⟨(ih _ h').1, fun p => ?_⟩
      rw [(ih _ h').2, List.mem_append, List.mem_singleton, List.mem_cons, or_assoc]
theorem dq_nodup (ps : List (Int × Int)) : (dq ps).Nodup := (dq_go ps [] List.nodup_nil).1
theorem mem_dq {ps : List (Int × Int)} {p : Int × Int} : p ∈ dq ps ↔ p ∈ ps := by
  unfold dq; rw [(dq_go ps [] List.nodup_nil).2]; simp
end Mine
end

section
open PySem PySem.W
set_option Elab.async false
set_option maxHeartbeats 1000000
namespace Mine
/-! the plain law, 1: the least alignment -/
def Inc (i j i' j' : Nat) (l : List (Nat × Nat)) : Prop := l.Pairwise (fun p q => p.1 < q.1 ∧ p.2 < q.2) ∧ ∀ p ∈ l, i ≤ p.1 ∧ p.1 < i' ∧ j ≤ p.2 ∧ p.2 < j'
def sumD (d : Nat → Nat → Int) (l : List (Nat × Nat)) : Int := (l.map fun p => d p.1 p.2).foldr (· + ·) 0
def cst (d : Nat → Nat → Int) (i j i' j' : Nat) (l : List (Nat × Nat)) : Int := ((i' : Int) - i) + ((j' : Int) - j) - 2 * (l.length : Int) + sumD d l
theorem sumD_append (d : Nat → Nat → Int) (l k : List (Nat × Nat)) : sumD d (l ++ k) = sumD d l + sumD d k := by
  induction l with
  | nil => simp [sumD]
  | cons p l ih => simp only [sumD, List.cons_append, List.map_cons, List.foldr_cons] at ih ⊢; omega
theorem sumD_cons (d : Nat → Nat → Int) (p : Nat × Nat) (l : List (Nat × Nat)) : sumD d (p :: l) = d p.1 p.2 + sumD d l := rfl
theorem Inc.nil (i j i' j' : Nat) : Inc i j i' j' [] := ⟨.nil, fun _ h => nomatch h⟩
theorem Inc.snoc {i j a b i' j' : Nat} {l : List (Nat × Nat)} (h : Inc i j a b l) (h1 : i ≤ a) (h2 : j ≤ b) (h3 : a < i') (h4 : b < j') : Inc i j i' j' (l ++ [(a, b)]) := by
  refine ⟨List.pairwise_append.mpr ⟨h.1, List.pairwise_singleton _ _, fun p hp q hq => ?_⟩, fun p hp => ?_⟩
  · rw [List.mem_singleton] at hq; subst hq
    have := h.2 p hp; exact ⟨this.2.1, this.2.2.2⟩
  · rcases List.mem_append.mp hp with hp | hp
    · have := h.2 p hp; omega
    · rw [List.mem_singleton] at hp; subst hp; exact ⟨h1, h3, h2, h4⟩
theorem Inc.wide {i j i' j' a b : Nat} {l : List (Nat × Nat)} (h : Inc i j i' j' l) (h1 : i' ≤ a) (h2 : j' ≤ b) : Inc i j a b l := ⟨h.1, fun p hp => by have := h.2 p hp; omega⟩
theorem ahead_le (d : Nat → Nat → Int) : ∀ (i j : Nat) (l : List (Nat × Nat)), Inc 0 0 i j l → Ahead d i j ≤ cst d 0 0 i j l
  | 0, j, l, h => by
    have : l = [] := by
      match l, h with
      | [], _ => rfl
      | p :: _, h => have := h.2 p List.mem_cons_self; omega
    subst this; rw [Ahead_top]; simp [cst, sumD]
  | i + 1, 0, l, h => by
    have : l = [] := by
      match l, h with
      | [], _ => rfl
      | p :: _, h => have := h.2 p List.mem_cons_self; omega
    subst this; rw [Ahead_zero]; simp [cst, sumD]
  | i + 1, j + 1, l, h => by
    rw [Ahead_succ]
    by_cases hd : (i, j) ∈ l
    · obtain ⟨l1, l2, rfl⟩ := List.append_of_mem hd
      have hp := List.pairwise_append.mp h.1
      have e2 : l2 = [] := by
        match l2, hp, h with
        | [], _, _ => rfl
        | q :: _, hp, h =>
          have h1 := (List.pairwise_cons.mp hp.2.1).1 q List.mem_cons_self
          have h2 := h.2 q (by simp)
          simp at h1; omega
      subst e2
      have h1 : Inc 0 0 i j l1 := ⟨hp.1, fun p hq => by have := hp.2.2 p hq (i, j) (by simp); simp at this; omega⟩
      have := ahead_le d i j l1 h1
      have es := sumD_append d l1 [(i, j)]
      have ec : sumD d [(i, j)] = d i j := by simp [sumD]
      unfold cst at this ⊢
      rw [es, ec, List.length_append]
      simp
      omega
    · by_cases hi : ∃ p ∈ l, p.1 = i
      · obtain ⟨p, hp, e⟩ := hi
        have h3 : Inc 0 0 (i + 1) j l := ⟨h.1, fun q hq => by
          have h1 := h.2 q hq
          refine ⟨by omega, by omega, by omega, ?_⟩
          by_cases hqj : q.2 = j
          · exfalso
            by_cases hqi : q.1 = i
            · exact hd (by rw [← hqi, ← hqj]; exact hq)
            · have hne : p ≠ q := fun e' => hqi (e' ▸ e)
              have hrel : ∀ {l : List (Nat × Nat)}, l.Pairwise (fun p q => p.1 < q.1 ∧ p.2 < q.2) → p ∈ l → q ∈ l → (p.1 < q.1 ∧ p.2 < q.2) ∨ (q.1 < p.1 ∧ q.2 < p.2) := by
                intro l hl
                induction l with
                | nil => intro h; cases h
                | cons x l ih =>
                  intro h1 h2
                  have hx := List.pairwise_cons.mp hl
                  rcases List.mem_cons.mp h1 with a1 | a1
                  · rcases List.mem_cons.mp h2 with a2 | a2
                    · exact absurd (a1.trans a2.symm) hne
                    · rw [a1]; exact .inl (hx.1 _ a2)
                  · rcases List.mem_cons.mp h2 with a2 | a2
                    · rw [a2]; exact .inr (hx.1 _ a1)
                    · exact ih hx.2 a1 a2
              have h2 := h.2 p hp
              rcases hrel h.1 hp hq with r | r <;> omega
          · omega⟩
        have := ahead_le d (i + 1) j l h3
        unfold cst at this ⊢
        push_cast at this ⊢
        omega
      · have h3 : Inc 0 0 i (j + 1) l := ⟨h.1, fun q hq => by
          have h1 := h.2 q hq
          have h2 : q.1 ≠ i := fun e => hi ⟨q, hq, e⟩
          omega⟩
        have := ahead_le d i (j + 1) l h3
        unfold cst at this ⊢
        push_cast at this ⊢
        omega
theorem ahead_ex (d : Nat → Nat → Int) : ∀ (i j : Nat), ∃ l, Inc 0 0 i j l ∧ cst d 0 0 i j l = Ahead d i j
  | 0, j => ⟨[], Inc.nil _ _ _ _, by rw [Ahead_top]; simp [cst, sumD]⟩
  | i + 1, 0 => ⟨[], Inc.nil _ _ _ _, by rw [Ahead_zero]; simp [cst, sumD]⟩
  | i + 1, j + 1 => by
    obtain ⟨l1, h1, e1⟩ := ahead_ex d i j
    obtain ⟨l2, h2, e2⟩ := ahead_ex d i (j + 1)
    obtain ⟨l3, h3, e3⟩ := ahead_ex d (i + 1) j
    rw [Ahead_succ]
    by_cases c1 : Ahead d i j + d i j ≤ Ahead d i (j + 1) + 1 ∧ Ahead d i j + d i j ≤ Ahead d (i + 1) j + 1
    · refine ⟨l1 ++ [(i, j)], h1.snoc (Nat.zero_le _) (Nat.zero_le _) (by omega) (by omega), ?_⟩
      have ec : sumD d [(i, j)] = d i j := by simp [sumD]
      unfold cst at e1 ⊢
      rw [sumD_append, ec, List.length_append]
      simp
      omega
    · by_cases c2 : Ahead d i (j + 1) ≤ Ahead d (i + 1) j
      · refine ⟨l2, h2.wide (by omega) (by omega), ?_⟩
        unfold cst at e2 ⊢
        push_cast at e2 ⊢
        omega
      · refine ⟨l3, h3.wide (by omega) (by omega), ?_⟩
        unfold cst at e3 ⊢
        push_cast at e3 ⊢
        omega
end Mine
end

section
open PySem PySem.W
set_option Elab.async false
set_option maxHeartbeats 1000000
namespace Mine
/-! the plain law, 2: from behind, by mirroring -/
def mir (n M : Nat) (l : List (Nat × Nat)) : List (Nat × Nat) := (l.map fun p => (n - 1 - p.1, M - 1 - p.2)).reverse
theorem mir_length (n M : Nat) (l : List (Nat × Nat)) : (mir n M l).length = l.length := by simp [mir]
theorem sumD_reverse (d : Nat → Nat → Int) (l : List (Nat × Nat)) : sumD d l.reverse = sumD d l := by
  induction l with
  | nil => rfl
  | cons p l ih => rw [List.reverse_cons, sumD_append, ih, sumD_cons, sumD_cons]; simp [sumD]; omega
theorem mir_sum {d : Nat → Nat → Int} {n M : Nat} {l : List (Nat × Nat)} (h : ∀ p ∈ l, p.1 < n ∧ p.2 < M) : sumD (back d n M) (mir n M l) = sumD d l := by
  unfold mir
  rw [sumD_reverse]
  induction l with
  | nil => rfl
  | cons p l ih =>
    rw [List.map_cons, sumD_cons, sumD_cons, ih fun q hq => h q (List.mem_cons_of_mem _ hq)]
    have := h p List.mem_cons_self
    unfold back
    show d (n - 1 - (n - 1 - p.1)) (M - 1 - (M - 1 - p.2)) + _ = _
    rw [show n - 1 - (n - 1 - p.1) = p.1 by omega, show M - 1 - (M - 1 - p.2) = p.2 by omega]
theorem mir_sum' {d : Nat → Nat → Int} {n M : Nat} {l : List (Nat × Nat)} : sumD d (mir n M l) = sumD (back d n M) l := by
  unfold mir
  rw [sumD_reverse]
  induction l with
  | nil => rfl
  | cons p l ih => rw [List.map_cons, sumD_cons, sumD_cons, ih]; rfl
theorem mir_inc {n M i j i' j' : Nat} {l : List (Nat × Nat)} (h : Inc i j i' j' l) (hi : i' ≤ n) (hj : j' ≤ M) : Inc (n - i') (M - j') (n - i) (M - j) (mir n M l) := by
  refine ⟨?_, fun p hp => ?_⟩
  · unfold mir
    rw [List.pairwise_reverse, List.pairwise_map]
    refine List.Pairwise.imp_of_mem (fun {a b} ha hb hab => ?_) h.1
    have h1 := h.2 a ha
    have h2 := h.2 b hb
    show n - 1 - b.1 < n - 1 - a.1 ∧ M - 1 - b.2 < M - 1 - a.2
    omega
  · unfold mir at hp
    rw [List.mem_reverse, List.mem_map] at hp
    obtain ⟨q, hq, rfl⟩ := hp
    have h1 := h.2 q hq
    show n - i' ≤ n - 1 - q.1 ∧ n - 1 - q.1 < n - i ∧ M - j' ≤ M - 1 - q.2 ∧ M - 1 - q.2 < M - j
    omega
theorem back_le (d : Nat → Nat → Int) {n M i j : Nat} (hi : i ≤ n) (hj : j ≤ M) {l : List (Nat × Nat)} (h : Inc i j n M l) : Ahead (back d n M) (n - i) (M - j) ≤ cst d i j n M l := by
  have h1 := mir_inc h (Nat.le_refl n) (Nat.le_refl M)
  rw [Nat.sub_self, Nat.sub_self] at h1
  have h2 := ahead_le (back d n M) _ _ _ h1
  have h3 := mir_sum (d := d) (n := n) (M := M) (l := l) fun p hp => by have := h.2 p hp; omega
  unfold cst at h2 ⊢
  rw [h3, mir_length] at h2
  omega
theorem back_ex (d : Nat → Nat → Int) {n M i j : Nat} (hi : i ≤ n) (hj : j ≤ M) : ∃ l, Inc i j n M l ∧ cst d i j n M l = Ahead (back d n M) (n - i) (M - j) := by
  obtain ⟨l, h, e⟩ := ahead_ex (back d n M) (n - i) (M - j)
  have h1 := mir_inc (n := n) (M := M) h (by omega) (by omega)
  rw [show n - (n - i) = i by omega, show M - (M - j) = j by omega] at h1
  refine ⟨mir n M l, ⟨h1.1, fun p hp => by have := h1.2 p hp; omega⟩, ?_⟩
  unfold cst at e ⊢
  rw [mir_sum', mir_length]
  omega
/-- a place is told just when some least alignment has it -/
theorem hit_iff (ns : List Int) (first : Int) (M : Nat) {i j : Nat} (hi : i < ns.length) (hj : j < M) :
    hits ns first M i j = true ↔ ∃ l, Inc 0 0 ns.length M l ∧ cst (dlt ns first) 0 0 ns.length M l = Ahead (back (dlt ns first) ns.length M) ns.length M ∧ (i, j) ∈ l := by
  unfold hits
  rw [beq_iff_eq]
  have glue : ∀ l1 l2, Inc 0 0 i j l1 → Inc (i + 1) (j + 1) ns.length M l2 → Inc 0 0 ns.length M (l1 ++ (i, j) :: l2) := fun l1 l2 a b => by
    refine ⟨List.pairwise_append.mpr ⟨a.1, List.pairwise_cons.mpr ⟨fun q hq => ?_, b.1⟩, fun p hp q hq => ?_⟩, fun p hp => ?_⟩
    · have := b.2 q hq; exact ⟨by omega, by omega⟩
    · have h1 := a.2 p hp
      rcases List.mem_cons.mp hq with rfl | hq
      · exact ⟨h1.2.1, h1.2.2.2⟩
      · have := b.2 q hq; omega
    · rcases List.mem_append.mp hp with hp | hp
      · have := a.2 p hp; omega
      · rcases List.mem_cons.mp hp with rfl | hp
        · exact ⟨Nat.zero_le _, hi, Nat.zero_le _, hj⟩
        · have := b.2 p hp; omega
  have sums : ∀ l1 l2, cst (dlt ns first) 0 0 ns.length M (l1 ++ (i, j) :: l2) = cst (dlt ns first) 0 0 i j l1 + dlt ns first i j + cst (dlt ns first) (i + 1) (j + 1) ns.length M l2 := fun l1 l2 => by
    unfold cst
    rw [sumD_append, sumD_cons, List.length_append, List.length_cons]
    push_cast
    omega
  constructor
  · intro h
    obtain ⟨l1, a1, e1⟩ := ahead_ex (dlt ns first) i j
    obtain ⟨l2, a2, e2⟩ := back_ex (dlt ns first) (n := ns.length) (M := M) (i := i + 1) (j := j + 1) hi hj
    refine ⟨l1 ++ (i, j) :: l2, glue l1 l2 a1 a2, ?_, by simp⟩
    rw [sums, e1, e2]; exact h
  · rintro ⟨l, hl, e, hm⟩
    obtain ⟨l1, l2, rfl⟩ := List.append_of_mem hm
    have hp := List.pairwise_append.mp hl.1
    have hc := List.pairwise_cons.mp hp.2.1
    have a1 : Inc 0 0 i j l1 := ⟨hp.1, fun p hq => by have := hp.2.2 p hq (i, j) (by simp); simp at this; omega⟩
    have a2 : Inc (i + 1) (j + 1) ns.length M l2 := ⟨hc.2, fun p hq => by have h1 := hc.1 p hq; have h2 := hl.2 p (by simp [hq]); simp at h1; omega⟩
    have b1 := ahead_le (dlt ns first) i j l1 a1
    have b2 := back_le (dlt ns first) (n := ns.length) (M := M) (i := i + 1) (j := j + 1) hi hj a2
    rw [sums] at e
    obtain ⟨k1, c1, f1⟩ := ahead_ex (dlt ns first) i j
    obtain ⟨k2, c2, f2⟩ := back_ex (dlt ns first) (n := ns.length) (M := M) (i := i + 1) (j := j + 1) hi hj
    have b3 := back_le (dlt ns first) (n := ns.length) (M := M) (i := 0) (j := 0) (Nat.zero_le _) (Nat.zero_le _) (glue k1 k2 c1 c2)
    rw [sums, f1, f2] at b3
    simp only [Nat.sub_zero] at b3
    omega
end Mine
end

section
open PySem PySem.W
set_option Elab.async false
set_option maxHeartbeats 1000000
namespace Mine
/-! the plain law, 3: what the loops keep -/
def Inv (ns : List Int) (first : Int) (M : Nat) (S : List Int → List Int → Prop) (st : St) : Prop :=
  (∀ a b, S a b → a.length = b.length → st.1 ≤ costP ns M (zipP first a b)) ∧
  (∀ p, p ∈ st.2 ↔ ∃ a b, S a b ∧ a.length = b.length ∧ costP ns M (zipP first a b) = st.1 ∧ p ∈ zipP first a b) ∧
  (st.1 = (ns.length : Int) + (M : Int) + 9 ∨ ∃ a b, S a b ∧ a.length = b.length ∧ costP ns M (zipP first a b) = st.1)
theorem Inv.step {ns : List Int} {first : Int} {M : Nat} {S : List Int → List Int → Prop} {st : St} (h : Inv ns first M S st) (a b : List Int) : Inv ns first M (fun x y => S x y ∨ (x = a ∧ y = b)) (stepF ns first M a st b) := by
  obtain ⟨h1, h2, h3⟩ := h
  by_cases hl : a.length = b.length
  · by_cases c1 : costP ns M (zipP first a b) < st.1
    · have e : stepF ns first M a st b = (costP ns M (zipP first a b), zipP first a b) := step_lt (by omega) rfl c1
      rw [e]
      refine ⟨fun x y hs hxy => ?_, fun p => ⟨fun hp => ⟨a, b, .inr ⟨rfl, rfl⟩, hl, rfl, hp⟩, ?_⟩, .inr ⟨a, b, .inr ⟨rfl, rfl⟩, hl, rfl⟩⟩
      · rcases hs with hs | ⟨rfl, rfl⟩
        · have := h1 x y hs hxy; show costP ns M (zipP first a b) ≤ _; omega
        · exact Int.le_refl _
      · rintro ⟨x, y, hs | ⟨rfl, rfl⟩, hxy, hc, hp⟩
        · have := h1 x y hs hxy
          have hc' : costP ns M (zipP first x y) = costP ns M (zipP first a b) := hc
          omega
        · exact hp
    · by_cases c2 : costP ns M (zipP first a b) = st.1
      · have e : stepF ns first M a st b = (st.1, st.2 ++ zipP first a b) := step_eq (by omega) rfl c1 c2
        rw [e]
        refine ⟨fun x y hs hxy => ?_, fun p => ?_, .inr ⟨a, b, .inr ⟨rfl, rfl⟩, hl, c2⟩⟩
        · rcases hs with hs | ⟨rfl, rfl⟩
          · exact h1 x y hs hxy
          · show st.1 ≤ _; omega
        · show p ∈ st.2 ++ zipP first a b ↔ _
          rw [List.mem_append, h2]
          constructor
          · rintro (⟨x, y, hs, r⟩ | hp)
            · exact ⟨x, y, .inl hs, r⟩
            · exact ⟨a, b, .inr ⟨rfl, rfl⟩, hl, c2, hp⟩
          · rintro ⟨x, y, hs | ⟨rfl, rfl⟩, r⟩
            · exact .inl ⟨x, y, hs, r⟩
            · exact .inr r.2.2
      · have e : stepF ns first M a st b = st := step_gt (by omega) rfl c1 c2
        rw [e]
        refine ⟨fun x y hs hxy => ?_, fun p => ?_, ?_⟩
        · rcases hs with hs | ⟨rfl, rfl⟩
          · exact h1 x y hs hxy
          · omega
        · rw [h2]
          constructor
          · rintro ⟨x, y, hs, r⟩; exact ⟨x, y, .inl hs, r⟩
          · rintro ⟨x, y, hs | ⟨rfl, rfl⟩, r⟩
            · exact ⟨x, y, hs, r⟩
            · exact absurd r.2.1 c2
        · rcases h3 with h3 | ⟨x, y, hs, r⟩
          · exact .inl h3
          · exact .inr ⟨x, y, .inl hs, r⟩
  · have e : stepF ns first M a st b = st := step_ne (by omega)
    rw [e]
    refine ⟨fun x y hs hxy => ?_, fun p => ?_, ?_⟩
    · rcases hs with hs | ⟨rfl, rfl⟩
      · exact h1 x y hs hxy
      · exact absurd hxy hl
    · rw [h2]
      constructor
      · rintro ⟨x, y, hs, r⟩; exact ⟨x, y, .inl hs, r⟩
      · rintro ⟨x, y, hs | ⟨rfl, rfl⟩, r⟩
        · exact ⟨x, y, hs, r⟩
        · exact absurd r.1 hl
    · rcases h3 with h3 | ⟨x, y, hs, r⟩
      · exact .inl h3
      · exact .inr ⟨x, y, .inl hs, r⟩
theorem Inv.same {ns : List Int} {first : Int} {M : Nat} {S T : List Int → List Int → Prop} {st : St} (h : Inv ns first M S st) (e : ∀ a b, S a b ↔ T a b) : Inv ns first M T st := by
  have : S = T := by funext a b; exact propext (e a b)
  exact this ▸ h
theorem inner_inv {ns : List Int} {first : Int} {M : Nat} {S : List Int → List Int → Prop} {a : List Int} {st : St} (h : Inv ns first M S st) : ∀ j, Inv ns first M (fun x y => S x y ∨ (x = a ∧ ∃ q, q < j ∧ y = pickTo M q)) (innerF ns first M a st j)
  | 0 => h.same fun x y => ⟨fun h => .inl h, fun h => by rcases h with h | ⟨_, q, hq, _⟩; exact h; omega⟩
  | j + 1 => by
    refine ((inner_inv h j).step a (pickTo M j)).same fun x y => ⟨fun h => ?_, fun h => ?_⟩
    · rcases h with (h | ⟨rfl, q, hq, rfl⟩) | ⟨rfl, rfl⟩
      · exact .inl h
      · exact .inr ⟨rfl, q, by omega, rfl⟩
      · exact .inr ⟨rfl, j, by omega, rfl⟩
    · rcases h with h | ⟨rfl, q, hq, rfl⟩
      · exact .inl (.inl h)
      · by_cases e : q < j
        · exact .inl (.inr ⟨rfl, q, e, rfl⟩)
        · obtain rfl : q = j := by omega
          exact .inr ⟨rfl, rfl⟩
theorem outer_inv (ns : List Int) (first : Int) (M : Nat) : ∀ i, Inv ns first M (fun x y => ∃ p q, p < i ∧ q < 2 ^ M ∧ x = pickTo ns.length p ∧ y = pickTo M q) (outerF ns first M i)
  | 0 => ⟨fun a b h => by obtain ⟨p, _, hp, _⟩ := h; omega, fun p => ⟨fun h => (by cases h), fun ⟨_, _, ⟨p, _, hp, _⟩, _⟩ => by omega⟩, .inl rfl⟩
  | i + 1 => by
    refine (inner_inv (a := pickTo ns.length i) (outer_inv ns first M i) (2 ^ M)).same fun x y => ⟨fun h => ?_, fun h => ?_⟩
    · rcases h with ⟨p, q, hp, hq, rfl, rfl⟩ | ⟨rfl, q, hq, rfl⟩
      · exact ⟨p, q, by omega, hq, rfl, rfl⟩
      · exact ⟨i, q, by omega, hq, rfl, rfl⟩
    · obtain ⟨p, q, hp, hq, rfl, rfl⟩ := h
      by_cases e : p < i
      · exact .inl ⟨p, q, e, hq, rfl, rfl⟩
      · obtain rfl : p = i := by omega
        exact .inr ⟨rfl, q, hq, rfl⟩
end Mine
end

section
open PySem PySem.W
set_option Elab.async false
set_option maxHeartbeats 1000000
namespace Mine
/-! the plain law, 4: every choice is met -/
def pickN (n p : Nat) : List Nat := (List.range n).filter fun a => p / 2 ^ a % 2 == 1
theorem pickTo_eq (n p : Nat) : pickTo n p = (pickN n p).map fun (a : Nat) => (a : Int) := rfl
theorem bit_add {p n a : Nat} (h : a < n) : (p + 2 ^ n) / 2 ^ a % 2 = p / 2 ^ a % 2 := by
  have e : 2 ^ n = 2 ^ a * (2 * 2 ^ (n - a - 1)) := by
    rw [← Nat.pow_succ', ← Nat.pow_add]; congr 1; omega
  rw [e, Nat.add_mul_div_left _ _ (Nat.pow_pos (by decide)), Nat.add_mul_mod_self_left]
theorem pick_surj : ∀ (n : Nat) (A : List Nat), A.Pairwise (· < ·) → (∀ x ∈ A, x < n) → ∃ p, p < 2 ^ n ∧ pickN n p = A
  | 0, A, _, h => ⟨0, by decide, by
    match A, h with
    | [], _ => rfl
    | x :: _, h => exact absurd (h x List.mem_cons_self) (Nat.not_lt_zero _)⟩
  | n + 1, A, hp, h => by
    have split : ∀ p, pickN (n + 1) p = pickN n p ++ if p / 2 ^ n % 2 = 1 then [n] else [] := fun p => by
      unfold pickN; rw [List.range_succ, List.filter_append]
      congr 1
      by_cases c : p / 2 ^ n % 2 = 1
      · rw [if_pos c]; simp [c]
      · rw [if_neg c]; simp [c]
    by_cases hn : n ∈ A
    · obtain ⟨l1, l2, rfl⟩ := List.append_of_mem hn
      have q := List.pairwise_append.mp hp
      have e2 : l2 = [] := by
        match l2, q, h with
        | [], _, _ => rfl
        | x :: _, q, h =>
          have a1 := (List.pairwise_cons.mp q.2.1).1 x List.mem_cons_self
          have a2 := h x (by simp)
          omega
      subst e2
      obtain ⟨p, hp', e⟩ := pick_surj n l1 q.1 fun x hx => q.2.2 x hx n (by simp)
      refine ⟨p + 2 ^ n, by rw [Nat.pow_succ]; omega, ?_⟩
      rw [split]
      have h1 : pickN n (p + 2 ^ n) = pickN n p := List.filter_congr fun a ha => by rw [bit_add (List.mem_range.mp ha)]
      have h2 : (p + 2 ^ n) / 2 ^ n % 2 = 1 := by
        rw [Nat.add_div_right _ (Nat.pow_pos (by decide)), Nat.div_eq_of_lt hp']
      rw [h1, e, if_pos h2]
    · obtain ⟨p, hp', e⟩ := pick_surj n A hp fun x hx => by
        have := h x hx
        have : x ≠ n := fun q => hn (q ▸ hx)
        omega
      refine ⟨p, by rw [Nat.pow_succ]; omega, ?_⟩
      rw [split, e, if_neg (by rw [Nat.div_eq_of_lt hp']; decide), List.append_nil]
theorem pickN_sorted (n p : Nat) : (pickN n p).Pairwise (· < ·) := List.pairwise_lt_range.filter _
theorem pickN_lt {n p x : Nat} (h : x ∈ pickN n p) : x < n := List.mem_range.mp (List.mem_filter.mp h).1
end Mine
end

section
open PySem PySem.W
set_option Elab.async false
set_option maxHeartbeats 1000000
namespace Mine
/-! the plain law, 5: the whole -/
def tellP (first : Int) (p : Nat × Nat) : Int × Int := ((p.1 : Int), first + (p.2 : Int))
theorem zip_tell (first : Int) : ∀ (A B : List Nat), zipP first (A.map fun (a : Nat) => (a : Int)) (B.map fun (a : Nat) => (a : Int)) = (A.zip B).map (tellP first)
  | [], _ => by simp [zipP]
  | _ :: _, [] => by simp [zipP]
  | a :: A, b :: B => by simp only [List.map_cons, zipP, List.zip_cons_cons, zip_tell first A B]; rfl
theorem same_mod (x : Int) : (x + 7).fmod 8 = (x - 1).fmod 8 := by
  rw [Int.fmod_eq_emod_of_nonneg _ (by decide), Int.fmod_eq_emod_of_nonneg _ (by decide)]; omega
theorem miss_sum (ns : List Int) (first : Int) (l : List (Nat × Nat)) : (missN ns (l.map (tellP first)) : Int) = sumD (dlt ns first) l := by
  induction l with
  | nil => rfl
  | cons p l ih =>
    rw [sumD_cons, ← ih]
    unfold missN dlt
    rw [List.map_cons, List.filter_cons]
    have e : ((tellP first p).2 + 7).fmod 8 = (first + (p.2 : Int) - 1).fmod 8 := same_mod _
    have e1 : (tellP first p).1.toNat = p.1 := Int.toNat_natCast _
    rw [e, e1]
    by_cases c : (first + (p.2 : Int) - 1).fmod 8 = ns.getD p.1 0
    · have c' : (ns.getD p.1 0 == (first + (p.2 : Int) - 1).fmod 8) = true := by rw [c]; exact beq_self_eq_true _
      rw [c', decide_eq_true c]; simp
    · have c' : (ns.getD p.1 0 == (first + (p.2 : Int) - 1).fmod 8) = false := beq_eq_false_iff_ne.mpr (Ne.symm c)
      rw [c', decide_eq_false c]; simp; omega
theorem cost_cst (ns : List Int) (first : Int) (M : Nat) (l : List (Nat × Nat)) : costP ns M (l.map (tellP first)) = cst (dlt ns first) 0 0 ns.length M l := by
  unfold costP cst
  rw [miss_sum, List.length_map]; simp
theorem zip_inc {n M : Nat} : ∀ (A B : List Nat), A.Pairwise (· < ·) → B.Pairwise (· < ·) → (∀ x ∈ A, x < n) → (∀ x ∈ B, x < M) → Inc 0 0 n M (A.zip B)
  | [], _, _, _, _, _ => by simpa using Inc.nil 0 0 n M
  | _ :: _, [], _, _, _, _ => by simpa using Inc.nil 0 0 n M
  | a :: A, b :: B, ha, hb, h1, h2 => by
    have ih := zip_inc A B (List.pairwise_cons.mp ha).2 (List.pairwise_cons.mp hb).2 (fun x hx => h1 x (List.mem_cons_of_mem _ hx)) (fun x hx => h2 x (List.mem_cons_of_mem _ hx))
    rw [List.zip_cons_cons]
    refine ⟨List.pairwise_cons.mpr ⟨fun q hq => ?_, ih.1⟩, fun p hp => ?_⟩
    · have := List.of_mem_zip (a := q.1) (b := q.2) hq
      exact ⟨(List.pairwise_cons.mp ha).1 _ this.1, (List.pairwise_cons.mp hb).1 _ this.2⟩
    · rcases List.mem_cons.mp hp with rfl | hp
      · exact ⟨Nat.zero_le _, h1 _ List.mem_cons_self, Nat.zero_le _, h2 _ List.mem_cons_self⟩
      · exact ih.2 p hp
theorem plain_law' (ns : List Int) (first : Int) (M : Nat) : ∀ p, (∃ i j, i < ns.length ∧ j < M ∧ hits ns first M i j = true ∧ p = ((i : Int), first + (j : Int))) ↔ p ∈ (outerF ns first M (2 ^ ns.length)).2 := by
  obtain ⟨h1, h2, h3⟩ := outer_inv ns first M (2 ^ ns.length)
  have met : ∀ l, Inc 0 0 ns.length M l → ∃ a b, (∃ p q, p < 2 ^ ns.length ∧ q < 2 ^ M ∧ a = pickTo ns.length p ∧ b = pickTo M q) ∧ a.length = b.length ∧ zipP first a b = l.map (tellP first) := fun l hl => by
    obtain ⟨p, hp, ep⟩ := pick_surj ns.length (l.map (·.1)) (List.pairwise_map.mpr (hl.1.imp fun h => h.1)) fun x hx => by obtain ⟨q, hq, rfl⟩ := List.mem_map.mp hx; exact (hl.2 q hq).2.1
    obtain ⟨q, hq, eq⟩ := pick_surj M (l.map (·.2)) (List.pairwise_map.mpr (hl.1.imp fun h => h.2)) fun x hx => by obtain ⟨q, hq, rfl⟩ := List.mem_map.mp hx; exact (hl.2 q hq).2.2.2
    refine ⟨_, _, ⟨p, q, hp, hq, rfl, rfl⟩, by rw [pickTo_eq, pickTo_eq, ep, eq]; simp, ?_⟩
    rw [pickTo_eq, pickTo_eq, zip_tell, ep, eq]
    congr 1
    clear ep eq hp hq
    induction l with
    | nil => rfl
    | cons x l ih => rw [List.map_cons, List.map_cons, List.zip_cons_cons, ih ⟨(List.pairwise_cons.mp hl.1).2, fun p hp => hl.2 p (List.mem_cons_of_mem _ hp)⟩]
  have back' : ∀ a b, (∃ p q, p < 2 ^ ns.length ∧ q < 2 ^ M ∧ a = pickTo ns.length p ∧ b = pickTo M q) → ∃ l, Inc 0 0 ns.length M l ∧ zipP first a b = l.map (tellP first) := by
    rintro a b ⟨p, q, _, _, rfl, rfl⟩
    refine ⟨(pickN ns.length p).zip (pickN M q), zip_inc _ _ (pickN_sorted _ _) (pickN_sorted _ _) (fun x hx => pickN_lt hx) (fun x hx => pickN_lt hx), ?_⟩
    rw [pickTo_eq, pickTo_eq, zip_tell]
  have low := fun l hl => back_le (dlt ns first) (n := ns.length) (M := M) (i := 0) (j := 0) (Nat.zero_le _) (Nat.zero_le _) (l := l) hl
  obtain ⟨l0, hl0, e0⟩ := back_ex (dlt ns first) (n := ns.length) (M := M) (i := 0) (j := 0) (Nat.zero_le _) (Nat.zero_le _)
  simp only [Nat.sub_zero] at low e0
  have least : (outerF ns first M (2 ^ ns.length)).1 = Ahead (back (dlt ns first) ns.length M) ns.length M := by
    obtain ⟨a, b, hs, hab, hz⟩ := met l0 hl0
    have u1 := h1 a b hs hab
    rw [hz, cost_cst, e0] at u1
    have nil := low [] (Inc.nil _ _ _ _)
    have cn : cst (dlt ns first) 0 0 ns.length M [] = (ns.length : Int) + (M : Int) := by simp [cst, sumD]
    rcases h3 with h3 | ⟨x, y, hs', _, hc⟩
    · omega
    · obtain ⟨l, hl, hz'⟩ := back' x y hs'
      rw [hz', cost_cst] at hc
      have := low l hl
      omega
  intro p
  rw [h2]
  constructor
  · rintro ⟨i, j, hi, hj, hh, rfl⟩
    obtain ⟨l, hl, e, hm⟩ := (hit_iff ns first M hi hj).mp hh
    obtain ⟨a, b, hs, hab, hz⟩ := met l hl
    exact ⟨a, b, hs, hab, by rw [hz, cost_cst, e, least], by rw [hz]; exact List.mem_map.mpr ⟨(i, j), hm, rfl⟩⟩
  · rintro ⟨a, b, hs, hab, hc, hp⟩
    obtain ⟨l, hl, hz⟩ := back' a b hs
    rw [hz] at hp
    rw [hz, cost_cst, least] at hc
    obtain ⟨⟨i, j⟩, hm, rfl⟩ := List.mem_map.mp hp
    have hb := hl.2 _ hm
    exact ⟨i, j, hb.2.1, hb.2.2.2, (hit_iff ns first M hb.2.1 hb.2.2.2).mpr ⟨l, hl, hc, hm⟩, rfl⟩
end Mine
end

section
open PySem PySem.W PyProof.Rows PySem.Spec PySem.Calls
set_option Elab.async false
set_option maxHeartbeats 2000000
namespace Mine
theorem lexB_irrefl (p : Int × Int) : lexB p p = false := by unfold lexB; simp
theorem lexB_asym {p q : Int × Int} (h : lexB p q = true) : lexB q p = false := by
  unfold lexB at *
  simp only [Bool.or_eq_true, Bool.and_eq_true, decide_eq_true_eq, Bool.or_eq_false_iff, Bool.and_eq_false_imp, decide_eq_false_iff_not] at *
  omega
theorem lex_uniq : ∀ {a b : List (Int × Int)}, a.Perm b → a.Pairwise (fun p q => lexB p q = true) → b.Pairwise (fun p q => lexB p q = true) → a = b
  | [], b, h, _, _ => (List.nil_perm.mp h).symm
  | x :: a, [], h, _, _ => by have := h.length_eq; simp at this
  | x :: a, y :: b, h, ha, hb => by
    have hx : x ∈ y :: b := h.mem_iff.mp List.mem_cons_self
    have hy : y ∈ x :: a := h.mem_iff.mpr List.mem_cons_self
    have e : x = y := by
      rcases List.mem_cons.mp hx with e | hx
      · exact e
      · rcases List.mem_cons.mp hy with e | hy
        · exact e.symm
        · have h1 := (List.pairwise_cons.mp ha).1 y hy
          have h2 := (List.pairwise_cons.mp hb).1 x hx
          rw [lexB_asym h1] at h2; cases h2
    subst e
    rw [lex_uniq (List.Perm.cons_inv h) (List.pairwise_cons.mp ha).2 (List.pairwise_cons.mp hb).2]
theorem row_sorted (c : Nat → Nat → Bool) (first : Int) (i M : Nat) : (rowP c first i M).Pairwise (fun p q => lexB p q = true) := by
  unfold rowP
  rw [List.pairwise_map]
  refine ((List.pairwise_lt_range (n := M)).filter _).imp fun {a b} hab => ?_
  unfold lexB; simp; omega
theorem mem_row {c : Nat → Nat → Bool} {first : Int} {i M : Nat} {p : Int × Int} : p ∈ rowP c first i M ↔ ∃ j, j < M ∧ c i j = true ∧ p = ((i : Int), first + (j : Int)) := by
  unfold rowP
  rw [List.mem_map]
  constructor
  · rintro ⟨j, hj, rfl⟩
    have := List.mem_filter.mp hj
    exact ⟨j, List.mem_range.mp this.1, this.2, rfl⟩
  · rintro ⟨j, h1, h2, rfl⟩
    exact ⟨j, List.mem_filter.mpr ⟨List.mem_range.mpr h1, h2⟩, rfl⟩
theorem mem_front {c : Nat → Nat → Bool} {first : Int} {M n : Nat} {p : Int × Int} : p ∈ front c first M n ↔ ∃ i j, i < n ∧ j < M ∧ c i j = true ∧ p = ((i : Int), first + (j : Int)) := by
  unfold front
  rw [List.mem_flatMap]
  constructor
  · rintro ⟨i, hi, hp⟩
    obtain ⟨j, h1, h2, h3⟩ := mem_row.mp hp
    exact ⟨i, j, List.mem_range.mp hi, h1, h2, h3⟩
  · rintro ⟨i, j, h0, h1, h2, h3⟩
    exact ⟨i, List.mem_range.mpr h0, mem_row.mpr ⟨j, h1, h2, h3⟩⟩
theorem front_sorted (c : Nat → Nat → Bool) (first : Int) (M : Nat) : ∀ n, (front c first M n).Pairwise (fun p q => lexB p q = true)
  | 0 => by simp [front]
  | n + 1 => by
    rw [front_succ, List.pairwise_append]
    refine ⟨front_sorted c first M n, row_sorted c first n M, fun p hp q hq => ?_⟩
    obtain ⟨i, j, h0, _, _, rfl⟩ := mem_front.mp hp
    obtain ⟨j', _, _, rfl⟩ := mem_row.mp hq
    unfold lexB; simp; omega
theorem sorted_nodup {l : List (Int × Int)} (h : l.Pairwise (fun p q => lexB p q = true)) : l.Nodup :=
  h.imp fun {a b} hab e => by subst e; rw [lexB_irrefl] at hab; cases hab
theorem perm_mem {a b : List (Int × Int)} (ha : a.Nodup) (hb : b.Nodup) (h : ∀ p, p ∈ a ↔ p ∈ b) : a.Perm b := (List.perm_ext_iff_of_nodup ha hb).mpr h
/-- the two lists agree when they hold the same pairs -/
theorem told_same {c : Nat → Nat → Bool} {first : Int} {M n : Nat} {ps qs : List (Int × Int)} (h : ∀ p, p ∈ front c first M n ↔ p ∈ ps) (hp : qs.Perm (dq ps)) (hs : qs.Pairwise (fun p q => lexB p q = true)) : front c first M n = qs :=
  lex_uniq ((perm_mem (sorted_nodup (front_sorted c first M n)) (dq_nodup ps) fun p => (h p).trans mem_dq.symm).trans hp.symm) (front_sorted c first M n) hs
theorem dq_len {c : Nat → Nat → Bool} {first : Int} {M n : Nat} {ps : List (Int × Int)} (h : ∀ p, p ∈ front c first M n ↔ p ∈ ps) (hn : n ≤ 4) (hM : M ≤ 4) : (dq ps).length ≤ 16 := by
  rw [← (perm_mem (sorted_nodup (front_sorted c first M n)) (dq_nodup ps) fun p => (h p).trans mem_dq.symm).length_eq]
  have h1 := front_len c first M n
  have : n * M ≤ 4 * 4 := Nat.mul_le_mul hn hM
  omega
/-- THE PLAIN LAW -/
theorem plain_law (ns : List Int) (first : Int) (M : Nat) (_hn : ns.length ≤ 4) (_hM : M ≤ 4) : ∀ p, p ∈ front (hits ns first M) first M ns.length ↔ p ∈ (outerF ns first M (2 ^ ns.length)).2 := fun p =>
  mem_front.trans (plain_law' ns first M p)
end Mine
end

section
open PySem PySem.W PyProof.Rows PySem.Spec
set_option Elab.async false
set_option maxRecDepth 100000
namespace Mine
theorem warm9 : (PySem.Challenge.rw_xm0804_01.prog = PySem.Challenge.rw_xm0804_01.prog) ∧ (hd.heap_39 = hd.heap_39) := by k_fill; exact ⟨rfl, rfl⟩
set_option maxHeartbeats 1500000

local macro_rules | `(tactic| k_mem) => `(tactic| assumption)
local macro_rules | `(tactic| k_all) => `(tactic| assumption)
local macro_rules | `(tactic| is_list) => `(tactic| exact News.isList (by k_asm) (by k_mem))
local macro_rules | `(tactic| walk_at "subscriptTail Name Name ref int") => `(tactic| (k_here; (with_reducible show wpAny _ _ (subscriptTail _ _ (Value.ref _) (Value.int _ _)) _ _ _); (with_unfolding_all refine' item_led ?N ?l ?a ?b ?x ?_ ?s; (case N => k_asm); (case l => k_mem); (case a => omega); (case b => omega); (case x => assumption); (case s => with_unfolding_all rfl); k_whole)))
local macro_rules | `(tactic| walk_at "subscriptTail Name BinOp ref int") => `(tactic| (k_here; (with_reducible show wpAny _ _ (subscriptTail _ _ (Value.ref _) (Value.int _ _)) _ _ _); (with_unfolding_all refine' item_led ?N ?l ?a ?b ?x ?_ ?s; (case N => k_asm); (case l => k_mem); (case a => omega); (case b => omega); (case x => assumption); (case s => with_unfolding_all rfl); k_whole)))
local macro_rules | `(tactic| walk_at "call builtin:min") => `(tactic| (k_here; (with_reducible show wpAny _ _ (call (Value.builtin "min") [Value.int _ _, Value.int _ _, Value.int _ _]) _ _ _); (with_unfolding_all refine' min3_led ?hh ?F ?N ?_; (case hh => with_unfolding_all rfl); (case F => k_asm); (case N => k_asm)); k_whole; intro v' t' h' tk' hv' F' N'; (try k_sweep)))
local macro_rules | `(tactic| walk_at "call builtin:list.append") => `(tactic| (k_here; (with_reducible show wpAny _ _ (call (Value.builtin _) [Value.ref _, _]) _ _ _); k_dflt (refine' append_led ?k1 ?k2 ?k3 ?z ?_; (case k1 => k_asm); (case k2 => k_asm); (case k3 => k_upd); (case z => first | assumption | omega); k_whole); intro h' F' N'; (try k_sweep)))
local macro_rules | `(tactic| walk_at "pyIter ref") => `(tactic| ((with_reducible show wpAny _ _ (pyIter (Value.ref _)) (fun it s₂ => LoopAtV _ _ _ _ _ _ _ _ _ it s₂) _ _); refine stop_here ?_))


local macro_rules | `(tactic| walk_at "subscriptTail Name Constant ref int") => `(tactic| (k_here; (with_reducible show wpAny _ _ (subscriptTail _ _ (Value.ref _) (Value.int _ _)) _ _ _); (with_unfolding_all refine' item_led ?N ?l ?a ?b ?x ?_ ?s; (case N => k_asm); (case l => k_mem); (case a => omega); (case b => omega); (case x => assumption); (case s => with_unfolding_all rfl); k_whole)))
local macro_rules | `(tactic| walk_at "call builtin:list.insert") => `(tactic| (k_here; (with_reducible show wpAny _ _ (call (Value.builtin _) [Value.ref _, Value.int _ _, _]) _ _ _); k_dflt (refine' insert0_led ?k1 ?k2 ?k3 ?z ?_; (case k1 => k_asm); (case k2 => k_asm); (case k3 => k_upd); (case z => first | assumption | omega); k_whole); intro h' F' N'; (try k_sweep)))

local macro_rules | `(tactic| walk_at "subscriptTail") => `(tactic| (k_here; (with_reducible show wpAny _ _ (subscriptTail _ _ (Value.ref _) (Value.int _ _)) _ _ _); (with_unfolding_all refine' item_led ?N ?l ?a ?b ?x ?_ ?s; (case N => k_asm); (case l => k_mem); (case a => omega); (case b => omega); (case x => assumption); (case s => with_unfolding_all rfl); k_whole)))


local macro_rules | `(tactic| walk_at "call ref") => `(tactic| ((with_reducible show wpAny _ _ (call (Value.ref 47) _) _ _ _); refine stop_here ?_))
local macro_rules | `(tactic| walk_at "call ref") => `(tactic| ((with_reducible show wpAny _ _ (call (Value.ref 54) _) _ _ _); refine stop_here ?_))
local macro_rules | `(tactic| walk_at "call ref") => `(tactic| ((with_reducible show wpAny _ _ (call (Value.ref 59) _) _ _ _); refine stop_here ?_))
local macro_rules | `(tactic| walk_at "call ref") => `(tactic| ((with_reducible show wpAny _ _ (call (Value.ref 40) _) _ _ _); refine stop_here ?_))


local macro_rules | `(tactic| walk_at "exec For Name Name cons nil") => `(tactic| (k_here; (rename Fr _ _ _ _ => lF'); (with_unfolding_all refine' For_invVF lF' ?k1 ?k2 ?_; (case k1 => exact rfl); (case k2 => exact rfl); k_whole)))
local macro_rules | `(tactic| walk_at "call builtin:len") => `(tactic| (k_here; (with_reducible show wpAny _ _ (call (Value.builtin "len") [Value.ref _]) _ _ _); (with_unfolding_all refine' len_led ?N ?l ?z ?_; (case N => k_asm); (case l => exact List.Mem.head _); (case z => omega); k_whole); intro n' t' tk' hn'; subst hn'))
local macro_rules | `(tactic| walk_at "binaryOp Add ref ref") => `(tactic| (k_here; (with_reducible show wpAny _ _ (binaryOp _ (Value.ref _) (Value.ref _)) _ _ _); (with_unfolding_all refine' add_led ?F ?N ?a ?b ?z ?_; (case F => k_asm); (case N => k_asm); (case a => k_mem); (case b => k_mem); (case z => first | omega | (simp only [List.length_nil]; omega)); k_whole); intro D' h' F' N' l1; (try k_lt l1); (try k_sweep)))
local macro_rules | `(tactic| walk_at "call type:dict") => `(tactic| (refine stop_here ?_))
local macro_rules | `(tactic| walk_at "call builtin:sorted") => `(tactic| (refine stop_here ?_))
local macro_rules | `(tactic| walk_at "compareOp Eq ref ref") => `(tactic| (refine stop_here ?_))
local macro_rules | `(tactic| walk_at "call type:zip") => `(tactic| (refine stop_here ?_))
local macro_rules | `(tactic| walk_at "eval ListComp") => `(tactic| (refine stop_here ?_))
local macro_rules | `(tactic| walk_at "exec Assign cons ListComp") => `(tactic| (refine stop_here ?_))

def LJ1 (f nl c2 c1 : Addr) (o2 o1 : Obj) (r : Int) (t : Tok) (i : Nat) (m : LMap) (led : Led) : Prop :=
  Knows m [(Str.ofString "many", .int r t), (Str.ofString "ford", .ref f)] ∧
  ∃ x tx y ty e nv ne ns, led = [(f, listOf (List.toArray [Value.int x tx, Value.int y ty]) e), (nl, listOf (List.toArray nv) ne), (c2, o2), (c1, o1)] ∧ 0 ≤ x ∧ 0 ≤ y ∧ y ≤ 70000 ∧ IntsAre nv ns ∧ ns.length = i
local macro_rules | `(tactic| walk_at "subscriptTail") => `(tactic| (k_here; (with_reducible show wpAny _ _ (subscriptTail _ _ (Value.ref _) (Value.int _ _)) _ _ _); (with_unfolding_all refine' item_tup_ints ?N ?P ?a ?b ?z ?all ?_ ?s; (case N => k_asm); (case P => k_mem); (case a => omega); (case b => (simp only [List.length_cons, List.length_nil]; omega)); (case z => decide); (case all => (repeat' first | exact List.forall_mem_nil _ | refine List.forall_mem_cons.mpr ⟨⟨_, _, rfl⟩, ?_⟩)); (case s => with_unfolding_all rfl); k_whole); intro z' t'))

theorem off_head {h₀ h : Heap} {L : Addr} {a b : Addr × Obj} {r : Led} (_N : News h₀ L h (b :: a :: r)) (hne : @Ne Nat a.1 b.1) (h' : ∀ p ∈ r, p.1 ≠ b.1) : ∀ p ∈ a :: r, p.1 ≠ b.1 := List.forall_mem_cons.mpr ⟨hne, h'⟩
theorem perm3 {h₀ h : Heap} {L : Addr} {a b c : Addr × Obj} {r : Led} (N : News h₀ L h (a :: b :: c :: r)) : News h₀ L h (c :: a :: r) :=
  sub (fun p hp => by simp only [List.mem_cons] at hp ⊢; rcases hp with h | h | h <;> simp [h]) N
theorem law_led {h₀ h : Heap} {L a b c d e : Addr} {oa ob oc od oe : Obj} (N : News h₀ L h [(a, oa), (b, ob), (c, oc), (d, od), (e, oe)]) : News h₀ L h [(c, oc), (a, oa), (d, od), (e, oe)] :=
  sub (fun p hp => by simp only [List.mem_cons] at hp ⊢; rcases hp with h | h | h | h | h <;> simp [h]) N

theorem law_led2 {h₀ h : Heap} {L : Addr} {a b c d e : Addr × Obj} {r : Led} (ha : a ∈ r) (hb : b ∈ r) (hc : c ∈ r) (hd' : d ∈ r) (he : e ∈ r) (N : News h₀ L h r) : News h₀ L h (a :: b :: c :: d :: e :: r) :=
  sub (fun p hp => by simp only [List.mem_cons] at hp; rcases hp with rfl | rfl | rfl | rfl | rfl | h <;> assumption) N

theorem more6 {h₀ h : Heap} {L : Addr} {a b c d e f : Addr × Obj} {it : Addr × Obj} {r : Led} (ha : a ∈ r) (hb : b ∈ r) (hc : c ∈ r) (hd' : d ∈ r) (he : e ∈ r) (hf : f ∈ r) (N : News h₀ L h (it :: r)) : News h₀ L h (it :: a :: b :: c :: d :: e :: f :: r) :=
  sub (fun p hp => by simp only [List.mem_cons] at hp ⊢; rcases hp with rfl | rfl | rfl | rfl | rfl | rfl | rfl | h <;> first | exact .inl rfl | exact .inr (by assumption)) N

theorem more7 {h₀ h : Heap} {L : Addr} {a b c d e f : Addr × Obj} {it it2 : Addr × Obj} {r : Led} (ha : a ∈ r) (hb : b ∈ r) (hc : c ∈ r) (hd' : d ∈ r) (he : e ∈ r) (hf : f ∈ r) (N : News h₀ L h (it2 :: it :: r)) : News h₀ L h (it2 :: it :: a :: b :: c :: d :: e :: f :: r) :=
  sub (fun p hp => by simp only [List.mem_cons] at hp ⊢; rcases hp with rfl | rfl | rfl | rfl | rfl | rfl | rfl | rfl | h <;> first | exact .inl rfl | exact .inr (.inl rfl) | exact .inr (.inr (by assumption))) N

theorem drop4 {h₀ h : Heap} {L : Addr} {a b c d : Addr × Obj} {r : Led} (N : News h₀ L h (a :: b :: c :: d :: r)) : News h₀ L h ([a] ++ b :: c :: r) :=
  sub (fun p hp => by simp only [List.mem_cons, List.cons_append, List.nil_append] at hp ⊢; rcases hp with h | h | h | h <;> simp [h]) N
theorem lst_head {h₀ h : Heap} {L D : Addr} {ys : List Value} {r : Led} (N : News h₀ L h ((D, LCg.lst ys) :: r)) : News h₀ L h ((D, listOf ys.toArray ys.length) :: r) := N
theorem ins4 {h₀ h : Heap} {L : Addr} {a b c d : Addr × Obj} {r : Led} (hd' : d ∈ r) (N : News h₀ L h (a :: b :: c :: r)) : News h₀ L h (a :: b :: c :: d :: r) :=
  sub (fun p hp => by simp only [List.mem_cons] at hp ⊢; rcases hp with rfl | rfl | rfl | rfl | h <;> first | exact .inl rfl | exact .inr (.inl rfl) | exact .inr (.inr (.inl rfl)) | exact .inr (.inr (.inr (by assumption)))) N
theorem del4 {h₀ h : Heap} {L : Addr} {a b c d : Addr × Obj} {r : Led} (N : News h₀ L h (a :: b :: c :: d :: r)) : News h₀ L h (a :: b :: c :: r) :=
  sub (fun p hp => by simp only [List.mem_cons] at hp ⊢; rcases hp with h | h | h | h <;> simp [h]) N
theorem lst_head2 {h₀ h : Heap} {L D : Addr} {ys : List Value} {a : Addr × Obj} {r : Led} (ha : a ∈ r) (N : News h₀ L h ((D, LCg.lst ys) :: r)) : News h₀ L h ((D, listOf ys.toArray ys.length) :: a :: r) :=
  sub (fun p hp => by simp only [List.mem_cons] at hp ⊢; rcases hp with rfl | rfl | h <;> first | exact .inl rfl | exact .inr (by assumption)) N
theorem more4 {h₀ h : Heap} {L : Addr} {a b c d : Addr × Obj} {r : Led} (ha : a ∈ r) (hb : b ∈ r) (hc : c ∈ r) (hd' : d ∈ r) (N : News h₀ L h r) : News h₀ L h (a :: b :: c :: d :: r) :=
  sub (fun p hp => by simp only [List.mem_cons] at hp; rcases hp with rfl | rfl | rfl | rfl | h <;> assumption) N
theorem dd_small {d b : Addr} {ob : Obj} {l : Led} (hl : ∀ p ∈ l, p.1 < d) (hb : (b, ob) ∈ l) (hbig : @LT.lt Nat _ sysModules b) : (d == sysModules) = false :=
  beq_eq_false_iff_ne.mpr (Nat.ne_of_gt (Nat.lt_trans hbig (hl _ hb)))
theorem law_walk : PySem.Challenge.rw_xm0804_01.Holds := by
  refine hd ?_
  (w_strict (
    k_fill
    intro w s₀ s₁ mg mb G Y fa o pm cd doc dV kV ho hd hcd hD hmg hg args vals as hpre hlay hrd hwl hlo
    have KX := kIn_of Y
    k_behind G ho hd hcd hD hmg hpre hlay hrd hwl hlo cd
    (all_goals try k_fold)
    k_steps
    unfold Stop
    (rename News _ _ _ _ => N0); (rename Heap.IsList _ _ _ => hbl); (rename IntsAre _ _ => hI); (rename ¬ (_ < _) => hlen); (rename Fr _ _ _ _ => F0); (rename Below _ _ _ _ => K0)
    (with_unfolding_all refine' ford_spec _ _ _ _ _ hI (by omega) _ _ _ _ _ _ _ _ _ _ _ _ _ _ _ _ _ _ _ _ hbl ?a1 ?a2 ?a3 ?a4 ?a5 ?aK ?ad ?au ?aR; (case a1 => k_asm); (case a2 => k_asm); (case a3 => k_asm); (case a4 => k_asm); (case a5 => k_asm); (case aK => exact rfl); (case ad => ktr_room); (case au => ktr_units))
    intro v h1 tk1 f x tx y ty F1 N1 hlt hv hx hy hy2
    subst hv
    have hlt' := lt_ne hlt
    k_steps
    unfold Stop
    (with_unfolding_all refine' stone_spec _ f x y 5 tx ty _ 0 _ hx hy hy2 (by decide) (by decide) hlt' _ _ _ _ _ _ _ _ _ _ _ _ _ _ _ _ _ _ _ _ ?b1 ?b2 ?b3 ?b4 ?b5 ?bK ?bd ?bu ?bR; (case b1 => k_asm); (case b2 => k_asm); (case b3 => k_asm); (case b4 => k_asm); (case b5 => k_asm); (case bK => exact rfl); (case bd => ktr_room); (case bu => ktr_units))
    rintro _ h2 tk2 _ F2 N2 ⟨r2, t2, x2, tx2, y2, ty2, e2, rfl, hr2, hr2', rfl, hx2, hy2, hy22⟩
    k_steps
    unfold Stop
    (with_unfolding_all refine' stone_spec _ f x2 y2 12 tx2 ty2 _ e2 _ hx2 hy2 hy22 (by decide) (by decide) hlt' _ _ _ _ _ _ _ _ _ _ _ _ _ _ _ _ _ _ _ _ ?c1 ?c2 ?c3 ?c4 ?c5 ?cK ?cd ?cu ?cR; (case c1 => k_asm); (case c2 => k_asm); (case c3 => k_asm); (case c4 => k_asm); (case c5 => k_asm); (case cK => exact rfl); (case cd => ktr_room); (case cu => ktr_units))
    rintro _ h3 tk3 _ F3 N3 ⟨r3, t3, x3, tx3, y3, ty3, e3, rfl, hr3, hr3', rfl, hx3, hy3, hy32⟩
    k_steps
    unfold Stop
    (rename News _ _ _ _ => N4); (rename Obj.data _ = Data.cell (some (Value.ref _)) => hc2); (rename Obj.data _ = Data.cell (some (Value.int _ _)) => hc1); (rename ∀ p : Addr × Obj, p ∈ _ → p.1 < _ => l4)
    simp only [List.cons_append, List.nil_append] at N4 l4
    obtain ⟨nl, rfl⟩ := led_name N4
    obtain ⟨o2, rfl⟩ := obj_name hc2
    obtain ⟨o1, rfl⟩ := obj_name hc1
    have g1 : @LT.lt Nat _ f nl := l4 _ (List.mem_cons_of_mem _ List.mem_cons_self)
    have g2 : @LT.lt Nat _ (s₁.heap.objs.size + 1 + 1) f := hlt _ (List.mem_cons_self)
    have N5 := law_led N4
    clear N4
    have hlt2 : ∀ p ∈ [(nl, listOf #[] 0), (_, o2), (_, o1)], p.1 ≠ f := cons_ne (by omega) (cons_ne (Nat.ne_of_lt g2) (cons_ne (Nat.ne_of_lt (hlt _ (List.mem_cons_of_mem _ List.mem_cons_self))) fun _ h => nomatch h))
    (with_unfolding_all refine' stone_spec _ f x3 y3 5 tx3 ty3 _ e3 _ hx3 hy3 hy32 (by decide) (by decide) hlt2 _ _ _ _ _ _ _ _ _ _ _ _ _ _ _ _ _ _ _ _ ?d1 ?d2 ?d3 ?d4 ?d5 ?dK ?dd ?du ?dR; (case d1 => k_asm); (case d2 => k_asm); (case d3 => k_asm); (case d4 => k_asm); (case d5 => k_asm); (case dK => exact rfl); (case dd => ktr_room); (case du => ktr_units))
    rintro _ h4 tk4 _ F4 N4 ⟨r4, t4, x4, tx4, y4, ty4, e4, rfl, hr4, hr4', rfl, hx4, hy4, hy42⟩
    have hr4h : Stop (r4 < 5) := hr4'
    replace hr4' : r4 < 1000 := by omega
    k_steps
    unfold Stop
    (rename IsRange _ _ _ _ _ _ _ _ => hr); (rename Fr _ _ _ _ => F5); (rename News _ _ _ _ => N5)
    refine rng_loop (LJ1 f nl (s₁.heap.objs.size + 1 + 1) (s₁.heap.objs.size + 1) o2 o1 r2 t2) (by rfl) hr (small_one (by omega) (by omega) (by omega) (by omega)) (rangeSize_nat _ _) F5 N5 ?lH ?lT ?lD
    case lH => exact ⟨⟨rfl, rfl, trivial⟩, _, _, _, _, _, [], _, [], rfl, hx4, hy4, hy42, .nil, rfl⟩
    case lT =>
      rintro i k t m₁ led₁ h tk it hi hk' ⟨hkn, x5, tx5, y5, ty5, e5, nv, ne, ns, rfl, hx5, hy5, hy52, hns, hnl⟩ hit F2 N2
      have F3 := know_all F2 _ (hkn.skip (by rfl))
      clear F5 N5 F2 hr
      have q1 : @Ne Nat f it.1 := hit _ List.mem_cons_self
      have q2 : @Ne Nat nl it.1 := hit _ (List.mem_cons_of_mem _ List.mem_cons_self)
      have q3 : ∀ p ∈ [(nl, listOf (List.toArray nv) ne), (s₁.heap.objs.size + 1 + 1, o2), (s₁.heap.objs.size + 1, o1)], p.1 ≠ f := cons_ne (by omega) (cons_ne (by omega) (cons_ne (by omega) fun _ h => nomatch h))
      have q4 : ∀ p ∈ it :: [(nl, listOf (List.toArray nv) ne), (s₁.heap.objs.size + 1 + 1, o2), (s₁.heap.objs.size + 1, o1)], p.1 ≠ f := List.forall_mem_cons.mpr ⟨Ne.symm q1, q3⟩
      have N3 := swap12 N2
      clear N2
      k_steps
      unfold Stop
      (with_unfolding_all refine' stone_spec _ f x5 y5 8 tx5 ty5 _ e5 _ hx5 hy5 hy52 (by decide) (by decide) q4 _ _ _ _ _ _ _ _ _ _ _ _ _ _ _ _ _ _ _ _ ?e1 ?e2 ?e3 ?e4 ?e5 ?eK ?ed ?eu ?eR; (case e1 => k_asm); (case e2 => k_asm); (case e3 => k_asm); (case e4 => k_asm); (case e5 => k_asm); (case eK => exact rfl); (case ed => ktr_room); (case eu => ktr_units))
      rintro _ h6 tk6 _ F6 N6 ⟨r6, t6, x6, tx6, y6, ty6, e6, rfl, hr6, hr6', rfl, hx6, hy6, hy62⟩
      k_steps
      unfold Stop
      (rename News _ _ _ _ => N7); (rename Fr _ _ _ _ => F7)
      (rename _ < _ ∧ _ => l7)
      obtain ⟨P, rfl⟩ := led_name N7
      have q5 : @LT.lt Nat _ f P := l7.1
      have N8 := swap12 N7
      have q6 := off_head N8 (Nat.ne_of_gt q5) q4
      clear N7
      (with_unfolding_all refine' stone_spec _ f x6 y6 8 tx6 ty6 _ e6 _ hx6 hy6 hy62 (by decide) (by decide) q6 _ _ _ _ _ _ _ _ _ _ _ _ _ _ _ _ _ _ _ _ ?g1 ?g2 ?g3 ?g4 ?g5 ?gK ?gd ?gu ?gR; (case g1 => k_asm); (case g2 => k_asm); (case g3 => k_asm); (case g4 => k_asm); (case g5 => k_asm); (case gK => exact rfl); (case gd => ktr_room); (case gu => ktr_units))
      rintro _ h9 tk9 _ F9 N9 ⟨r9, t9, x9, tx9, y9, ty9, e9, rfl, hr9, hr9', rfl, hx9, hy9, hy92⟩
      have hz2 : nv.length ≤ 10000 := by have := hns.length; omega
      have q7 : @LT.lt Nat _ nl P := l7.2.2.1
      k_steps
      (rename News _ _ _ _ => N10)
      exact TurnEnd.intro (by assumption) (perm3 N10) (cons_ne q1 (cons_ne q2 fun p hp => hit p (List.mem_cons_of_mem _ (List.mem_cons_of_mem _ hp)))) ⟨⟨rfl, rfl, trivial⟩, _, _, _, _, _, _, _, _, rfl, hx9, hy9, hy92, hns.append (.cons _ _ .nil), by simp [hnl]⟩
    case lD =>
      rintro m₁ led₁ h tk ⟨hkn, x5, tx5, y5, ty5, e5, nv, ne, ns, rfl, hx5, hy5, hy52, hns, hnl⟩ F2 N2
      have F3 := know_all F2 _ hkn
      clear F5 N5 F2 hr
      have hr4'' : r4 < 5 := hr4h
      have hM : ns.length ≤ 4 := by omega
      have hlen4 : nv.length = ns.length := hns.length
      obtain ⟨M, rfl⟩ : ∃ M : Nat, r2 = (M : Int) := ⟨r2.toNat, by omega⟩
      have hM4 : M ≤ 4 := by omega
      k_steps
      unfold Stop
      (rename News _ _ _ _ => N4); (rename _ < _ ∧ _ => l7)
      obtain ⟨fo, rfl⟩ := led_name N4
      have g1 : @LT.lt Nat _ nl fo := l7.2.1
      (with_unfolding_all refine' chosen_spec _ M _ _ hM4 _ _ _ _ _ _ _ _ _ _ _ _ _ _ _ _ _ _ _ _ ?m1 ?m2 ?m3 ?m4 ?m5 ?mK ?md ?mu ?mR; (case m1 => k_asm); (case m2 => k_asm); (case m3 => k_asm); (case m4 => k_asm); (case m5 => k_asm); (case mK => exact rfl); (case md => ktr_room); (case mu => ktr_units))
      rintro _ h7 tk7 news7 F7 N7 ⟨hs7, lo, los, loe, rfl, hlo1, hlo2, hlo3⟩
      have N8 := law_led2 (hs7 _ (.head _)) (hs7 _ (.tail _ (.tail _ (.head _)))) (hs7 _ (.tail _ (.tail _ (.tail _ (.head _))))) (hs7 _ (.tail _ (.tail _ (.tail _ (.tail _ (.head _)))))) hlo1 N7
      clear N4 N7
      k_steps
      unfold Stop
      (rename News _ _ _ _ => N9)
      (with_unfolding_all refine' chosen_spec _ ns.length _ _ hM _ _ _ _ _ _ _ _ _ _ _ _ _ _ _ _ _ _ _ _ ?p1 ?p2 ?p3 ?p4 ?p5 ?pK ?pd ?pu ?pR; (case p1 => k_asm); (case p2 => k_asm); (case p3 => k_asm); (case p4 => k_asm); (case p5 => k_asm); (case pK => exact rfl); (case pd => ktr_room); (case pu => ktr_units))
      rintro _ h10 tk10 news10 F10 N10 ⟨hs10, no, nos, noe, rfl, hno1, hno2, hno3⟩
      have b1 := hs10 _ (.tail _ (.head _))
      have b2 := hs10 _ (.tail _ (.tail _ (.head _)))
      have b3 := hs10 _ (.tail _ (.tail _ (.tail _ (.head _))))
      have b4 := hs10 _ (.tail _ (.tail _ (.tail _ (.tail _ (.head _)))))
      have b5 := hs10 _ (.tail _ (.tail _ (.tail _ (.tail _ (.tail _ (.head _))))))
      have hs7' : ∀ p ∈ news7, p ∈ news10 := fun p hp => hs10 _ (.tail _ (.tail _ (.tail _ (.tail _ (.tail _ (.tail _ hp))))))
      clear hs10 hs7 l7
      (try clear N8)
      (try clear N9)
      (try clear F7)
      k_steps
      unfold Stop
      (rename Fr _ _ _ _ => F11); (rename News _ _ _ _ => N11)
      refine list_loop (LJ2 [(Str.ofString "many", .int (M : Int) t2), (Str.ofString "lots", .ref lo)] news10 (outerF ns (1 + r3) M)) (by rfl) hno1 F11 N11 ?oH ?oT ?oD
      case oH => exact ⟨fun p hp => hp, _, fo, [], 0, ⟨rfl, rfl, rfl, rfl, trivial⟩, b1, .nil⟩
      case oT =>
        rintro i v m₁ led₁ h tk it hvi ⟨hbase, lt, fo', fs, fe, hkn2, hfo, htups⟩ hno' hit F12 N12
        have hi : i < 2 ^ ns.length := by obtain ⟨h1, _⟩ := List.getElem?_eq_some_iff.mp hvi; omega
        obtain ⟨_, hv', ao, ovs, oe, rfl, hao, hones⟩ := hno3 i hi
        rw [hvi] at hv'
        obtain rfl := Option.some.inj hv'
        have F13 := know_all F12 _ (hkn2.skip (by rfl))
        have N13 := more6 (hbase _ hao) (hbase _ b5) (hbase _ b2) (hbase _ b3) (hbase _ b4) hfo N12
        clear F11 N11 F12
        k_steps
        unfold Stop
        (rename Fr _ _ _ _ => F14); (rename News _ _ _ _ => N14)
        refine list_loop (LJ3 [(Str.ofString "many", .int (M : Int) t2), (Str.ofString "lots", .ref lo), (Str.ofString "ones", .ref ao)] news10 it (innerF ns (1 + r3) M (pickTo ns.length i) (outerF ns (1 + r3) M i))) (by rfl) (.tail _ (hbase _ b5)) F14 N12 ?iH ?iT ?iD
        case iH => exact ⟨_, rfl, hit, hbase, _, _, _, _, ⟨rfl, rfl, rfl, rfl, rfl, trivial⟩, hfo, htups⟩
        case iT =>
          rintro j v m₂ led₂ h tk it2 hvj ⟨tail, rfl, hitt, hbase2, lt2, fo2, fs2, fe2, hkn3, hfo2, htups2⟩ hlo' hit2 F15 N15
          have hj : j < 2 ^ M := by obtain ⟨h1, _⟩ := List.getElem?_eq_some_iff.mp hvj; omega
          obtain ⟨_, hv', bo, bvs, be, rfl, hbo, hothers⟩ := hlo3 j hj
          rw [hvj] at hv'
          obtain rfl := Option.some.inj hv'
          have hol' : (pickTo ns.length i).length ≤ 4 := by have := pickTo_len ns.length i; omega
          have hbl' : (pickTo M j).length ≤ 4 := by have := pickTo_len M j; omega
          have hol : ovs.length ≤ 4 := by have := hones.length; omega
          have hbl4 : bvs.length ≤ 4 := by have := hothers.length; omega
          have F16 := know_all F15 _ (hkn3.skip (by rfl))
          have N15' := N15
          have N16 := more7 (hbase2 _ hao) (hbase2 _ (hs7' _ hbo)) (hbase2 _ b2) (hbase2 _ b3) (hbase2 _ b4) hfo2 N15
          clear F14 N12 F15
          (try clear N13)
          (try clear N14)
          k_steps
          · (rename (_ : Int) = _ => hab)
            obtain ⟨L16, hL⟩ := led_whole N16
            rw [← hL] at N16
            have i2 : it2 ∈ L16 := hL ▸ .head _
            have i1 : it ∈ L16 := hL ▸ .tail _ (.head _)
            have ia : (ao, listOf ovs.toArray oe) ∈ L16 := hL ▸ .tail _ (.tail _ (.head _))
            have ib : (bo, listOf bvs.toArray be) ∈ L16 := hL ▸ .tail _ (.tail _ (.tail _ (.head _)))
            have in' : (nl, listOf nv.toArray ne) ∈ L16 := hL ▸ .tail _ (.tail _ (.tail _ (.tail _ (.head _))))
            have ic2 : (s₁.heap.objs.size + 1 + 1, o2) ∈ L16 := hL ▸ .tail _ (.tail _ (.tail _ (.tail _ (.tail _ (.head _)))))
            have ic1 : (s₁.heap.objs.size + 1, o1) ∈ L16 := hL ▸ .tail _ (.tail _ (.tail _ (.tail _ (.tail _ (.tail _ (.head _))))))
            have if' : (fo2, listOf fs2.toArray fe2) ∈ L16 := hL ▸ .tail _ (.tail _ (.tail _ (.tail _ (.tail _ (.tail _ (.tail _ (.head _)))))))
            have it' : ∀ p ∈ tail, p ∈ L16 := fun p hp => hL ▸ .tail _ (.tail _ (.tail _ (.tail _ (.tail _ (.tail _ (.tail _ (.tail _ hp)))))))
            unfold Stop
            refine assign_zip (ZJ L16 it it2 (1 + r3) (pickTo ns.length i) (pickTo M j)) F16 (by rfl) (by with_unfolding_all rfl) (by with_unfolding_all rfl) (by decide) (by rfl) (by decide) (by rfl) (by rfl) (by decide) (by rfl) (by rfl) ?_
            k_steps
            unfold Stop
            refine call_zip_src (by rfl) F16 N16 ia ib (by omega) ⟨[], rfl, (fun _ h => nomatch h), .nil⟩ ?zt ?zd
            case zt =>
              rintro q ys _ own C oC D m₃ v₁ v₂ h tk E₂ e1 e2 hyl ⟨own2, rfl, hoff, htz⟩ hN hx hx₂ F17 N17
              obtain ⟨a, ta, rfl, ea⟩ := ints_val hones e1
              obtain ⟨b, tb, rfl, eb⟩ := ints_val hothers e2
              have N18 := more1 (List.mem_append_left own (List.mem_append_right own2 ic1)) N17
              clear N16 F16 N17
              k_steps
              (rename _ < _ ∧ _ => l8); (rename News _ _ _ _ => N19)
              have q1 := off_tuple (oC := oC) (oD := LCg.lst ys) l8
              exact ZEnd.intro [_] (by assumption) (drop4 N19) (List.forall_mem_cons.mpr ⟨q1, fun _ h => nomatch h⟩)
                (ZJ.step hoff htz ea eb (q1 it (.tail _ (.tail _ (List.mem_append_left _ (List.mem_append_right _ i1))))) (q1 it2 (.tail _ (.tail _ (List.mem_append_left _ (List.mem_append_right _ i2))))))
            case zd =>
              rintro D ys _ h tk hyl ⟨own2, rfl, hoff, htz⟩ F17 N17 hne
              have N18 := more66l (List.mem_append_right own2 i2) (List.mem_append_right own2 i1) (List.mem_append_right own2 in') (List.mem_append_right own2 ic2) (List.mem_append_right own2 ic1) (List.mem_append_right own2 if') N17
              clear N16 F16 N17
              have hy4 : ys.length ≤ 4 := by omega
              rw [zipP_full hones hothers hab] at htz
              k_steps
              unfold Stop
              have hyP := htz.length
              refine comp_ptest (fun q zs => zs.length = missN ns ((zipP (1 + r3) (pickTo ns.length i) (pickTo M j)).take q)) F17 (by with_unfolding_all rfl) (by decide) (by rfl) (by decide) (by rfl) (by rfl) (by decide) ?_
              k_steps
              refine ⟨D, ys.toArray, ys.length, _, rfl, rfl, F17, N18, .head _, (by rw [List.size_toArray, sizeLine_eq]; omega), rfl, ?pt, ?pd⟩
              case pt =>
                intro q hq
                rw [List.size_toArray] at hq
                obtain ⟨ta, x, y, tx, ty, g1, g2, g3⟩ := htz.get hq
                have hx0 := pickTo_at (zipP_fst g3)
                obtain ⟨tn, hnx⟩ := ints_at' (k := x) hns (q := x.toNat) (by omega) (by omega)
                have hx63 : x < 1000 := by omega
                have hx00 : 0 ≤ x := hx0.1
                refine ⟨ta, _, .int x tx, .int y ty, 0, (by rw [List.getElem?_toArray]; exact g1), .tail _ (.tail _ (.tail _ (.tail _ (.tail _ (.tail _ (.tail _ (List.mem_append_left _ g2))))))), rfl, rfl, ?_⟩
                rintro zs I oI C oC D2 m₃ h tk E₂ hJ hN hx hx₂ F19 N19 off3 hne3
                clear N18 F17
                have hJ' : zs.length = missN ns ((zipP (1 + r3) (pickTo ns.length i) (pickTo M j)).take q) := hJ
                k_steps
                · exact PEnd.intro F19 N19 (by show List.length _ = _; rw [miss_take g3, if_neg (by assumption), List.length_append, hJ']; rfl)
                · exact PEnd.intro F19 N19 (by show List.length _ = _; rw [miss_take g3, if_pos (by assumption), hJ', Nat.add_zero])
              case pd =>
                rintro D2 zs h tk hzl hJ F19 N19 hne2
                replace hJ : zs.length = missN ns ((zipP (1 + r3) (pickTo ns.length i) (pickTo M j)).take ys.toArray.size) := hJ
                rw [List.size_toArray] at hzl hJ
                rw [miss_end hyP] at hJ
                have N20 := lst_head N19
                have hf2 : fs2.length ≤ 2000 := by rw [htups2.length]; exact inner_small hM hM4 hi (Nat.le_of_lt hj)
                clear N18 F17 N19
                have hc := cost_is (M := M) hyP hJ
                k_steps
                · (rename News _ _ _ _ => N21); (rename Fr _ _ _ _ => F21); (rename _ < _ ∧ _ => l9)
                  exact TurnEnd.intro F21 (news_end N21 (by repeat' first | exact List.Mem.head _ | refine List.Mem.tail _ ?_) (by repeat' first | exact List.Mem.head _ | refine List.Mem.tail _ ?_) (.head _) (by intro p hp; repeat' first | exact List.mem_append_left _ hp | refine List.Mem.tail _ ?_) (by intro p hp; repeat' first | exact List.mem_append_right _ (it' p hp) | refine List.Mem.tail _ ?_)) (off_end2 hit2 hoff l9.2.2.2.2.1) ⟨.tail _ (.tail _ (List.mem_append_right _ (hbase2 _ b5))), LJ3.intro _ (step_lt hab hc (by assumption)) (off_end1 hitt hoff l9.2.2.2.2.2.1) (fun p hp => .tail _ (List.mem_append_right _ (hbase2 _ hp))) ⟨rfl, rfl, rfl, rfl, rfl, trivial⟩ (.head _) (htz.mono fun p hp => .tail _ (List.mem_append_left _ hp))⟩
                · exact absurd rfl (by assumption)
                · (rename News _ _ _ _ => N21); (rename Fr _ _ _ _ => F21); (rename _ < _ ∧ _ => l9)
                  exact TurnEnd.intro F21 (news_end N21 (by repeat' first | exact List.Mem.head _ | refine List.Mem.tail _ ?_) (by repeat' first | exact List.Mem.head _ | refine List.Mem.tail _ ?_) (.head _) (by intro p hp; repeat' first | exact List.mem_append_left _ hp | refine List.Mem.tail _ ?_) (by intro p hp; repeat' first | exact List.mem_append_right _ (it' p hp) | refine List.Mem.tail _ ?_)) (off_end2 hit2 hoff l9.2.2.1) ⟨.tail _ (.tail _ (List.mem_append_right _ (hbase2 _ b5))), LJ3.intro _ (step_eq hab hc (by assumption) (by assumption)) (off_end1 hitt hoff l9.2.2.2.1) (fun p hp => .tail _ (List.mem_append_right _ (hbase2 _ hp))) ⟨rfl, rfl, rfl, rfl, rfl, trivial⟩ (.head _) ((htups2.mono fun p hp => .tail _ (List.mem_append_right _ hp)).append (htz.mono fun p hp => .tail _ (List.mem_append_left _ hp)))⟩
                · (rename News _ _ _ _ => N21); (rename Fr _ _ _ _ => F21)
                  exact TurnEnd.intro F21 (sub (fun p hp => by
                    rcases List.mem_cons.mp hp with rfl | hp
                    · exact .tail _ (.tail _ (.head _))
                    · rcases List.mem_cons.mp hp with rfl | hp
                      · exact .tail _ (.tail _ (.tail _ (.head _)))
                      · exact .tail _ (.tail _ (.tail _ (.tail _ (.tail _ (.tail _ (.tail _ (.tail _ (List.mem_append_right _ (it' p hp)))))))))) N21) hit2 ⟨hlo', LJ3.intro _ (step_gt hab hc (by assumption) (by assumption)) hitt hbase2 ⟨rfl, rfl, rfl, rfl, rfl, trivial⟩ hfo2 htups2⟩
          · exact TurnEnd.intro F16 N15' hit2 ⟨hlo', LJ3.intro _ (step_ne (by assumption)) hitt hbase2 ⟨rfl, rfl, rfl, rfl, rfl, trivial⟩ hfo2 htups2⟩
        case iD =>
          rintro m₂ led₂ h tk hlo'' ⟨tail, rfl, hitt, hbase2, lt2, fo2, fs2, fe2, hkn3, hfo2, htups2⟩ F15 N15
          rw [hlo2] at hkn3 htups2
          clear F14 N12
          (try clear N13)
          (try clear N14)
          k_steps
          exact TurnEnd.intro F15 N15 hitt ⟨hbase2 _ hno1, hbase2, lt2, fo2, fs2, fe2, ⟨hkn3.1, hkn3.2.1, hkn3.2.2.1, hkn3.2.2.2.1, trivial⟩, hfo2, htups2⟩
      case oD =>
        rintro m₁ led₁ h tk hno' ⟨hbase, lt, fo', fs, fe, hkn2, hfo, htups⟩ F12 N12
        rw [hno2] at hkn2 htups
        have F13 := know_all F12 _ hkn2
        have N13 := more4 (hbase _ b2) (hbase _ b3) (hbase _ b4) hfo N12
        clear F11 N11 F12 N12
        have hF1024 : (outerF ns (1 + r3) M (2 ^ ns.length)).2.length ≤ 1024 := outer_small hM hM4 (Nat.le_refl _)
        k_steps
        unfold Stop
        refine LCg.ListComp_U (F₀ := F13) (by with_unfolding_all rfl) (by decide) (by rfl) (by decide) (by rfl) ?_
        k_steps
        unfold Stop
        (with_unfolding_all refine' pairs_spec _ nl nv ne ns (1 + r3) (M : Int) _ _ _ (.head _) hns (by omega) (by omega) (by omega) _ _ _ _ _ _ _ _ _ _ _ _ _ _ _ _ _ _ _ _ ?v1 ?v2 ?v3 ?v4 ?v5 ?vK ?vd ?vu ?vR; (case v1 => k_asm); (case v2 => k_asm); (case v3 => k_asm); (case v4 => k_asm); (case v5 => k_asm); (case vK => exact rfl); (case vd => ktr_room); (case vu => ktr_units))
        rintro _ h15 tk15 news15 F15 N15 ⟨hs15, pd, ps, pe, rfl, hpd, hps⟩
        have d1 := hs15 _ (.tail _ (.tail _ (.tail _ (.head _))))
        have htups' := htups.mono fun p hp => hs15 _ (.tail _ (.tail _ (.tail _ (.tail _ hp))))
        clear N13 F13
        (try clear F12)
        k_steps
        refine LCg.CompSrc.ledger (by rfl) F15 N15 hpd (by rw [List.size_toArray, hps.length, sizeLine_eq]; exact Nat.le_trans (front_len _ _ _ _) (by have : ns.length * ((M : Int)).toNat ≤ 4 * 4 := Nat.mul_le_mul hM (by omega); omega)) ?_
        intro g
        refine restU (fun q ys led => led = news15 ∧ ys = ps.take q) ?_ ?_ _ 0 [] _ rfl rfl ⟨rfl, rfl⟩
        · rintro q ys led v I oI C oC D2 m₃ h tk E₂ hq hyl ⟨rfl, hys⟩ hv hN hx F16 N16 off3 hne3
          rw [List.size_toArray] at hq
          obtain ⟨t, x, y, tx, ty, g1, g2, g3⟩ := hps.get hq
          have hv' : ps.toArray[q]? = some v := hv
          rw [List.getElem?_toArray, g1] at hv'
          obtain rfl := Option.some.inj hv'
          have N17 := ins4 g2 N16
          clear F15 N15 N16
          k_steps
          (rename News _ _ _ _ => N18); (rename Fr _ _ _ _ => F18)
          exact LCg.CompEnd.intro F18 (del4 N18) _ (fun p hp => hp) off3 (.inr ⟨_, hpd, rfl, _, rfl⟩) ⟨rfl, by rw [hys, List.take_add_one, g1]; rfl⟩
        · rintro ys led hyl ⟨rfl, hys⟩ D2 h tk F16 N16 off1
          have hys' : ys = ps := by rw [hys]; exact List.take_of_length_le (by simp)
          subst hys'
          clear F15 N15
          have N17 := lst_head2 d1 N16
          clear N16
          k_steps
          unfold Stop
          refine LCg.ListComp_U (F₀ := F16) (by with_unfolding_all rfl) (by decide) (by rfl) (by decide) (by rfl) ?_
          k_steps
          obtain ⟨L17, hL17⟩ := led_whole N17
          rw [← hL17] at N17
          have e1 : (D2, listOf ys.toArray ys.length) ∈ L17 := hL17 ▸ .head _
          have e2 : (fo', listOf fs.toArray fe) ∈ L17 := hL17 ▸ .tail _ (.head _)
          have e3 : ∀ p ∈ led, p ∈ L17 := fun p hp => hL17 ▸ .tail _ (.tail _ hp)
          refine LCg.CompSrc.ledger (by rfl) F16 N17 e2 (by rw [List.size_toArray, htups.length, sizeLine_eq]; omega) ?_
          intro g
          refine restU (fun q zs l => ∃ own, l = own ++ L17 ∧ DPairs own zs (fs.take q)) ?_ ?_ _ 0 [] _ rfl rfl ⟨[], rfl, .nil⟩
          · rintro q zs _ v I oI C oC D3 m₃ h tk E₂ hq hzl ⟨own, rfl, hzs⟩ hv hN hx F18 N18 off3 hne3
            rw [List.size_toArray] at hq
            obtain ⟨t, x, y, tx, ty, g1, g2, g3⟩ := htups'.get hq
            have hv' : fs.toArray[q]? = some v := hv
            rw [List.getElem?_toArray, g1] at hv'
            obtain rfl := Option.some.inj hv'
            clear F16 N17
            k_steps
            (rename News _ _ _ _ => N19); (rename Fr _ _ _ _ => F19); (rename _ < _ ∧ _ => l9)
            exact LCg.CompEnd.intro F19 (perm4 N19) _ (fun p hp => hp) (off3_new off3 l9) (.inr ⟨_, List.mem_cons_of_mem _ (List.mem_append_right _ e2), rfl, _, rfl⟩)
              ⟨_ :: own, rfl, by rw [List.take_add_one, g1]; exact (hzs.mono fun p hp => List.mem_cons_of_mem _ hp).append (.cons List.mem_cons_self .nil)⟩
          · rintro zs _ hzl ⟨own, rfl, hzs⟩ D3 h tk F18 N18 off2
            have hfz : fs.take (fs.toArray.size + 0) = fs := List.take_of_length_le (by simp)
            rw [hfz] at hzs
            clear F16 N17
            have hmem := plain_law ns (1 + r3) M hM hM4
            have htf := (htups'.mono e3).mono (led' := own ++ L17) fun p hp => List.mem_append_right _ hp
            have hdl := dq_len hmem hM hM4
            have hzs' := hzs.mono (led' := (D3, listOf zs.toArray zs.length) :: (own ++ L17)) fun p hp => .tail _ (List.mem_append_left _ hp)
            have N18' := lst_head N18
            clear N18
            k_steps
            unfold Stop
            refine call_dict_pairs (by rfl) (by ktr_units) F18 N18' (.head _) hzs' (htf.mono fun p hp => .tail _ hp) (by rw [dpairs_len hzs, htups.length]; omega) ?_
            intro h20 tk20 dd od F20 N20 l20 hd20
            k_steps
            unfold Stop
            obtain ⟨od', es, ep, hod, hcd20, hdat, hes, _, _⟩ := hd20
            obtain rfl : od = od' := Option.some.inj ((N20 _ (.head _)).1.symm.trans hod)
            have hput := put_all htf [] [] rfl .nil
            have hks : es.toList.map (·.key) = refsOf (putAll [] (kasOf fs (outerF ns (1 + r3) M (2 ^ ns.length)).2)) := by rw [hes, List.map_map]; rfl
            refine sorted_dict (by rfl) F20 N20 (.head _) (dd_small l20 (.tail _ (List.mem_append_right own (e3 _ (hs15 _ (.tail _ (.tail _ (.head _))))))) ?lo1) hcd20 hdat hks (hput.mono fun p hp => .tail _ (.tail _ hp)) (dq_nodup _) (by rw [hput.length]; exact Nat.lt_of_le_of_lt hdl (by decide)) ?_
            case lo1 =>
              (rename Top _ _ _ _ _ _ => TT)
              exact Nat.lt_of_lt_of_le (modules_low TT.nolimit) (Nat.le_trans F20.above (Nat.le_succ _))
            intro D5 c5 h21 tk21 out qs F21 N21 l21 ht21 hp21 hs21
            k_steps
            unfold Stop
            rw [Int.toNat_natCast] at hps
            refine eq_pairs N21 (.tail _ (.tail _ (.tail _ (List.mem_append_right own e1)))) (.head _) (hps.mono fun p hp => .tail _ (.tail _ (.tail _ (List.mem_append_right own (e3 p hp))))) (ht21.mono fun p hp => .tail _ hp) (by ktr_units) (told_same hmem hp21 hs21) ?_
            k_steps))
end Mine
end

theorem PySem.Challenge.cw_xm0804_01_holds : PySem.Challenge.rw_xm0804_01.Holds := by
  exact Mine.law_walk
