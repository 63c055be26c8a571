import PyProof.Rows.All
import Wide.All
import OpenK.AllK
import Wide.FinOn
import PySem.Challenge.RW_xw0341_02
set_option Elab.async false
set_option maxRecDepth 100000
set_option maxHeartbeats 8000000
set_option linter.all false
set_option compiler.extract_closed false
namespace Mine
open PySem PySem.W PyProof.Rows
local macro_rules | `(tactic| walk_at "wc") => `(tactic| (((fail_if_success (with_reducible show wpAny _ _ (exec (Stmt.For _ _ _ _ _) _) _ _ _)); (fail_if_success (with_reducible show wpAny _ _ (pyIter _) _ _ _)); (fail_if_success (with_reducible show wpAny _ _ (exec (Stmt.Raise _ _ _) _) _ _ _)); (fail_if_success (with_reducible show wpAny _ _ (exec (Stmt.While _ _ _ _) _) _ _ _)); first | (k_unfold; (try dsimp only)) | walk1 | (dsimp only; walk1) | (leave1; (try dsimp only)))))
local macro_rules | `(tactic| walk_at "w") => `(tactic| repeat' walk_at "wc")
local macro_rules | `(tactic| walk_at "un") => `(tactic| (first | ktr_units | (have hcL9 := cLine_is; (try simp only [units_under_make, units_in1, units_deeper, Around.mark_units, units_caller] at *); (try dsimp only [ktrTop] at *); omega)))
-- F_L0
noncomputable abbrev Ledger := List (Addr × Obj)
/-- the ledger without what stands at a -/
noncomputable def wo (a : Addr) (l : Ledger) : Ledger := l.filter fun p => !(p.1 == a)
noncomputable def put (a : Addr) (o : Obj) (l : Ledger) : Ledger := (a, o) :: wo a l
theorem mem_wo {a : Addr} {l : Ledger} {p : Addr × Obj} : p ∈ wo a l ↔ p ∈ l ∧ p.1 ≠ a := by
  unfold wo; rw [List.mem_filter]; simp
theorem wo_ne {a : Addr} {l : Ledger} : ∀ p ∈ wo a l, p.1 ≠ a := fun _ hp => (mem_wo.mp hp).2
theorem wo_sub {a : Addr} {l : Ledger} : ∀ p ∈ wo a l, p ∈ l := fun _ hp => (mem_wo.mp hp).1
theorem mem_put {a : Addr} {o : Obj} {l : Ledger} : (a, o) ∈ put a o l := .head _
theorem mem_put_ne {a : Addr} {o : Obj} {l : Ledger} {p : Addr × Obj} (h : p ∈ l) (n : p.1 ≠ a) : p ∈ put a o l := .tail _ (mem_wo.mpr ⟨h, n⟩)
theorem news_sub {h₀ h : Heap} {L : Addr} {l l' : Ledger} (N : News h₀ L h l) (k : ∀ p ∈ l', p ∈ l) : News h₀ L h l' := fun p hp => N p (k p hp)
theorem news_one {h₀ h : Heap} {L : Addr} {l : Ledger} (N : News h₀ L h l) {a : Addr} {o o' : Obj} (h1 : (a, o) ∈ l) (h2 : (a, o') ∈ l) : o = o' := by
  have e1 := (N _ h1).1
  have e2 := (N _ h2).1
  exact Option.some.inj (e1.symm.trans e2)
theorem news_focus {h₀ h : Heap} {L : Addr} {l : Ledger} (N : News h₀ L h l) {a : Addr} {o : Obj} (h1 : (a, o) ∈ l) : News h₀ L h ((a, o) :: wo a l) := news_sub N fun p hp => by
  rcases List.mem_cons.mp hp with rfl | hp
  · exact h1
  · exact wo_sub _ hp
theorem fr_know {h₀ h : Heap} {L : Addr} {m : Str → Option Value} {y0 : Str} {v0 : Value} (F : Fr h₀ L h m) (hm : m y0 = some v0) : Fr h₀ L h (fun y => if y = y0 then some v0 else m y) := by
  have e : (fun y => if y = y0 then some v0 else m y) = m := by
    funext y
    by_cases h : y = y0
    · rw [if_pos h, h, hm]
    · rw [if_neg h]
  rw [e]; exact F
/-- the end of a turn of a loop over the iterator I -/
noncomputable def TurnEnd (h₀ : Heap) (L I : Addr) (io : Obj) (J : (Str → Option Value) → Ledger → Prop) (s₁ : Shared) (Q : Flow → Shared → Prop) (f : Flow) (s₂ : Shared) : Prop :=
  match f with
  | .ret v => Q (.ret v) s₂
  | .brk => Q .next s₂
  | _ => ∃ h' tk m' nx, s₂ = { s₁ with heap := h', toks := tk } ∧ Fr h₀ L h' m' ∧ News h₀ L h' ((I, io) :: nx) ∧ (∀ p ∈ nx, p.1 ≠ I) ∧ J m' nx

section
variable {prog : Program} {w : World} {A : Around} {E : Value → Shared → Prop} {s : Shared} {env : Env} {h₀ : Heap} {x : Str} {body : List Stmt} {Q : Flow → Shared → Prop}
theorem turn_end {L I : Addr} {io : Obj} {J : (Str → Option Value) → Ledger → Prop} {s₁ : Shared} {h' : Heap} {tk : Nat} {m' : Str → Option Value} (nx : Ledger) (F : Fr h₀ L h' m') (N : News h₀ L h' ((I, io) :: nx)) (hI : ∀ p ∈ nx, p.1 ≠ I) (hj : J m' nx) :
    TurnEnd h₀ L I io J s₁ Q .next { s₁ with heap := h', toks := tk } := ⟨h', tk, m', nx, rfl, F, N, hI, hj⟩
theorem it_list {l : Addr} {vs : List Value} {nn : Nat} {m₀ : Str → Option Value} {news : Ledger} (J : Nat → (Str → Option Value) → Ledger → Prop)
    (hh : A.handled = none) (hl : (l, listOf vs.toArray nn) ∈ news) (F : Fr h₀ env.locals s.heap m₀) (N : News h₀ env.locals s.heap news) (hj : J 0 m₀ news)
    (turn : ∀ i v m₁ news₁ h tk I io, vs[i]? = some v → J i m₁ news₁ → (l, listOf vs.toArray nn) ∈ news₁ → (∀ p ∈ news₁, p.1 ≠ I) → io.cls = .type "list_iterator" →
      Fr h₀ env.locals h (fun y => if y = x then some v else m₁ y) → News h₀ env.locals h ((I, io) :: news₁) →
      wpAny (model prog w) A (execs body env) (TurnEnd h₀ env.locals I io (fun m' nx => (l, listOf vs.toArray nn) ∈ nx ∧ J (i + 1) m' nx) { s with heap := h, toks := tk } Q) E { s with heap := h, toks := tk })
    (done : ∀ m₁ news₁ h tk, J vs.length m₁ news₁ → Fr h₀ env.locals h m₁ → News h₀ env.locals h news₁ → Q .next { s with heap := h, toks := tk }) :
    wpAny (model prog w) A (pyIter (.ref l)) (fun it s₂ => LoopAtV prog w A h₀ env x body Q E it s₂) E s := by
  have hol : s.heap.get? l = some (listOf vs.toArray nn) := (N _ hl).1
  have hls : s.heap.IsList l vs.toArray := ⟨_, hol, rfl, nn, rfl⟩
  have hne : l ≠ s.heap.objs.size := Nat.ne_of_lt (Heap.lt_size hol)
  refine wpAny_pyIter_list hls ?_
  have W := Walks.list (prog := prog) (w := w) hh s.heap.objs.size l hne vs.toArray
  have hlen : vs.toArray.size = vs.length := by simp
  rw [hlen] at W
  refine ⟨s.heap.objs.size, _, _, vs.length, _, _, m₀, news, (fun i m nx => (l, listOf vs.toArray nn) ∈ nx ∧ J i m nx), rfl, W, ?_, ?_, ?_, ⟨⟨_, Heap.get?_push_size _ rfl, rfl, rfl⟩, hls.at fun o e => Heap.get?_push_of_some _ e⟩, F.push _, (fun p hp => ⟨Heap.get?_push_of_some _ (N p hp).1, (N p hp).2⟩), ⟨hl, hj⟩, ?_, ?_⟩
  · intro hm
    rcases List.mem_cons.mp hm with e | hm
    · exact absurd F.ns.lt (e ▸ Nat.lt_irrefl _)
    · exact (N _ hl).2.1 ((List.mem_singleton.mp hm).symm)
  · intro b hb
    rw [List.mem_singleton.mp hb]
    exact next_is_new F
  · intro p hp hI
    exact absurd (Heap.lt_size (N p hp).1) ((List.mem_singleton.mp hI) ▸ Nat.lt_irrefl _)
  · rintro i v m₁ news₁ s₁ own ⟨hh', tk', rfl⟩ hin hP ⟨hl₁, hJ⟩ hoff hown hget hfp hst F₁ N₁
    have hlt' : i < vs.length := hin
    have hP' : vs[i]? = some v := by simpa using hP
    obtain ⟨⟨io, hio, hic, hid⟩, _⟩ := hst
    have hIo : (s.heap.objs.size, io) ∈ own := hfp _ (.head _) (next_is_new F) io hio
    have hlo : hh'.get? l = some (listOf vs.toArray nn) := (N₁ _ (List.mem_append.mpr (.inr hl₁))).1
    have hoffI : ∀ p ∈ news₁, p.1 ≠ s.heap.objs.size := fun p hp e => hoff p hp (by rw [e]; exact .head _)
    have N₂ : News h₀ env.locals hh' ((s.heap.objs.size, io) :: news₁) := fun p hp => by
      rcases List.mem_cons.mp hp with rfl | hp
      · exact N₁ _ (List.mem_append.mpr (.inl hIo))
      · exact N₁ _ (List.mem_append.mpr (.inr hp))
    refine wpAny_mono (turn i v m₁ news₁ hh' tk' _ io hP' hJ hl₁ hoffI hic F₁ N₂) (fun f s₂ p => ?_) fun _ _ e => e
    have fin : (∃ h' tk m' nx, s₂ = { { s with heap := hh', toks := tk' } with heap := h', toks := tk } ∧ Fr h₀ env.locals h' m' ∧ News h₀ env.locals h' ((s.heap.objs.size, io) :: nx) ∧ (∀ p ∈ nx, p.1 ≠ s.heap.objs.size) ∧ ((l, listOf vs.toArray nn) ∈ nx ∧ J (i + 1) m' nx)) →
        LoopStepU h₀ env.locals [s.heap.objs.size] own (fun m nx => (l, listOf vs.toArray nn) ∈ nx ∧ J (i + 1) m nx) { s with heap := hh', toks := tk' } .next s₂ := by
      rintro ⟨h', tk, m', nx, e, F', N', hI, hl2, hm⟩
      refine ⟨rfl, h', tk, m', nx, e, F', fun p hp => ?_, fun p hp hq => ?_, hl2, hm⟩
      · rcases List.mem_append.mp hp with h | h
        · rcases List.mem_cons.mp (hown p h) with h2 | h2
          · have h3 : hh'.get? p.1 = some p.2 := hget p h
            rw [h2, hio] at h3
            have h4 : p = (s.heap.objs.size, io) := Prod.ext h2 (Option.some.inj h3).symm
            rw [h4]; exact N' _ (.head _)
          · have h1 := List.mem_singleton.mp h2
            have h3 : hh'.get? p.1 = some p.2 := hget p h
            rw [h1, hlo] at h3
            have h4 : p = (l, listOf vs.toArray nn) := Prod.ext h1 (Option.some.inj h3).symm
            rw [h4]; exact N' _ (.tail _ hl2)
        · exact N' p (.tail _ h)
      · exact hI p hp (List.mem_singleton.mp hq)
    cases f with
    | ret v => exact .ret p
    | brk => exact .brk p
    | next => exact .next (fin p)
    | cont => exact .cont (fin p)
  · rintro h' tk m' news' F' N' _ ⟨hl', hJ⟩
    exact done m' news' h' tk hJ F' N'

theorem it_rangeS {r : Addr} {a₀ b₀ c₀ : Int} {t₀ u₀ v₀ : Tok} {n : Nat} {m₀ : Str → Option Value} {news : Ledger} (J : Nat → (Str → Option Value) → Ledger → Prop)
    (hh : A.handled = none) (hr : IsRange s.heap r a₀ b₀ c₀ t₀ u₀ v₀) (hsmall : Builtin.Range.small a₀ b₀ c₀ = true) (hn : Builtin.Range.rangeSize a₀ b₀ c₀ = (n : Int)) (F : Fr h₀ env.locals s.heap m₀) (N : News h₀ env.locals s.heap news) (hj : J 0 m₀ news)
    (turn : ∀ i t m₁ news₁ h tk I io, i < n → J i m₁ news₁ → (∀ p ∈ news₁, p.1 ≠ I) → io.cls = .type "range_iterator" →
      Fr h₀ env.locals h (fun y => if y = x then some (.int (a₀ + (i : Int) * c₀) t) else m₁ y) → News h₀ env.locals h ((I, io) :: news₁) →
      wpAny (model prog w) A (execs body env) (TurnEnd h₀ env.locals I io (fun m' nx => J (i + 1) m' nx) { s with heap := h, toks := tk } Q) E { s with heap := h, toks := tk })
    (done : ∀ m₁ news₁ h tk, J n m₁ news₁ → Fr h₀ env.locals h m₁ → News h₀ env.locals h news₁ → Q .next { s with heap := h, toks := tk }) :
    wpAny (model prog w) A (pyIter (.ref r)) (fun it s₂ => LoopAtV prog w A h₀ env x body Q E it s₂) E s := by
  refine wpAny_pyIter_range hr hsmall ?_
  have W := Walks.range (prog := prog) (w := w) hh s.heap.objs.size a₀ c₀ n
  refine ⟨s.heap.objs.size, _, _, n, _, _, m₀, news, (fun i m nx => J i m nx), rfl, W, ?_, ?_, ?_, (by show IsRangeIter _ _ _ _ _; rw [hn]; simpa using Heap.get?_push_size _ rfl), F.push _, (fun p hp => ⟨Heap.get?_push_of_some _ (N p hp).1, (N p hp).2⟩), hj, ?_, ?_⟩
  · intro hm
    exact absurd F.ns.lt ((List.mem_singleton.mp hm) ▸ Nat.lt_irrefl _)
  · intro b hb
    rw [List.mem_singleton.mp hb]
    exact next_is_new F
  · intro p hp hI
    exact absurd (Heap.lt_size (N p hp).1) ((List.mem_singleton.mp hI) ▸ Nat.lt_irrefl _)
  · rintro i v m₁ news₁ s₁ own ⟨hh', tk', rfl⟩ hin ⟨t, rfl⟩ hJ hoff hown hget hfp hst F₁ N₁
    have hio : hh'.get? s.heap.objs.size = some _ := hst
    have hIo := hfp _ (.head _) (next_is_new F) _ hio
    have hoffI : ∀ p ∈ news₁, p.1 ≠ s.heap.objs.size := fun p hp e => hoff p hp (by rw [e]; exact .head _)
    have N₂ : News h₀ env.locals hh' ((s.heap.objs.size, _) :: news₁) := fun p hp => by
      rcases List.mem_cons.mp hp with rfl | hp
      · exact N₁ _ (List.mem_append.mpr (.inl hIo))
      · exact N₁ _ (List.mem_append.mpr (.inr hp))
    refine wpAny_mono (turn i t m₁ news₁ hh' tk' _ _ hin hJ hoffI rfl F₁ N₂) (fun f s₂ p => ?_) fun _ _ e => e
    generalize hIO : ({ cls := .type "range_iterator", dict := none, data := .fields #[rawInt (a₀ + ((i + 1 : Nat) : Int) * c₀), rawInt ((n : Int) - ((i + 1 : Nat) : Int)), rawInt c₀], slots := #[] } : Obj) = io at *
    have fin : (∃ h' tk m' nx, s₂ = { { s with heap := hh', toks := tk' } with heap := h', toks := tk } ∧ Fr h₀ env.locals h' m' ∧ News h₀ env.locals h' ((s.heap.objs.size, io) :: nx) ∧ (∀ p ∈ nx, p.1 ≠ s.heap.objs.size) ∧ (J (i + 1) m' nx)) →
        LoopStepU h₀ env.locals [s.heap.objs.size] own (fun m nx => J (i + 1) m nx) { s with heap := hh', toks := tk' } .next s₂ := by
      rintro ⟨h', tk, m', nx, e, F', N', hI, hm⟩
      refine ⟨rfl, h', tk, m', nx, e, F', fun p hp => ?_, fun p hp hq => ?_, hm⟩
      · rcases List.mem_append.mp hp with h | h
        · have h2 := List.mem_singleton.mp (hown p h)
          have h3 : hh'.get? p.1 = some p.2 := hget p h
          rw [h2, hio] at h3
          have h4 : p = (s.heap.objs.size, io) := Prod.ext h2 (Option.some.inj h3).symm
          rw [h4]; exact N' _ (.head _)
        · exact N' p (.tail _ h)
      · exact hI p hp (List.mem_singleton.mp hq)
    cases f with
    | ret v => exact .ret p
    | brk => exact .brk p
    | next => exact .next (fin p)
    | cont => exact .cont (fin p)
  · rintro h' tk m' news' F' N' _ hJ
    exact done m' news' h' tk hJ F' N'
end
theorem allLt_out {d : Addr} : ∀ {l : Ledger}, AllLt d l → ∀ p ∈ l, p.1 < d
  | [], _ => fun _ hp => nomatch hp
  | _ :: _, h => fun p hp => by
    rcases List.mem_cons.mp hp with rfl | hp
    · exact h.1
    · exact allLt_out h.2 p hp
/-- no entry of the ledger stands at a -/
noncomputable def Off (l : Ledger) (a : Addr) : Prop := ∀ p ∈ l, p.1 ≠ a
theorem off_lt {l : Ledger} {d a : Addr} (h : ∀ p ∈ l, p.1 < d) (e : d ≤ a) : Off l a := fun p hp => Nat.ne_of_lt (Nat.lt_of_lt_of_le (h p hp) e)
theorem bound_name {l : Ledger} {d : Addr} (h : ∀ p ∈ l, p.1 < d) : ∃ fl : Addr, fl = d ∧ ∀ p ∈ l, p.1 < fl := ⟨d, rfl, h⟩
theorem turn_end' {h₀ : Heap} {Q : Flow → Shared → Prop} {L I : Addr} {io : Obj} {J : (Str → Option Value) → Ledger → Prop} {s₁ : Shared} {h' : Heap} {tk : Nat} {m' : Str → Option Value} {news₂ : Ledger} (F : Fr h₀ L h' m') (N : News h₀ L h' news₂) (hI : (I, io) ∈ news₂) (hj : J m' (wo I news₂)) :
    TurnEnd h₀ L I io J s₁ Q .next { s₁ with heap := h', toks := tk } := turn_end _ F (news_focus N hI) wo_ne hj
theorem news_put_mem {h₀ h : Heap} {L a : Addr} {o : Obj} {l : Ledger} {p : Addr × Obj} (_ : News h₀ L h (put a o l)) (hm : p ∈ l) (n : p.1 ≠ a) : p ∈ put a o l := mem_put_ne hm n
theorem lt_name {a b : Addr} (h : a < b) : ∃ c : Addr, c = b ∧ a < c := ⟨b, rfl, h⟩
theorem news_put_mem0 {h₀ h : Heap} {L a : Addr} {o : Obj} {l : Ledger} (_ : News h₀ L h (put a o l)) : (a, o) ∈ put a o l := mem_put

section
variable {prog : Program} {w : World} {A : Around} {E : Value → Shared → Prop} {s : Shared} {h₀ : Heap} {L : Addr} {news : Ledger} {D : Addr} {m : Str → Option Value}
theorem append_P {its : Array Value} {n : Nat} {x : Value} {Q : Value → Shared → Prop} (F : Fr h₀ L s.heap m) (N : News h₀ L s.heap news) (hm : (D, listOf its n) ∈ news)
    (h : ∀ h', Fr h₀ L h' m → News h₀ L h' (put D (listOf (its.push x) (n + 1)) news) → Q .none { s with heap := h' }) (hz : its.size ≤ sizeLine := by size_fits) :
    wpAny (model prog w) A (call (.builtin "list.append") [.ref D, x]) Q E s :=
  append_K F (news_focus N hm) (Upd.head wo_ne) h hz
theorem set_dict_P {K : Frag} {C x dx : Addr} {ox : Obj} {es es' : List DictEntry} {n n' : Nat} {name : Str} {v : Value} {Q : Unit → Shared → Prop} (F : Fr h₀ L s.heap m) (X₀ : K.In h₀) (N : News h₀ L s.heap news) (I : InstAt s.heap x ox C (some (dictOf es n))) (hd : ox.dict = some dx) (hm : (dx, dictOf es n) ∈ news)
    (hs : findIn K (.ref C) "__setattr__" = some (some (.builtin "object.__setattr__"))) (hp : plainOver K C = true) (ht : takerIn K C name = some none) (hh : hasDictIn K C = true) (hl : (getL name es).isSome = true)
    (e : (putL name (PyData.keyHash w.params name) (.str name (s.toks + 1)) v es, putN name es n) = (es', n')) (hz : es'.length ≤ 1000)
    (h : ∀ h', Fr h₀ L h' m → News h₀ L h' (put dx (dictOf es' n') news) → Q () { s with heap := h', toks := s.toks + 2 }) :
    wpAny (model prog w) A (setAttr (.ref x) name v) Q E s := set_dict F X₀ (news_focus N hm) I hd hs hp ht hh hl e (.head wo_ne) hz h
theorem len_P {vs : List Value} {n : Nat} {Q : Value → Shared → Prop} (N : News h₀ L s.heap news) (hm : (D, listOf vs.toArray n) ∈ news) (hl : vs.length < 2 ^ 31)
    (h : Q (.int vs.length (s.toks + 1)) { s with toks := s.toks + 1 + 1 }) : wpAny (model prog w) A (call (.builtin "len") [.ref D]) Q E s := by
  have hl' : s.heap.IsList D vs.toArray := ⟨_, (N _ hm).1, rfl, n, rfl⟩
  exact len_list hl' (by simp; omega) (by simpa using h)
theorem ne_empty_P {a b : Addr} {vs : List Value} {n n2 : Nat} {Q : Value → Shared → Prop} (N : News h₀ L s.heap news) (h1 : (a, listOf vs.toArray n) ∈ news) (h2 : (b, listOf #[] n2) ∈ news) (hu : A.units < cLine) (h : Q (.bool (!vs.isEmpty)) s) :
    wpAny (model prog w) A (compareOp .NotEq (.ref a) (.ref b)) Q E s := by
  have l1 : s.heap.IsList a vs.toArray := ⟨_, (N _ h1).1, rfl, n, rfl⟩
  have l2 : s.heap.IsList b #[] := ⟨_, (N _ h2).1, rfl, n2, rfl⟩
  refine cmp_ofNotEq ?_
  cases vs with
  | nil => exact PySem.SeqAt.RcNeAt.lists (e := fun _ => true) l1 l2 rfl hu (fun j h _ => absurd h (Nat.not_lt_zero _)) _ _ _ _ h
  | cons v r => exact PySem.SeqAt.RcNeAt.lists_lengths l1 l2 (by simp) hu _ _ _ _ h
theorem item_P {value slice : PySem.Expr} {vs : List Value} {v : Value} {n : Nat} {k : Int} {u : Tok} {Q : Value → Shared → Prop} (N : News h₀ L s.heap news) (hm : (D, listOf vs.toArray n) ∈ news) (h0 : 0 ≤ k) (h1 : k < 2 ^ 63) (hv : vs[k.toNat]? = some v) (h : Q v s)
    (hs : subscripted slice false (.ref D) (.int k u) = operate [.ref D, .int k u] (getItem (.ref D) (.int k u)) := by with_unfolding_all rfl) :
    wpAny (model prog w) A (subscriptTail value slice (.ref D) (.int k u)) Q E s := by
  have hl : s.heap.IsList D vs.toArray := ⟨_, (N _ hm).1, rfl, n, rfl⟩
  exact tail_any hl.typeIs slot_list_getitem.lookup (wpAny_getItem_list hl h0 h1 (by simpa using hv) h) hs
theorem item_last {value slice : PySem.Expr} {vs : List Value} {v : Value} {n : Nat} {u : Tok} {Q : Value → Shared → Prop} (N : News h₀ L s.heap news) (hm : (D, listOf (vs ++ [v]).toArray n) ∈ news) (h : Q v s)
    (hs : subscripted slice false (.ref D) (.int (-1) u) = operate [.ref D, .int (-1) u] (getItem (.ref D) (.int (-1) u)) := by with_unfolding_all rfl) :
    wpAny (model prog w) A (subscriptTail value slice (.ref D) (.int (-1) u)) Q E s := by
  have hl : s.heap.IsList D (vs ++ [v]).toArray := ⟨_, (N _ hm).1, rfl, n, rfl⟩
  exact tail_any hl.typeIs slot_list_getitem.lookup (wpAny_getItem_list_neg hl (by decide) (by simp; omega) (by decide) (by rw [show ((-1 : Int) + ((vs ++ [v]).toArray.size : Int)).toNat = vs.length from by simp; omega]; simp) h) hs
theorem setAt_P {vs : List Value} {v : Value} {n : Nat} {k : Int} {t : Tok} {Q : Unit → Shared → Prop} (F : Fr h₀ L s.heap m) (N : News h₀ L s.heap news) (hm : (D, listOf vs.toArray n) ∈ news) (h0 : 0 ≤ k) (h1 : k < 2 ^ 63) (hk : k.toNat < vs.length)
    (h : ∀ h', Fr h₀ L h' m → News h₀ L h' (put D (listOf (vs.set k.toNat v).toArray n) news) → Q () { s with heap := h' }) :
    wpAny (model prog w) A (setItem (.ref D) (.int k t) v) Q E s := by
  have z := N _ hm
  refine ki_setAt z.1 h0 h1 (by simp; omega) (h _ (F.change (Heap.SameBut.update ..) z.2.1 z.2.2) (ki_turn (pre := []) _ (news_focus N hm) (fun _ h => nomatch h) wo_ne ?_ ?_))
  · apply Array.toList_inj.mp
    simp
  · simp
end
section
variable {prog : Program} {w : World} {A : Around} {E : Value → Shared → Prop} {s : Shared} {env : Env} {h₀ : Heap} {x : Str} {body : List Stmt} {Q : Flow → Shared → Prop}
theorem it_upto {r : Addr} {t₀ u₀ v₀ : Tok} {n : Nat} {m₀ : Str → Option Value} {news : Ledger} (J : Nat → (Str → Option Value) → Ledger → Prop)
    (hr : IsRange s.heap r 0 (n : Int) 1 t₀ u₀ v₀) (hh : A.handled = none) (hn : n ≤ 2 ^ 31) (F : Fr h₀ env.locals s.heap m₀) (N : News h₀ env.locals s.heap news) (hj : J 0 m₀ news)
    (turn : ∀ i t m₁ news₁ h tk I io, i < n → J i m₁ news₁ → (∀ p ∈ news₁, p.1 ≠ I) → io.cls = .type "range_iterator" →
      Fr h₀ env.locals h (fun y => if y = x then some (.int (i : Int) t) else m₁ y) → News h₀ env.locals h ((I, io) :: news₁) →
      wpAny (model prog w) A (execs body env) (TurnEnd h₀ env.locals I io (fun m' nx => J (i + 1) m' nx) { s with heap := h, toks := tk } Q) E { s with heap := h, toks := tk })
    (done : ∀ m₁ news₁ h tk, J n m₁ news₁ → Fr h₀ env.locals h m₁ → News h₀ env.locals h news₁ → Q .next { s with heap := h, toks := tk }) :
    wpAny (model prog w) A (pyIter (.ref r)) (fun it s₂ => LoopAtV prog w A h₀ env x body Q E it s₂) E s := by
  refine it_rangeS (n := n) J hh hr (small_one (by decide) (by decide) (by omega) (by omega)) (by rw [rangeSize_one]; split <;> omega) F N hj (fun i t m₁ news₁ h tk I io hi hJ ho hio F₁ N₁ => ?_) done
  rw [Int.zero_add, Int.mul_one] at F₁
  exact turn i t m₁ news₁ h tk I io hi hJ ho hio F₁ N₁
end

theorem rm0 {x d n : Nat} (h : x + d < n) : x < n := Nat.lt_of_le_of_lt (Nat.le_add_right _ _) h
theorem rm1 {x d n k : Nat} (h : x + d < n) (e : Nat.ble k d = true) : x + k < n := Nat.lt_of_le_of_lt (Nat.add_le_add_left (Nat.le_of_ble_eq_true e) _) h
theorem rm2 {x d n k j : Nat} (h : x + d < n) (e : Nat.ble (k + j) d = true) : x + k + j < n := by rw [Nat.add_assoc]; exact rm1 h e
theorem rm3 {x d n k j i : Nat} (h : x + d < n) (e : Nat.ble (k + j + i) d = true) : x + k + j + i < n := by rw [Nat.add_assoc, Nat.add_assoc, ← Nat.add_assoc k]; exact rm1 h e
theorem rm4 {x d n k j i l : Nat} (h : x + d < n) (e : Nat.ble (k + j + i + l) d = true) : x + k + j + i + l < n := by
  have h' := rm1 h e
  have q : x + (k + j + i + l) = x + k + j + i + l := by simp only [Nat.add_assoc]
  rwa [q] at h'
theorem rm5 {x d n : Nat} (h : x ≤ d) (e : Nat.ble d n = true) : x ≤ n := Nat.le_trans h (Nat.le_of_ble_eq_true e)
theorem rm6 {x d n : Nat} (h : x < d) (e : Nat.ble d n = true) : x < n := Nat.lt_of_lt_of_le h (Nat.le_of_ble_eq_true e)
theorem rm7 {x d n : Nat} (h : x ≤ d) (e : Nat.ble (d + 1) n = true) : x < n := Nat.lt_of_le_of_lt h (Nat.le_of_ble_eq_true e)
theorem rm8 {x d n : Nat} (h : x < d) (e : Nat.ble d (n + 1) = true) : x ≤ n := Nat.le_of_lt_succ (Nat.lt_of_lt_of_le h (Nat.le_of_ble_eq_true e))
theorem rmJ {x d n : Nat} (h : d ≤ x) (e : Nat.ble n d = true) : n ≤ x := Nat.le_trans (Nat.le_of_ble_eq_true e) h
theorem rmK {x d n : Nat} (h : d ≤ x) (e : Nat.ble (n + 1) d = true) : n < x := Nat.lt_of_lt_of_le (Nat.le_of_ble_eq_true e) h
theorem rmA {x y : Nat} {P : Prop} (h : x < y ∧ P) : x ≠ y := Nat.ne_of_lt h.1
theorem rmB {x y : Nat} {P : Prop} (h : x < y ∧ P) : y ≠ x := Nat.ne_of_gt h.1
theorem i5 {x d n : Int} (h : x ≤ d) (e : decide (d ≤ n) = true) : x ≤ n := Int.le_trans h (of_decide_eq_true e)
theorem i6 {x d n : Int} (h : x < d) (e : decide (d ≤ n) = true) : x < n := Int.lt_of_lt_of_le h (of_decide_eq_true e)
theorem i7 {x d n : Int} (h : x ≤ d) (e : decide (d < n) = true) : x < n := Int.lt_of_le_of_lt h (of_decide_eq_true e)
theorem i8 {x d n : Int} (h : x < d) (e : decide (d ≤ n) = true) : x ≤ n := Int.le_of_lt (i6 h e)
theorem i9 {x d n : Int} (h : d ≤ x) (e : decide (n ≤ d) = true) : n ≤ x := Int.le_trans (of_decide_eq_true e) h
theorem iA {x d n : Int} (h : d ≤ x) (e : decide (n < d) = true) : n < x := Int.lt_of_lt_of_le (of_decide_eq_true e) h
theorem iB {x n : Int} (h : n ≤ x) : ¬ x < n := Int.not_lt.mpr h
theorem iC {x d n : Int} (h : x < d) (e : decide (d ≤ n + 1) = true) : ¬ n < x := Int.not_lt.mpr (Int.le_of_lt_add_one (Int.lt_of_lt_of_le h (of_decide_eq_true e)))
theorem iD {x d n : Int} (h : x ≤ d) (e : decide (d ≤ n) = true) : ¬ n < x := Int.not_lt.mpr (Int.le_trans h (of_decide_eq_true e))
theorem n5 {x d : Nat} {n : Int} (h : x ≤ d) (e : decide ((d : Int) ≤ n) = true) : (x : Int) ≤ n := Int.le_trans (Int.ofNat_le.mpr h) (of_decide_eq_true e)
theorem n6 {x d : Nat} {n : Int} (h : x < d) (e : decide ((d : Int) ≤ n) = true) : (x : Int) < n := Int.lt_of_lt_of_le (Int.ofNat_lt.mpr h) (of_decide_eq_true e)
theorem n7 {x d : Nat} {n : Int} (h : x ≤ d) (e : decide ((d : Int) < n) = true) : (x : Int) < n := Int.lt_of_le_of_lt (Int.ofNat_le.mpr h) (of_decide_eq_true e)
theorem n8 {x d : Nat} {n : Int} (h : x < d) (e : decide ((d : Int) ≤ n) = true) : (x : Int) ≤ n := Int.le_of_lt (n6 h e)
theorem n9 {x : Nat} {n : Int} (e : decide (n < 0) = true) : n < (x : Int) := Int.lt_of_lt_of_le (of_decide_eq_true e) (Int.natCast_nonneg x)
theorem nA {x y : Nat} (h : x < y) : (x : Int) < (y : Int) := Int.ofNat_lt.mpr h
theorem nB {x y : Nat} (h : x ≤ y) : (x : Int) ≤ (y : Int) := Int.ofNat_le.mpr h
theorem nC {x : Nat} : ¬ (x : Int) < 0 := Int.not_lt.mpr (Int.natCast_nonneg x)
theorem rmC {x y u : Nat} {P : Prop} {v : Nat} (h : u < v ∧ x < y ∧ P) : x ≠ y := Nat.ne_of_lt h.2.1
theorem rmD {x y u : Nat} {P : Prop} {v : Nat} (h : u < v ∧ x < y ∧ P) : y ≠ x := Nat.ne_of_gt h.2.1
theorem rmF {x y u v t r : Nat} {P : Prop} (h : u < v ∧ t < r ∧ x < y ∧ P) : x ≠ y := Nat.ne_of_lt h.2.2.1
theorem rmG {x y u v t r : Nat} {P : Prop} (h : u < v ∧ t < r ∧ x < y ∧ P) : y ≠ x := Nat.ne_of_gt h.2.2.1
theorem rmH {x y u v t r p q : Nat} {P : Prop} (h : u < v ∧ t < r ∧ p < q ∧ x < y ∧ P) : x ≠ y := Nat.ne_of_lt h.2.2.2.1
theorem rmI {x y u v t r p q : Nat} {P : Prop} (h : u < v ∧ t < r ∧ p < q ∧ x < y ∧ P) : y ≠ x := Nat.ne_of_gt h.2.2.2.1
theorem hideG {G : Prop} (h : ∀ P : Prop, (G → P) → P) : G := h G id
noncomputable def KnowAll (m : Str → Option Value) : List (Str × Value) → Prop
  | [] => True
  | (n, v) :: r => m n = some v ∧ KnowAll m r
theorem know_or {m : Str → Option Value} (y : Str) : ∀ l : List (Str × Value), KnowAll m l → (l.lookup y).or (m y) = m y
  | [], _ => rfl
  | (n, v) :: r, h => by
    rw [List.lookup_cons]
    by_cases e : (y == n) = true
    · rw [e]
      have e' : y = n := by simpa using e
      rw [e']; exact h.1.symm
    · have e' : (y == n) = false := by simpa using e
      rw [e']; exact know_or y r h.2
theorem fr_knowL {h₀ h : Heap} {L : Addr} {m : Str → Option Value} (l : List (Str × Value)) (F : Fr h₀ L h m) (k : KnowAll m l) : Fr h₀ L h (fun y => (l.lookup y).or (m y)) := by
  have e : (fun y => (l.lookup y).or (m y)) = m := funext fun y => know_or y l k
  rw [e]; exact F
theorem letFr {h₀ h : Heap} {L : Addr} {m : Str → Option Value} {P : Prop} (F : Fr h₀ L h m) (k : let m' := m; Fr h₀ L h m' → P) : P := k F
theorem storeX_M {M : Model} {A : Around} {E : Value → Shared → Prop} {s : Shared} {h₀ : Heap} {L a : Addr} {m : Str → Option Value} {cn : Str} {cs : Scope} {ccd : Value} {cl : List (Str × Addr)}
    {x : Str} {v : Value} {Q : Unit → Shared → Prop} {news : List (Addr × Obj)} (F : Fr h₀ L s.heap m) (N : News h₀ L s.heap news)
    (h : ∀ h', let m' := fun y => if y = x then some v else m y; Fr h₀ L h' m' → News h₀ L h' news → Q () { s with heap := h', toks := s.toks + 1 })
    (hk : cs.kind = .function := by rfl) (hx : (envX cn cs L a ccd cl).kindOf x = some .local := by rfl) : wpAny M A (storeName (envX cn cs L a ccd cl) x v) Q E s := storeX_L F N h hk hx

-- HE
noncomputable abbrev Pr : Program := PySem.Challenge.rw_xw0341_02.row.toRowW.1
noncomputable def stA (i : Nat) : Stmt := (Pr.main.body[i]?).getD (.Pass default)
noncomputable def fnA (i j : Nat) : Stmt := match j with
  | 0 => stA i
  | j + 1 => match stA i with
    | .ClassDef _ _ _ b _ _ _ _ _ _ _ => (b[j]?).getD (.Pass default)
    | s => s
noncomputable def fP (i j : Nat) : Arguments := match fnA i j with
  | .FunctionDef _ a _ _ _ _ _ _ _ _ => a
  | _ => default
noncomputable def fB (i j : Nat) : List Stmt := match fnA i j with
  | .FunctionDef _ _ b _ _ _ _ _ _ _ => b
  | _ => []
noncomputable def fS (i j : Nat) : Scope := match fnA i j with
  | .FunctionDef _ _ _ _ _ _ s _ _ _ => s
  | _ => default

/-- the part of the heap that the law reaches -/
noncomputable def hd.heap_39 : Params → Frag := fun P =>
(nat_lit 2, { cls := .none, data := .dict #[⟨PyData.keyHash P (.ofString "type.__subclasses__.Exception.0"), .str (.ofString "type.__subclasses__.Exception.0") 221, .int 38 0⟩, ⟨PyData.keyHash P (.ofString "type.__subclasses__.Exception.n"), .str (.ofString "type.__subclasses__.Exception.n") 222, .int 1 0⟩] 2 }) ::
(nat_lit 3, { cls := .type "dict", data := .dict #[⟨PyData.keyHash P (.ofString "__name__"), .str (.ofString "__name__") 165, .str (.ofString "law_xw0341_02") 1402⟩, ⟨PyData.keyHash P (.ofString "__doc__"), .str (.ofString "__doc__") 166, .none⟩, ⟨PyData.keyHash P (.ofString "__package__"), .str (.ofString "__package__") 167, .none⟩, ⟨PyData.keyHash P (.ofString "__loader__"), .str (.ofString "__loader__") 168, .builtin "__main__.__loader__#opaque"⟩, ⟨PyData.keyHash P (.ofString "__spec__"), .str (.ofString "__spec__") 169, .none⟩, ⟨PyData.keyHash P (.ofString "__annotations__"), .str (.ofString "__annotations__") 170, .ref 6⟩, ⟨PyData.keyHash P (.ofString "__builtins__"), .str (.ofString "__builtins__") 171, .ref 4⟩, ⟨PyData.keyHash P (.ofString "__file__"), .str (.ofString "__file__") 173, .str (.ofString "/claim/cut.py") 172⟩, ⟨PyData.keyHash P (.ofString "__cached__"), .str (.ofString "__cached__") 174, .none⟩, ⟨PyData.keyHash P (.ofString "_wall"), .str (.ofString "_wall") 193, .ref 21⟩, ⟨PyData.keyHash P (.ofString "StackError"), .str (.ofString "StackError") 224, .ref 38⟩, ⟨PyData.keyHash P (.ofString "FormError"), .str (.ofString "FormError") 240, .ref 51⟩, ⟨PyData.keyHash P (.ofString "SizeError"), .str (.ofString "SizeError") 256, .ref 63⟩, ⟨PyData.keyHash P (.ofString "RouteError"), .str (.ofString "RouteError") 272, .ref 75⟩, ⟨PyData.keyHash P (.ofString "put16"), .str (.ofString "put16") 281, .ref 84⟩, ⟨PyData.keyHash P (.ofString "put32"), .str (.ofString "put32") 288, .ref 91⟩, ⟨PyData.keyHash P (.ofString "need"), .str (.ofString "need") 297, .ref 98⟩, ⟨PyData.keyHash P (.ofString "get16"), .str (.ofString "get16") 305, .ref 105⟩, ⟨PyData.keyHash P (.ofString "get32"), .str (.ofString "get32") 313, .ref 112⟩, ⟨PyData.keyHash P (.ofString "ALL_ONES"), .str (.ofString "ALL_ONES") 317, .int 65535 316⟩, ⟨PyData.keyHash P (.ofString "fold"), .str (.ofString "fold") 324, .ref 119⟩, ⟨PyData.keyHash P (.ofString "ones_sum"), .str (.ofString "ones_sum") 336, .ref 127⟩, ⟨PyData.keyHash P (.ofString "checksum"), .str (.ofString "checksum") 345, .ref 135⟩, ⟨PyData.keyHash P (.ofString "VERSION"), .str (.ofString "VERSION") 349, .int 4 348⟩, ⟨PyData.keyHash P (.ofString "LEAST_HEAD"), .str (.ofString "LEAST_HEAD") 351, .int 20 350⟩, ⟨PyData.keyHash P (.ofString "MOST_HEAD"), .str (.ofString "MOST_HEAD") 353, .int 60 352⟩, ⟨PyData.keyHash P (.ofString "MOST_TOTAL"), .str (.ofString "MOST_TOTAL") 355, .int 65535 354⟩, ⟨PyData.keyHash P (.ofString "DONT_BIT"), .str (.ofString "DONT_BIT") 357, .int 16384 356⟩, ⟨PyData.keyHash P (.ofString "MORE_BIT"), .str (.ofString "MORE_BIT") 359, .int 8192 358⟩, ⟨PyData.keyHash P (.ofString "PLACE_BITS"), .str (.ofString "PLACE_BITS") 361, .int 8191 360⟩, ⟨PyData.keyHash P (.ofString "TTL_PLACE"), .str (.ofString "TTL_PLACE") 363, .int 8 362⟩, ⟨PyData.keyHash P (.ofString "IpHeader"), .str (.ofString "IpHeader") 453, .ref 188⟩, ⟨PyData.keyHash P (.ofString "is_within"), .str (.ofString "is_within") 461, .ref 199⟩, ⟨PyData.keyHash P (.ofString "check_fields"), .str (.ofString "check_fields") 469, .ref 206⟩, ⟨PyData.keyHash P (.ofString "check_size"), .str (.ofString "check_size") 477, .ref 213⟩, ⟨PyData.keyHash P (.ofString "flags_of"), .str (.ofString "flags_of") 485, .ref 220⟩, ⟨PyData.keyHash P (.ofString "pack_ip"), .str (.ofString "pack_ip") 498, .ref 227⟩, ⟨PyData.keyHash P (.ofString "head_size"), .str (.ofString "head_size") 506, .ref 234⟩, ⟨PyData.keyHash P (.ofString "unpack_ip"), .str (.ofString "unpack_ip") 518, .ref 241⟩, ⟨PyData.keyHash P (.ofString "END"), .str (.ofString "END") 522, .int 0 521⟩, ⟨PyData.keyHash P (.ofString "NOTHING"), .str (.ofString "NOTHING") 524, .int 1 523⟩, ⟨PyData.keyHash P (.ofString "MOST_OPTIONS"), .str (.ofString "MOST_OPTIONS") 526, .int 40 525⟩, ⟨PyData.keyHash P (.ofString "COPY_BIT"), .str (.ofString "COPY_BIT") 528, .int 128 527⟩, ⟨PyData.keyHash P (.ofString "is_single"), .str (.ofString "is_single") 535, .ref 248⟩, ⟨PyData.keyHash P (.ofString "read_options"), .str (.ofString "read_options") 546, .ref 255⟩, ⟨PyData.keyHash P (.ofString "size_at"), .str (.ofString "size_at") 555, .ref 262⟩, ⟨PyData.keyHash P (.ofString "write_options"), .str (.ofString "write_options") 565, .ref 269⟩, ⟨PyData.keyHash P (.ofString "option_octets"), .str (.ofString "option_octets") 573, .ref 276⟩, ⟨PyData.keyHash P (.ofString "is_copied"), .str (.ofString "is_copied") 580, .ref 283⟩, ⟨PyData.keyHash P (.ofString "copied"), .str (.ofString "copied") 586, .ref 288⟩, ⟨PyData.keyHash P (.ofString "STEP_fragments"), .str (.ofString "STEP_fragments") 590, .int 8 589⟩, ⟨PyData.keyHash P (.ofString "later_options"), .str (.ofString "later_options") 597, .ref 295⟩, ⟨PyData.keyHash P (.ofString "part_header"), .str (.ofString "part_header") 607, .ref 302⟩, ⟨PyData.keyHash P (.ofString "room_of"), .str (.ofString "room_of") 616, .ref 309⟩, ⟨PyData.keyHash P (.ofString "cut"), .str (.ofString "cut") 632, .ref 316⟩, ⟨PyData.keyHash P (.ofString "BITS"), .str (.ofString "BITS") 636, .int 32 635⟩, ⟨PyData.keyHash P (.ofString "ALL"), .str (.ofString "ALL") 642, .int 4294967295 641⟩, ⟨PyData.keyHash P (.ofString "mask_of"), .str (.ofString "mask_of") 649, .ref 323⟩, ⟨PyData.keyHash P (.ofString "net_of"), .str (.ofString "net_of") 657, .ref 330⟩, ⟨PyData.keyHash P (.ofString "is_group"), .str (.ofString "is_group") 664, .ref 337⟩, ⟨PyData.keyHash P (.ofString "is_loop"), .str (.ofString "is_loop") 671, .ref 344⟩, ⟨PyData.keyHash P (.ofString "Route"), .str (.ofString "Route") 724, .ref 376⟩, ⟨PyData.keyHash P (.ofString "Branch"), .str (.ofString "Branch") 787, .ref 425⟩, ⟨PyData.keyHash P (.ofString "bit_at"), .str (.ofString "bit_at") 795, .ref 436⟩, ⟨PyData.keyHash P (.ofString "Routes"), .str (.ofString "Routes") 904, .ref 509⟩, ⟨PyData.keyHash P (.ofString "ALL_HOSTS"), .str (.ofString "ALL_HOSTS") 912, .int 4294967295 911⟩, ⟨PyData.keyHash P (.ofString "LEAST_TARGET"), .str (.ofString "LEAST_TARGET") 916, .int 16777216 915⟩, ⟨PyData.keyHash P (.ofString "UNREACHABLE"), .str (.ofString "UNREACHABLE") 918, .int 3 917⟩, ⟨PyData.keyHash P (.ofString "EXCEEDED"), .str (.ofString "EXCEEDED") 920, .int 11 919⟩, ⟨PyData.keyHash P (.ofString "NO_NET"), .str (.ofString "NO_NET") 922, .int 0 921⟩, ⟨PyData.keyHash P (.ofString "TOO_GREAT"), .str (.ofString "TOO_GREAT") 924, .int 4 923⟩, ⟨PyData.keyHash P (.ofString "IN_TRANSIT"), .str (.ofString "IN_TRANSIT") 926, .int 0 925⟩, ⟨PyData.keyHash P (.ofString "FaceRow"), .str (.ofString "FaceRow") 959, .ref 530⟩, ⟨PyData.keyHash P (.ofString "header_like"), .str (.ofString "header_like") 968, .ref 541⟩, ⟨PyData.keyHash P (.ofString "IpLayer"), .str (.ofString "IpLayer") 1145, .ref 665⟩, ⟨PyData.keyHash P (.ofString "STEP_reassembly"), .str (.ofString "STEP_reassembly") 1149, .int 8 1148⟩, ⟨PyData.keyHash P (.ofString "Holes"), .str (.ofString "Holes") 1216, .ref 714⟩, ⟨PyData.keyHash P (.ofString "Datagram"), .str (.ofString "Datagram") 1296, .ref 768⟩, ⟨PyData.keyHash P (.ofString "whole_header"), .str (.ofString "whole_header") 1303, .ref 779⟩, ⟨PyData.keyHash P (.ofString "key_of"), .str (.ofString "key_of") 1310, .ref 786⟩, ⟨PyData.keyHash P (.ofString "is_bad_piece"), .str (.ofString "is_bad_piece") 1318, .ref 793⟩, ⟨PyData.keyHash P (.ofString "Reassembly"), .str (.ofString "Reassembly") 1401, .ref 851⟩, ⟨PyData.keyHash P (.ofString "_law_pool"), .str (.ofString "_law_pool") 1414, .ref 862⟩, ⟨PyData.keyHash P (.ofString "_law_take"), .str (.ofString "_law_take") 1423, .ref 869⟩, ⟨PyData.keyHash P (.ofString "_law_one"), .str (.ofString "_law_one") 1431, .ref 876⟩, ⟨PyData.keyHash P (.ofString "_law_layer"), .str (.ofString "_law_layer") 1442, .ref 883⟩, ⟨PyData.keyHash P (.ofString "_law_due"), .str (.ofString "_law_due") 1467, .ref 890⟩, ⟨PyData.keyHash P (.ofString "_law_seen"), .str (.ofString "_law_seen") 1484, .ref 897⟩, ⟨PyData.keyHash P (.ofString "_law_right"), .str (.ofString "_law_right") 1495, .ref 904⟩, ⟨PyData.keyHash P (.ofString "law"), .str (.ofString "law") 1510, .ref 911⟩] 90 }) ::
(nat_lit 15, { cls := .type "tuple", data := .seq #[] }) ::
(nat_lit 17, { cls := .type "tuple", data := .seq #[.str (.ofString "k") 190] }) ::
(nat_lit 18, { cls := .type "tuple", data := .seq #[] }) ::
(nat_lit 20, { cls := .type "code", data := .fields #[.str (.ofString "_wall") 187, .str (.ofString "_wall") 188, .str (.ofString "/claim/cut.py") 189, .int 1 0, .int 1 0, .int 0 0, .int 0 0, .int 3 0, .ref 15, .bool true, .int 181 0, .ref 16, .none, .ref 17, .ref 18, .ref 19, .int 191 0, .int 1 0, .str (.ofString "/claim/cut.py") 192] }) ::
(nat_lit 21, { cls := .type "function", data := .func { name := .ofString "_wall", qualname := .ofString "_wall", params := fP 0 0, body := .stmts (fB 0 0), scope := fS 0 0, globals := 3, closure := [], defaults := .none, kwdefaults := .none, pyModule := .str (.ofString "__main__") 164, code := .ref 20 } }) ::
(nat_lit 22, { cls := .type "tuple", data := .seq #[.type "Exception"] }) ::
(nat_lit 29, { cls := .type "tuple", data := .seq #[] }) ::
(nat_lit 31, { cls := .type "tuple", data := .seq #[.str (.ofString "self") 211, .str (.ofString "message") 212] }) ::
(nat_lit 32, { cls := .type "tuple", data := .seq #[] }) ::
(nat_lit 34, { cls := .type "code", data := .fields #[.str (.ofString "__init__") 208, .str (.ofString "StackError.__init__") 209, .str (.ofString "/claim/cut.py") 210, .int 7 0, .int 2 0, .int 0 0, .int 0 0, .int 3 0, .ref 29, .bool true, .int 181 0, .ref 30, .none, .ref 31, .ref 32, .ref 33, .int 213 0, .int 7 0, .str (.ofString "/claim/cut.py") 214] }) ::
(nat_lit 35, { cls := .type "function", data := .func { name := .ofString "__init__", qualname := .ofString "StackError.__init__", params := fP 2 1, body := .stmts (fB 2 1), scope := fS 2 1, globals := 3, closure := [], defaults := .none, kwdefaults := .none, pyModule := .str (.ofString "thinstack.errors") 194, code := .ref 34 } }) ::
(nat_lit 36, { cls := .type "tuple", data := .seq #[.str (.ofString "message") 216] }) ::
(nat_lit 37, { cls := .type "dict", data := .dict #[⟨PyData.keyHash P (.ofString "__module__"), .str (.ofString "__module__") 203, .str (.ofString "thinstack.errors") 194⟩, ⟨PyData.keyHash P (.ofString "__firstlineno__"), .str (.ofString "__firstlineno__") 207, .int 5 206⟩, ⟨PyData.keyHash P (.ofString "__init__"), .str (.ofString "__init__") 215, .ref 35⟩, ⟨PyData.keyHash P (.ofString "__static_attributes__"), .str (.ofString "__static_attributes__") 217, .ref 36⟩, ⟨PyData.keyHash P (.ofString "__weakref__"), .str (.ofString "__weakref__") 219, .ref 39⟩, ⟨PyData.keyHash P (.ofString "__doc__"), .str (.ofString "__doc__") 220, .none⟩] 3 }) ::
(nat_lit 38, { cls := .type "type", data := .cls { name := .ofString "StackError", bases := [.type "Exception"], mro := [.ref 38, .type "Exception", .type "BaseException", .type "object"], ns := 37, qualname := .ofString "StackError", subclasses := [.ref 51, .ref 63, .ref 75] }, slots := #[some (.ref 22), none, some (.str (.ofString "StackError") 196), some (.str (.ofString "StackError") 204), some (.builtin "Exception.__new__"), some (.bool true)] }) ::
(nat_lit 39, { cls := .type "getset_descriptor", data := .fields #[.str (.ofString "__weakref__") 218, .ref 38, .builtin "ExceptionGroup.__weakref__", .none] }) ::
(nat_lit 42, { cls := .type "tuple", data := .seq #[.ref 38] }) ::
(nat_lit 49, { cls := .type "tuple", data := .seq #[] }) ::
(nat_lit 50, { cls := .type "dict", data := .dict #[⟨PyData.keyHash P (.ofString "__module__"), .str (.ofString "__module__") 232, .str (.ofString "thinstack.errors") 194⟩, ⟨PyData.keyHash P (.ofString "__firstlineno__"), .str (.ofString "__firstlineno__") 236, .int 9 235⟩, ⟨PyData.keyHash P (.ofString "__static_attributes__"), .str (.ofString "__static_attributes__") 237, .ref 49⟩, ⟨PyData.keyHash P (.ofString "__doc__"), .str (.ofString "__doc__") 238, .none⟩] 2 }) ::
(nat_lit 51, { cls := .type "type", data := .cls { name := .ofString "FormError", bases := [.ref 38], mro := [.ref 51, .ref 38, .type "Exception", .type "BaseException", .type "object"], ns := 50, qualname := .ofString "FormError" }, slots := #[some (.ref 42), none, some (.str (.ofString "FormError") 225), some (.str (.ofString "FormError") 233), some (.builtin "Exception.__new__"), some (.bool true)] }) ::
(nat_lit 54, { cls := .type "tuple", data := .seq #[.ref 38] }) ::
(nat_lit 61, { cls := .type "tuple", data := .seq #[] }) ::
(nat_lit 62, { cls := .type "dict", data := .dict #[⟨PyData.keyHash P (.ofString "__module__"), .str (.ofString "__module__") 248, .str (.ofString "thinstack.errors") 194⟩, ⟨PyData.keyHash P (.ofString "__firstlineno__"), .str (.ofString "__firstlineno__") 252, .int 11 251⟩, ⟨PyData.keyHash P (.ofString "__static_attributes__"), .str (.ofString "__static_attributes__") 253, .ref 61⟩, ⟨PyData.keyHash P (.ofString "__doc__"), .str (.ofString "__doc__") 254, .none⟩] 2 }) ::
(nat_lit 63, { cls := .type "type", data := .cls { name := .ofString "SizeError", bases := [.ref 38], mro := [.ref 63, .ref 38, .type "Exception", .type "BaseException", .type "object"], ns := 62, qualname := .ofString "SizeError" }, slots := #[some (.ref 54), none, some (.str (.ofString "SizeError") 241), some (.str (.ofString "SizeError") 249), some (.builtin "Exception.__new__"), some (.bool true)] }) ::
(nat_lit 66, { cls := .type "tuple", data := .seq #[.ref 38] }) ::
(nat_lit 73, { cls := .type "tuple", data := .seq #[] }) ::
(nat_lit 74, { cls := .type "dict", data := .dict #[⟨PyData.keyHash P (.ofString "__module__"), .str (.ofString "__module__") 264, .str (.ofString "thinstack.errors") 194⟩, ⟨PyData.keyHash P (.ofString "__firstlineno__"), .str (.ofString "__firstlineno__") 268, .int 13 267⟩, ⟨PyData.keyHash P (.ofString "__static_attributes__"), .str (.ofString "__static_attributes__") 269, .ref 73⟩, ⟨PyData.keyHash P (.ofString "__doc__"), .str (.ofString "__doc__") 270, .none⟩] 2 }) ::
(nat_lit 75, { cls := .type "type", data := .cls { name := .ofString "RouteError", bases := [.ref 38], mro := [.ref 75, .ref 38, .type "Exception", .type "BaseException", .type "object"], ns := 74, qualname := .ofString "RouteError" }, slots := #[some (.ref 66), none, some (.str (.ofString "RouteError") 257), some (.str (.ofString "RouteError") 265), some (.builtin "Exception.__new__"), some (.bool true)] }) ::
(nat_lit 78, { cls := .type "tuple", data := .seq #[] }) ::
(nat_lit 80, { cls := .type "tuple", data := .seq #[.str (.ofString "n") 278] }) ::
(nat_lit 81, { cls := .type "tuple", data := .seq #[] }) ::
(nat_lit 83, { cls := .type "code", data := .fields #[.str (.ofString "put16") 275, .str (.ofString "put16") 276, .str (.ofString "/claim/cut.py") 277, .int 16 0, .int 1 0, .int 0 0, .int 0 0, .int 3 0, .ref 78, .bool true, .int 181 0, .ref 79, .none, .ref 80, .ref 81, .ref 82, .int 279 0, .int 16 0, .str (.ofString "/claim/cut.py") 280] }) ::
(nat_lit 84, { cls := .type "function", data := .func { name := .ofString "put16", qualname := .ofString "put16", params := fP 7 0, body := .stmts (fB 7 0), scope := fS 7 0, globals := 3, closure := [], defaults := .none, kwdefaults := .none, pyModule := .str (.ofString "thinstack.octets") 273, code := .ref 83 } }) ::
(nat_lit 85, { cls := .type "tuple", data := .seq #[] }) ::
(nat_lit 87, { cls := .type "tuple", data := .seq #[.str (.ofString "n") 285] }) ::
(nat_lit 88, { cls := .type "tuple", data := .seq #[] }) ::
(nat_lit 90, { cls := .type "code", data := .fields #[.str (.ofString "put32") 282, .str (.ofString "put32") 283, .str (.ofString "/claim/cut.py") 284, .int 18 0, .int 1 0, .int 0 0, .int 0 0, .int 3 0, .ref 85, .bool true, .int 181 0, .ref 86, .none, .ref 87, .ref 88, .ref 89, .int 286 0, .int 18 0, .str (.ofString "/claim/cut.py") 287] }) ::
(nat_lit 91, { cls := .type "function", data := .func { name := .ofString "put32", qualname := .ofString "put32", params := fP 8 0, body := .stmts (fB 8 0), scope := fS 8 0, globals := 3, closure := [], defaults := .none, kwdefaults := .none, pyModule := .str (.ofString "thinstack.octets") 273, code := .ref 90 } }) ::
(nat_lit 92, { cls := .type "tuple", data := .seq #[] }) ::
(nat_lit 94, { cls := .type "tuple", data := .seq #[.str (.ofString "octets") 292, .str (.ofString "at") 293, .str (.ofString "size") 294] }) ::
(nat_lit 95, { cls := .type "tuple", data := .seq #[] }) ::
(nat_lit 97, { cls := .type "code", data := .fields #[.str (.ofString "need") 289, .str (.ofString "need") 290, .str (.ofString "/claim/cut.py") 291, .int 20 0, .int 3 0, .int 0 0, .int 0 0, .int 3 0, .ref 92, .bool true, .int 181 0, .ref 93, .none, .ref 94, .ref 95, .ref 96, .int 295 0, .int 20 0, .str (.ofString "/claim/cut.py") 296] }) ::
(nat_lit 98, { cls := .type "function", data := .func { name := .ofString "need", qualname := .ofString "need", params := fP 9 0, body := .stmts (fB 9 0), scope := fS 9 0, globals := 3, closure := [], defaults := .none, kwdefaults := .none, pyModule := .str (.ofString "thinstack.octets") 273, code := .ref 97 } }) ::
(nat_lit 99, { cls := .type "tuple", data := .seq #[] }) ::
(nat_lit 101, { cls := .type "tuple", data := .seq #[.str (.ofString "octets") 301, .str (.ofString "at") 302] }) ::
(nat_lit 102, { cls := .type "tuple", data := .seq #[] }) ::
(nat_lit 104, { cls := .type "code", data := .fields #[.str (.ofString "get16") 298, .str (.ofString "get16") 299, .str (.ofString "/claim/cut.py") 300, .int 23 0, .int 2 0, .int 0 0, .int 0 0, .int 3 0, .ref 99, .bool true, .int 181 0, .ref 100, .none, .ref 101, .ref 102, .ref 103, .int 303 0, .int 23 0, .str (.ofString "/claim/cut.py") 304] }) ::
(nat_lit 105, { cls := .type "function", data := .func { name := .ofString "get16", qualname := .ofString "get16", params := fP 10 0, body := .stmts (fB 10 0), scope := fS 10 0, globals := 3, closure := [], defaults := .none, kwdefaults := .none, pyModule := .str (.ofString "thinstack.octets") 273, code := .ref 104 } }) ::
(nat_lit 106, { cls := .type "tuple", data := .seq #[] }) ::
(nat_lit 108, { cls := .type "tuple", data := .seq #[.str (.ofString "octets") 309, .str (.ofString "at") 310] }) ::
(nat_lit 109, { cls := .type "tuple", data := .seq #[] }) ::
(nat_lit 111, { cls := .type "code", data := .fields #[.str (.ofString "get32") 306, .str (.ofString "get32") 307, .str (.ofString "/claim/cut.py") 308, .int 26 0, .int 2 0, .int 0 0, .int 0 0, .int 3 0, .ref 106, .bool true, .int 181 0, .ref 107, .none, .ref 108, .ref 109, .ref 110, .int 311 0, .int 26 0, .str (.ofString "/claim/cut.py") 312] }) ::
(nat_lit 112, { cls := .type "function", data := .func { name := .ofString "get32", qualname := .ofString "get32", params := fP 11 0, body := .stmts (fB 11 0), scope := fS 11 0, globals := 3, closure := [], defaults := .none, kwdefaults := .none, pyModule := .str (.ofString "thinstack.octets") 273, code := .ref 111 } }) ::
(nat_lit 113, { cls := .type "tuple", data := .seq #[] }) ::
(nat_lit 115, { cls := .type "tuple", data := .seq #[.str (.ofString "total") 321] }) ::
(nat_lit 116, { cls := .type "tuple", data := .seq #[] }) ::
(nat_lit 118, { cls := .type "code", data := .fields #[.str (.ofString "fold") 318, .str (.ofString "fold") 319, .str (.ofString "/claim/cut.py") 320, .int 31 0, .int 1 0, .int 0 0, .int 0 0, .int 3 0, .ref 113, .bool true, .int 181 0, .ref 114, .none, .ref 115, .ref 116, .ref 117, .int 322 0, .int 31 0, .str (.ofString "/claim/cut.py") 323] }) ::
(nat_lit 119, { cls := .type "function", data := .func { name := .ofString "fold", qualname := .ofString "fold", params := fP 14 0, body := .stmts (fB 14 0), scope := fS 14 0, globals := 3, closure := [], defaults := .none, kwdefaults := .none, pyModule := .str (.ofString "thinstack.sums") 314, code := .ref 118 } }) ::
(nat_lit 120, { cls := .type "tuple", data := .seq #[.int 0 325] }) ::
(nat_lit 121, { cls := .type "tuple", data := .seq #[] }) ::
(nat_lit 123, { cls := .type "tuple", data := .seq #[.str (.ofString "octets") 329, .str (.ofString "begin") 330, .str (.ofString "total") 331, .str (.ofString "even") 332, .str (.ofString "at") 333] }) ::
(nat_lit 124, { cls := .type "tuple", data := .seq #[] }) ::
(nat_lit 126, { cls := .type "code", data := .fields #[.str (.ofString "ones_sum") 326, .str (.ofString "ones_sum") 327, .str (.ofString "/claim/cut.py") 328, .int 35 0, .int 2 0, .int 0 0, .int 0 0, .int 3 0, .ref 121, .bool true, .int 181 0, .ref 122, .none, .ref 123, .ref 124, .ref 125, .int 334 0, .int 35 0, .str (.ofString "/claim/cut.py") 335] }) ::
(nat_lit 127, { cls := .type "function", data := .func { name := .ofString "ones_sum", qualname := .ofString "ones_sum", params := fP 15 0, body := .stmts (fB 15 0), scope := fS 15 0, globals := 3, closure := [], defaults := .ref 120, kwdefaults := .none, pyModule := .str (.ofString "thinstack.sums") 314, code := .ref 126 } }) ::
(nat_lit 128, { cls := .type "tuple", data := .seq #[.int 0 337] }) ::
(nat_lit 129, { cls := .type "tuple", data := .seq #[] }) ::
(nat_lit 131, { cls := .type "tuple", data := .seq #[.str (.ofString "octets") 341, .str (.ofString "begin") 342] }) ::
(nat_lit 132, { cls := .type "tuple", data := .seq #[] }) ::
(nat_lit 134, { cls := .type "code", data := .fields #[.str (.ofString "checksum") 338, .str (.ofString "checksum") 339, .str (.ofString "/claim/cut.py") 340, .int 43 0, .int 2 0, .int 0 0, .int 0 0, .int 3 0, .ref 129, .bool true, .int 181 0, .ref 130, .none, .ref 131, .ref 132, .ref 133, .int 343 0, .int 43 0, .str (.ofString "/claim/cut.py") 344] }) ::
(nat_lit 135, { cls := .type "function", data := .func { name := .ofString "checksum", qualname := .ofString "checksum", params := fP 16 0, body := .stmts (fB 16 0), scope := fS 16 0, globals := 3, closure := [], defaults := .ref 128, kwdefaults := .none, pyModule := .str (.ofString "thinstack.sums") 314, code := .ref 134 } }) ::
(nat_lit 143, { cls := .type "tuple", data := .seq #[.int 0 376, .int 64 377, .int 0 378, .bool false, .bool false, .int 0 379, .bytes #[] 380] }) ::
(nat_lit 144, { cls := .type "tuple", data := .seq #[] }) ::
(nat_lit 146, { cls := .type "tuple", data := .seq #[.str (.ofString "self") 384, .str (.ofString "source") 385, .str (.ofString "target") 386, .str (.ofString "protocol") 387, .str (.ofString "ident") 388, .str (.ofString "ttl") 389, .str (.ofString "tos") 390, .str (.ofString "dont") 391, .str (.ofString "more") 392, .str (.ofString "offset") 393, .str (.ofString "options") 394] }) ::
(nat_lit 147, { cls := .type "tuple", data := .seq #[] }) ::
(nat_lit 149, { cls := .type "code", data := .fields #[.str (.ofString "__init__") 381, .str (.ofString "IpHeader.__init__") 382, .str (.ofString "/claim/cut.py") 383, .int 56 0, .int 11 0, .int 0 0, .int 0 0, .int 3 0, .ref 144, .bool true, .int 181 0, .ref 145, .none, .ref 146, .ref 147, .ref 148, .int 395 0, .int 56 0, .str (.ofString "/claim/cut.py") 396] }) ::
(nat_lit 150, { cls := .type "function", data := .func { name := .ofString "__init__", qualname := .ofString "IpHeader.__init__", params := fP 26 1, body := .stmts (fB 26 1), scope := fS 26 1, globals := 3, closure := [], defaults := .ref 143, kwdefaults := .none, pyModule := .str (.ofString "thinstack.ip_header") 346, code := .ref 149 } }) ::
(nat_lit 151, { cls := .type "tuple", data := .seq #[] }) ::
(nat_lit 153, { cls := .type "tuple", data := .seq #[.str (.ofString "self") 401] }) ::
(nat_lit 154, { cls := .type "tuple", data := .seq #[] }) ::
(nat_lit 156, { cls := .type "code", data := .fields #[.str (.ofString "size") 398, .str (.ofString "IpHeader.size") 399, .str (.ofString "/claim/cut.py") 400, .int 68 0, .int 1 0, .int 0 0, .int 0 0, .int 3 0, .ref 151, .bool true, .int 181 0, .ref 152, .none, .ref 153, .ref 154, .ref 155, .int 402 0, .int 68 0, .str (.ofString "/claim/cut.py") 403] }) ::
(nat_lit 157, { cls := .type "function", data := .func { name := .ofString "size", qualname := .ofString "IpHeader.size", params := fP 26 2, body := .stmts (fB 26 2), scope := fS 26 2, globals := 3, closure := [], defaults := .none, kwdefaults := .none, pyModule := .str (.ofString "thinstack.ip_header") 346, code := .ref 156 } }) ::
(nat_lit 158, { cls := .type "tuple", data := .seq #[] }) ::
(nat_lit 160, { cls := .type "tuple", data := .seq #[.str (.ofString "self") 408] }) ::
(nat_lit 161, { cls := .type "tuple", data := .seq #[] }) ::
(nat_lit 163, { cls := .type "code", data := .fields #[.str (.ofString "is_fragment") 405, .str (.ofString "IpHeader.is_fragment") 406, .str (.ofString "/claim/cut.py") 407, .int 71 0, .int 1 0, .int 0 0, .int 0 0, .int 3 0, .ref 158, .bool true, .int 181 0, .ref 159, .none, .ref 160, .ref 161, .ref 162, .int 409 0, .int 71 0, .str (.ofString "/claim/cut.py") 410] }) ::
(nat_lit 164, { cls := .type "function", data := .func { name := .ofString "is_fragment", qualname := .ofString "IpHeader.is_fragment", params := fP 26 3, body := .stmts (fB 26 3), scope := fS 26 3, globals := 3, closure := [], defaults := .none, kwdefaults := .none, pyModule := .str (.ofString "thinstack.ip_header") 346, code := .ref 163 } }) ::
(nat_lit 165, { cls := .type "tuple", data := .seq #[] }) ::
(nat_lit 167, { cls := .type "tuple", data := .seq #[.str (.ofString "self") 415] }) ::
(nat_lit 168, { cls := .type "tuple", data := .seq #[] }) ::
(nat_lit 170, { cls := .type "code", data := .fields #[.str (.ofString "is_first") 412, .str (.ofString "IpHeader.is_first") 413, .str (.ofString "/claim/cut.py") 414, .int 74 0, .int 1 0, .int 0 0, .int 0 0, .int 3 0, .ref 165, .bool true, .int 181 0, .ref 166, .none, .ref 167, .ref 168, .ref 169, .int 416 0, .int 74 0, .str (.ofString "/claim/cut.py") 417] }) ::
(nat_lit 171, { cls := .type "function", data := .func { name := .ofString "is_first", qualname := .ofString "IpHeader.is_first", params := fP 26 4, body := .stmts (fB 26 4), scope := fS 26 4, globals := 3, closure := [], defaults := .none, kwdefaults := .none, pyModule := .str (.ofString "thinstack.ip_header") 346, code := .ref 170 } }) ::
(nat_lit 172, { cls := .type "tuple", data := .seq #[] }) ::
(nat_lit 174, { cls := .type "tuple", data := .seq #[.str (.ofString "self") 422, .str (.ofString "more") 423, .str (.ofString "offset") 424, .str (.ofString "options") 425] }) ::
(nat_lit 175, { cls := .type "tuple", data := .seq #[] }) ::
(nat_lit 177, { cls := .type "code", data := .fields #[.str (.ofString "part") 419, .str (.ofString "IpHeader.part") 420, .str (.ofString "/claim/cut.py") 421, .int 77 0, .int 4 0, .int 0 0, .int 0 0, .int 3 0, .ref 172, .bool true, .int 181 0, .ref 173, .none, .ref 174, .ref 175, .ref 176, .int 426 0, .int 77 0, .str (.ofString "/claim/cut.py") 427] }) ::
(nat_lit 178, { cls := .type "function", data := .func { name := .ofString "part", qualname := .ofString "IpHeader.part", params := fP 26 5, body := .stmts (fB 26 5), scope := fS 26 5, globals := 3, closure := [], defaults := .none, kwdefaults := .none, pyModule := .str (.ofString "thinstack.ip_header") 346, code := .ref 177 } }) ::
(nat_lit 179, { cls := .type "tuple", data := .seq #[] }) ::
(nat_lit 181, { cls := .type "tuple", data := .seq #[.str (.ofString "self") 432] }) ::
(nat_lit 182, { cls := .type "tuple", data := .seq #[] }) ::
(nat_lit 184, { cls := .type "code", data := .fields #[.str (.ofString "row") 429, .str (.ofString "IpHeader.row") 430, .str (.ofString "/claim/cut.py") 431, .int 80 0, .int 1 0, .int 0 0, .int 0 0, .int 3 0, .ref 179, .bool true, .int 181 0, .ref 180, .none, .ref 181, .ref 182, .ref 183, .int 433 0, .int 80 0, .str (.ofString "/claim/cut.py") 434] }) ::
(nat_lit 185, { cls := .type "function", data := .func { name := .ofString "row", qualname := .ofString "IpHeader.row", params := fP 26 6, body := .stmts (fB 26 6), scope := fS 26 6, globals := 3, closure := [], defaults := .none, kwdefaults := .none, pyModule := .str (.ofString "thinstack.ip_header") 346, code := .ref 184 } }) ::
(nat_lit 186, { cls := .type "tuple", data := .seq #[.str (.ofString "dont") 436, .str (.ofString "ident") 437, .str (.ofString "more") 438, .str (.ofString "offset") 439, .str (.ofString "options") 440, .str (.ofString "protocol") 441, .str (.ofString "source") 442, .str (.ofString "target") 443, .str (.ofString "tos") 444, .str (.ofString "ttl") 445] }) ::
(nat_lit 187, { cls := .type "dict", data := .dict #[⟨PyData.keyHash P (.ofString "__module__"), .str (.ofString "__module__") 371, .str (.ofString "thinstack.ip_header") 346⟩, ⟨PyData.keyHash P (.ofString "__firstlineno__"), .str (.ofString "__firstlineno__") 375, .int 54 374⟩, ⟨PyData.keyHash P (.ofString "__init__"), .str (.ofString "__init__") 397, .ref 150⟩, ⟨PyData.keyHash P (.ofString "size"), .str (.ofString "size") 404, .ref 157⟩, ⟨PyData.keyHash P (.ofString "is_fragment"), .str (.ofString "is_fragment") 411, .ref 164⟩, ⟨PyData.keyHash P (.ofString "is_first"), .str (.ofString "is_first") 418, .ref 171⟩, ⟨PyData.keyHash P (.ofString "part"), .str (.ofString "part") 428, .ref 178⟩, ⟨PyData.keyHash P (.ofString "row"), .str (.ofString "row") 435, .ref 185⟩, ⟨PyData.keyHash P (.ofString "__static_attributes__"), .str (.ofString "__static_attributes__") 446, .ref 186⟩, ⟨PyData.keyHash P (.ofString "__dict__"), .str (.ofString "__dict__") 448, .ref 189⟩, ⟨PyData.keyHash P (.ofString "__weakref__"), .str (.ofString "__weakref__") 450, .ref 190⟩, ⟨PyData.keyHash P (.ofString "__doc__"), .str (.ofString "__doc__") 451, .none⟩] 4 }) ::
(nat_lit 188, { cls := .type "type", data := .cls { name := .ofString "IpHeader", bases := [.type "object"], mro := [.ref 188, .type "object"], ns := 187, qualname := .ofString "IpHeader" }, slots := #[none, none, some (.str (.ofString "IpHeader") 364), some (.str (.ofString "IpHeader") 372), some (.builtin "object.__new__"), some (.bool true)] }) ::
(nat_lit 189, { cls := .type "getset_descriptor", data := .fields #[.str (.ofString "__dict__") 447, .ref 188, .builtin "function.__dict__", .builtin "function.__dict__#set"] }) ::
(nat_lit 190, { cls := .type "getset_descriptor", data := .fields #[.str (.ofString "__weakref__") 449, .ref 188, .builtin "ExceptionGroup.__weakref__", .none] }) ::
(nat_lit 193, { cls := .type "tuple", data := .seq #[] }) ::
(nat_lit 195, { cls := .type "tuple", data := .seq #[.str (.ofString "number") 457, .str (.ofString "bits") 458] }) ::
(nat_lit 196, { cls := .type "tuple", data := .seq #[] }) ::
(nat_lit 198, { cls := .type "code", data := .fields #[.str (.ofString "is_within") 454, .str (.ofString "is_within") 455, .str (.ofString "/claim/cut.py") 456, .int 82 0, .int 2 0, .int 0 0, .int 0 0, .int 3 0, .ref 193, .bool true, .int 181 0, .ref 194, .none, .ref 195, .ref 196, .ref 197, .int 459 0, .int 82 0, .str (.ofString "/claim/cut.py") 460] }) ::
(nat_lit 199, { cls := .type "function", data := .func { name := .ofString "is_within", qualname := .ofString "is_within", params := fP 27 0, body := .stmts (fB 27 0), scope := fS 27 0, globals := 3, closure := [], defaults := .none, kwdefaults := .none, pyModule := .str (.ofString "thinstack.ip_header") 346, code := .ref 198 } }) ::
(nat_lit 200, { cls := .type "tuple", data := .seq #[] }) ::
(nat_lit 202, { cls := .type "tuple", data := .seq #[.str (.ofString "header") 465, .str (.ofString "number") 466] }) ::
(nat_lit 203, { cls := .type "tuple", data := .seq #[] }) ::
(nat_lit 205, { cls := .type "code", data := .fields #[.str (.ofString "check_fields") 462, .str (.ofString "check_fields") 463, .str (.ofString "/claim/cut.py") 464, .int 84 0, .int 1 0, .int 0 0, .int 0 0, .int 3 0, .ref 200, .bool true, .int 181 0, .ref 201, .none, .ref 202, .ref 203, .ref 204, .int 467 0, .int 84 0, .str (.ofString "/claim/cut.py") 468] }) ::
(nat_lit 206, { cls := .type "function", data := .func { name := .ofString "check_fields", qualname := .ofString "check_fields", params := fP 28 0, body := .stmts (fB 28 0), scope := fS 28 0, globals := 3, closure := [], defaults := .none, kwdefaults := .none, pyModule := .str (.ofString "thinstack.ip_header") 346, code := .ref 205 } }) ::
(nat_lit 207, { cls := .type "tuple", data := .seq #[] }) ::
(nat_lit 209, { cls := .type "tuple", data := .seq #[.str (.ofString "header") 473, .str (.ofString "payload") 474] }) ::
(nat_lit 210, { cls := .type "tuple", data := .seq #[] }) ::
(nat_lit 212, { cls := .type "code", data := .fields #[.str (.ofString "check_size") 470, .str (.ofString "check_size") 471, .str (.ofString "/claim/cut.py") 472, .int 95 0, .int 2 0, .int 0 0, .int 0 0, .int 3 0, .ref 207, .bool true, .int 181 0, .ref 208, .none, .ref 209, .ref 210, .ref 211, .int 475 0, .int 95 0, .str (.ofString "/claim/cut.py") 476] }) ::
(nat_lit 213, { cls := .type "function", data := .func { name := .ofString "check_size", qualname := .ofString "check_size", params := fP 29 0, body := .stmts (fB 29 0), scope := fS 29 0, globals := 3, closure := [], defaults := .none, kwdefaults := .none, pyModule := .str (.ofString "thinstack.ip_header") 346, code := .ref 212 } }) ::
(nat_lit 214, { cls := .type "tuple", data := .seq #[] }) ::
(nat_lit 216, { cls := .type "tuple", data := .seq #[.str (.ofString "header") 481, .str (.ofString "found") 482] }) ::
(nat_lit 217, { cls := .type "tuple", data := .seq #[] }) ::
(nat_lit 219, { cls := .type "code", data := .fields #[.str (.ofString "flags_of") 478, .str (.ofString "flags_of") 479, .str (.ofString "/claim/cut.py") 480, .int 100 0, .int 1 0, .int 0 0, .int 0 0, .int 3 0, .ref 214, .bool true, .int 181 0, .ref 215, .none, .ref 216, .ref 217, .ref 218, .int 483 0, .int 100 0, .str (.ofString "/claim/cut.py") 484] }) ::
(nat_lit 220, { cls := .type "function", data := .func { name := .ofString "flags_of", qualname := .ofString "flags_of", params := fP 30 0, body := .stmts (fB 30 0), scope := fS 30 0, globals := 3, closure := [], defaults := .none, kwdefaults := .none, pyModule := .str (.ofString "thinstack.ip_header") 346, code := .ref 219 } }) ::
(nat_lit 221, { cls := .type "tuple", data := .seq #[] }) ::
(nat_lit 223, { cls := .type "tuple", data := .seq #[.str (.ofString "header") 489, .str (.ofString "payload") 490, .str (.ofString "first") 491, .str (.ofString "second") 492, .str (.ofString "third") 493, .str (.ofString "behind") 494, .str (.ofString "check") 495] }) ::
(nat_lit 224, { cls := .type "tuple", data := .seq #[] }) ::
(nat_lit 226, { cls := .type "code", data := .fields #[.str (.ofString "pack_ip") 486, .str (.ofString "pack_ip") 487, .str (.ofString "/claim/cut.py") 488, .int 107 0, .int 2 0, .int 0 0, .int 0 0, .int 3 0, .ref 221, .bool true, .int 181 0, .ref 222, .none, .ref 223, .ref 224, .ref 225, .int 496 0, .int 107 0, .str (.ofString "/claim/cut.py") 497] }) ::
(nat_lit 227, { cls := .type "function", data := .func { name := .ofString "pack_ip", qualname := .ofString "pack_ip", params := fP 31 0, body := .stmts (fB 31 0), scope := fS 31 0, globals := 3, closure := [], defaults := .none, kwdefaults := .none, pyModule := .str (.ofString "thinstack.ip_header") 346, code := .ref 226 } }) ::
(nat_lit 228, { cls := .type "tuple", data := .seq #[] }) ::
(nat_lit 230, { cls := .type "tuple", data := .seq #[.str (.ofString "octets") 502, .str (.ofString "size") 503] }) ::
(nat_lit 231, { cls := .type "tuple", data := .seq #[] }) ::
(nat_lit 233, { cls := .type "code", data := .fields #[.str (.ofString "head_size") 499, .str (.ofString "head_size") 500, .str (.ofString "/claim/cut.py") 501, .int 116 0, .int 1 0, .int 0 0, .int 0 0, .int 3 0, .ref 228, .bool true, .int 181 0, .ref 229, .none, .ref 230, .ref 231, .ref 232, .int 504 0, .int 116 0, .str (.ofString "/claim/cut.py") 505] }) ::
(nat_lit 234, { cls := .type "function", data := .func { name := .ofString "head_size", qualname := .ofString "head_size", params := fP 32 0, body := .stmts (fB 32 0), scope := fS 32 0, globals := 3, closure := [], defaults := .none, kwdefaults := .none, pyModule := .str (.ofString "thinstack.ip_header") 346, code := .ref 233 } }) ::
(nat_lit 235, { cls := .type "tuple", data := .seq #[] }) ::
(nat_lit 237, { cls := .type "tuple", data := .seq #[.str (.ofString "octets") 510, .str (.ofString "size") 511, .str (.ofString "total") 512, .str (.ofString "flags") 513, .str (.ofString "options") 514, .str (.ofString "header") 515] }) ::
(nat_lit 238, { cls := .type "tuple", data := .seq #[] }) ::
(nat_lit 240, { cls := .type "code", data := .fields #[.str (.ofString "unpack_ip") 507, .str (.ofString "unpack_ip") 508, .str (.ofString "/claim/cut.py") 509, .int 125 0, .int 1 0, .int 0 0, .int 0 0, .int 3 0, .ref 235, .bool true, .int 181 0, .ref 236, .none, .ref 237, .ref 238, .ref 239, .int 516 0, .int 125 0, .str (.ofString "/claim/cut.py") 517] }) ::
(nat_lit 241, { cls := .type "function", data := .func { name := .ofString "unpack_ip", qualname := .ofString "unpack_ip", params := fP 33 0, body := .stmts (fB 33 0), scope := fS 33 0, globals := 3, closure := [], defaults := .none, kwdefaults := .none, pyModule := .str (.ofString "thinstack.ip_header") 346, code := .ref 240 } }) ::
(nat_lit 242, { cls := .type "tuple", data := .seq #[] }) ::
(nat_lit 244, { cls := .type "tuple", data := .seq #[.str (.ofString "kind") 532] }) ::
(nat_lit 245, { cls := .type "tuple", data := .seq #[] }) ::
(nat_lit 247, { cls := .type "code", data := .fields #[.str (.ofString "is_single") 529, .str (.ofString "is_single") 530, .str (.ofString "/claim/cut.py") 531, .int 141 0, .int 1 0, .int 0 0, .int 0 0, .int 3 0, .ref 242, .bool true, .int 181 0, .ref 243, .none, .ref 244, .ref 245, .ref 246, .int 533 0, .int 141 0, .str (.ofString "/claim/cut.py") 534] }) ::
(nat_lit 248, { cls := .type "function", data := .func { name := .ofString "is_single", qualname := .ofString "is_single", params := fP 39 0, body := .stmts (fB 39 0), scope := fS 39 0, globals := 3, closure := [], defaults := .none, kwdefaults := .none, pyModule := .str (.ofString "thinstack.ip_options") 519, code := .ref 247 } }) ::
(nat_lit 249, { cls := .type "tuple", data := .seq #[] }) ::
(nat_lit 251, { cls := .type "tuple", data := .seq #[.str (.ofString "octets") 539, .str (.ofString "found") 540, .str (.ofString "at") 541, .str (.ofString "kind") 542, .str (.ofString "size") 543] }) ::
(nat_lit 252, { cls := .type "tuple", data := .seq #[] }) ::
(nat_lit 254, { cls := .type "code", data := .fields #[.str (.ofString "read_options") 536, .str (.ofString "read_options") 537, .str (.ofString "/claim/cut.py") 538, .int 143 0, .int 1 0, .int 0 0, .int 0 0, .int 3 0, .ref 249, .bool true, .int 181 0, .ref 250, .none, .ref 251, .ref 252, .ref 253, .int 544 0, .int 143 0, .str (.ofString "/claim/cut.py") 545] }) ::
(nat_lit 255, { cls := .type "function", data := .func { name := .ofString "read_options", qualname := .ofString "read_options", params := fP 40 0, body := .stmts (fB 40 0), scope := fS 40 0, globals := 3, closure := [], defaults := .none, kwdefaults := .none, pyModule := .str (.ofString "thinstack.ip_options") 519, code := .ref 254 } }) ::
(nat_lit 256, { cls := .type "tuple", data := .seq #[] }) ::
(nat_lit 258, { cls := .type "tuple", data := .seq #[.str (.ofString "octets") 550, .str (.ofString "at") 551, .str (.ofString "size") 552] }) ::
(nat_lit 259, { cls := .type "tuple", data := .seq #[] }) ::
(nat_lit 261, { cls := .type "code", data := .fields #[.str (.ofString "size_at") 547, .str (.ofString "size_at") 548, .str (.ofString "/claim/cut.py") 549, .int 156 0, .int 2 0, .int 0 0, .int 0 0, .int 3 0, .ref 256, .bool true, .int 181 0, .ref 257, .none, .ref 258, .ref 259, .ref 260, .int 553 0, .int 156 0, .str (.ofString "/claim/cut.py") 554] }) ::
(nat_lit 262, { cls := .type "function", data := .func { name := .ofString "size_at", qualname := .ofString "size_at", params := fP 41 0, body := .stmts (fB 41 0), scope := fS 41 0, globals := 3, closure := [], defaults := .none, kwdefaults := .none, pyModule := .str (.ofString "thinstack.ip_options") 519, code := .ref 261 } }) ::
(nat_lit 263, { cls := .type "tuple", data := .seq #[] }) ::
(nat_lit 265, { cls := .type "tuple", data := .seq #[.str (.ofString "options") 559, .str (.ofString "found") 560, .str (.ofString "kind") 561, .str (.ofString "octets") 562] }) ::
(nat_lit 266, { cls := .type "tuple", data := .seq #[] }) ::
(nat_lit 268, { cls := .type "code", data := .fields #[.str (.ofString "write_options") 556, .str (.ofString "write_options") 557, .str (.ofString "/claim/cut.py") 558, .int 163 0, .int 1 0, .int 0 0, .int 0 0, .int 3 0, .ref 263, .bool true, .int 181 0, .ref 264, .none, .ref 265, .ref 266, .ref 267, .int 563 0, .int 163 0, .str (.ofString "/claim/cut.py") 564] }) ::
(nat_lit 269, { cls := .type "function", data := .func { name := .ofString "write_options", qualname := .ofString "write_options", params := fP 42 0, body := .stmts (fB 42 0), scope := fS 42 0, globals := 3, closure := [], defaults := .none, kwdefaults := .none, pyModule := .str (.ofString "thinstack.ip_options") 519, code := .ref 268 } }) ::
(nat_lit 270, { cls := .type "tuple", data := .seq #[] }) ::
(nat_lit 272, { cls := .type "tuple", data := .seq #[.str (.ofString "kind") 569, .str (.ofString "octets") 570] }) ::
(nat_lit 273, { cls := .type "tuple", data := .seq #[] }) ::
(nat_lit 275, { cls := .type "code", data := .fields #[.str (.ofString "option_octets") 566, .str (.ofString "option_octets") 567, .str (.ofString "/claim/cut.py") 568, .int 171 0, .int 2 0, .int 0 0, .int 0 0, .int 3 0, .ref 270, .bool true, .int 181 0, .ref 271, .none, .ref 272, .ref 273, .ref 274, .int 571 0, .int 171 0, .str (.ofString "/claim/cut.py") 572] }) ::
(nat_lit 276, { cls := .type "function", data := .func { name := .ofString "option_octets", qualname := .ofString "option_octets", params := fP 43 0, body := .stmts (fB 43 0), scope := fS 43 0, globals := 3, closure := [], defaults := .none, kwdefaults := .none, pyModule := .str (.ofString "thinstack.ip_options") 519, code := .ref 275 } }) ::
(nat_lit 277, { cls := .type "tuple", data := .seq #[] }) ::
(nat_lit 279, { cls := .type "tuple", data := .seq #[.str (.ofString "kind") 577] }) ::
(nat_lit 280, { cls := .type "tuple", data := .seq #[] }) ::
(nat_lit 282, { cls := .type "code", data := .fields #[.str (.ofString "is_copied") 574, .str (.ofString "is_copied") 575, .str (.ofString "/claim/cut.py") 576, .int 181 0, .int 1 0, .int 0 0, .int 0 0, .int 3 0, .ref 277, .bool true, .int 181 0, .ref 278, .none, .ref 279, .ref 280, .ref 281, .int 578 0, .int 181 0, .str (.ofString "/claim/cut.py") 579] }) ::
(nat_lit 283, { cls := .type "function", data := .func { name := .ofString "is_copied", qualname := .ofString "is_copied", params := fP 44 0, body := .stmts (fB 44 0), scope := fS 44 0, globals := 3, closure := [], defaults := .none, kwdefaults := .none, pyModule := .str (.ofString "thinstack.ip_options") 519, code := .ref 282 } }) ::
(nat_lit 284, { cls := .type "tuple", data := .seq #[] }) ::
(nat_lit 287, { cls := .type "code", data := .fields #[.str (.ofString "copied") 581, .str (.ofString "copied") 582, .str (.ofString "/claim/cut.py") 583, .int 183 0, .int 1 0, .int 0 0, .int 0 0, .int 3 0, .ref 284, .bool true, .int 181 0, .ref 285, .none, .none, .none, .ref 286, .int 584 0, .int 183 0, .str (.ofString "/claim/cut.py") 585] }) ::
(nat_lit 288, { cls := .type "function", data := .func { name := .ofString "copied", qualname := .ofString "copied", params := fP 45 0, body := .stmts (fB 45 0), scope := fS 45 0, globals := 3, closure := [], defaults := .none, kwdefaults := .none, pyModule := .str (.ofString "thinstack.ip_options") 519, code := .ref 287 } }) ::
(nat_lit 289, { cls := .type "tuple", data := .seq #[] }) ::
(nat_lit 291, { cls := .type "tuple", data := .seq #[.str (.ofString "options") 594] }) ::
(nat_lit 292, { cls := .type "tuple", data := .seq #[] }) ::
(nat_lit 294, { cls := .type "code", data := .fields #[.str (.ofString "later_options") 591, .str (.ofString "later_options") 592, .str (.ofString "/claim/cut.py") 593, .int 187 0, .int 1 0, .int 0 0, .int 0 0, .int 3 0, .ref 289, .bool true, .int 181 0, .ref 290, .none, .ref 291, .ref 292, .ref 293, .int 595 0, .int 187 0, .str (.ofString "/claim/cut.py") 596] }) ::
(nat_lit 295, { cls := .type "function", data := .func { name := .ofString "later_options", qualname := .ofString "later_options", params := fP 48 0, body := .stmts (fB 48 0), scope := fS 48 0, globals := 3, closure := [], defaults := .none, kwdefaults := .none, pyModule := .str (.ofString "thinstack.fragments") 587, code := .ref 294 } }) ::
(nat_lit 296, { cls := .type "tuple", data := .seq #[] }) ::
(nat_lit 298, { cls := .type "tuple", data := .seq #[.str (.ofString "header") 601, .str (.ofString "offset") 602, .str (.ofString "more") 603, .str (.ofString "options") 604] }) ::
(nat_lit 299, { cls := .type "tuple", data := .seq #[] }) ::
(nat_lit 301, { cls := .type "code", data := .fields #[.str (.ofString "part_header") 598, .str (.ofString "part_header") 599, .str (.ofString "/claim/cut.py") 600, .int 192 0, .int 4 0, .int 0 0, .int 0 0, .int 3 0, .ref 296, .bool true, .int 181 0, .ref 297, .none, .ref 298, .ref 299, .ref 300, .int 605 0, .int 192 0, .str (.ofString "/claim/cut.py") 606] }) ::
(nat_lit 302, { cls := .type "function", data := .func { name := .ofString "part_header", qualname := .ofString "part_header", params := fP 49 0, body := .stmts (fB 49 0), scope := fS 49 0, globals := 3, closure := [], defaults := .none, kwdefaults := .none, pyModule := .str (.ofString "thinstack.fragments") 587, code := .ref 301 } }) ::
(nat_lit 303, { cls := .type "tuple", data := .seq #[] }) ::
(nat_lit 305, { cls := .type "tuple", data := .seq #[.str (.ofString "mtu") 611, .str (.ofString "header_size") 612, .str (.ofString "room") 613] }) ::
(nat_lit 306, { cls := .type "tuple", data := .seq #[] }) ::
(nat_lit 308, { cls := .type "code", data := .fields #[.str (.ofString "room_of") 608, .str (.ofString "room_of") 609, .str (.ofString "/claim/cut.py") 610, .int 194 0, .int 2 0, .int 0 0, .int 0 0, .int 3 0, .ref 303, .bool true, .int 181 0, .ref 304, .none, .ref 305, .ref 306, .ref 307, .int 614 0, .int 194 0, .str (.ofString "/claim/cut.py") 615] }) ::
(nat_lit 309, { cls := .type "function", data := .func { name := .ofString "room_of", qualname := .ofString "room_of", params := fP 50 0, body := .stmts (fB 50 0), scope := fS 50 0, globals := 3, closure := [], defaults := .none, kwdefaults := .none, pyModule := .str (.ofString "thinstack.fragments") 587, code := .ref 308 } }) ::
(nat_lit 310, { cls := .type "tuple", data := .seq #[] }) ::
(nat_lit 312, { cls := .type "tuple", data := .seq #[.str (.ofString "header") 620, .str (.ofString "payload") 621, .str (.ofString "mtu") 622, .str (.ofString "found") 623, .str (.ofString "at") 624, .str (.ofString "options") 625, .str (.ofString "later") 626, .str (.ofString "head") 627, .str (.ofString "left") 628, .str (.ofString "room") 629] }) ::
(nat_lit 313, { cls := .type "tuple", data := .seq #[] }) ::
(nat_lit 315, { cls := .type "code", data := .fields #[.str (.ofString "cut") 617, .str (.ofString "cut") 618, .str (.ofString "/claim/cut.py") 619, .int 199 0, .int 3 0, .int 0 0, .int 0 0, .int 3 0, .ref 310, .bool true, .int 181 0, .ref 311, .none, .ref 312, .ref 313, .ref 314, .int 630 0, .int 199 0, .str (.ofString "/claim/cut.py") 631] }) ::
(nat_lit 316, { cls := .type "function", data := .func { name := .ofString "cut", qualname := .ofString "cut", params := fP 51 0, body := .stmts (fB 51 0), scope := fS 51 0, globals := 3, closure := [], defaults := .none, kwdefaults := .none, pyModule := .str (.ofString "thinstack.fragments") 587, code := .ref 315 } }) ::
(nat_lit 317, { cls := .type "tuple", data := .seq #[] }) ::
(nat_lit 319, { cls := .type "tuple", data := .seq #[.str (.ofString "prefix") 646] }) ::
(nat_lit 320, { cls := .type "tuple", data := .seq #[] }) ::
(nat_lit 322, { cls := .type "code", data := .fields #[.str (.ofString "mask_of") 643, .str (.ofString "mask_of") 644, .str (.ofString "/claim/cut.py") 645, .int 221 0, .int 1 0, .int 0 0, .int 0 0, .int 3 0, .ref 317, .bool true, .int 181 0, .ref 318, .none, .ref 319, .ref 320, .ref 321, .int 647 0, .int 221 0, .str (.ofString "/claim/cut.py") 648] }) ::
(nat_lit 323, { cls := .type "function", data := .func { name := .ofString "mask_of", qualname := .ofString "mask_of", params := fP 55 0, body := .stmts (fB 55 0), scope := fS 55 0, globals := 3, closure := [], defaults := .none, kwdefaults := .none, pyModule := .str (.ofString "thinstack.routes") 633, code := .ref 322 } }) ::
(nat_lit 324, { cls := .type "tuple", data := .seq #[] }) ::
(nat_lit 326, { cls := .type "tuple", data := .seq #[.str (.ofString "address") 653, .str (.ofString "prefix") 654] }) ::
(nat_lit 327, { cls := .type "tuple", data := .seq #[] }) ::
(nat_lit 329, { cls := .type "code", data := .fields #[.str (.ofString "net_of") 650, .str (.ofString "net_of") 651, .str (.ofString "/claim/cut.py") 652, .int 225 0, .int 2 0, .int 0 0, .int 0 0, .int 3 0, .ref 324, .bool true, .int 181 0, .ref 325, .none, .ref 326, .ref 327, .ref 328, .int 655 0, .int 225 0, .str (.ofString "/claim/cut.py") 656] }) ::
(nat_lit 330, { cls := .type "function", data := .func { name := .ofString "net_of", qualname := .ofString "net_of", params := fP 56 0, body := .stmts (fB 56 0), scope := fS 56 0, globals := 3, closure := [], defaults := .none, kwdefaults := .none, pyModule := .str (.ofString "thinstack.routes") 633, code := .ref 329 } }) ::
(nat_lit 331, { cls := .type "tuple", data := .seq #[] }) ::
(nat_lit 333, { cls := .type "tuple", data := .seq #[.str (.ofString "address") 661] }) ::
(nat_lit 334, { cls := .type "tuple", data := .seq #[] }) ::
(nat_lit 336, { cls := .type "code", data := .fields #[.str (.ofString "is_group") 658, .str (.ofString "is_group") 659, .str (.ofString "/claim/cut.py") 660, .int 227 0, .int 1 0, .int 0 0, .int 0 0, .int 3 0, .ref 331, .bool true, .int 181 0, .ref 332, .none, .ref 333, .ref 334, .ref 335, .int 662 0, .int 227 0, .str (.ofString "/claim/cut.py") 663] }) ::
(nat_lit 337, { cls := .type "function", data := .func { name := .ofString "is_group", qualname := .ofString "is_group", params := fP 57 0, body := .stmts (fB 57 0), scope := fS 57 0, globals := 3, closure := [], defaults := .none, kwdefaults := .none, pyModule := .str (.ofString "thinstack.routes") 633, code := .ref 336 } }) ::
(nat_lit 338, { cls := .type "tuple", data := .seq #[] }) ::
(nat_lit 340, { cls := .type "tuple", data := .seq #[.str (.ofString "address") 668] }) ::
(nat_lit 341, { cls := .type "tuple", data := .seq #[] }) ::
(nat_lit 343, { cls := .type "code", data := .fields #[.str (.ofString "is_loop") 665, .str (.ofString "is_loop") 666, .str (.ofString "/claim/cut.py") 667, .int 229 0, .int 1 0, .int 0 0, .int 0 0, .int 3 0, .ref 338, .bool true, .int 181 0, .ref 339, .none, .ref 340, .ref 341, .ref 342, .int 669 0, .int 229 0, .str (.ofString "/claim/cut.py") 670] }) ::
(nat_lit 344, { cls := .type "function", data := .func { name := .ofString "is_loop", qualname := .ofString "is_loop", params := fP 58 0, body := .stmts (fB 58 0), scope := fS 58 0, globals := 3, closure := [], defaults := .none, kwdefaults := .none, pyModule := .str (.ofString "thinstack.routes") 633, code := .ref 343 } }) ::
(nat_lit 352, { cls := .type "tuple", data := .seq #[.int 0 684] }) ::
(nat_lit 353, { cls := .type "tuple", data := .seq #[] }) ::
(nat_lit 355, { cls := .type "tuple", data := .seq #[.str (.ofString "self") 688, .str (.ofString "net") 689, .str (.ofString "prefix") 690, .str (.ofString "gateway") 691, .str (.ofString "face") 692, .str (.ofString "metric") 693] }) ::
(nat_lit 356, { cls := .type "tuple", data := .seq #[] }) ::
(nat_lit 358, { cls := .type "code", data := .fields #[.str (.ofString "__init__") 685, .str (.ofString "Route.__init__") 686, .str (.ofString "/claim/cut.py") 687, .int 233 0, .int 6 0, .int 0 0, .int 0 0, .int 3 0, .ref 353, .bool true, .int 181 0, .ref 354, .none, .ref 355, .ref 356, .ref 357, .int 694 0, .int 233 0, .str (.ofString "/claim/cut.py") 695] }) ::
(nat_lit 359, { cls := .type "function", data := .func { name := .ofString "__init__", qualname := .ofString "Route.__init__", params := fP 59 1, body := .stmts (fB 59 1), scope := fS 59 1, globals := 3, closure := [], defaults := .ref 352, kwdefaults := .none, pyModule := .str (.ofString "thinstack.routes") 633, code := .ref 358 } }) ::
(nat_lit 360, { cls := .type "tuple", data := .seq #[] }) ::
(nat_lit 362, { cls := .type "tuple", data := .seq #[.str (.ofString "self") 700, .str (.ofString "target") 701] }) ::
(nat_lit 363, { cls := .type "tuple", data := .seq #[] }) ::
(nat_lit 365, { cls := .type "code", data := .fields #[.str (.ofString "next_address") 697, .str (.ofString "Route.next_address") 698, .str (.ofString "/claim/cut.py") 699, .int 240 0, .int 2 0, .int 0 0, .int 0 0, .int 3 0, .ref 360, .bool true, .int 181 0, .ref 361, .none, .ref 362, .ref 363, .ref 364, .int 702 0, .int 240 0, .str (.ofString "/claim/cut.py") 703] }) ::
(nat_lit 366, { cls := .type "function", data := .func { name := .ofString "next_address", qualname := .ofString "Route.next_address", params := fP 59 2, body := .stmts (fB 59 2), scope := fS 59 2, globals := 3, closure := [], defaults := .none, kwdefaults := .none, pyModule := .str (.ofString "thinstack.routes") 633, code := .ref 365 } }) ::
(nat_lit 367, { cls := .type "tuple", data := .seq #[] }) ::
(nat_lit 369, { cls := .type "tuple", data := .seq #[.str (.ofString "self") 708] }) ::
(nat_lit 370, { cls := .type "tuple", data := .seq #[] }) ::
(nat_lit 372, { cls := .type "code", data := .fields #[.str (.ofString "row") 705, .str (.ofString "Route.row") 706, .str (.ofString "/claim/cut.py") 707, .int 243 0, .int 1 0, .int 0 0, .int 0 0, .int 3 0, .ref 367, .bool true, .int 181 0, .ref 368, .none, .ref 369, .ref 370, .ref 371, .int 709 0, .int 243 0, .str (.ofString "/claim/cut.py") 710] }) ::
(nat_lit 373, { cls := .type "function", data := .func { name := .ofString "row", qualname := .ofString "Route.row", params := fP 59 3, body := .stmts (fB 59 3), scope := fS 59 3, globals := 3, closure := [], defaults := .none, kwdefaults := .none, pyModule := .str (.ofString "thinstack.routes") 633, code := .ref 372 } }) ::
(nat_lit 374, { cls := .type "tuple", data := .seq #[.str (.ofString "face") 712, .str (.ofString "gateway") 713, .str (.ofString "metric") 714, .str (.ofString "net") 715, .str (.ofString "prefix") 716] }) ::
(nat_lit 375, { cls := .type "dict", data := .dict #[⟨PyData.keyHash P (.ofString "__module__"), .str (.ofString "__module__") 679, .str (.ofString "thinstack.routes") 633⟩, ⟨PyData.keyHash P (.ofString "__firstlineno__"), .str (.ofString "__firstlineno__") 683, .int 231 682⟩, ⟨PyData.keyHash P (.ofString "__init__"), .str (.ofString "__init__") 696, .ref 359⟩, ⟨PyData.keyHash P (.ofString "next_address"), .str (.ofString "next_address") 704, .ref 366⟩, ⟨PyData.keyHash P (.ofString "row"), .str (.ofString "row") 711, .ref 373⟩, ⟨PyData.keyHash P (.ofString "__static_attributes__"), .str (.ofString "__static_attributes__") 717, .ref 374⟩, ⟨PyData.keyHash P (.ofString "__dict__"), .str (.ofString "__dict__") 719, .ref 377⟩, ⟨PyData.keyHash P (.ofString "__weakref__"), .str (.ofString "__weakref__") 721, .ref 378⟩, ⟨PyData.keyHash P (.ofString "__doc__"), .str (.ofString "__doc__") 722, .none⟩] 4 }) ::
(nat_lit 376, { cls := .type "type", data := .cls { name := .ofString "Route", bases := [.type "object"], mro := [.ref 376, .type "object"], ns := 375, qualname := .ofString "Route" }, slots := #[none, none, some (.str (.ofString "Route") 672), some (.str (.ofString "Route") 680), some (.builtin "object.__new__"), some (.bool true)] }) ::
(nat_lit 377, { cls := .type "getset_descriptor", data := .fields #[.str (.ofString "__dict__") 718, .ref 376, .builtin "function.__dict__", .builtin "function.__dict__#set"] }) ::
(nat_lit 378, { cls := .type "getset_descriptor", data := .fields #[.str (.ofString "__weakref__") 720, .ref 376, .builtin "ExceptionGroup.__weakref__", .none] }) ::
(nat_lit 388, { cls := .type "tuple", data := .seq #[] }) ::
(nat_lit 390, { cls := .type "tuple", data := .seq #[.str (.ofString "self") 740] }) ::
(nat_lit 391, { cls := .type "tuple", data := .seq #[] }) ::
(nat_lit 393, { cls := .type "code", data := .fields #[.str (.ofString "__init__") 737, .str (.ofString "Branch.__init__") 738, .str (.ofString "/claim/cut.py") 739, .int 247 0, .int 1 0, .int 0 0, .int 0 0, .int 3 0, .ref 388, .bool true, .int 181 0, .ref 389, .none, .ref 390, .ref 391, .ref 392, .int 741 0, .int 247 0, .str (.ofString "/claim/cut.py") 742] }) ::
(nat_lit 394, { cls := .type "function", data := .func { name := .ofString "__init__", qualname := .ofString "Branch.__init__", params := fP 60 1, body := .stmts (fB 60 1), scope := fS 60 1, globals := 3, closure := [], defaults := .none, kwdefaults := .none, pyModule := .str (.ofString "thinstack.routes") 633, code := .ref 393 } }) ::
(nat_lit 395, { cls := .type "tuple", data := .seq #[] }) ::
(nat_lit 397, { cls := .type "tuple", data := .seq #[.str (.ofString "self") 747, .str (.ofString "bit") 748] }) ::
(nat_lit 398, { cls := .type "tuple", data := .seq #[] }) ::
(nat_lit 400, { cls := .type "code", data := .fields #[.str (.ofString "child") 744, .str (.ofString "Branch.child") 745, .str (.ofString "/claim/cut.py") 746, .int 252 0, .int 2 0, .int 0 0, .int 0 0, .int 3 0, .ref 395, .bool true, .int 181 0, .ref 396, .none, .ref 397, .ref 398, .ref 399, .int 749 0, .int 252 0, .str (.ofString "/claim/cut.py") 750] }) ::
(nat_lit 401, { cls := .type "function", data := .func { name := .ofString "child", qualname := .ofString "Branch.child", params := fP 60 2, body := .stmts (fB 60 2), scope := fS 60 2, globals := 3, closure := [], defaults := .none, kwdefaults := .none, pyModule := .str (.ofString "thinstack.routes") 633, code := .ref 400 } }) ::
(nat_lit 402, { cls := .type "tuple", data := .seq #[] }) ::
(nat_lit 404, { cls := .type "tuple", data := .seq #[.str (.ofString "self") 755, .str (.ofString "bit") 756, .str (.ofString "branch") 757] }) ::
(nat_lit 405, { cls := .type "tuple", data := .seq #[] }) ::
(nat_lit 407, { cls := .type "code", data := .fields #[.str (.ofString "set_child") 752, .str (.ofString "Branch.set_child") 753, .str (.ofString "/claim/cut.py") 754, .int 257 0, .int 3 0, .int 0 0, .int 0 0, .int 3 0, .ref 402, .bool true, .int 181 0, .ref 403, .none, .ref 404, .ref 405, .ref 406, .int 758 0, .int 257 0, .str (.ofString "/claim/cut.py") 759] }) ::
(nat_lit 408, { cls := .type "function", data := .func { name := .ofString "set_child", qualname := .ofString "Branch.set_child", params := fP 60 3, body := .stmts (fB 60 3), scope := fS 60 3, globals := 3, closure := [], defaults := .none, kwdefaults := .none, pyModule := .str (.ofString "thinstack.routes") 633, code := .ref 407 } }) ::
(nat_lit 409, { cls := .type "tuple", data := .seq #[] }) ::
(nat_lit 411, { cls := .type "tuple", data := .seq #[.str (.ofString "self") 764] }) ::
(nat_lit 412, { cls := .type "tuple", data := .seq #[] }) ::
(nat_lit 414, { cls := .type "code", data := .fields #[.str (.ofString "is_bare") 761, .str (.ofString "Branch.is_bare") 762, .str (.ofString "/claim/cut.py") 763, .int 263 0, .int 1 0, .int 0 0, .int 0 0, .int 3 0, .ref 409, .bool true, .int 181 0, .ref 410, .none, .ref 411, .ref 412, .ref 413, .int 765 0, .int 263 0, .str (.ofString "/claim/cut.py") 766] }) ::
(nat_lit 415, { cls := .type "function", data := .func { name := .ofString "is_bare", qualname := .ofString "Branch.is_bare", params := fP 60 4, body := .stmts (fB 60 4), scope := fS 60 4, globals := 3, closure := [], defaults := .none, kwdefaults := .none, pyModule := .str (.ofString "thinstack.routes") 633, code := .ref 414 } }) ::
(nat_lit 416, { cls := .type "tuple", data := .seq #[] }) ::
(nat_lit 418, { cls := .type "tuple", data := .seq #[.str (.ofString "self") 771, .str (.ofString "found") 772, .str (.ofString "route") 773] }) ::
(nat_lit 419, { cls := .type "tuple", data := .seq #[] }) ::
(nat_lit 421, { cls := .type "code", data := .fields #[.str (.ofString "best") 768, .str (.ofString "Branch.best") 769, .str (.ofString "/claim/cut.py") 770, .int 266 0, .int 1 0, .int 0 0, .int 0 0, .int 3 0, .ref 416, .bool true, .int 181 0, .ref 417, .none, .ref 418, .ref 419, .ref 420, .int 774 0, .int 266 0, .str (.ofString "/claim/cut.py") 775] }) ::
(nat_lit 422, { cls := .type "function", data := .func { name := .ofString "best", qualname := .ofString "Branch.best", params := fP 60 5, body := .stmts (fB 60 5), scope := fS 60 5, globals := 3, closure := [], defaults := .none, kwdefaults := .none, pyModule := .str (.ofString "thinstack.routes") 633, code := .ref 421 } }) ::
(nat_lit 423, { cls := .type "tuple", data := .seq #[.str (.ofString "one") 777, .str (.ofString "routes") 778, .str (.ofString "zero") 779] }) ::
(nat_lit 424, { cls := .type "dict", data := .dict #[⟨PyData.keyHash P (.ofString "__module__"), .str (.ofString "__module__") 732, .str (.ofString "thinstack.routes") 633⟩, ⟨PyData.keyHash P (.ofString "__firstlineno__"), .str (.ofString "__firstlineno__") 736, .int 245 735⟩, ⟨PyData.keyHash P (.ofString "__init__"), .str (.ofString "__init__") 743, .ref 394⟩, ⟨PyData.keyHash P (.ofString "child"), .str (.ofString "child") 751, .ref 401⟩, ⟨PyData.keyHash P (.ofString "set_child"), .str (.ofString "set_child") 760, .ref 408⟩, ⟨PyData.keyHash P (.ofString "is_bare"), .str (.ofString "is_bare") 767, .ref 415⟩, ⟨PyData.keyHash P (.ofString "best"), .str (.ofString "best") 776, .ref 422⟩, ⟨PyData.keyHash P (.ofString "__static_attributes__"), .str (.ofString "__static_attributes__") 780, .ref 423⟩, ⟨PyData.keyHash P (.ofString "__dict__"), .str (.ofString "__dict__") 782, .ref 426⟩, ⟨PyData.keyHash P (.ofString "__weakref__"), .str (.ofString "__weakref__") 784, .ref 427⟩, ⟨PyData.keyHash P (.ofString "__doc__"), .str (.ofString "__doc__") 785, .none⟩] 4 }) ::
(nat_lit 425, { cls := .type "type", data := .cls { name := .ofString "Branch", bases := [.type "object"], mro := [.ref 425, .type "object"], ns := 424, qualname := .ofString "Branch" }, slots := #[none, none, some (.str (.ofString "Branch") 725), some (.str (.ofString "Branch") 733), some (.builtin "object.__new__"), some (.bool true)] }) ::
(nat_lit 426, { cls := .type "getset_descriptor", data := .fields #[.str (.ofString "__dict__") 781, .ref 425, .builtin "function.__dict__", .builtin "function.__dict__#set"] }) ::
(nat_lit 427, { cls := .type "getset_descriptor", data := .fields #[.str (.ofString "__weakref__") 783, .ref 425, .builtin "ExceptionGroup.__weakref__", .none] }) ::
(nat_lit 430, { cls := .type "tuple", data := .seq #[] }) ::
(nat_lit 432, { cls := .type "tuple", data := .seq #[.str (.ofString "address") 791, .str (.ofString "place") 792] }) ::
(nat_lit 433, { cls := .type "tuple", data := .seq #[] }) ::
(nat_lit 435, { cls := .type "code", data := .fields #[.str (.ofString "bit_at") 788, .str (.ofString "bit_at") 789, .str (.ofString "/claim/cut.py") 790, .int 272 0, .int 2 0, .int 0 0, .int 0 0, .int 3 0, .ref 430, .bool true, .int 181 0, .ref 431, .none, .ref 432, .ref 433, .ref 434, .int 793 0, .int 272 0, .str (.ofString "/claim/cut.py") 794] }) ::
(nat_lit 436, { cls := .type "function", data := .func { name := .ofString "bit_at", qualname := .ofString "bit_at", params := fP 61 0, body := .stmts (fB 61 0), scope := fS 61 0, globals := 3, closure := [], defaults := .none, kwdefaults := .none, pyModule := .str (.ofString "thinstack.routes") 633, code := .ref 435 } }) ::
(nat_lit 444, { cls := .type "tuple", data := .seq #[] }) ::
(nat_lit 446, { cls := .type "tuple", data := .seq #[.str (.ofString "self") 811] }) ::
(nat_lit 447, { cls := .type "tuple", data := .seq #[] }) ::
(nat_lit 449, { cls := .type "code", data := .fields #[.str (.ofString "__init__") 808, .str (.ofString "Routes.__init__") 809, .str (.ofString "/claim/cut.py") 810, .int 276 0, .int 1 0, .int 0 0, .int 0 0, .int 3 0, .ref 444, .bool true, .int 181 0, .ref 445, .none, .ref 446, .ref 447, .ref 448, .int 812 0, .int 276 0, .str (.ofString "/claim/cut.py") 813] }) ::
(nat_lit 450, { cls := .type "function", data := .func { name := .ofString "__init__", qualname := .ofString "Routes.__init__", params := fP 62 1, body := .stmts (fB 62 1), scope := fS 62 1, globals := 3, closure := [], defaults := .none, kwdefaults := .none, pyModule := .str (.ofString "thinstack.routes") 633, code := .ref 449 } }) ::
(nat_lit 451, { cls := .type "tuple", data := .seq #[] }) ::
(nat_lit 453, { cls := .type "tuple", data := .seq #[.str (.ofString "self") 818] }) ::
(nat_lit 454, { cls := .type "tuple", data := .seq #[] }) ::
(nat_lit 456, { cls := .type "code", data := .fields #[.str (.ofString "size") 815, .str (.ofString "Routes.size") 816, .str (.ofString "/claim/cut.py") 817, .int 280 0, .int 1 0, .int 0 0, .int 0 0, .int 3 0, .ref 451, .bool true, .int 181 0, .ref 452, .none, .ref 453, .ref 454, .ref 455, .int 819 0, .int 280 0, .str (.ofString "/claim/cut.py") 820] }) ::
(nat_lit 457, { cls := .type "function", data := .func { name := .ofString "size", qualname := .ofString "Routes.size", params := fP 62 2, body := .stmts (fB 62 2), scope := fS 62 2, globals := 3, closure := [], defaults := .none, kwdefaults := .none, pyModule := .str (.ofString "thinstack.routes") 633, code := .ref 456 } }) ::
(nat_lit 458, { cls := .type "tuple", data := .seq #[] }) ::
(nat_lit 460, { cls := .type "tuple", data := .seq #[.str (.ofString "self") 825, .str (.ofString "net") 826, .str (.ofString "prefix") 827, .str (.ofString "makes") 828, .str (.ofString "found") 829, .str (.ofString "place") 830, .str (.ofString "bit") 831, .str (.ofString "later") 832] }) ::
(nat_lit 461, { cls := .type "tuple", data := .seq #[] }) ::
(nat_lit 463, { cls := .type "code", data := .fields #[.str (.ofString "path") 822, .str (.ofString "Routes.path") 823, .str (.ofString "/claim/cut.py") 824, .int 283 0, .int 4 0, .int 0 0, .int 0 0, .int 3 0, .ref 458, .bool true, .int 181 0, .ref 459, .none, .ref 460, .ref 461, .ref 462, .int 833 0, .int 283 0, .str (.ofString "/claim/cut.py") 834] }) ::
(nat_lit 464, { cls := .type "function", data := .func { name := .ofString "path", qualname := .ofString "Routes.path", params := fP 62 3, body := .stmts (fB 62 3), scope := fS 62 3, globals := 3, closure := [], defaults := .none, kwdefaults := .none, pyModule := .str (.ofString "thinstack.routes") 633, code := .ref 463 } }) ::
(nat_lit 465, { cls := .type "tuple", data := .seq #[] }) ::
(nat_lit 467, { cls := .type "tuple", data := .seq #[.str (.ofString "self") 839, .str (.ofString "route") 840, .str (.ofString "net") 841, .str (.ofString "branch") 842, .str (.ofString "at") 843, .str (.ofString "other") 844] }) ::
(nat_lit 468, { cls := .type "tuple", data := .seq #[] }) ::
(nat_lit 470, { cls := .type "code", data := .fields #[.str (.ofString "add") 836, .str (.ofString "Routes.add") 837, .str (.ofString "/claim/cut.py") 838, .int 296 0, .int 2 0, .int 0 0, .int 0 0, .int 3 0, .ref 465, .bool true, .int 181 0, .ref 466, .none, .ref 467, .ref 468, .ref 469, .int 845 0, .int 296 0, .str (.ofString "/claim/cut.py") 846] }) ::
(nat_lit 471, { cls := .type "function", data := .func { name := .ofString "add", qualname := .ofString "Routes.add", params := fP 62 4, body := .stmts (fB 62 4), scope := fS 62 4, globals := 3, closure := [], defaults := .none, kwdefaults := .none, pyModule := .str (.ofString "thinstack.routes") 633, code := .ref 470 } }) ::
(nat_lit 472, { cls := .type "tuple", data := .seq #[] }) ::
(nat_lit 474, { cls := .type "tuple", data := .seq #[.str (.ofString "self") 851, .str (.ofString "net") 852, .str (.ofString "prefix") 853] }) ::
(nat_lit 475, { cls := .type "tuple", data := .seq #[] }) ::
(nat_lit 477, { cls := .type "code", data := .fields #[.str (.ofString "remove") 848, .str (.ofString "Routes.remove") 849, .str (.ofString "/claim/cut.py") 850, .int 311 0, .int 3 0, .int 0 0, .int 0 0, .int 3 0, .ref 472, .bool true, .int 181 0, .ref 473, .none, .ref 474, .ref 475, .ref 476, .int 854 0, .int 311 0, .str (.ofString "/claim/cut.py") 855] }) ::
(nat_lit 478, { cls := .type "function", data := .func { name := .ofString "remove", qualname := .ofString "Routes.remove", params := fP 62 5, body := .stmts (fB 62 5), scope := fS 62 5, globals := 3, closure := [], defaults := .none, kwdefaults := .none, pyModule := .str (.ofString "thinstack.routes") 633, code := .ref 477 } }) ::
(nat_lit 479, { cls := .type "tuple", data := .seq #[] }) ::
(nat_lit 481, { cls := .type "tuple", data := .seq #[.str (.ofString "self") 860, .str (.ofString "face") 861] }) ::
(nat_lit 482, { cls := .type "tuple", data := .seq #[] }) ::
(nat_lit 484, { cls := .type "code", data := .fields #[.str (.ofString "remove_face") 857, .str (.ofString "Routes.remove_face") 858, .str (.ofString "/claim/cut.py") 859, .int 314 0, .int 2 0, .int 0 0, .int 0 0, .int 3 0, .ref 479, .bool true, .int 181 0, .ref 480, .none, .ref 481, .ref 482, .ref 483, .int 862 0, .int 314 0, .str (.ofString "/claim/cut.py") 863] }) ::
(nat_lit 485, { cls := .type "function", data := .func { name := .ofString "remove_face", qualname := .ofString "Routes.remove_face", params := fP 62 6, body := .stmts (fB 62 6), scope := fS 62 6, globals := 3, closure := [], defaults := .none, kwdefaults := .none, pyModule := .str (.ofString "thinstack.routes") 633, code := .ref 484 } }) ::
(nat_lit 486, { cls := .type "tuple", data := .seq #[] }) ::
(nat_lit 488, { cls := .type "tuple", data := .seq #[.str (.ofString "self") 868, .str (.ofString "net") 869, .str (.ofString "path") 870] }) ::
(nat_lit 489, { cls := .type "tuple", data := .seq #[] }) ::
(nat_lit 491, { cls := .type "code", data := .fields #[.str (.ofString "prune") 865, .str (.ofString "Routes.prune") 866, .str (.ofString "/claim/cut.py") 867, .int 317 0, .int 3 0, .int 0 0, .int 0 0, .int 3 0, .ref 486, .bool true, .int 181 0, .ref 487, .none, .ref 488, .ref 489, .ref 490, .int 871 0, .int 317 0, .str (.ofString "/claim/cut.py") 872] }) ::
(nat_lit 492, { cls := .type "function", data := .func { name := .ofString "prune", qualname := .ofString "Routes.prune", params := fP 62 7, body := .stmts (fB 62 7), scope := fS 62 7, globals := 3, closure := [], defaults := .none, kwdefaults := .none, pyModule := .str (.ofString "thinstack.routes") 633, code := .ref 491 } }) ::
(nat_lit 493, { cls := .type "tuple", data := .seq #[] }) ::
(nat_lit 495, { cls := .type "tuple", data := .seq #[.str (.ofString "self") 877, .str (.ofString "address") 878, .str (.ofString "branch") 879, .str (.ofString "found") 880, .str (.ofString "place") 881] }) ::
(nat_lit 496, { cls := .type "tuple", data := .seq #[] }) ::
(nat_lit 498, { cls := .type "code", data := .fields #[.str (.ofString "find") 874, .str (.ofString "Routes.find") 875, .str (.ofString "/claim/cut.py") 876, .int 320 0, .int 2 0, .int 0 0, .int 0 0, .int 3 0, .ref 493, .bool true, .int 181 0, .ref 494, .none, .ref 495, .ref 496, .ref 497, .int 882 0, .int 320 0, .str (.ofString "/claim/cut.py") 883] }) ::
(nat_lit 499, { cls := .type "function", data := .func { name := .ofString "find", qualname := .ofString "Routes.find", params := fP 62 8, body := .stmts (fB 62 8), scope := fS 62 8, globals := 3, closure := [], defaults := .none, kwdefaults := .none, pyModule := .str (.ofString "thinstack.routes") 633, code := .ref 498 } }) ::
(nat_lit 500, { cls := .type "tuple", data := .seq #[] }) ::
(nat_lit 502, { cls := .type "tuple", data := .seq #[.str (.ofString "self") 888, .str (.ofString "found") 889, .str (.ofString "left") 890, .str (.ofString "branch") 891] }) ::
(nat_lit 503, { cls := .type "tuple", data := .seq #[] }) ::
(nat_lit 505, { cls := .type "code", data := .fields #[.str (.ofString "rows") 885, .str (.ofString "Routes.rows") 886, .str (.ofString "/claim/cut.py") 887, .int 331 0, .int 1 0, .int 0 0, .int 0 0, .int 3 0, .ref 500, .bool true, .int 181 0, .ref 501, .none, .ref 502, .ref 503, .ref 504, .int 892 0, .int 331 0, .str (.ofString "/claim/cut.py") 893] }) ::
(nat_lit 506, { cls := .type "function", data := .func { name := .ofString "rows", qualname := .ofString "Routes.rows", params := fP 62 9, body := .stmts (fB 62 9), scope := fS 62 9, globals := 3, closure := [], defaults := .none, kwdefaults := .none, pyModule := .str (.ofString "thinstack.routes") 633, code := .ref 505 } }) ::
(nat_lit 507, { cls := .type "tuple", data := .seq #[.str (.ofString "many") 895, .str (.ofString "root") 896] }) ::
(nat_lit 508, { cls := .type "dict", data := .dict #[⟨PyData.keyHash P (.ofString "__module__"), .str (.ofString "__module__") 803, .str (.ofString "thinstack.routes") 633⟩, ⟨PyData.keyHash P (.ofString "__firstlineno__"), .str (.ofString "__firstlineno__") 807, .int 274 806⟩, ⟨PyData.keyHash P (.ofString "__init__"), .str (.ofString "__init__") 814, .ref 450⟩, ⟨PyData.keyHash P (.ofString "size"), .str (.ofString "size") 821, .ref 457⟩, ⟨PyData.keyHash P (.ofString "path"), .str (.ofString "path") 835, .ref 464⟩, ⟨PyData.keyHash P (.ofString "add"), .str (.ofString "add") 847, .ref 471⟩, ⟨PyData.keyHash P (.ofString "remove"), .str (.ofString "remove") 856, .ref 478⟩, ⟨PyData.keyHash P (.ofString "remove_face"), .str (.ofString "remove_face") 864, .ref 485⟩, ⟨PyData.keyHash P (.ofString "prune"), .str (.ofString "prune") 873, .ref 492⟩, ⟨PyData.keyHash P (.ofString "find"), .str (.ofString "find") 884, .ref 499⟩, ⟨PyData.keyHash P (.ofString "rows"), .str (.ofString "rows") 894, .ref 506⟩, ⟨PyData.keyHash P (.ofString "__static_attributes__"), .str (.ofString "__static_attributes__") 897, .ref 507⟩, ⟨PyData.keyHash P (.ofString "__dict__"), .str (.ofString "__dict__") 899, .ref 510⟩, ⟨PyData.keyHash P (.ofString "__weakref__"), .str (.ofString "__weakref__") 901, .ref 511⟩, ⟨PyData.keyHash P (.ofString "__doc__"), .str (.ofString "__doc__") 902, .none⟩] 4 }) ::
(nat_lit 509, { cls := .type "type", data := .cls { name := .ofString "Routes", bases := [.type "object"], mro := [.ref 509, .type "object"], ns := 508, qualname := .ofString "Routes" }, slots := #[none, none, some (.str (.ofString "Routes") 796), some (.str (.ofString "Routes") 804), some (.builtin "object.__new__"), some (.bool true)] }) ::
(nat_lit 510, { cls := .type "getset_descriptor", data := .fields #[.str (.ofString "__dict__") 898, .ref 509, .builtin "function.__dict__", .builtin "function.__dict__#set"] }) ::
(nat_lit 511, { cls := .type "getset_descriptor", data := .fields #[.str (.ofString "__weakref__") 900, .ref 509, .builtin "ExceptionGroup.__weakref__", .none] }) ::
(nat_lit 521, { cls := .type "tuple", data := .seq #[] }) ::
(nat_lit 523, { cls := .type "tuple", data := .seq #[.str (.ofString "self") 942, .str (.ofString "address") 943, .str (.ofString "prefix") 944, .str (.ofString "mtu") 945] }) ::
(nat_lit 524, { cls := .type "tuple", data := .seq #[] }) ::
(nat_lit 526, { cls := .type "code", data := .fields #[.str (.ofString "__init__") 939, .str (.ofString "FaceRow.__init__") 940, .str (.ofString "/claim/cut.py") 941, .int 352 0, .int 4 0, .int 0 0, .int 0 0, .int 3 0, .ref 521, .bool true, .int 181 0, .ref 522, .none, .ref 523, .ref 524, .ref 525, .int 946 0, .int 352 0, .str (.ofString "/claim/cut.py") 947] }) ::
(nat_lit 527, { cls := .type "function", data := .func { name := .ofString "__init__", qualname := .ofString "FaceRow.__init__", params := fP 71 1, body := .stmts (fB 71 1), scope := fS 71 1, globals := 3, closure := [], defaults := .none, kwdefaults := .none, pyModule := .str (.ofString "thinstack.ip_layer") 905, code := .ref 526 } }) ::
(nat_lit 528, { cls := .type "tuple", data := .seq #[.str (.ofString "address") 949, .str (.ofString "mtu") 950, .str (.ofString "prefix") 951] }) ::
(nat_lit 529, { cls := .type "dict", data := .dict #[⟨PyData.keyHash P (.ofString "__module__"), .str (.ofString "__module__") 934, .str (.ofString "thinstack.ip_layer") 905⟩, ⟨PyData.keyHash P (.ofString "__firstlineno__"), .str (.ofString "__firstlineno__") 938, .int 350 937⟩, ⟨PyData.keyHash P (.ofString "__init__"), .str (.ofString "__init__") 948, .ref 527⟩, ⟨PyData.keyHash P (.ofString "__static_attributes__"), .str (.ofString "__static_attributes__") 952, .ref 528⟩, ⟨PyData.keyHash P (.ofString "__dict__"), .str (.ofString "__dict__") 954, .ref 531⟩, ⟨PyData.keyHash P (.ofString "__weakref__"), .str (.ofString "__weakref__") 956, .ref 532⟩, ⟨PyData.keyHash P (.ofString "__doc__"), .str (.ofString "__doc__") 957, .none⟩] 4 }) ::
(nat_lit 530, { cls := .type "type", data := .cls { name := .ofString "FaceRow", bases := [.type "object"], mro := [.ref 530, .type "object"], ns := 529, qualname := .ofString "FaceRow" }, slots := #[none, none, some (.str (.ofString "FaceRow") 927), some (.str (.ofString "FaceRow") 935), some (.builtin "object.__new__"), some (.bool true)] }) ::
(nat_lit 531, { cls := .type "getset_descriptor", data := .fields #[.str (.ofString "__dict__") 953, .ref 530, .builtin "function.__dict__", .builtin "function.__dict__#set"] }) ::
(nat_lit 532, { cls := .type "getset_descriptor", data := .fields #[.str (.ofString "__weakref__") 955, .ref 530, .builtin "ExceptionGroup.__weakref__", .none] }) ::
(nat_lit 535, { cls := .type "tuple", data := .seq #[] }) ::
(nat_lit 537, { cls := .type "tuple", data := .seq #[.str (.ofString "header") 963, .str (.ofString "source") 964, .str (.ofString "ttl") 965] }) ::
(nat_lit 538, { cls := .type "tuple", data := .seq #[] }) ::
(nat_lit 540, { cls := .type "code", data := .fields #[.str (.ofString "header_like") 960, .str (.ofString "header_like") 961, .str (.ofString "/claim/cut.py") 962, .int 356 0, .int 3 0, .int 0 0, .int 0 0, .int 3 0, .ref 535, .bool true, .int 181 0, .ref 536, .none, .ref 537, .ref 538, .ref 539, .int 966 0, .int 356 0, .str (.ofString "/claim/cut.py") 967] }) ::
(nat_lit 541, { cls := .type "function", data := .func { name := .ofString "header_like", qualname := .ofString "header_like", params := fP 72 0, body := .stmts (fB 72 0), scope := fS 72 0, globals := 3, closure := [], defaults := .none, kwdefaults := .none, pyModule := .str (.ofString "thinstack.ip_layer") 905, code := .ref 540 } }) ::
(nat_lit 549, { cls := .type "tuple", data := .seq #[.bool false] }) ::
(nat_lit 550, { cls := .type "tuple", data := .seq #[] }) ::
(nat_lit 552, { cls := .type "tuple", data := .seq #[.str (.ofString "self") 984, .str (.ofString "faces") 985, .str (.ofString "routes") 986, .str (.ofString "reassembly") 987, .str (.ofString "forwards") 988] }) ::
(nat_lit 553, { cls := .type "tuple", data := .seq #[] }) ::
(nat_lit 555, { cls := .type "code", data := .fields #[.str (.ofString "__init__") 981, .str (.ofString "IpLayer.__init__") 982, .str (.ofString "/claim/cut.py") 983, .int 360 0, .int 5 0, .int 0 0, .int 0 0, .int 3 0, .ref 550, .bool true, .int 181 0, .ref 551, .none, .ref 552, .ref 553, .ref 554, .int 989 0, .int 360 0, .str (.ofString "/claim/cut.py") 990] }) ::
(nat_lit 556, { cls := .type "function", data := .func { name := .ofString "__init__", qualname := .ofString "IpLayer.__init__", params := fP 73 1, body := .stmts (fB 73 1), scope := fS 73 1, globals := 3, closure := [], defaults := .ref 549, kwdefaults := .none, pyModule := .str (.ofString "thinstack.ip_layer") 905, code := .ref 555 } }) ::
(nat_lit 557, { cls := .type "tuple", data := .seq #[] }) ::
(nat_lit 559, { cls := .type "tuple", data := .seq #[.str (.ofString "self") 995] }) ::
(nat_lit 560, { cls := .type "tuple", data := .seq #[] }) ::
(nat_lit 562, { cls := .type "code", data := .fields #[.str (.ofString "next_ident") 992, .str (.ofString "IpLayer.next_ident") 993, .str (.ofString "/claim/cut.py") 994, .int 367 0, .int 1 0, .int 0 0, .int 0 0, .int 3 0, .ref 557, .bool true, .int 181 0, .ref 558, .none, .ref 559, .ref 560, .ref 561, .int 996 0, .int 367 0, .str (.ofString "/claim/cut.py") 997] }) ::
(nat_lit 563, { cls := .type "function", data := .func { name := .ofString "next_ident", qualname := .ofString "IpLayer.next_ident", params := fP 73 2, body := .stmts (fB 73 2), scope := fS 73 2, globals := 3, closure := [], defaults := .none, kwdefaults := .none, pyModule := .str (.ofString "thinstack.ip_layer") 905, code := .ref 562 } }) ::
(nat_lit 564, { cls := .type "tuple", data := .seq #[] }) ::
(nat_lit 566, { cls := .type "tuple", data := .seq #[.str (.ofString "self") 1002, .str (.ofString "address") 1003] }) ::
(nat_lit 567, { cls := .type "tuple", data := .seq #[] }) ::
(nat_lit 569, { cls := .type "code", data := .fields #[.str (.ofString "is_own") 999, .str (.ofString "IpLayer.is_own") 1000, .str (.ofString "/claim/cut.py") 1001, .int 370 0, .int 2 0, .int 0 0, .int 0 0, .int 3 0, .ref 564, .bool true, .int 181 0, .ref 565, .none, .ref 566, .ref 567, .ref 568, .int 1004 0, .int 370 0, .str (.ofString "/claim/cut.py") 1005] }) ::
(nat_lit 570, { cls := .type "function", data := .func { name := .ofString "is_own", qualname := .ofString "IpLayer.is_own", params := fP 73 3, body := .stmts (fB 73 3), scope := fS 73 3, globals := 3, closure := [], defaults := .none, kwdefaults := .none, pyModule := .str (.ofString "thinstack.ip_layer") 905, code := .ref 569 } }) ::
(nat_lit 571, { cls := .type "tuple", data := .seq #[] }) ::
(nat_lit 573, { cls := .type "tuple", data := .seq #[.str (.ofString "self") 1010, .str (.ofString "address") 1011, .str (.ofString "face") 1012] }) ::
(nat_lit 574, { cls := .type "tuple", data := .seq #[] }) ::
(nat_lit 576, { cls := .type "code", data := .fields #[.str (.ofString "is_told_to_all") 1007, .str (.ofString "IpLayer.is_told_to_all") 1008, .str (.ofString "/claim/cut.py") 1009, .int 373 0, .int 3 0, .int 0 0, .int 0 0, .int 3 0, .ref 571, .bool true, .int 181 0, .ref 572, .none, .ref 573, .ref 574, .ref 575, .int 1013 0, .int 373 0, .str (.ofString "/claim/cut.py") 1014] }) ::
(nat_lit 577, { cls := .type "function", data := .func { name := .ofString "is_told_to_all", qualname := .ofString "IpLayer.is_told_to_all", params := fP 73 4, body := .stmts (fB 73 4), scope := fS 73 4, globals := 3, closure := [], defaults := .none, kwdefaults := .none, pyModule := .str (.ofString "thinstack.ip_layer") 905, code := .ref 576 } }) ::
(nat_lit 578, { cls := .type "tuple", data := .seq #[] }) ::
(nat_lit 580, { cls := .type "tuple", data := .seq #[.str (.ofString "self") 1019, .str (.ofString "address") 1020] }) ::
(nat_lit 581, { cls := .type "tuple", data := .seq #[] }) ::
(nat_lit 583, { cls := .type "code", data := .fields #[.str (.ofString "is_for_all") 1016, .str (.ofString "IpLayer.is_for_all") 1017, .str (.ofString "/claim/cut.py") 1018, .int 376 0, .int 2 0, .int 0 0, .int 0 0, .int 3 0, .ref 578, .bool true, .int 181 0, .ref 579, .none, .ref 580, .ref 581, .ref 582, .int 1021 0, .int 376 0, .str (.ofString "/claim/cut.py") 1022] }) ::
(nat_lit 584, { cls := .type "function", data := .func { name := .ofString "is_for_all", qualname := .ofString "IpLayer.is_for_all", params := fP 73 5, body := .stmts (fB 73 5), scope := fS 73 5, globals := 3, closure := [], defaults := .none, kwdefaults := .none, pyModule := .str (.ofString "thinstack.ip_layer") 905, code := .ref 583 } }) ::
(nat_lit 585, { cls := .type "tuple", data := .seq #[] }) ::
(nat_lit 587, { cls := .type "tuple", data := .seq #[.str (.ofString "self") 1027, .str (.ofString "address") 1028] }) ::
(nat_lit 588, { cls := .type "tuple", data := .seq #[] }) ::
(nat_lit 590, { cls := .type "code", data := .fields #[.str (.ofString "may_send") 1024, .str (.ofString "IpLayer.may_send") 1025, .str (.ofString "/claim/cut.py") 1026, .int 379 0, .int 2 0, .int 0 0, .int 0 0, .int 3 0, .ref 585, .bool true, .int 181 0, .ref 586, .none, .ref 587, .ref 588, .ref 589, .int 1029 0, .int 379 0, .str (.ofString "/claim/cut.py") 1030] }) ::
(nat_lit 591, { cls := .type "function", data := .func { name := .ofString "may_send", qualname := .ofString "IpLayer.may_send", params := fP 73 6, body := .stmts (fB 73 6), scope := fS 73 6, globals := 3, closure := [], defaults := .none, kwdefaults := .none, pyModule := .str (.ofString "thinstack.ip_layer") 905, code := .ref 590 } }) ::
(nat_lit 592, { cls := .type "tuple", data := .seq #[] }) ::
(nat_lit 594, { cls := .type "tuple", data := .seq #[.str (.ofString "self") 1035, .str (.ofString "octets") 1036, .str (.ofString "face") 1037, .str (.ofString "now") 1038] }) ::
(nat_lit 595, { cls := .type "tuple", data := .seq #[] }) ::
(nat_lit 597, { cls := .type "code", data := .fields #[.str (.ofString "input") 1032, .str (.ofString "IpLayer.input") 1033, .str (.ofString "/claim/cut.py") 1034, .int 382 0, .int 4 0, .int 0 0, .int 0 0, .int 3 0, .ref 592, .bool true, .int 181 0, .ref 593, .none, .ref 594, .ref 595, .ref 596, .int 1039 0, .int 382 0, .str (.ofString "/claim/cut.py") 1040] }) ::
(nat_lit 598, { cls := .type "function", data := .func { name := .ofString "input", qualname := .ofString "IpLayer.input", params := fP 73 7, body := .stmts (fB 73 7), scope := fS 73 7, globals := 3, closure := [], defaults := .none, kwdefaults := .none, pyModule := .str (.ofString "thinstack.ip_layer") 905, code := .ref 597 } }) ::
(nat_lit 599, { cls := .type "tuple", data := .seq #[] }) ::
(nat_lit 601, { cls := .type "tuple", data := .seq #[.str (.ofString "self") 1045, .str (.ofString "header") 1046, .str (.ofString "payload") 1047, .str (.ofString "to_all") 1048, .str (.ofString "now") 1049] }) ::
(nat_lit 602, { cls := .type "tuple", data := .seq #[] }) ::
(nat_lit 604, { cls := .type "code", data := .fields #[.str (.ofString "deliver") 1042, .str (.ofString "IpLayer.deliver") 1043, .str (.ofString "/claim/cut.py") 1044, .int 385 0, .int 5 0, .int 0 0, .int 0 0, .int 3 0, .ref 599, .bool true, .int 181 0, .ref 600, .none, .ref 601, .ref 602, .ref 603, .int 1050 0, .int 385 0, .str (.ofString "/claim/cut.py") 1051] }) ::
(nat_lit 605, { cls := .type "function", data := .func { name := .ofString "deliver", qualname := .ofString "IpLayer.deliver", params := fP 73 8, body := .stmts (fB 73 8), scope := fS 73 8, globals := 3, closure := [], defaults := .none, kwdefaults := .none, pyModule := .str (.ofString "thinstack.ip_layer") 905, code := .ref 604 } }) ::
(nat_lit 606, { cls := .type "tuple", data := .seq #[] }) ::
(nat_lit 608, { cls := .type "tuple", data := .seq #[.str (.ofString "self") 1056, .str (.ofString "header") 1057, .str (.ofString "payload") 1058, .str (.ofString "route") 1059, .str (.ofString "later") 1060] }) ::
(nat_lit 609, { cls := .type "tuple", data := .seq #[] }) ::
(nat_lit 611, { cls := .type "code", data := .fields #[.str (.ofString "forward") 1053, .str (.ofString "IpLayer.forward") 1054, .str (.ofString "/claim/cut.py") 1055, .int 388 0, .int 3 0, .int 0 0, .int 0 0, .int 3 0, .ref 606, .bool true, .int 181 0, .ref 607, .none, .ref 608, .ref 609, .ref 610, .int 1061 0, .int 388 0, .str (.ofString "/claim/cut.py") 1062] }) ::
(nat_lit 612, { cls := .type "function", data := .func { name := .ofString "forward", qualname := .ofString "IpLayer.forward", params := fP 73 9, body := .stmts (fB 73 9), scope := fS 73 9, globals := 3, closure := [], defaults := .none, kwdefaults := .none, pyModule := .str (.ofString "thinstack.ip_layer") 905, code := .ref 611 } }) ::
(nat_lit 613, { cls := .type "tuple", data := .seq #[] }) ::
(nat_lit 615, { cls := .type "tuple", data := .seq #[.str (.ofString "self") 1067, .str (.ofString "header") 1068, .str (.ofString "payload") 1069, .str (.ofString "route") 1070, .str (.ofString "is_near") 1071, .str (.ofString "address") 1072, .str (.ofString "found") 1073, .str (.ofString "part") 1074, .str (.ofString "octets") 1075] }) ::
(nat_lit 616, { cls := .type "tuple", data := .seq #[] }) ::
(nat_lit 618, { cls := .type "code", data := .fields #[.str (.ofString "packets") 1064, .str (.ofString "IpLayer.packets") 1065, .str (.ofString "/claim/cut.py") 1066, .int 404 0, .int 4 0, .int 0 0, .int 0 0, .int 3 0, .ref 613, .bool true, .int 181 0, .ref 614, .none, .ref 615, .ref 616, .ref 617, .int 1076 0, .int 404 0, .str (.ofString "/claim/cut.py") 1077] }) ::
(nat_lit 619, { cls := .type "function", data := .func { name := .ofString "packets", qualname := .ofString "IpLayer.packets", params := fP 73 10, body := .stmts (fB 73 10), scope := fS 73 10, globals := 3, closure := [], defaults := .none, kwdefaults := .none, pyModule := .str (.ofString "thinstack.ip_layer") 905, code := .ref 618 } }) ::
(nat_lit 620, { cls := .type "tuple", data := .seq #[] }) ::
(nat_lit 622, { cls := .type "tuple", data := .seq #[.str (.ofString "self") 1082, .str (.ofString "target") 1083] }) ::
(nat_lit 623, { cls := .type "tuple", data := .seq #[] }) ::
(nat_lit 625, { cls := .type "code", data := .fields #[.str (.ofString "route_to") 1079, .str (.ofString "IpLayer.route_to") 1080, .str (.ofString "/claim/cut.py") 1081, .int 412 0, .int 2 0, .int 0 0, .int 0 0, .int 3 0, .ref 620, .bool true, .int 181 0, .ref 621, .none, .ref 622, .ref 623, .ref 624, .int 1084 0, .int 412 0, .str (.ofString "/claim/cut.py") 1085] }) ::
(nat_lit 626, { cls := .type "function", data := .func { name := .ofString "route_to", qualname := .ofString "IpLayer.route_to", params := fP 73 11, body := .stmts (fB 73 11), scope := fS 73 11, globals := 3, closure := [], defaults := .none, kwdefaults := .none, pyModule := .str (.ofString "thinstack.ip_layer") 905, code := .ref 625 } }) ::
(nat_lit 627, { cls := .type "tuple", data := .seq #[] }) ::
(nat_lit 629, { cls := .type "tuple", data := .seq #[.str (.ofString "self") 1090, .str (.ofString "target") 1091] }) ::
(nat_lit 630, { cls := .type "tuple", data := .seq #[] }) ::
(nat_lit 632, { cls := .type "code", data := .fields #[.str (.ofString "source_for") 1087, .str (.ofString "IpLayer.source_for") 1088, .str (.ofString "/claim/cut.py") 1089, .int 415 0, .int 2 0, .int 0 0, .int 0 0, .int 3 0, .ref 627, .bool true, .int 181 0, .ref 628, .none, .ref 629, .ref 630, .ref 631, .int 1092 0, .int 415 0, .str (.ofString "/claim/cut.py") 1093] }) ::
(nat_lit 633, { cls := .type "function", data := .func { name := .ofString "source_for", qualname := .ofString "IpLayer.source_for", params := fP 73 12, body := .stmts (fB 73 12), scope := fS 73 12, globals := 3, closure := [], defaults := .none, kwdefaults := .none, pyModule := .str (.ofString "thinstack.ip_layer") 905, code := .ref 632 } }) ::
(nat_lit 634, { cls := .type "tuple", data := .seq #[] }) ::
(nat_lit 636, { cls := .type "tuple", data := .seq #[.str (.ofString "self") 1098, .str (.ofString "target") 1099] }) ::
(nat_lit 637, { cls := .type "tuple", data := .seq #[] }) ::
(nat_lit 639, { cls := .type "code", data := .fields #[.str (.ofString "want_one_host") 1095, .str (.ofString "IpLayer.want_one_host") 1096, .str (.ofString "/claim/cut.py") 1097, .int 418 0, .int 2 0, .int 0 0, .int 0 0, .int 3 0, .ref 634, .bool true, .int 181 0, .ref 635, .none, .ref 636, .ref 637, .ref 638, .int 1100 0, .int 418 0, .str (.ofString "/claim/cut.py") 1101] }) ::
(nat_lit 640, { cls := .type "function", data := .func { name := .ofString "want_one_host", qualname := .ofString "IpLayer.want_one_host", params := fP 73 13, body := .stmts (fB 73 13), scope := fS 73 13, globals := 3, closure := [], defaults := .none, kwdefaults := .none, pyModule := .str (.ofString "thinstack.ip_layer") 905, code := .ref 639 } }) ::
(nat_lit 641, { cls := .type "tuple", data := .seq #[.int 64 1103, .bool false] }) ::
(nat_lit 642, { cls := .type "tuple", data := .seq #[] }) ::
(nat_lit 644, { cls := .type "tuple", data := .seq #[.str (.ofString "self") 1107, .str (.ofString "protocol") 1108, .str (.ofString "source") 1109, .str (.ofString "target") 1110, .str (.ofString "payload") 1111, .str (.ofString "ttl") 1112, .str (.ofString "dont") 1113] }) ::
(nat_lit 645, { cls := .type "tuple", data := .seq #[] }) ::
(nat_lit 647, { cls := .type "code", data := .fields #[.str (.ofString "output") 1104, .str (.ofString "IpLayer.output") 1105, .str (.ofString "/claim/cut.py") 1106, .int 421 0, .int 7 0, .int 0 0, .int 0 0, .int 3 0, .ref 642, .bool true, .int 181 0, .ref 643, .none, .ref 644, .ref 645, .ref 646, .int 1114 0, .int 421 0, .str (.ofString "/claim/cut.py") 1115] }) ::
(nat_lit 648, { cls := .type "function", data := .func { name := .ofString "output", qualname := .ofString "IpLayer.output", params := fP 73 14, body := .stmts (fB 73 14), scope := fS 73 14, globals := 3, closure := [], defaults := .ref 641, kwdefaults := .none, pyModule := .str (.ofString "thinstack.ip_layer") 905, code := .ref 647 } }) ::
(nat_lit 649, { cls := .type "tuple", data := .seq #[] }) ::
(nat_lit 651, { cls := .type "tuple", data := .seq #[.str (.ofString "self") 1120, .str (.ofString "octets") 1121] }) ::
(nat_lit 652, { cls := .type "tuple", data := .seq #[] }) ::
(nat_lit 654, { cls := .type "code", data := .fields #[.str (.ofString "given_up") 1117, .str (.ofString "IpLayer.given_up") 1118, .str (.ofString "/claim/cut.py") 1119, .int 424 0, .int 2 0, .int 0 0, .int 0 0, .int 3 0, .ref 649, .bool true, .int 181 0, .ref 650, .none, .ref 651, .ref 652, .ref 653, .int 1122 0, .int 424 0, .str (.ofString "/claim/cut.py") 1123] }) ::
(nat_lit 655, { cls := .type "function", data := .func { name := .ofString "given_up", qualname := .ofString "IpLayer.given_up", params := fP 73 15, body := .stmts (fB 73 15), scope := fS 73 15, globals := 3, closure := [], defaults := .none, kwdefaults := .none, pyModule := .str (.ofString "thinstack.ip_layer") 905, code := .ref 654 } }) ::
(nat_lit 656, { cls := .type "tuple", data := .seq #[] }) ::
(nat_lit 658, { cls := .type "tuple", data := .seq #[.str (.ofString "self") 1128, .str (.ofString "now") 1129] }) ::
(nat_lit 659, { cls := .type "tuple", data := .seq #[] }) ::
(nat_lit 661, { cls := .type "code", data := .fields #[.str (.ofString "expire") 1125, .str (.ofString "IpLayer.expire") 1126, .str (.ofString "/claim/cut.py") 1127, .int 427 0, .int 2 0, .int 0 0, .int 0 0, .int 3 0, .ref 656, .bool true, .int 181 0, .ref 657, .none, .ref 658, .ref 659, .ref 660, .int 1130 0, .int 427 0, .str (.ofString "/claim/cut.py") 1131] }) ::
(nat_lit 662, { cls := .type "function", data := .func { name := .ofString "expire", qualname := .ofString "IpLayer.expire", params := fP 73 16, body := .stmts (fB 73 16), scope := fS 73 16, globals := 3, closure := [], defaults := .none, kwdefaults := .none, pyModule := .str (.ofString "thinstack.ip_layer") 905, code := .ref 661 } }) ::
(nat_lit 663, { cls := .type "tuple", data := .seq #[.str (.ofString "faces") 1133, .str (.ofString "forwards") 1134, .str (.ofString "last_ident") 1135, .str (.ofString "reassembly") 1136, .str (.ofString "routes") 1137] }) ::
(nat_lit 664, { cls := .type "dict", data := .dict #[⟨PyData.keyHash P (.ofString "__module__"), .str (.ofString "__module__") 976, .str (.ofString "thinstack.ip_layer") 905⟩, ⟨PyData.keyHash P (.ofString "__firstlineno__"), .str (.ofString "__firstlineno__") 980, .int 358 979⟩, ⟨PyData.keyHash P (.ofString "__init__"), .str (.ofString "__init__") 991, .ref 556⟩, ⟨PyData.keyHash P (.ofString "next_ident"), .str (.ofString "next_ident") 998, .ref 563⟩, ⟨PyData.keyHash P (.ofString "is_own"), .str (.ofString "is_own") 1006, .ref 570⟩, ⟨PyData.keyHash P (.ofString "is_told_to_all"), .str (.ofString "is_told_to_all") 1015, .ref 577⟩, ⟨PyData.keyHash P (.ofString "is_for_all"), .str (.ofString "is_for_all") 1023, .ref 584⟩, ⟨PyData.keyHash P (.ofString "may_send"), .str (.ofString "may_send") 1031, .ref 591⟩, ⟨PyData.keyHash P (.ofString "input"), .str (.ofString "input") 1041, .ref 598⟩, ⟨PyData.keyHash P (.ofString "deliver"), .str (.ofString "deliver") 1052, .ref 605⟩, ⟨PyData.keyHash P (.ofString "forward"), .str (.ofString "forward") 1063, .ref 612⟩, ⟨PyData.keyHash P (.ofString "packets"), .str (.ofString "packets") 1078, .ref 619⟩, ⟨PyData.keyHash P (.ofString "route_to"), .str (.ofString "route_to") 1086, .ref 626⟩, ⟨PyData.keyHash P (.ofString "source_for"), .str (.ofString "source_for") 1094, .ref 633⟩, ⟨PyData.keyHash P (.ofString "want_one_host"), .str (.ofString "want_one_host") 1102, .ref 640⟩, ⟨PyData.keyHash P (.ofString "output"), .str (.ofString "output") 1116, .ref 648⟩, ⟨PyData.keyHash P (.ofString "given_up"), .str (.ofString "given_up") 1124, .ref 655⟩, ⟨PyData.keyHash P (.ofString "expire"), .str (.ofString "expire") 1132, .ref 662⟩, ⟨PyData.keyHash P (.ofString "__static_attributes__"), .str (.ofString "__static_attributes__") 1138, .ref 663⟩, ⟨PyData.keyHash P (.ofString "__dict__"), .str (.ofString "__dict__") 1140, .ref 666⟩, ⟨PyData.keyHash P (.ofString "__weakref__"), .str (.ofString "__weakref__") 1142, .ref 667⟩, ⟨PyData.keyHash P (.ofString "__doc__"), .str (.ofString "__doc__") 1143, .none⟩] 4 }) ::
(nat_lit 665, { cls := .type "type", data := .cls { name := .ofString "IpLayer", bases := [.type "object"], mro := [.ref 665, .type "object"], ns := 664, qualname := .ofString "IpLayer" }, slots := #[none, none, some (.str (.ofString "IpLayer") 969), some (.str (.ofString "IpLayer") 977), some (.builtin "object.__new__"), some (.bool true)] }) ::
(nat_lit 666, { cls := .type "getset_descriptor", data := .fields #[.str (.ofString "__dict__") 1139, .ref 665, .builtin "function.__dict__", .builtin "function.__dict__#set"] }) ::
(nat_lit 667, { cls := .type "getset_descriptor", data := .fields #[.str (.ofString "__weakref__") 1141, .ref 665, .builtin "ExceptionGroup.__weakref__", .none] }) ::
(nat_lit 677, { cls := .type "tuple", data := .seq #[] }) ::
(nat_lit 679, { cls := .type "tuple", data := .seq #[.str (.ofString "self") 1165, .str (.ofString "most") 1166] }) ::
(nat_lit 680, { cls := .type "tuple", data := .seq #[] }) ::
(nat_lit 682, { cls := .type "code", data := .fields #[.str (.ofString "__init__") 1162, .str (.ofString "Holes.__init__") 1163, .str (.ofString "/claim/cut.py") 1164, .int 433 0, .int 2 0, .int 0 0, .int 0 0, .int 3 0, .ref 677, .bool true, .int 181 0, .ref 678, .none, .ref 679, .ref 680, .ref 681, .int 1167 0, .int 433 0, .str (.ofString "/claim/cut.py") 1168] }) ::
(nat_lit 683, { cls := .type "function", data := .func { name := .ofString "__init__", qualname := .ofString "Holes.__init__", params := fP 76 1, body := .stmts (fB 76 1), scope := fS 76 1, globals := 3, closure := [], defaults := .none, kwdefaults := .none, pyModule := .str (.ofString "thinstack.reassembly") 1146, code := .ref 682 } }) ::
(nat_lit 684, { cls := .type "tuple", data := .seq #[] }) ::
(nat_lit 686, { cls := .type "tuple", data := .seq #[.str (.ofString "self") 1173, .str (.ofString "begin") 1174, .str (.ofString "end") 1175, .str (.ofString "found") 1176, .str (.ofString "rows") 1177, .str (.ofString "low") 1178, .str (.ofString "high") 1179, .str (.ofString "first") 1180, .str (.ofString "last") 1181] }) ::
(nat_lit 687, { cls := .type "tuple", data := .seq #[] }) ::
(nat_lit 689, { cls := .type "code", data := .fields #[.str (.ofString "fill") 1170, .str (.ofString "Holes.fill") 1171, .str (.ofString "/claim/cut.py") 1172, .int 437 0, .int 3 0, .int 0 0, .int 0 0, .int 3 0, .ref 684, .bool true, .int 181 0, .ref 685, .none, .ref 686, .ref 687, .ref 688, .int 1182 0, .int 437 0, .str (.ofString "/claim/cut.py") 1183] }) ::
(nat_lit 690, { cls := .type "function", data := .func { name := .ofString "fill", qualname := .ofString "Holes.fill", params := fP 76 2, body := .stmts (fB 76 2), scope := fS 76 2, globals := 3, closure := [], defaults := .none, kwdefaults := .none, pyModule := .str (.ofString "thinstack.reassembly") 1146, code := .ref 689 } }) ::
(nat_lit 691, { cls := .type "tuple", data := .seq #[] }) ::
(nat_lit 693, { cls := .type "tuple", data := .seq #[.str (.ofString "self") 1188, .str (.ofString "end") 1189] }) ::
(nat_lit 694, { cls := .type "tuple", data := .seq #[] }) ::
(nat_lit 696, { cls := .type "code", data := .fields #[.str (.ofString "end_at") 1185, .str (.ofString "Holes.end_at") 1186, .str (.ofString "/claim/cut.py") 1187, .int 454 0, .int 2 0, .int 0 0, .int 0 0, .int 3 0, .ref 691, .bool true, .int 181 0, .ref 692, .none, .ref 693, .ref 694, .ref 695, .int 1190 0, .int 454 0, .str (.ofString "/claim/cut.py") 1191] }) ::
(nat_lit 697, { cls := .type "function", data := .func { name := .ofString "end_at", qualname := .ofString "Holes.end_at", params := fP 76 3, body := .stmts (fB 76 3), scope := fS 76 3, globals := 3, closure := [], defaults := .none, kwdefaults := .none, pyModule := .str (.ofString "thinstack.reassembly") 1146, code := .ref 696 } }) ::
(nat_lit 698, { cls := .type "tuple", data := .seq #[] }) ::
(nat_lit 700, { cls := .type "tuple", data := .seq #[.str (.ofString "self") 1196] }) ::
(nat_lit 701, { cls := .type "tuple", data := .seq #[] }) ::
(nat_lit 703, { cls := .type "code", data := .fields #[.str (.ofString "reach") 1193, .str (.ofString "Holes.reach") 1194, .str (.ofString "/claim/cut.py") 1195, .int 457 0, .int 1 0, .int 0 0, .int 0 0, .int 3 0, .ref 698, .bool true, .int 181 0, .ref 699, .none, .ref 700, .ref 701, .ref 702, .int 1197 0, .int 457 0, .str (.ofString "/claim/cut.py") 1198] }) ::
(nat_lit 704, { cls := .type "function", data := .func { name := .ofString "reach", qualname := .ofString "Holes.reach", params := fP 76 4, body := .stmts (fB 76 4), scope := fS 76 4, globals := 3, closure := [], defaults := .none, kwdefaults := .none, pyModule := .str (.ofString "thinstack.reassembly") 1146, code := .ref 703 } }) ::
(nat_lit 705, { cls := .type "tuple", data := .seq #[] }) ::
(nat_lit 707, { cls := .type "tuple", data := .seq #[.str (.ofString "self") 1203] }) ::
(nat_lit 708, { cls := .type "tuple", data := .seq #[] }) ::
(nat_lit 710, { cls := .type "code", data := .fields #[.str (.ofString "is_whole") 1200, .str (.ofString "Holes.is_whole") 1201, .str (.ofString "/claim/cut.py") 1202, .int 462 0, .int 1 0, .int 0 0, .int 0 0, .int 3 0, .ref 705, .bool true, .int 181 0, .ref 706, .none, .ref 707, .ref 708, .ref 709, .int 1204 0, .int 462 0, .str (.ofString "/claim/cut.py") 1205] }) ::
(nat_lit 711, { cls := .type "function", data := .func { name := .ofString "is_whole", qualname := .ofString "Holes.is_whole", params := fP 76 5, body := .stmts (fB 76 5), scope := fS 76 5, globals := 3, closure := [], defaults := .none, kwdefaults := .none, pyModule := .str (.ofString "thinstack.reassembly") 1146, code := .ref 710 } }) ::
(nat_lit 712, { cls := .type "tuple", data := .seq #[.str (.ofString "most") 1207, .str (.ofString "rows") 1208] }) ::
(nat_lit 713, { cls := .type "dict", data := .dict #[⟨PyData.keyHash P (.ofString "__module__"), .str (.ofString "__module__") 1157, .str (.ofString "thinstack.reassembly") 1146⟩, ⟨PyData.keyHash P (.ofString "__firstlineno__"), .str (.ofString "__firstlineno__") 1161, .int 431 1160⟩, ⟨PyData.keyHash P (.ofString "__init__"), .str (.ofString "__init__") 1169, .ref 683⟩, ⟨PyData.keyHash P (.ofString "fill"), .str (.ofString "fill") 1184, .ref 690⟩, ⟨PyData.keyHash P (.ofString "end_at"), .str (.ofString "end_at") 1192, .ref 697⟩, ⟨PyData.keyHash P (.ofString "reach"), .str (.ofString "reach") 1199, .ref 704⟩, ⟨PyData.keyHash P (.ofString "is_whole"), .str (.ofString "is_whole") 1206, .ref 711⟩, ⟨PyData.keyHash P (.ofString "__static_attributes__"), .str (.ofString "__static_attributes__") 1209, .ref 712⟩, ⟨PyData.keyHash P (.ofString "__dict__"), .str (.ofString "__dict__") 1211, .ref 715⟩, ⟨PyData.keyHash P (.ofString "__weakref__"), .str (.ofString "__weakref__") 1213, .ref 716⟩, ⟨PyData.keyHash P (.ofString "__doc__"), .str (.ofString "__doc__") 1214, .none⟩] 4 }) ::
(nat_lit 714, { cls := .type "type", data := .cls { name := .ofString "Holes", bases := [.type "object"], mro := [.ref 714, .type "object"], ns := 713, qualname := .ofString "Holes" }, slots := #[none, none, some (.str (.ofString "Holes") 1150), some (.str (.ofString "Holes") 1158), some (.builtin "object.__new__"), some (.bool true)] }) ::
(nat_lit 715, { cls := .type "getset_descriptor", data := .fields #[.str (.ofString "__dict__") 1210, .ref 714, .builtin "function.__dict__", .builtin "function.__dict__#set"] }) ::
(nat_lit 716, { cls := .type "getset_descriptor", data := .fields #[.str (.ofString "__weakref__") 1212, .ref 714, .builtin "ExceptionGroup.__weakref__", .none] }) ::
(nat_lit 726, { cls := .type "tuple", data := .seq #[] }) ::
(nat_lit 728, { cls := .type "tuple", data := .seq #[.str (.ofString "self") 1232, .str (.ofString "began") 1233, .str (.ofString "most") 1234] }) ::
(nat_lit 729, { cls := .type "tuple", data := .seq #[] }) ::
(nat_lit 731, { cls := .type "code", data := .fields #[.str (.ofString "__init__") 1229, .str (.ofString "Datagram.__init__") 1230, .str (.ofString "/claim/cut.py") 1231, .int 466 0, .int 3 0, .int 0 0, .int 0 0, .int 3 0, .ref 726, .bool true, .int 181 0, .ref 727, .none, .ref 728, .ref 729, .ref 730, .int 1235 0, .int 466 0, .str (.ofString "/claim/cut.py") 1236] }) ::
(nat_lit 732, { cls := .type "function", data := .func { name := .ofString "__init__", qualname := .ofString "Datagram.__init__", params := fP 77 1, body := .stmts (fB 77 1), scope := fS 77 1, globals := 3, closure := [], defaults := .none, kwdefaults := .none, pyModule := .str (.ofString "thinstack.reassembly") 1146, code := .ref 731 } }) ::
(nat_lit 733, { cls := .type "tuple", data := .seq #[] }) ::
(nat_lit 735, { cls := .type "tuple", data := .seq #[.str (.ofString "self") 1241, .str (.ofString "begin") 1242, .str (.ofString "end") 1243, .str (.ofString "more") 1244] }) ::
(nat_lit 736, { cls := .type "tuple", data := .seq #[] }) ::
(nat_lit 738, { cls := .type "code", data := .fields #[.str (.ofString "is_against") 1238, .str (.ofString "Datagram.is_against") 1239, .str (.ofString "/claim/cut.py") 1240, .int 476 0, .int 4 0, .int 0 0, .int 0 0, .int 3 0, .ref 733, .bool true, .int 181 0, .ref 734, .none, .ref 735, .ref 736, .ref 737, .int 1245 0, .int 476 0, .str (.ofString "/claim/cut.py") 1246] }) ::
(nat_lit 739, { cls := .type "function", data := .func { name := .ofString "is_against", qualname := .ofString "Datagram.is_against", params := fP 77 2, body := .stmts (fB 77 2), scope := fS 77 2, globals := 3, closure := [], defaults := .none, kwdefaults := .none, pyModule := .str (.ofString "thinstack.reassembly") 1146, code := .ref 738 } }) ::
(nat_lit 740, { cls := .type "tuple", data := .seq #[] }) ::
(nat_lit 742, { cls := .type "tuple", data := .seq #[.str (.ofString "self") 1251, .str (.ofString "header") 1252, .str (.ofString "payload") 1253, .str (.ofString "begin") 1254, .str (.ofString "end") 1255, .str (.ofString "low") 1256, .str (.ofString "high") 1257] }) ::
(nat_lit 743, { cls := .type "tuple", data := .seq #[] }) ::
(nat_lit 745, { cls := .type "code", data := .fields #[.str (.ofString "put") 1248, .str (.ofString "Datagram.put") 1249, .str (.ofString "/claim/cut.py") 1250, .int 485 0, .int 3 0, .int 0 0, .int 0 0, .int 3 0, .ref 740, .bool true, .int 181 0, .ref 741, .none, .ref 742, .ref 743, .ref 744, .int 1258 0, .int 485 0, .str (.ofString "/claim/cut.py") 1259] }) ::
(nat_lit 746, { cls := .type "function", data := .func { name := .ofString "put", qualname := .ofString "Datagram.put", params := fP 77 3, body := .stmts (fB 77 3), scope := fS 77 3, globals := 3, closure := [], defaults := .none, kwdefaults := .none, pyModule := .str (.ofString "thinstack.reassembly") 1146, code := .ref 745 } }) ::
(nat_lit 747, { cls := .type "tuple", data := .seq #[] }) ::
(nat_lit 749, { cls := .type "tuple", data := .seq #[.str (.ofString "self") 1264] }) ::
(nat_lit 750, { cls := .type "tuple", data := .seq #[] }) ::
(nat_lit 752, { cls := .type "code", data := .fields #[.str (.ofString "is_whole") 1261, .str (.ofString "Datagram.is_whole") 1262, .str (.ofString "/claim/cut.py") 1263, .int 502 0, .int 1 0, .int 0 0, .int 0 0, .int 3 0, .ref 747, .bool true, .int 181 0, .ref 748, .none, .ref 749, .ref 750, .ref 751, .int 1265 0, .int 502 0, .str (.ofString "/claim/cut.py") 1266] }) ::
(nat_lit 753, { cls := .type "function", data := .func { name := .ofString "is_whole", qualname := .ofString "Datagram.is_whole", params := fP 77 4, body := .stmts (fB 77 4), scope := fS 77 4, globals := 3, closure := [], defaults := .none, kwdefaults := .none, pyModule := .str (.ofString "thinstack.reassembly") 1146, code := .ref 752 } }) ::
(nat_lit 754, { cls := .type "tuple", data := .seq #[] }) ::
(nat_lit 757, { cls := .type "code", data := .fields #[.str (.ofString "octets") 1268, .str (.ofString "Datagram.octets") 1269, .str (.ofString "/claim/cut.py") 1270, .int 505 0, .int 1 0, .int 0 0, .int 0 0, .int 3 0, .ref 754, .bool true, .int 181 0, .ref 755, .none, .none, .none, .ref 756, .int 1271 0, .int 505 0, .str (.ofString "/claim/cut.py") 1272] }) ::
(nat_lit 758, { cls := .type "function", data := .func { name := .ofString "octets", qualname := .ofString "Datagram.octets", params := fP 77 5, body := .stmts (fB 77 5), scope := fS 77 5, globals := 3, closure := [], defaults := .none, kwdefaults := .none, pyModule := .str (.ofString "thinstack.reassembly") 1146, code := .ref 757 } }) ::
(nat_lit 759, { cls := .type "tuple", data := .seq #[] }) ::
(nat_lit 761, { cls := .type "tuple", data := .seq #[.str (.ofString "self") 1277] }) ::
(nat_lit 762, { cls := .type "tuple", data := .seq #[] }) ::
(nat_lit 764, { cls := .type "code", data := .fields #[.str (.ofString "told_octets") 1274, .str (.ofString "Datagram.told_octets") 1275, .str (.ofString "/claim/cut.py") 1276, .int 508 0, .int 1 0, .int 0 0, .int 0 0, .int 3 0, .ref 759, .bool true, .int 181 0, .ref 760, .none, .ref 761, .ref 762, .ref 763, .int 1278 0, .int 508 0, .str (.ofString "/claim/cut.py") 1279] }) ::
(nat_lit 765, { cls := .type "function", data := .func { name := .ofString "told_octets", qualname := .ofString "Datagram.told_octets", params := fP 77 6, body := .stmts (fB 77 6), scope := fS 77 6, globals := 3, closure := [], defaults := .none, kwdefaults := .none, pyModule := .str (.ofString "thinstack.reassembly") 1146, code := .ref 764 } }) ::
(nat_lit 766, { cls := .type "tuple", data := .seq #[.str (.ofString "ahead") 1281, .str (.ofString "began") 1282, .str (.ofString "end") 1283, .str (.ofString "first") 1284, .str (.ofString "holes") 1285, .str (.ofString "most") 1286, .str (.ofString "parts") 1287, .str (.ofString "size") 1288] }) ::
(nat_lit 767, { cls := .type "dict", data := .dict #[⟨PyData.keyHash P (.ofString "__module__"), .str (.ofString "__module__") 1224, .str (.ofString "thinstack.reassembly") 1146⟩, ⟨PyData.keyHash P (.ofString "__firstlineno__"), .str (.ofString "__firstlineno__") 1228, .int 464 1227⟩, ⟨PyData.keyHash P (.ofString "__init__"), .str (.ofString "__init__") 1237, .ref 732⟩, ⟨PyData.keyHash P (.ofString "is_against"), .str (.ofString "is_against") 1247, .ref 739⟩, ⟨PyData.keyHash P (.ofString "put"), .str (.ofString "put") 1260, .ref 746⟩, ⟨PyData.keyHash P (.ofString "is_whole"), .str (.ofString "is_whole") 1267, .ref 753⟩, ⟨PyData.keyHash P (.ofString "octets"), .str (.ofString "octets") 1273, .ref 758⟩, ⟨PyData.keyHash P (.ofString "told_octets"), .str (.ofString "told_octets") 1280, .ref 765⟩, ⟨PyData.keyHash P (.ofString "__static_attributes__"), .str (.ofString "__static_attributes__") 1289, .ref 766⟩, ⟨PyData.keyHash P (.ofString "__dict__"), .str (.ofString "__dict__") 1291, .ref 769⟩, ⟨PyData.keyHash P (.ofString "__weakref__"), .str (.ofString "__weakref__") 1293, .ref 770⟩, ⟨PyData.keyHash P (.ofString "__doc__"), .str (.ofString "__doc__") 1294, .none⟩] 4 }) ::
(nat_lit 768, { cls := .type "type", data := .cls { name := .ofString "Datagram", bases := [.type "object"], mro := [.ref 768, .type "object"], ns := 767, qualname := .ofString "Datagram" }, slots := #[none, none, some (.str (.ofString "Datagram") 1217), some (.str (.ofString "Datagram") 1225), some (.builtin "object.__new__"), some (.bool true)] }) ::
(nat_lit 769, { cls := .type "getset_descriptor", data := .fields #[.str (.ofString "__dict__") 1290, .ref 768, .builtin "function.__dict__", .builtin "function.__dict__#set"] }) ::
(nat_lit 770, { cls := .type "getset_descriptor", data := .fields #[.str (.ofString "__weakref__") 1292, .ref 768, .builtin "ExceptionGroup.__weakref__", .none] }) ::
(nat_lit 773, { cls := .type "tuple", data := .seq #[] }) ::
(nat_lit 775, { cls := .type "tuple", data := .seq #[.str (.ofString "header") 1300] }) ::
(nat_lit 776, { cls := .type "tuple", data := .seq #[] }) ::
(nat_lit 778, { cls := .type "code", data := .fields #[.str (.ofString "whole_header") 1297, .str (.ofString "whole_header") 1298, .str (.ofString "/claim/cut.py") 1299, .int 510 0, .int 1 0, .int 0 0, .int 0 0, .int 3 0, .ref 773, .bool true, .int 181 0, .ref 774, .none, .ref 775, .ref 776, .ref 777, .int 1301 0, .int 510 0, .str (.ofString "/claim/cut.py") 1302] }) ::
(nat_lit 779, { cls := .type "function", data := .func { name := .ofString "whole_header", qualname := .ofString "whole_header", params := fP 78 0, body := .stmts (fB 78 0), scope := fS 78 0, globals := 3, closure := [], defaults := .none, kwdefaults := .none, pyModule := .str (.ofString "thinstack.reassembly") 1146, code := .ref 778 } }) ::
(nat_lit 780, { cls := .type "tuple", data := .seq #[] }) ::
(nat_lit 782, { cls := .type "tuple", data := .seq #[.str (.ofString "header") 1307] }) ::
(nat_lit 783, { cls := .type "tuple", data := .seq #[] }) ::
(nat_lit 785, { cls := .type "code", data := .fields #[.str (.ofString "key_of") 1304, .str (.ofString "key_of") 1305, .str (.ofString "/claim/cut.py") 1306, .int 512 0, .int 1 0, .int 0 0, .int 0 0, .int 3 0, .ref 780, .bool true, .int 181 0, .ref 781, .none, .ref 782, .ref 783, .ref 784, .int 1308 0, .int 512 0, .str (.ofString "/claim/cut.py") 1309] }) ::
(nat_lit 786, { cls := .type "function", data := .func { name := .ofString "key_of", qualname := .ofString "key_of", params := fP 79 0, body := .stmts (fB 79 0), scope := fS 79 0, globals := 3, closure := [], defaults := .none, kwdefaults := .none, pyModule := .str (.ofString "thinstack.reassembly") 1146, code := .ref 785 } }) ::
(nat_lit 787, { cls := .type "tuple", data := .seq #[] }) ::
(nat_lit 789, { cls := .type "tuple", data := .seq #[.str (.ofString "header") 1314, .str (.ofString "payload") 1315] }) ::
(nat_lit 790, { cls := .type "tuple", data := .seq #[] }) ::
(nat_lit 792, { cls := .type "code", data := .fields #[.str (.ofString "is_bad_piece") 1311, .str (.ofString "is_bad_piece") 1312, .str (.ofString "/claim/cut.py") 1313, .int 514 0, .int 2 0, .int 0 0, .int 0 0, .int 3 0, .ref 787, .bool true, .int 181 0, .ref 788, .none, .ref 789, .ref 790, .ref 791, .int 1316 0, .int 514 0, .str (.ofString "/claim/cut.py") 1317] }) ::
(nat_lit 793, { cls := .type "function", data := .func { name := .ofString "is_bad_piece", qualname := .ofString "is_bad_piece", params := fP 80 0, body := .stmts (fB 80 0), scope := fS 80 0, globals := 3, closure := [], defaults := .none, kwdefaults := .none, pyModule := .str (.ofString "thinstack.reassembly") 1146, code := .ref 792 } }) ::
(nat_lit 801, { cls := .type "tuple", data := .seq #[.int 65535 1331] }) ::
(nat_lit 802, { cls := .type "tuple", data := .seq #[] }) ::
(nat_lit 804, { cls := .type "tuple", data := .seq #[.str (.ofString "self") 1335, .str (.ofString "time_limit") 1336, .str (.ofString "most_octets") 1337, .str (.ofString "most") 1338] }) ::
(nat_lit 805, { cls := .type "tuple", data := .seq #[] }) ::
(nat_lit 807, { cls := .type "code", data := .fields #[.str (.ofString "__init__") 1332, .str (.ofString "Reassembly.__init__") 1333, .str (.ofString "/claim/cut.py") 1334, .int 518 0, .int 4 0, .int 0 0, .int 0 0, .int 3 0, .ref 802, .bool true, .int 181 0, .ref 803, .none, .ref 804, .ref 805, .ref 806, .int 1339 0, .int 518 0, .str (.ofString "/claim/cut.py") 1340] }) ::
(nat_lit 808, { cls := .type "function", data := .func { name := .ofString "__init__", qualname := .ofString "Reassembly.__init__", params := fP 81 1, body := .stmts (fB 81 1), scope := fS 81 1, globals := 3, closure := [], defaults := .ref 801, kwdefaults := .none, pyModule := .str (.ofString "thinstack.reassembly") 1146, code := .ref 807 } }) ::
(nat_lit 809, { cls := .type "tuple", data := .seq #[] }) ::
(nat_lit 811, { cls := .type "tuple", data := .seq #[.str (.ofString "self") 1345, .str (.ofString "header") 1346, .str (.ofString "payload") 1347, .str (.ofString "now") 1348, .str (.ofString "key") 1349, .str (.ofString "found") 1350, .str (.ofString "is_too_great") 1351] }) ::
(nat_lit 812, { cls := .type "tuple", data := .seq #[] }) ::
(nat_lit 814, { cls := .type "code", data := .fields #[.str (.ofString "put") 1342, .str (.ofString "Reassembly.put") 1343, .str (.ofString "/claim/cut.py") 1344, .int 524 0, .int 4 0, .int 0 0, .int 0 0, .int 3 0, .ref 809, .bool true, .int 181 0, .ref 810, .none, .ref 811, .ref 812, .ref 813, .int 1352 0, .int 524 0, .str (.ofString "/claim/cut.py") 1353] }) ::
(nat_lit 815, { cls := .type "function", data := .func { name := .ofString "put", qualname := .ofString "Reassembly.put", params := fP 81 2, body := .stmts (fB 81 2), scope := fS 81 2, globals := 3, closure := [], defaults := .none, kwdefaults := .none, pyModule := .str (.ofString "thinstack.reassembly") 1146, code := .ref 814 } }) ::
(nat_lit 816, { cls := .type "tuple", data := .seq #[] }) ::
(nat_lit 819, { cls := .type "code", data := .fields #[.str (.ofString "stored") 1355, .str (.ofString "Reassembly.stored") 1356, .str (.ofString "/claim/cut.py") 1357, .int 543 0, .int 1 0, .int 0 0, .int 0 0, .int 3 0, .ref 816, .bool true, .int 181 0, .ref 817, .none, .none, .none, .ref 818, .int 1358 0, .int 543 0, .str (.ofString "/claim/cut.py") 1359] }) ::
(nat_lit 820, { cls := .type "function", data := .func { name := .ofString "stored", qualname := .ofString "Reassembly.stored", params := fP 81 3, body := .stmts (fB 81 3), scope := fS 81 3, globals := 3, closure := [], defaults := .none, kwdefaults := .none, pyModule := .str (.ofString "thinstack.reassembly") 1146, code := .ref 819 } }) ::
(nat_lit 821, { cls := .type "tuple", data := .seq #[] }) ::
(nat_lit 823, { cls := .type "tuple", data := .seq #[.str (.ofString "self") 1364] }) ::
(nat_lit 824, { cls := .type "tuple", data := .seq #[] }) ::
(nat_lit 826, { cls := .type "code", data := .fields #[.str (.ofString "count") 1361, .str (.ofString "Reassembly.count") 1362, .str (.ofString "/claim/cut.py") 1363, .int 546 0, .int 1 0, .int 0 0, .int 0 0, .int 3 0, .ref 821, .bool true, .int 181 0, .ref 822, .none, .ref 823, .ref 824, .ref 825, .int 1365 0, .int 546 0, .str (.ofString "/claim/cut.py") 1366] }) ::
(nat_lit 827, { cls := .type "function", data := .func { name := .ofString "count", qualname := .ofString "Reassembly.count", params := fP 81 4, body := .stmts (fB 81 4), scope := fS 81 4, globals := 3, closure := [], defaults := .none, kwdefaults := .none, pyModule := .str (.ofString "thinstack.reassembly") 1146, code := .ref 826 } }) ::
(nat_lit 828, { cls := .type "tuple", data := .seq #[] }) ::
(nat_lit 830, { cls := .type "tuple", data := .seq #[.str (.ofString "self") 1371] }) ::
(nat_lit 831, { cls := .type "tuple", data := .seq #[] }) ::
(nat_lit 833, { cls := .type "code", data := .fields #[.str (.ofString "make_room") 1368, .str (.ofString "Reassembly.make_room") 1369, .str (.ofString "/claim/cut.py") 1370, .int 549 0, .int 1 0, .int 0 0, .int 0 0, .int 3 0, .ref 828, .bool true, .int 181 0, .ref 829, .none, .ref 830, .ref 831, .ref 832, .int 1372 0, .int 549 0, .str (.ofString "/claim/cut.py") 1373] }) ::
(nat_lit 834, { cls := .type "function", data := .func { name := .ofString "make_room", qualname := .ofString "Reassembly.make_room", params := fP 81 5, body := .stmts (fB 81 5), scope := fS 81 5, globals := 3, closure := [], defaults := .none, kwdefaults := .none, pyModule := .str (.ofString "thinstack.reassembly") 1146, code := .ref 833 } }) ::
(nat_lit 835, { cls := .type "tuple", data := .seq #[] }) ::
(nat_lit 837, { cls := .type "tuple", data := .seq #[.str (.ofString "self") 1378, .str (.ofString "now") 1379] }) ::
(nat_lit 838, { cls := .type "tuple", data := .seq #[] }) ::
(nat_lit 840, { cls := .type "code", data := .fields #[.str (.ofString "expire") 1375, .str (.ofString "Reassembly.expire") 1376, .str (.ofString "/claim/cut.py") 1377, .int 553 0, .int 2 0, .int 0 0, .int 0 0, .int 3 0, .ref 835, .bool true, .int 181 0, .ref 836, .none, .ref 837, .ref 838, .ref 839, .int 1380 0, .int 553 0, .str (.ofString "/claim/cut.py") 1381] }) ::
(nat_lit 841, { cls := .type "function", data := .func { name := .ofString "expire", qualname := .ofString "Reassembly.expire", params := fP 81 6, body := .stmts (fB 81 6), scope := fS 81 6, globals := 3, closure := [], defaults := .none, kwdefaults := .none, pyModule := .str (.ofString "thinstack.reassembly") 1146, code := .ref 840 } }) ::
(nat_lit 842, { cls := .type "tuple", data := .seq #[] }) ::
(nat_lit 844, { cls := .type "tuple", data := .seq #[.str (.ofString "self") 1386] }) ::
(nat_lit 845, { cls := .type "tuple", data := .seq #[] }) ::
(nat_lit 847, { cls := .type "code", data := .fields #[.str (.ofString "next_time") 1383, .str (.ofString "Reassembly.next_time") 1384, .str (.ofString "/claim/cut.py") 1385, .int 556 0, .int 1 0, .int 0 0, .int 0 0, .int 3 0, .ref 842, .bool true, .int 181 0, .ref 843, .none, .ref 844, .ref 845, .ref 846, .int 1387 0, .int 556 0, .str (.ofString "/claim/cut.py") 1388] }) ::
(nat_lit 848, { cls := .type "function", data := .func { name := .ofString "next_time", qualname := .ofString "Reassembly.next_time", params := fP 81 7, body := .stmts (fB 81 7), scope := fS 81 7, globals := 3, closure := [], defaults := .none, kwdefaults := .none, pyModule := .str (.ofString "thinstack.reassembly") 1146, code := .ref 847 } }) ::
(nat_lit 849, { cls := .type "tuple", data := .seq #[.str (.ofString "most") 1390, .str (.ofString "most_octets") 1391, .str (.ofString "time_limit") 1392, .str (.ofString "waiting") 1393] }) ::
(nat_lit 850, { cls := .type "dict", data := .dict #[⟨PyData.keyHash P (.ofString "__module__"), .str (.ofString "__module__") 1326, .str (.ofString "thinstack.reassembly") 1146⟩, ⟨PyData.keyHash P (.ofString "__firstlineno__"), .str (.ofString "__firstlineno__") 1330, .int 516 1329⟩, ⟨PyData.keyHash P (.ofString "__init__"), .str (.ofString "__init__") 1341, .ref 808⟩, ⟨PyData.keyHash P (.ofString "put"), .str (.ofString "put") 1354, .ref 815⟩, ⟨PyData.keyHash P (.ofString "stored"), .str (.ofString "stored") 1360, .ref 820⟩, ⟨PyData.keyHash P (.ofString "count"), .str (.ofString "count") 1367, .ref 827⟩, ⟨PyData.keyHash P (.ofString "make_room"), .str (.ofString "make_room") 1374, .ref 834⟩, ⟨PyData.keyHash P (.ofString "expire"), .str (.ofString "expire") 1382, .ref 841⟩, ⟨PyData.keyHash P (.ofString "next_time"), .str (.ofString "next_time") 1389, .ref 848⟩, ⟨PyData.keyHash P (.ofString "__static_attributes__"), .str (.ofString "__static_attributes__") 1394, .ref 849⟩, ⟨PyData.keyHash P (.ofString "__dict__"), .str (.ofString "__dict__") 1396, .ref 852⟩, ⟨PyData.keyHash P (.ofString "__weakref__"), .str (.ofString "__weakref__") 1398, .ref 853⟩, ⟨PyData.keyHash P (.ofString "__doc__"), .str (.ofString "__doc__") 1399, .none⟩] 4 }) ::
(nat_lit 851, { cls := .type "type", data := .cls { name := .ofString "Reassembly", bases := [.type "object"], mro := [.ref 851, .type "object"], ns := 850, qualname := .ofString "Reassembly" }, slots := #[none, none, some (.str (.ofString "Reassembly") 1319), some (.str (.ofString "Reassembly") 1327), some (.builtin "object.__new__"), some (.bool true)] }) ::
(nat_lit 852, { cls := .type "getset_descriptor", data := .fields #[.str (.ofString "__dict__") 1395, .ref 851, .builtin "function.__dict__", .builtin "function.__dict__#set"] }) ::
(nat_lit 853, { cls := .type "getset_descriptor", data := .fields #[.str (.ofString "__weakref__") 1397, .ref 851, .builtin "ExceptionGroup.__weakref__", .none] }) ::
(nat_lit 856, { cls := .type "tuple", data := .seq #[] }) ::
(nat_lit 858, { cls := .type "tuple", data := .seq #[.str (.ofString "script") 1407, .str (.ofString "k") 1408, .str (.ofString "cell") 1409, .str (.ofString "great") 1410, .str (.ofString "mixed") 1411] }) ::
(nat_lit 859, { cls := .type "tuple", data := .seq #[] }) ::
(nat_lit 861, { cls := .type "code", data := .fields #[.str (.ofString "_law_pool") 1404, .str (.ofString "_law_pool") 1405, .str (.ofString "/claim/cut.py") 1406, .int 559 0, .int 2 0, .int 0 0, .int 0 0, .int 3 0, .ref 856, .bool true, .int 181 0, .ref 857, .none, .ref 858, .ref 859, .ref 860, .int 1412 0, .int 559 0, .str (.ofString "/claim/cut.py") 1413] }) ::
(nat_lit 862, { cls := .type "function", data := .func { name := .ofString "_law_pool", qualname := .ofString "_law_pool", params := fP 83 0, body := .stmts (fB 83 0), scope := fS 83 0, globals := 3, closure := [], defaults := .none, kwdefaults := .none, pyModule := .str (.ofString "law_xw0341_02") 1402, code := .ref 861 } }) ::
(nat_lit 863, { cls := .type "tuple", data := .seq #[] }) ::
(nat_lit 865, { cls := .type "tuple", data := .seq #[.str (.ofString "source") 1418, .str (.ofString "top") 1419, .str (.ofString "drawn") 1420] }) ::
(nat_lit 866, { cls := .type "tuple", data := .seq #[] }) ::
(nat_lit 868, { cls := .type "code", data := .fields #[.str (.ofString "_law_take") 1415, .str (.ofString "_law_take") 1416, .str (.ofString "/claim/cut.py") 1417, .int 564 0, .int 2 0, .int 0 0, .int 0 0, .int 3 0, .ref 863, .bool true, .int 181 0, .ref 864, .none, .ref 865, .ref 866, .ref 867, .int 1421 0, .int 564 0, .str (.ofString "/claim/cut.py") 1422] }) ::
(nat_lit 869, { cls := .type "function", data := .func { name := .ofString "_law_take", qualname := .ofString "_law_take", params := fP 84 0, body := .stmts (fB 84 0), scope := fS 84 0, globals := 3, closure := [], defaults := .none, kwdefaults := .none, pyModule := .str (.ofString "law_xw0341_02") 1402, code := .ref 868 } }) ::
(nat_lit 870, { cls := .type "tuple", data := .seq #[] }) ::
(nat_lit 872, { cls := .type "tuple", data := .seq #[.str (.ofString "source") 1427, .str (.ofString "things") 1428] }) ::
(nat_lit 873, { cls := .type "tuple", data := .seq #[] }) ::
(nat_lit 875, { cls := .type "code", data := .fields #[.str (.ofString "_law_one") 1424, .str (.ofString "_law_one") 1425, .str (.ofString "/claim/cut.py") 1426, .int 571 0, .int 2 0, .int 0 0, .int 0 0, .int 3 0, .ref 870, .bool true, .int 181 0, .ref 871, .none, .ref 872, .ref 873, .ref 874, .int 1429 0, .int 571 0, .str (.ofString "/claim/cut.py") 1430] }) ::
(nat_lit 876, { cls := .type "function", data := .func { name := .ofString "_law_one", qualname := .ofString "_law_one", params := fP 85 0, body := .stmts (fB 85 0), scope := fS 85 0, globals := 3, closure := [], defaults := .none, kwdefaults := .none, pyModule := .str (.ofString "law_xw0341_02") 1402, code := .ref 875 } }) ::
(nat_lit 877, { cls := .type "tuple", data := .seq #[] }) ::
(nat_lit 879, { cls := .type "tuple", data := .seq #[.str (.ofString "mtu") 1435, .str (.ofString "routes") 1436, .str (.ofString "net") 1437, .str (.ofString "gateway") 1438, .str (.ofString "face") 1439] }) ::
(nat_lit 880, { cls := .type "tuple", data := .seq #[] }) ::
(nat_lit 882, { cls := .type "code", data := .fields #[.str (.ofString "_law_layer") 1432, .str (.ofString "_law_layer") 1433, .str (.ofString "/claim/cut.py") 1434, .int 573 0, .int 1 0, .int 0 0, .int 0 0, .int 3 0, .ref 877, .bool true, .int 181 0, .ref 878, .none, .ref 879, .ref 880, .ref 881, .int 1440 0, .int 573 0, .str (.ofString "/claim/cut.py") 1441] }) ::
(nat_lit 883, { cls := .type "function", data := .func { name := .ofString "_law_layer", qualname := .ofString "_law_layer", params := fP 86 0, body := .stmts (fB 86 0), scope := fS 86 0, globals := 3, closure := [], defaults := .none, kwdefaults := .none, pyModule := .str (.ofString "law_xw0341_02") 1402, code := .ref 882 } }) ::
(nat_lit 884, { cls := .type "tuple", data := .seq #[] }) ::
(nat_lit 886, { cls := .type "tuple", data := .seq #[.str (.ofString "row") 1446, .str (.ofString "payload") 1447, .str (.ofString "mtu") 1448, .str (.ofString "target") 1449, .str (.ofString "ttl") 1450, .str (.ofString "dont") 1451, .str (.ofString "more") 1452, .str (.ofString "offset") 1453, .str (.ofString "net") 1454, .str (.ofString "face") 1455, .str (.ofString "address") 1456, .str (.ofString "room") 1457, .str (.ofString "cuts") 1458, .str (.ofString "step") 1459, .str (.ofString "found") 1460, .str (.ofString "begin") 1461, .str (.ofString "end") 1462, .str (.ofString "is_more") 1463, .str (.ofString "head") 1464] }) ::
(nat_lit 887, { cls := .type "tuple", data := .seq #[] }) ::
(nat_lit 889, { cls := .type "code", data := .fields #[.str (.ofString "_law_due") 1443, .str (.ofString "_law_due") 1444, .str (.ofString "/claim/cut.py") 1445, .int 578 0, .int 3 0, .int 0 0, .int 0 0, .int 3 0, .ref 884, .bool true, .int 181 0, .ref 885, .none, .ref 886, .ref 887, .ref 888, .int 1465 0, .int 578 0, .str (.ofString "/claim/cut.py") 1466] }) ::
(nat_lit 890, { cls := .type "function", data := .func { name := .ofString "_law_due", qualname := .ofString "_law_due", params := fP 87 0, body := .stmts (fB 87 0), scope := fS 87 0, globals := 3, closure := [], defaults := .none, kwdefaults := .none, pyModule := .str (.ofString "law_xw0341_02") 1402, code := .ref 889 } }) ::
(nat_lit 891, { cls := .type "tuple", data := .seq #[] }) ::
(nat_lit 893, { cls := .type "tuple", data := .seq #[.str (.ofString "rows") 1471, .str (.ofString "header") 1472, .str (.ofString "payload") 1473, .str (.ofString "is_well") 1474, .str (.ofString "found") 1475, .str (.ofString "word") 1476, .str (.ofString "face") 1477, .str (.ofString "address") 1478, .str (.ofString "packet") 1479, .str (.ofString "head") 1480, .str (.ofString "octets") 1481] }) ::
(nat_lit 894, { cls := .type "tuple", data := .seq #[] }) ::
(nat_lit 896, { cls := .type "code", data := .fields #[.str (.ofString "_law_seen") 1468, .str (.ofString "_law_seen") 1469, .str (.ofString "/claim/cut.py") 1470, .int 604 0, .int 3 0, .int 0 0, .int 0 0, .int 3 0, .ref 891, .bool true, .int 181 0, .ref 892, .none, .ref 893, .ref 894, .ref 895, .int 1482 0, .int 604 0, .str (.ofString "/claim/cut.py") 1483] }) ::
(nat_lit 897, { cls := .type "function", data := .func { name := .ofString "_law_seen", qualname := .ofString "_law_seen", params := fP 88 0, body := .stmts (fB 88 0), scope := fS 88 0, globals := 3, closure := [], defaults := .none, kwdefaults := .none, pyModule := .str (.ofString "law_xw0341_02") 1402, code := .ref 896 } }) ::
(nat_lit 898, { cls := .type "tuple", data := .seq #[] }) ::
(nat_lit 900, { cls := .type "tuple", data := .seq #[.str (.ofString "row") 1488, .str (.ofString "payload") 1489, .str (.ofString "mtu") 1490, .str (.ofString "header") 1491, .str (.ofString "told") 1492] }) ::
(nat_lit 901, { cls := .type "tuple", data := .seq #[] }) ::
(nat_lit 903, { cls := .type "code", data := .fields #[.str (.ofString "_law_right") 1485, .str (.ofString "_law_right") 1486, .str (.ofString "/claim/cut.py") 1487, .int 613 0, .int 3 0, .int 0 0, .int 0 0, .int 3 0, .ref 898, .bool true, .int 181 0, .ref 899, .none, .ref 900, .ref 901, .ref 902, .int 1493 0, .int 613 0, .str (.ofString "/claim/cut.py") 1494] }) ::
(nat_lit 904, { cls := .type "function", data := .func { name := .ofString "_law_right", qualname := .ofString "_law_right", params := fP 89 0, body := .stmts (fB 89 0), scope := fS 89 0, globals := 3, closure := [], defaults := .none, kwdefaults := .none, pyModule := .str (.ofString "law_xw0341_02") 1402, code := .ref 903 } }) ::
(nat_lit 905, { cls := .type "tuple", data := .seq #[] }) ::
(nat_lit 907, { cls := .type "tuple", data := .seq #[.str (.ofString "script") 1499, .str (.ofString "source") 1500, .str (.ofString "turn") 1501, .str (.ofString "targets") 1502, .str (.ofString "target") 1503, .str (.ofString "ttl") 1504, .str (.ofString "marks") 1505, .str (.ofString "row") 1506, .str (.ofString "payload") 1507] }) ::
(nat_lit 908, { cls := .type "tuple", data := .seq #[] }) ::
(nat_lit 910, { cls := .type "code", data := .fields #[.str (.ofString "law") 1496, .str (.ofString "law") 1497, .str (.ofString "/claim/cut.py") 1498, .int 617 0, .int 1 0, .int 0 0, .int 0 0, .int 3 0, .ref 905, .bool true, .int 181 0, .ref 906, .none, .ref 907, .ref 908, .ref 909, .int 1508 0, .int 617 0, .str (.ofString "/claim/cut.py") 1509] }) ::
(nat_lit 911, { cls := .type "function", data := .func { name := .ofString "law", qualname := .ofString "law", params := fP 90 0, body := .stmts (fB 90 0), scope := fS 90 0, globals := 3, closure := [], defaults := .none, kwdefaults := .none, pyModule := .str (.ofString "law_xw0341_02") 1402, code := .ref 910 } }) :: []
noncomputable def hd.view_39 : Program := PySem.W.view Pr [0, 2, 3, 4, 5, 7, 8, 9, 10, 11, 13, 14, 18, 19, 20, 21, 22, 23, 24, 25, 26, 27, 28, 29, 30, 31, 32, 33, 35, 36, 37, 38, 39, 40, 41, 42, 43, 44, 45, 47, 48, 49, 50, 51, 53, 54, 55, 56, 57, 58, 59, 60, 61, 62, 64, 65, 66, 67, 68, 69, 70, 71, 72, 73, 75, 76, 77, 78, 79, 80, 81, 83, 84, 85, 86, 87, 88, 89, 90]
noncomputable abbrev Loo : List PySem.Str := [Str.ofString "ones_sum", Str.ofString "checksum", Str.ofString "IpHeader", Str.ofString "ALL", Str.ofString "ALL_HOSTS", Str.ofString "LEAST_TARGET"]
noncomputable abbrev Lv : List (PySem.Str × WData) := [(Str.ofString "ALL", WData.int 4294967295), (Str.ofString "ALL_HOSTS", WData.int 4294967295), (Str.ofString "LEAST_TARGET", WData.int 16777216)]
theorem hd.keys : ∀ P, (2 :: 3 :: 15 :: 17 :: 18 :: 20 :: 21 :: 22 :: 29 :: 31 :: 32 :: 34 :: 35 :: 36 :: 37 :: 38 :: 39 :: 42 :: 49 :: 50 :: 51 :: 54 :: 61 :: 62 :: 63 :: 66 :: 73 :: 74 :: 75 :: 78 :: 80 :: 81 :: 83 :: 84 :: 85 :: 87 :: 88 :: 90 :: 91 :: 92 :: 94 :: 95 :: 97 :: 98 :: 99 :: 101 :: 102 :: 104 :: 105 :: 106 :: 108 :: 109 :: 111 :: 112 :: 113 :: 115 :: 116 :: 118 :: 119 :: 120 :: 121 :: 123 :: 124 :: 126 :: 127 :: 128 :: 129 :: 131 :: 132 :: 134 :: 135 :: 143 :: 144 :: 146 :: 147 :: 149 :: 150 :: 151 :: 153 :: 154 :: 156 :: 157 :: 158 :: 160 :: 161 :: 163 :: 164 :: 165 :: 167 :: 168 :: 170 :: 171 :: 172 :: 174 :: 175 :: 177 :: 178 :: 179 :: 181 :: 182 :: 184 :: 185 :: 186 :: 187 :: 188 :: 189 :: 190 :: 193 :: 195 :: 196 :: 198 :: 199 :: 200 :: 202 :: 203 :: 205 :: 206 :: 207 :: 209 :: 210 :: 212 :: 213 :: 214 :: 216 :: 217 :: 219 :: 220 :: 221 :: 223 :: 224 :: 226 :: 227 :: 228 :: 230 :: 231 :: 233 :: 234 :: 235 :: 237 :: 238 :: 240 :: 241 :: 242 :: 244 :: 245 :: 247 :: 248 :: 249 :: 251 :: 252 :: 254 :: 255 :: 256 :: 258 :: 259 :: 261 :: 262 :: 263 :: 265 :: 266 :: 268 :: 269 :: 270 :: 272 :: 273 :: 275 :: 276 :: 277 :: 279 :: 280 :: 282 :: 283 :: 284 :: 287 :: 288 :: 289 :: 291 :: 292 :: 294 :: 295 :: 296 :: 298 :: 299 :: 301 :: 302 :: 303 :: 305 :: 306 :: 308 :: 309 :: 310 :: 312 :: 313 :: 315 :: 316 :: 317 :: 319 :: 320 :: 322 :: 323 :: 324 :: 326 :: 327 :: 329 :: 330 :: 331 :: 333 :: 334 :: 336 :: 337 :: 338 :: 340 :: 341 :: 343 :: 344 :: 352 :: 353 :: 355 :: 356 :: 358 :: 359 :: 360 :: 362 :: 363 :: 365 :: 366 :: 367 :: 369 :: 370 :: 372 :: 373 :: 374 :: 375 :: 376 :: 377 :: 378 :: 388 :: 390 :: 391 :: 393 :: 394 :: 395 :: 397 :: 398 :: 400 :: 401 :: 402 :: 404 :: 405 :: 407 :: 408 :: 409 :: 411 :: 412 :: 414 :: 415 :: 416 :: 418 :: 419 :: 421 :: 422 :: 423 :: 424 :: 425 :: 426 :: 427 :: 430 :: 432 :: 433 :: 435 :: 436 :: 444 :: 446 :: 447 :: 449 :: 450 :: 451 :: 453 :: 454 :: 456 :: 457 :: 458 :: 460 :: 461 :: 463 :: 464 :: 465 :: 467 :: 468 :: 470 :: 471 :: 472 :: 474 :: 475 :: 477 :: 478 :: 479 :: 481 :: 482 :: 484 :: 485 :: 486 :: 488 :: 489 :: 491 :: 492 :: 493 :: 495 :: 496 :: 498 :: 499 :: 500 :: 502 :: 503 :: 505 :: 506 :: 507 :: 508 :: 509 :: 510 :: 511 :: 521 :: 523 :: 524 :: 526 :: 527 :: 528 :: 529 :: 530 :: 531 :: 532 :: 535 :: 537 :: 538 :: 540 :: 541 :: 549 :: 550 :: 552 :: 553 :: 555 :: 556 :: 557 :: 559 :: 560 :: 562 :: 563 :: 564 :: 566 :: 567 :: 569 :: 570 :: 571 :: 573 :: 574 :: 576 :: 577 :: 578 :: 580 :: 581 :: 583 :: 584 :: 585 :: 587 :: 588 :: 590 :: 591 :: 592 :: 594 :: 595 :: 597 :: 598 :: 599 :: 601 :: 602 :: 604 :: 605 :: 606 :: 608 :: 609 :: 611 :: 612 :: 613 :: 615 :: 616 :: 618 :: 619 :: 620 :: 622 :: 623 :: 625 :: 626 :: 627 :: 629 :: 630 :: 632 :: 633 :: 634 :: 636 :: 637 :: 639 :: 640 :: 641 :: 642 :: 644 :: 645 :: 647 :: 648 :: 649 :: 651 :: 652 :: 654 :: 655 :: 656 :: 658 :: 659 :: 661 :: 662 :: 663 :: 664 :: 665 :: 666 :: 667 :: 677 :: 679 :: 680 :: 682 :: 683 :: 684 :: 686 :: 687 :: 689 :: 690 :: 691 :: 693 :: 694 :: 696 :: 697 :: 698 :: 700 :: 701 :: 703 :: 704 :: 705 :: 707 :: 708 :: 710 :: 711 :: 712 :: 713 :: 714 :: 715 :: 716 :: 726 :: 728 :: 729 :: 731 :: 732 :: 733 :: 735 :: 736 :: 738 :: 739 :: 740 :: 742 :: 743 :: 745 :: 746 :: 747 :: 749 :: 750 :: 752 :: 753 :: 754 :: 757 :: 758 :: 759 :: 761 :: 762 :: 764 :: 765 :: 766 :: 767 :: 768 :: 769 :: 770 :: 773 :: 775 :: 776 :: 778 :: 779 :: 780 :: 782 :: 783 :: 785 :: 786 :: 787 :: 789 :: 790 :: 792 :: 793 :: 801 :: 802 :: 804 :: 805 :: 807 :: 808 :: 809 :: 811 :: 812 :: 814 :: 815 :: 816 :: 819 :: 820 :: 821 :: 823 :: 824 :: 826 :: 827 :: 828 :: 830 :: 831 :: 833 :: 834 :: 835 :: 837 :: 838 :: 840 :: 841 :: 842 :: 844 :: 845 :: 847 :: 848 :: 849 :: 850 :: 851 :: 852 :: 853 :: 856 :: 858 :: 859 :: 861 :: 862 :: 863 :: 865 :: 866 :: 868 :: 869 :: 870 :: 872 :: 873 :: 875 :: 876 :: 877 :: 879 :: 880 :: 882 :: 883 :: 884 :: 886 :: 887 :: 889 :: 890 :: 891 :: 893 :: 894 :: 896 :: 897 :: 898 :: 900 :: 901 :: 903 :: 904 :: 905 :: 907 :: 908 :: 910 :: 911 :: []) = (hd.heap_39 P).map (·.1) := fun _ => by kernel_rfl
noncomputable abbrev hd.hook : Hook := kHook hd.heap_39 (2 :: 3 :: 15 :: 17 :: 18 :: 20 :: 21 :: 22 :: 29 :: 31 :: 32 :: 34 :: 35 :: 36 :: 37 :: 38 :: 39 :: 42 :: 49 :: 50 :: 51 :: 54 :: 61 :: 62 :: 63 :: 66 :: 73 :: 74 :: 75 :: 78 :: 80 :: 81 :: 83 :: 84 :: 85 :: 87 :: 88 :: 90 :: 91 :: 92 :: 94 :: 95 :: 97 :: 98 :: 99 :: 101 :: 102 :: 104 :: 105 :: 106 :: 108 :: 109 :: 111 :: 112 :: 113 :: 115 :: 116 :: 118 :: 119 :: 120 :: 121 :: 123 :: 124 :: 126 :: 127 :: 128 :: 129 :: 131 :: 132 :: 134 :: 135 :: 143 :: 144 :: 146 :: 147 :: 149 :: 150 :: 151 :: 153 :: 154 :: 156 :: 157 :: 158 :: 160 :: 161 :: 163 :: 164 :: 165 :: 167 :: 168 :: 170 :: 171 :: 172 :: 174 :: 175 :: 177 :: 178 :: 179 :: 181 :: 182 :: 184 :: 185 :: 186 :: 187 :: 188 :: 189 :: 190 :: 193 :: 195 :: 196 :: 198 :: 199 :: 200 :: 202 :: 203 :: 205 :: 206 :: 207 :: 209 :: 210 :: 212 :: 213 :: 214 :: 216 :: 217 :: 219 :: 220 :: 221 :: 223 :: 224 :: 226 :: 227 :: 228 :: 230 :: 231 :: 233 :: 234 :: 235 :: 237 :: 238 :: 240 :: 241 :: 242 :: 244 :: 245 :: 247 :: 248 :: 249 :: 251 :: 252 :: 254 :: 255 :: 256 :: 258 :: 259 :: 261 :: 262 :: 263 :: 265 :: 266 :: 268 :: 269 :: 270 :: 272 :: 273 :: 275 :: 276 :: 277 :: 279 :: 280 :: 282 :: 283 :: 284 :: 287 :: 288 :: 289 :: 291 :: 292 :: 294 :: 295 :: 296 :: 298 :: 299 :: 301 :: 302 :: 303 :: 305 :: 306 :: 308 :: 309 :: 310 :: 312 :: 313 :: 315 :: 316 :: 317 :: 319 :: 320 :: 322 :: 323 :: 324 :: 326 :: 327 :: 329 :: 330 :: 331 :: 333 :: 334 :: 336 :: 337 :: 338 :: 340 :: 341 :: 343 :: 344 :: 352 :: 353 :: 355 :: 356 :: 358 :: 359 :: 360 :: 362 :: 363 :: 365 :: 366 :: 367 :: 369 :: 370 :: 372 :: 373 :: 374 :: 375 :: 376 :: 377 :: 378 :: 388 :: 390 :: 391 :: 393 :: 394 :: 395 :: 397 :: 398 :: 400 :: 401 :: 402 :: 404 :: 405 :: 407 :: 408 :: 409 :: 411 :: 412 :: 414 :: 415 :: 416 :: 418 :: 419 :: 421 :: 422 :: 423 :: 424 :: 425 :: 426 :: 427 :: 430 :: 432 :: 433 :: 435 :: 436 :: 444 :: 446 :: 447 :: 449 :: 450 :: 451 :: 453 :: 454 :: 456 :: 457 :: 458 :: 460 :: 461 :: 463 :: 464 :: 465 :: 467 :: 468 :: 470 :: 471 :: 472 :: 474 :: 475 :: 477 :: 478 :: 479 :: 481 :: 482 :: 484 :: 485 :: 486 :: 488 :: 489 :: 491 :: 492 :: 493 :: 495 :: 496 :: 498 :: 499 :: 500 :: 502 :: 503 :: 505 :: 506 :: 507 :: 508 :: 509 :: 510 :: 511 :: 521 :: 523 :: 524 :: 526 :: 527 :: 528 :: 529 :: 530 :: 531 :: 532 :: 535 :: 537 :: 538 :: 540 :: 541 :: 549 :: 550 :: 552 :: 553 :: 555 :: 556 :: 557 :: 559 :: 560 :: 562 :: 563 :: 564 :: 566 :: 567 :: 569 :: 570 :: 571 :: 573 :: 574 :: 576 :: 577 :: 578 :: 580 :: 581 :: 583 :: 584 :: 585 :: 587 :: 588 :: 590 :: 591 :: 592 :: 594 :: 595 :: 597 :: 598 :: 599 :: 601 :: 602 :: 604 :: 605 :: 606 :: 608 :: 609 :: 611 :: 612 :: 613 :: 615 :: 616 :: 618 :: 619 :: 620 :: 622 :: 623 :: 625 :: 626 :: 627 :: 629 :: 630 :: 632 :: 633 :: 634 :: 636 :: 637 :: 639 :: 640 :: 641 :: 642 :: 644 :: 645 :: 647 :: 648 :: 649 :: 651 :: 652 :: 654 :: 655 :: 656 :: 658 :: 659 :: 661 :: 662 :: 663 :: 664 :: 665 :: 666 :: 667 :: 677 :: 679 :: 680 :: 682 :: 683 :: 684 :: 686 :: 687 :: 689 :: 690 :: 691 :: 693 :: 694 :: 696 :: 697 :: 698 :: 700 :: 701 :: 703 :: 704 :: 705 :: 707 :: 708 :: 710 :: 711 :: 712 :: 713 :: 714 :: 715 :: 716 :: 726 :: 728 :: 729 :: 731 :: 732 :: 733 :: 735 :: 736 :: 738 :: 739 :: 740 :: 742 :: 743 :: 745 :: 746 :: 747 :: 749 :: 750 :: 752 :: 753 :: 754 :: 757 :: 758 :: 759 :: 761 :: 762 :: 764 :: 765 :: 766 :: 767 :: 768 :: 769 :: 770 :: 773 :: 775 :: 776 :: 778 :: 779 :: 780 :: 782 :: 783 :: 785 :: 786 :: 787 :: 789 :: 790 :: 792 :: 793 :: 801 :: 802 :: 804 :: 805 :: 807 :: 808 :: 809 :: 811 :: 812 :: 814 :: 815 :: 816 :: 819 :: 820 :: 821 :: 823 :: 824 :: 826 :: 827 :: 828 :: 830 :: 831 :: 833 :: 834 :: 835 :: 837 :: 838 :: 840 :: 841 :: 842 :: 844 :: 845 :: 847 :: 848 :: 849 :: 850 :: 851 :: 852 :: 853 :: 856 :: 858 :: 859 :: 861 :: 862 :: 863 :: 865 :: 866 :: 868 :: 869 :: 870 :: 872 :: 873 :: 875 :: 876 :: 877 :: 879 :: 880 :: 882 :: 883 :: 884 :: 886 :: 887 :: 889 :: 890 :: 891 :: 893 :: 894 :: 896 :: 897 :: 898 :: 900 :: 901 :: 903 :: 904 :: 905 :: 907 :: 908 :: 910 :: 911 :: []) hd.keys
theorem use2 {α β : Sort _} {a a' : α} {b b' : β} (P : α → β → Prop) (h1 : a = a') (h2 : b = b') (h : P a' b') : P a b := by subst h1 h2; exact h
theorem use4 {α β γ δ : Sort _} {a a' : α} {b b' : β} {c c' : γ} {d d' : δ} (P : α → β → γ → δ → Prop) (h1 : a = a') (h2 : b = b') (h3 : c = c') (h4 : d = d') (h : P a' b' c' d') : P a b c d := by subst h1 h2 h3 h4; exact h

noncomputable abbrev p0 : Pos := ⟨0, 0, 0, 0⟩
noncomputable abbrev p9 : Pos := ⟨617, 0, 631, 15⟩
noncomputable def hEnv : Env := { scope := Pr.main.scope, locals := mainNs, globals := mainNs, cells := [], code := .ref 13, frame := some 14 }
noncomputable abbrev cE : Code := .body (behindTheImports Pr) hEnv
noncomputable def q43 : Obj := { cls := .type "tuple", data := .seq #[] }
noncomputable def q44 : Obj := { cls := .none, data := .fields #[] }
noncomputable def q45 : Obj := { cls := .type "code", data := .fields #[.str (.ofString "<module>") 182, .str (.ofString "<module>") 183, .str (.ofString "/claim/cut.py") 184, .int 1 0, .int 0 0, .int 0 0, .int 0 0, .int 0 0, .ref 11, .bool false, .int 181 0, .ref 12, .none, .none, .none, .none, .int 185 0, .int 1 0, .str (.ofString "/claim/cut.py") 186] }
noncomputable def q46 : Obj := { cls := .type "frame", slots := #[some (.ref 13), some (.ref 3), some (.ref 3), none, some (.str (.ofString "__main__") 164), none, some (.ref 0)] }
noncomputable def q49 (P : Params) : Obj := { cls := .none, data := .dict #[⟨PyData.keyHash P (.ofString "type.__subclasses__.Exception.0"), .str (.ofString "type.__subclasses__.Exception.0") 221, .int 38 0⟩, ⟨PyData.keyHash P (.ofString "type.__subclasses__.Exception.n"), .str (.ofString "type.__subclasses__.Exception.n") 222, .int 1 0⟩] 2 }
noncomputable def q54 : Obj := { cls := .type "tuple", data := .seq #[.str (.ofString "k") 190] }
noncomputable def q56 : Obj := { cls := .none, data := .func { name := .ofString "_wall", qualname := .ofString "_wall", params := fP 0 0, body := .stmts (fB 0 0), scope := fS 0 0, globals := 0, closure := [], defaults := .none, kwdefaults := .none } }
noncomputable def q57 : Obj := { cls := .type "code", data := .fields #[.str (.ofString "_wall") 187, .str (.ofString "_wall") 188, .str (.ofString "/claim/cut.py") 189, .int 1 0, .int 1 0, .int 0 0, .int 0 0, .int 3 0, .ref 15, .bool true, .int 181 0, .ref 16, .none, .ref 17, .ref 18, .ref 19, .int 191 0, .int 1 0, .str (.ofString "/claim/cut.py") 192] }
noncomputable def q58 : Obj := { cls := .type "function", data := .func { name := .ofString "_wall", qualname := .ofString "_wall", params := fP 0 0, body := .stmts (fB 0 0), scope := fS 0 0, globals := 3, closure := [], defaults := .none, kwdefaults := .none, pyModule := .str (.ofString "__main__") 164, code := .ref 20 } }
noncomputable def q59 : Obj := { cls := .type "tuple", data := .seq #[.type "Exception"] }
noncomputable def q60 : Obj := { cls := .type "builtin_function_or_method", data := .fields #[.builtin "type.__prepare__", .type "type"] }
noncomputable def q61 (P : Params) : Obj := { cls := .type "dict", data := .dict #[⟨PyData.keyHash P (.ofString "__module__"), .str (.ofString "__module__") 203, .str (.ofString "thinstack.errors") 194⟩, ⟨PyData.keyHash P (.ofString "__qualname__"), .str (.ofString "__qualname__") 205, .str (.ofString "StackError") 204⟩, ⟨PyData.keyHash P (.ofString "__firstlineno__"), .str (.ofString "__firstlineno__") 207, .int 5 206⟩, ⟨PyData.keyHash P (.ofString "__init__"), .str (.ofString "__init__") 215, .ref 35⟩, ⟨PyData.keyHash P (.ofString "__static_attributes__"), .str (.ofString "__static_attributes__") 217, .ref 36⟩] 5 }
noncomputable def q63 : Obj := { cls := .none, data := .fields #[.int 7 0, .int 4 0, .ref 34] }
noncomputable def q64 : Obj := { cls := .type "code", data := .fields #[.str (.ofString "StackError") 198, .str (.ofString "StackError") 199, .str (.ofString "/claim/cut.py") 200, .int 5 0, .int 0 0, .int 0 0, .int 0 0, .int 0 0, .ref 25, .bool false, .int 181 0, .ref 26, .none, .none, .none, .none, .int 201 0, .int 5 0, .str (.ofString "/claim/cut.py") 202] }
noncomputable def q65 : Obj := { cls := .type "frame", slots := #[some (.ref 27), some (.ref 3), some (.ref 24), none, some (.str (.ofString "thinstack.errors") 194), none, some (.ref 0)] }
noncomputable def q68 : Obj := { cls := .type "tuple", data := .seq #[.str (.ofString "self") 211, .str (.ofString "message") 212] }
noncomputable def q70 : Obj := { cls := .none, data := .func { name := .ofString "__init__", qualname := .ofString "StackError.__init__", params := fP 2 1, body := .stmts (fB 2 1), scope := fS 2 1, globals := 0, closure := [], defaults := .none, kwdefaults := .none } }
noncomputable def q71 : Obj := { cls := .type "code", data := .fields #[.str (.ofString "__init__") 208, .str (.ofString "StackError.__init__") 209, .str (.ofString "/claim/cut.py") 210, .int 7 0, .int 2 0, .int 0 0, .int 0 0, .int 3 0, .ref 29, .bool true, .int 181 0, .ref 30, .none, .ref 31, .ref 32, .ref 33, .int 213 0, .int 7 0, .str (.ofString "/claim/cut.py") 214] }
noncomputable def q72 : Obj := { cls := .type "function", data := .func { name := .ofString "__init__", qualname := .ofString "StackError.__init__", params := fP 2 1, body := .stmts (fB 2 1), scope := fS 2 1, globals := 3, closure := [], defaults := .none, kwdefaults := .none, pyModule := .str (.ofString "thinstack.errors") 194, code := .ref 34 } }
noncomputable def q73 : Obj := { cls := .type "tuple", data := .seq #[.str (.ofString "message") 216] }
noncomputable def q74 (P : Params) : Obj := { cls := .type "dict", data := .dict #[⟨PyData.keyHash P (.ofString "__module__"), .str (.ofString "__module__") 203, .str (.ofString "thinstack.errors") 194⟩, ⟨PyData.keyHash P (.ofString "__firstlineno__"), .str (.ofString "__firstlineno__") 207, .int 5 206⟩, ⟨PyData.keyHash P (.ofString "__init__"), .str (.ofString "__init__") 215, .ref 35⟩, ⟨PyData.keyHash P (.ofString "__static_attributes__"), .str (.ofString "__static_attributes__") 217, .ref 36⟩, ⟨PyData.keyHash P (.ofString "__weakref__"), .str (.ofString "__weakref__") 219, .ref 39⟩, ⟨PyData.keyHash P (.ofString "__doc__"), .str (.ofString "__doc__") 220, .none⟩] 3 }
noncomputable def q76 : Obj := { cls := .type "getset_descriptor", data := .fields #[.str (.ofString "__weakref__") 218, .ref 38, .builtin "ExceptionGroup.__weakref__", .none] }
noncomputable def q77 : Obj := { cls := .type "super", data := .fields #[.ref 38, .ref 38, .ref 38] }
noncomputable def q78 : Obj := { cls := .type "builtin_function_or_method", data := .fields #[.builtin "object.__init_subclass__", .ref 38] }
noncomputable def q82 : Obj := { cls := .type "tuple", data := .seq #[.ref 38] }
noncomputable def q84 (P : Params) : Obj := { cls := .type "dict", data := .dict #[⟨PyData.keyHash P (.ofString "__module__"), .str (.ofString "__module__") 232, .str (.ofString "thinstack.errors") 194⟩, ⟨PyData.keyHash P (.ofString "__qualname__"), .str (.ofString "__qualname__") 234, .str (.ofString "FormError") 233⟩, ⟨PyData.keyHash P (.ofString "__firstlineno__"), .str (.ofString "__firstlineno__") 236, .int 9 235⟩, ⟨PyData.keyHash P (.ofString "__static_attributes__"), .str (.ofString "__static_attributes__") 237, .ref 49⟩] 4 }
noncomputable def q87 : Obj := { cls := .type "code", data := .fields #[.str (.ofString "FormError") 227, .str (.ofString "FormError") 228, .str (.ofString "/claim/cut.py") 229, .int 9 0, .int 0 0, .int 0 0, .int 0 0, .int 0 0, .ref 45, .bool false, .int 181 0, .ref 46, .none, .none, .none, .none, .int 230 0, .int 9 0, .str (.ofString "/claim/cut.py") 231] }
noncomputable def q88 : Obj := { cls := .type "frame", slots := #[some (.ref 47), some (.ref 3), some (.ref 44), none, some (.str (.ofString "thinstack.errors") 194), none, some (.ref 0)] }
noncomputable def q90 (P : Params) : Obj := { cls := .type "dict", data := .dict #[⟨PyData.keyHash P (.ofString "__module__"), .str (.ofString "__module__") 232, .str (.ofString "thinstack.errors") 194⟩, ⟨PyData.keyHash P (.ofString "__firstlineno__"), .str (.ofString "__firstlineno__") 236, .int 9 235⟩, ⟨PyData.keyHash P (.ofString "__static_attributes__"), .str (.ofString "__static_attributes__") 237, .ref 49⟩, ⟨PyData.keyHash P (.ofString "__doc__"), .str (.ofString "__doc__") 238, .none⟩] 2 }
noncomputable def q91 : Obj := { cls := .type "type", data := .cls { name := .ofString "FormError", bases := [.ref 38], mro := [.ref 51, .ref 38, .type "Exception", .type "BaseException", .type "object"], ns := 50, qualname := .ofString "FormError" }, slots := #[some (.ref 42), none, some (.str (.ofString "FormError") 225), some (.str (.ofString "FormError") 233), some (.builtin "Exception.__new__"), some (.bool true)] }
noncomputable def q92 : Obj := { cls := .type "super", data := .fields #[.ref 51, .ref 51, .ref 51] }
noncomputable def q93 : Obj := { cls := .type "builtin_function_or_method", data := .fields #[.builtin "object.__init_subclass__", .ref 51] }
noncomputable def q99 (P : Params) : Obj := { cls := .type "dict", data := .dict #[⟨PyData.keyHash P (.ofString "__module__"), .str (.ofString "__module__") 248, .str (.ofString "thinstack.errors") 194⟩, ⟨PyData.keyHash P (.ofString "__qualname__"), .str (.ofString "__qualname__") 250, .str (.ofString "SizeError") 249⟩, ⟨PyData.keyHash P (.ofString "__firstlineno__"), .str (.ofString "__firstlineno__") 252, .int 11 251⟩, ⟨PyData.keyHash P (.ofString "__static_attributes__"), .str (.ofString "__static_attributes__") 253, .ref 61⟩] 4 }
noncomputable def q102 : Obj := { cls := .type "code", data := .fields #[.str (.ofString "SizeError") 243, .str (.ofString "SizeError") 244, .str (.ofString "/claim/cut.py") 245, .int 11 0, .int 0 0, .int 0 0, .int 0 0, .int 0 0, .ref 57, .bool false, .int 181 0, .ref 58, .none, .none, .none, .none, .int 246 0, .int 11 0, .str (.ofString "/claim/cut.py") 247] }
noncomputable def q103 : Obj := { cls := .type "frame", slots := #[some (.ref 59), some (.ref 3), some (.ref 56), none, some (.str (.ofString "thinstack.errors") 194), none, some (.ref 0)] }
noncomputable def q105 (P : Params) : Obj := { cls := .type "dict", data := .dict #[⟨PyData.keyHash P (.ofString "__module__"), .str (.ofString "__module__") 248, .str (.ofString "thinstack.errors") 194⟩, ⟨PyData.keyHash P (.ofString "__firstlineno__"), .str (.ofString "__firstlineno__") 252, .int 11 251⟩, ⟨PyData.keyHash P (.ofString "__static_attributes__"), .str (.ofString "__static_attributes__") 253, .ref 61⟩, ⟨PyData.keyHash P (.ofString "__doc__"), .str (.ofString "__doc__") 254, .none⟩] 2 }
noncomputable def q106 : Obj := { cls := .type "type", data := .cls { name := .ofString "SizeError", bases := [.ref 38], mro := [.ref 63, .ref 38, .type "Exception", .type "BaseException", .type "object"], ns := 62, qualname := .ofString "SizeError" }, slots := #[some (.ref 54), none, some (.str (.ofString "SizeError") 241), some (.str (.ofString "SizeError") 249), some (.builtin "Exception.__new__"), some (.bool true)] }
noncomputable def q107 : Obj := { cls := .type "super", data := .fields #[.ref 63, .ref 63, .ref 63] }
noncomputable def q108 : Obj := { cls := .type "builtin_function_or_method", data := .fields #[.builtin "object.__init_subclass__", .ref 63] }
noncomputable def q109 (P : Params) : Obj := { cls := .type "dict", data := .dict #[⟨PyData.keyHash P (.ofString "__name__"), .str (.ofString "__name__") 165, .str (.ofString "thinstack.sums") 314⟩, ⟨PyData.keyHash P (.ofString "__doc__"), .str (.ofString "__doc__") 166, .none⟩, ⟨PyData.keyHash P (.ofString "__package__"), .str (.ofString "__package__") 167, .none⟩, ⟨PyData.keyHash P (.ofString "__loader__"), .str (.ofString "__loader__") 168, .builtin "__main__.__loader__#opaque"⟩, ⟨PyData.keyHash P (.ofString "__spec__"), .str (.ofString "__spec__") 169, .none⟩, ⟨PyData.keyHash P (.ofString "__annotations__"), .str (.ofString "__annotations__") 170, .ref 6⟩, ⟨PyData.keyHash P (.ofString "__builtins__"), .str (.ofString "__builtins__") 171, .ref 4⟩, ⟨PyData.keyHash P (.ofString "__file__"), .str (.ofString "__file__") 173, .str (.ofString "/claim/cut.py") 172⟩, ⟨PyData.keyHash P (.ofString "__cached__"), .str (.ofString "__cached__") 174, .none⟩, ⟨PyData.keyHash P (.ofString "_wall"), .str (.ofString "_wall") 193, .ref 21⟩, ⟨PyData.keyHash P (.ofString "StackError"), .str (.ofString "StackError") 224, .ref 38⟩, ⟨PyData.keyHash P (.ofString "FormError"), .str (.ofString "FormError") 240, .ref 51⟩, ⟨PyData.keyHash P (.ofString "SizeError"), .str (.ofString "SizeError") 256, .ref 63⟩, ⟨PyData.keyHash P (.ofString "RouteError"), .str (.ofString "RouteError") 272, .ref 75⟩, ⟨PyData.keyHash P (.ofString "put16"), .str (.ofString "put16") 281, .ref 84⟩, ⟨PyData.keyHash P (.ofString "put32"), .str (.ofString "put32") 288, .ref 91⟩, ⟨PyData.keyHash P (.ofString "need"), .str (.ofString "need") 297, .ref 98⟩, ⟨PyData.keyHash P (.ofString "get16"), .str (.ofString "get16") 305, .ref 105⟩, ⟨PyData.keyHash P (.ofString "get32"), .str (.ofString "get32") 313, .ref 112⟩, ⟨PyData.keyHash P (.ofString "ALL_ONES"), .str (.ofString "ALL_ONES") 317, .int 65535 316⟩] 20 }
noncomputable def q110 : Obj := { cls := .none, data := .fields #[.int 1 0, .int 0 0, .ref 20, .int 5 0, .int 0 0, .ref 27, .int 9 0, .int 0 0, .ref 47, .int 11 0, .int 0 0, .ref 59, .int 13 0, .int 0 0, .ref 71, .int 16 0, .int 0 0, .ref 83, .int 18 0, .int 0 0, .ref 90, .int 20 0, .int 0 0, .ref 97, .int 23 0, .int 0 0, .ref 104, .int 26 0, .int 0 0, .ref 111] }
noncomputable def q111 : Obj := { cls := .type "type", data := .cls { name := .ofString "StackError", bases := [.type "Exception"], mro := [.ref 38, .type "Exception", .type "BaseException", .type "object"], ns := 37, qualname := .ofString "StackError", subclasses := [.ref 51, .ref 63, .ref 75] }, slots := #[some (.ref 22), none, some (.str (.ofString "StackError") 196), some (.str (.ofString "StackError") 204), some (.builtin "Exception.__new__"), some (.bool true)] }
noncomputable def q114 (P : Params) : Obj := { cls := .type "dict", data := .dict #[⟨PyData.keyHash P (.ofString "__module__"), .str (.ofString "__module__") 264, .str (.ofString "thinstack.errors") 194⟩, ⟨PyData.keyHash P (.ofString "__qualname__"), .str (.ofString "__qualname__") 266, .str (.ofString "RouteError") 265⟩, ⟨PyData.keyHash P (.ofString "__firstlineno__"), .str (.ofString "__firstlineno__") 268, .int 13 267⟩, ⟨PyData.keyHash P (.ofString "__static_attributes__"), .str (.ofString "__static_attributes__") 269, .ref 73⟩] 4 }
noncomputable def q117 : Obj := { cls := .type "code", data := .fields #[.str (.ofString "RouteError") 259, .str (.ofString "RouteError") 260, .str (.ofString "/claim/cut.py") 261, .int 13 0, .int 0 0, .int 0 0, .int 0 0, .int 0 0, .ref 69, .bool false, .int 181 0, .ref 70, .none, .none, .none, .none, .int 262 0, .int 13 0, .str (.ofString "/claim/cut.py") 263] }
noncomputable def q118 : Obj := { cls := .type "frame", slots := #[some (.ref 71), some (.ref 3), some (.ref 68), none, some (.str (.ofString "thinstack.errors") 194), none, some (.ref 0)] }
noncomputable def q120 (P : Params) : Obj := { cls := .type "dict", data := .dict #[⟨PyData.keyHash P (.ofString "__module__"), .str (.ofString "__module__") 264, .str (.ofString "thinstack.errors") 194⟩, ⟨PyData.keyHash P (.ofString "__firstlineno__"), .str (.ofString "__firstlineno__") 268, .int 13 267⟩, ⟨PyData.keyHash P (.ofString "__static_attributes__"), .str (.ofString "__static_attributes__") 269, .ref 73⟩, ⟨PyData.keyHash P (.ofString "__doc__"), .str (.ofString "__doc__") 270, .none⟩] 2 }
noncomputable def q121 : Obj := { cls := .type "type", data := .cls { name := .ofString "RouteError", bases := [.ref 38], mro := [.ref 75, .ref 38, .type "Exception", .type "BaseException", .type "object"], ns := 74, qualname := .ofString "RouteError" }, slots := #[some (.ref 66), none, some (.str (.ofString "RouteError") 257), some (.str (.ofString "RouteError") 265), some (.builtin "Exception.__new__"), some (.bool true)] }
noncomputable def q122 : Obj := { cls := .type "super", data := .fields #[.ref 75, .ref 75, .ref 75] }
noncomputable def q123 : Obj := { cls := .type "builtin_function_or_method", data := .fields #[.builtin "object.__init_subclass__", .ref 75] }
noncomputable def q126 : Obj := { cls := .type "tuple", data := .seq #[.str (.ofString "n") 278] }
noncomputable def q128 : Obj := { cls := .none, data := .func { name := .ofString "put16", qualname := .ofString "put16", params := fP 7 0, body := .stmts (fB 7 0), scope := fS 7 0, globals := 0, closure := [], defaults := .none, kwdefaults := .none } }
noncomputable def q129 : Obj := { cls := .type "code", data := .fields #[.str (.ofString "put16") 275, .str (.ofString "put16") 276, .str (.ofString "/claim/cut.py") 277, .int 16 0, .int 1 0, .int 0 0, .int 0 0, .int 3 0, .ref 78, .bool true, .int 181 0, .ref 79, .none, .ref 80, .ref 81, .ref 82, .int 279 0, .int 16 0, .str (.ofString "/claim/cut.py") 280] }
noncomputable def q130 : Obj := { cls := .type "function", data := .func { name := .ofString "put16", qualname := .ofString "put16", params := fP 7 0, body := .stmts (fB 7 0), scope := fS 7 0, globals := 3, closure := [], defaults := .none, kwdefaults := .none, pyModule := .str (.ofString "thinstack.octets") 273, code := .ref 83 } }
noncomputable def q133 : Obj := { cls := .type "tuple", data := .seq #[.str (.ofString "n") 285] }
noncomputable def q135 : Obj := { cls := .none, data := .func { name := .ofString "put32", qualname := .ofString "put32", params := fP 8 0, body := .stmts (fB 8 0), scope := fS 8 0, globals := 0, closure := [], defaults := .none, kwdefaults := .none } }
noncomputable def q136 : Obj := { cls := .type "code", data := .fields #[.str (.ofString "put32") 282, .str (.ofString "put32") 283, .str (.ofString "/claim/cut.py") 284, .int 18 0, .int 1 0, .int 0 0, .int 0 0, .int 3 0, .ref 85, .bool true, .int 181 0, .ref 86, .none, .ref 87, .ref 88, .ref 89, .int 286 0, .int 18 0, .str (.ofString "/claim/cut.py") 287] }
noncomputable def q137 : Obj := { cls := .type "function", data := .func { name := .ofString "put32", qualname := .ofString "put32", params := fP 8 0, body := .stmts (fB 8 0), scope := fS 8 0, globals := 3, closure := [], defaults := .none, kwdefaults := .none, pyModule := .str (.ofString "thinstack.octets") 273, code := .ref 90 } }
noncomputable def q140 : Obj := { cls := .type "tuple", data := .seq #[.str (.ofString "octets") 292, .str (.ofString "at") 293, .str (.ofString "size") 294] }
noncomputable def q142 : Obj := { cls := .none, data := .func { name := .ofString "need", qualname := .ofString "need", params := fP 9 0, body := .stmts (fB 9 0), scope := fS 9 0, globals := 0, closure := [], defaults := .none, kwdefaults := .none } }
noncomputable def q143 : Obj := { cls := .type "code", data := .fields #[.str (.ofString "need") 289, .str (.ofString "need") 290, .str (.ofString "/claim/cut.py") 291, .int 20 0, .int 3 0, .int 0 0, .int 0 0, .int 3 0, .ref 92, .bool true, .int 181 0, .ref 93, .none, .ref 94, .ref 95, .ref 96, .int 295 0, .int 20 0, .str (.ofString "/claim/cut.py") 296] }
noncomputable def q144 : Obj := { cls := .type "function", data := .func { name := .ofString "need", qualname := .ofString "need", params := fP 9 0, body := .stmts (fB 9 0), scope := fS 9 0, globals := 3, closure := [], defaults := .none, kwdefaults := .none, pyModule := .str (.ofString "thinstack.octets") 273, code := .ref 97 } }
noncomputable def q147 : Obj := { cls := .type "tuple", data := .seq #[.str (.ofString "octets") 301, .str (.ofString "at") 302] }
noncomputable def q149 : Obj := { cls := .none, data := .func { name := .ofString "get16", qualname := .ofString "get16", params := fP 10 0, body := .stmts (fB 10 0), scope := fS 10 0, globals := 0, closure := [], defaults := .none, kwdefaults := .none } }
noncomputable def q150 : Obj := { cls := .type "code", data := .fields #[.str (.ofString "get16") 298, .str (.ofString "get16") 299, .str (.ofString "/claim/cut.py") 300, .int 23 0, .int 2 0, .int 0 0, .int 0 0, .int 3 0, .ref 99, .bool true, .int 181 0, .ref 100, .none, .ref 101, .ref 102, .ref 103, .int 303 0, .int 23 0, .str (.ofString "/claim/cut.py") 304] }
noncomputable def q151 : Obj := { cls := .type "function", data := .func { name := .ofString "get16", qualname := .ofString "get16", params := fP 10 0, body := .stmts (fB 10 0), scope := fS 10 0, globals := 3, closure := [], defaults := .none, kwdefaults := .none, pyModule := .str (.ofString "thinstack.octets") 273, code := .ref 104 } }
noncomputable def q154 : Obj := { cls := .type "tuple", data := .seq #[.str (.ofString "octets") 309, .str (.ofString "at") 310] }
noncomputable def q156 : Obj := { cls := .none, data := .func { name := .ofString "get32", qualname := .ofString "get32", params := fP 11 0, body := .stmts (fB 11 0), scope := fS 11 0, globals := 0, closure := [], defaults := .none, kwdefaults := .none } }
noncomputable def q157 : Obj := { cls := .type "code", data := .fields #[.str (.ofString "get32") 306, .str (.ofString "get32") 307, .str (.ofString "/claim/cut.py") 308, .int 26 0, .int 2 0, .int 0 0, .int 0 0, .int 3 0, .ref 106, .bool true, .int 181 0, .ref 107, .none, .ref 108, .ref 109, .ref 110, .int 311 0, .int 26 0, .str (.ofString "/claim/cut.py") 312] }
noncomputable def q158 : Obj := { cls := .type "function", data := .func { name := .ofString "get32", qualname := .ofString "get32", params := fP 11 0, body := .stmts (fB 11 0), scope := fS 11 0, globals := 3, closure := [], defaults := .none, kwdefaults := .none, pyModule := .str (.ofString "thinstack.octets") 273, code := .ref 111 } }
noncomputable def q163 : Obj := { cls := .type "tuple", data := .seq #[.str (.ofString "total") 321] }
noncomputable def q165 : Obj := { cls := .none, data := .func { name := .ofString "fold", qualname := .ofString "fold", params := fP 14 0, body := .stmts (fB 14 0), scope := fS 14 0, globals := 0, closure := [], defaults := .none, kwdefaults := .none } }
noncomputable def q166 : Obj := { cls := .type "code", data := .fields #[.str (.ofString "fold") 318, .str (.ofString "fold") 319, .str (.ofString "/claim/cut.py") 320, .int 31 0, .int 1 0, .int 0 0, .int 0 0, .int 3 0, .ref 113, .bool true, .int 181 0, .ref 114, .none, .ref 115, .ref 116, .ref 117, .int 322 0, .int 31 0, .str (.ofString "/claim/cut.py") 323] }
noncomputable def q167 : Obj := { cls := .type "function", data := .func { name := .ofString "fold", qualname := .ofString "fold", params := fP 14 0, body := .stmts (fB 14 0), scope := fS 14 0, globals := 3, closure := [], defaults := .none, kwdefaults := .none, pyModule := .str (.ofString "thinstack.sums") 314, code := .ref 118 } }
noncomputable def q168 : Obj := { cls := .type "tuple", data := .seq #[.int 0 325] }
noncomputable def q171 : Obj := { cls := .type "tuple", data := .seq #[.str (.ofString "octets") 329, .str (.ofString "begin") 330, .str (.ofString "total") 331, .str (.ofString "even") 332, .str (.ofString "at") 333] }
noncomputable def q173 : Obj := { cls := .none, data := .func { name := .ofString "ones_sum", qualname := .ofString "ones_sum", params := fP 15 0, body := .stmts (fB 15 0), scope := fS 15 0, globals := 0, closure := [], defaults := .none, kwdefaults := .none } }
noncomputable def q174 : Obj := { cls := .type "code", data := .fields #[.str (.ofString "ones_sum") 326, .str (.ofString "ones_sum") 327, .str (.ofString "/claim/cut.py") 328, .int 35 0, .int 2 0, .int 0 0, .int 0 0, .int 3 0, .ref 121, .bool true, .int 181 0, .ref 122, .none, .ref 123, .ref 124, .ref 125, .int 334 0, .int 35 0, .str (.ofString "/claim/cut.py") 335] }
noncomputable def q175 : Obj := { cls := .type "function", data := .func { name := .ofString "ones_sum", qualname := .ofString "ones_sum", params := fP 15 0, body := .stmts (fB 15 0), scope := fS 15 0, globals := 3, closure := [], defaults := .ref 120, kwdefaults := .none, pyModule := .str (.ofString "thinstack.sums") 314, code := .ref 126 } }
noncomputable def q176 : Obj := { cls := .type "tuple", data := .seq #[.int 0 337] }
noncomputable def q179 : Obj := { cls := .type "tuple", data := .seq #[.str (.ofString "octets") 341, .str (.ofString "begin") 342] }
noncomputable def q181 : Obj := { cls := .none, data := .func { name := .ofString "checksum", qualname := .ofString "checksum", params := fP 16 0, body := .stmts (fB 16 0), scope := fS 16 0, globals := 0, closure := [], defaults := .none, kwdefaults := .none } }
noncomputable def q182 : Obj := { cls := .type "code", data := .fields #[.str (.ofString "checksum") 338, .str (.ofString "checksum") 339, .str (.ofString "/claim/cut.py") 340, .int 43 0, .int 2 0, .int 0 0, .int 0 0, .int 3 0, .ref 129, .bool true, .int 181 0, .ref 130, .none, .ref 131, .ref 132, .ref 133, .int 343 0, .int 43 0, .str (.ofString "/claim/cut.py") 344] }
noncomputable def q183 : Obj := { cls := .type "function", data := .func { name := .ofString "checksum", qualname := .ofString "checksum", params := fP 16 0, body := .stmts (fB 16 0), scope := fS 16 0, globals := 3, closure := [], defaults := .ref 128, kwdefaults := .none, pyModule := .str (.ofString "thinstack.sums") 314, code := .ref 134 } }
noncomputable def q188 (P : Params) : Obj := { cls := .type "dict", data := .dict #[⟨PyData.keyHash P (.ofString "__module__"), .str (.ofString "__module__") 371, .str (.ofString "thinstack.ip_header") 346⟩, ⟨PyData.keyHash P (.ofString "__qualname__"), .str (.ofString "__qualname__") 373, .str (.ofString "IpHeader") 372⟩, ⟨PyData.keyHash P (.ofString "__firstlineno__"), .str (.ofString "__firstlineno__") 375, .int 54 374⟩, ⟨PyData.keyHash P (.ofString "__init__"), .str (.ofString "__init__") 397, .ref 150⟩, ⟨PyData.keyHash P (.ofString "size"), .str (.ofString "size") 404, .ref 157⟩, ⟨PyData.keyHash P (.ofString "is_fragment"), .str (.ofString "is_fragment") 411, .ref 164⟩, ⟨PyData.keyHash P (.ofString "is_first"), .str (.ofString "is_first") 418, .ref 171⟩, ⟨PyData.keyHash P (.ofString "part"), .str (.ofString "part") 428, .ref 178⟩, ⟨PyData.keyHash P (.ofString "row"), .str (.ofString "row") 435, .ref 185⟩, ⟨PyData.keyHash P (.ofString "__static_attributes__"), .str (.ofString "__static_attributes__") 446, .ref 186⟩] 10 }
noncomputable def q190 : Obj := { cls := .none, data := .fields #[.int 56 0, .int 4 0, .ref 149, .int 68 0, .int 4 0, .ref 156, .int 71 0, .int 4 0, .ref 163, .int 74 0, .int 4 0, .ref 170, .int 77 0, .int 4 0, .ref 177, .int 80 0, .int 4 0, .ref 184] }
noncomputable def q191 : Obj := { cls := .type "code", data := .fields #[.str (.ofString "IpHeader") 366, .str (.ofString "IpHeader") 367, .str (.ofString "/claim/cut.py") 368, .int 54 0, .int 0 0, .int 0 0, .int 0 0, .int 0 0, .ref 139, .bool false, .int 181 0, .ref 140, .none, .none, .none, .none, .int 369 0, .int 54 0, .str (.ofString "/claim/cut.py") 370] }
noncomputable def q192 : Obj := { cls := .type "frame", slots := #[some (.ref 141), some (.ref 3), some (.ref 138), none, some (.str (.ofString "thinstack.ip_header") 346), none, some (.ref 0)] }
noncomputable def q193 : Obj := { cls := .type "tuple", data := .seq #[.int 0 376, .int 64 377, .int 0 378, .bool false, .bool false, .int 0 379, .bytes #[] 380] }
noncomputable def q196 : Obj := { cls := .type "tuple", data := .seq #[.str (.ofString "self") 384, .str (.ofString "source") 385, .str (.ofString "target") 386, .str (.ofString "protocol") 387, .str (.ofString "ident") 388, .str (.ofString "ttl") 389, .str (.ofString "tos") 390, .str (.ofString "dont") 391, .str (.ofString "more") 392, .str (.ofString "offset") 393, .str (.ofString "options") 394] }
noncomputable def q198 : Obj := { cls := .none, data := .func { name := .ofString "__init__", qualname := .ofString "IpHeader.__init__", params := fP 26 1, body := .stmts (fB 26 1), scope := fS 26 1, globals := 0, closure := [], defaults := .none, kwdefaults := .none } }
noncomputable def q199 : Obj := { cls := .type "code", data := .fields #[.str (.ofString "__init__") 381, .str (.ofString "IpHeader.__init__") 382, .str (.ofString "/claim/cut.py") 383, .int 56 0, .int 11 0, .int 0 0, .int 0 0, .int 3 0, .ref 144, .bool true, .int 181 0, .ref 145, .none, .ref 146, .ref 147, .ref 148, .int 395 0, .int 56 0, .str (.ofString "/claim/cut.py") 396] }
noncomputable def q200 : Obj := { cls := .type "function", data := .func { name := .ofString "__init__", qualname := .ofString "IpHeader.__init__", params := fP 26 1, body := .stmts (fB 26 1), scope := fS 26 1, globals := 3, closure := [], defaults := .ref 143, kwdefaults := .none, pyModule := .str (.ofString "thinstack.ip_header") 346, code := .ref 149 } }
noncomputable def q203 : Obj := { cls := .type "tuple", data := .seq #[.str (.ofString "self") 401] }
noncomputable def q205 : Obj := { cls := .none, data := .func { name := .ofString "size", qualname := .ofString "IpHeader.size", params := fP 26 2, body := .stmts (fB 26 2), scope := fS 26 2, globals := 0, closure := [], defaults := .none, kwdefaults := .none } }
noncomputable def q206 : Obj := { cls := .type "code", data := .fields #[.str (.ofString "size") 398, .str (.ofString "IpHeader.size") 399, .str (.ofString "/claim/cut.py") 400, .int 68 0, .int 1 0, .int 0 0, .int 0 0, .int 3 0, .ref 151, .bool true, .int 181 0, .ref 152, .none, .ref 153, .ref 154, .ref 155, .int 402 0, .int 68 0, .str (.ofString "/claim/cut.py") 403] }
noncomputable def q207 : Obj := { cls := .type "function", data := .func { name := .ofString "size", qualname := .ofString "IpHeader.size", params := fP 26 2, body := .stmts (fB 26 2), scope := fS 26 2, globals := 3, closure := [], defaults := .none, kwdefaults := .none, pyModule := .str (.ofString "thinstack.ip_header") 346, code := .ref 156 } }
noncomputable def q210 : Obj := { cls := .type "tuple", data := .seq #[.str (.ofString "self") 408] }
noncomputable def q212 : Obj := { cls := .none, data := .func { name := .ofString "is_fragment", qualname := .ofString "IpHeader.is_fragment", params := fP 26 3, body := .stmts (fB 26 3), scope := fS 26 3, globals := 0, closure := [], defaults := .none, kwdefaults := .none } }
noncomputable def q213 : Obj := { cls := .type "code", data := .fields #[.str (.ofString "is_fragment") 405, .str (.ofString "IpHeader.is_fragment") 406, .str (.ofString "/claim/cut.py") 407, .int 71 0, .int 1 0, .int 0 0, .int 0 0, .int 3 0, .ref 158, .bool true, .int 181 0, .ref 159, .none, .ref 160, .ref 161, .ref 162, .int 409 0, .int 71 0, .str (.ofString "/claim/cut.py") 410] }
noncomputable def q214 : Obj := { cls := .type "function", data := .func { name := .ofString "is_fragment", qualname := .ofString "IpHeader.is_fragment", params := fP 26 3, body := .stmts (fB 26 3), scope := fS 26 3, globals := 3, closure := [], defaults := .none, kwdefaults := .none, pyModule := .str (.ofString "thinstack.ip_header") 346, code := .ref 163 } }
noncomputable def q217 : Obj := { cls := .type "tuple", data := .seq #[.str (.ofString "self") 415] }
noncomputable def q219 : Obj := { cls := .none, data := .func { name := .ofString "is_first", qualname := .ofString "IpHeader.is_first", params := fP 26 4, body := .stmts (fB 26 4), scope := fS 26 4, globals := 0, closure := [], defaults := .none, kwdefaults := .none } }
noncomputable def q220 : Obj := { cls := .type "code", data := .fields #[.str (.ofString "is_first") 412, .str (.ofString "IpHeader.is_first") 413, .str (.ofString "/claim/cut.py") 414, .int 74 0, .int 1 0, .int 0 0, .int 0 0, .int 3 0, .ref 165, .bool true, .int 181 0, .ref 166, .none, .ref 167, .ref 168, .ref 169, .int 416 0, .int 74 0, .str (.ofString "/claim/cut.py") 417] }
noncomputable def q221 : Obj := { cls := .type "function", data := .func { name := .ofString "is_first", qualname := .ofString "IpHeader.is_first", params := fP 26 4, body := .stmts (fB 26 4), scope := fS 26 4, globals := 3, closure := [], defaults := .none, kwdefaults := .none, pyModule := .str (.ofString "thinstack.ip_header") 346, code := .ref 170 } }
noncomputable def q224 : Obj := { cls := .type "tuple", data := .seq #[.str (.ofString "self") 422, .str (.ofString "more") 423, .str (.ofString "offset") 424, .str (.ofString "options") 425] }
noncomputable def q226 : Obj := { cls := .none, data := .func { name := .ofString "part", qualname := .ofString "IpHeader.part", params := fP 26 5, body := .stmts (fB 26 5), scope := fS 26 5, globals := 0, closure := [], defaults := .none, kwdefaults := .none } }
noncomputable def q227 : Obj := { cls := .type "code", data := .fields #[.str (.ofString "part") 419, .str (.ofString "IpHeader.part") 420, .str (.ofString "/claim/cut.py") 421, .int 77 0, .int 4 0, .int 0 0, .int 0 0, .int 3 0, .ref 172, .bool true, .int 181 0, .ref 173, .none, .ref 174, .ref 175, .ref 176, .int 426 0, .int 77 0, .str (.ofString "/claim/cut.py") 427] }
noncomputable def q228 : Obj := { cls := .type "function", data := .func { name := .ofString "part", qualname := .ofString "IpHeader.part", params := fP 26 5, body := .stmts (fB 26 5), scope := fS 26 5, globals := 3, closure := [], defaults := .none, kwdefaults := .none, pyModule := .str (.ofString "thinstack.ip_header") 346, code := .ref 177 } }
noncomputable def q231 : Obj := { cls := .type "tuple", data := .seq #[.str (.ofString "self") 432] }
noncomputable def q233 : Obj := { cls := .none, data := .func { name := .ofString "row", qualname := .ofString "IpHeader.row", params := fP 26 6, body := .stmts (fB 26 6), scope := fS 26 6, globals := 0, closure := [], defaults := .none, kwdefaults := .none } }
noncomputable def q234 : Obj := { cls := .type "code", data := .fields #[.str (.ofString "row") 429, .str (.ofString "IpHeader.row") 430, .str (.ofString "/claim/cut.py") 431, .int 80 0, .int 1 0, .int 0 0, .int 0 0, .int 3 0, .ref 179, .bool true, .int 181 0, .ref 180, .none, .ref 181, .ref 182, .ref 183, .int 433 0, .int 80 0, .str (.ofString "/claim/cut.py") 434] }
noncomputable def q235 : Obj := { cls := .type "function", data := .func { name := .ofString "row", qualname := .ofString "IpHeader.row", params := fP 26 6, body := .stmts (fB 26 6), scope := fS 26 6, globals := 3, closure := [], defaults := .none, kwdefaults := .none, pyModule := .str (.ofString "thinstack.ip_header") 346, code := .ref 184 } }
noncomputable def q236 : Obj := { cls := .type "tuple", data := .seq #[.str (.ofString "dont") 436, .str (.ofString "ident") 437, .str (.ofString "more") 438, .str (.ofString "offset") 439, .str (.ofString "options") 440, .str (.ofString "protocol") 441, .str (.ofString "source") 442, .str (.ofString "target") 443, .str (.ofString "tos") 444, .str (.ofString "ttl") 445] }
noncomputable def q237 (P : Params) : Obj := { cls := .type "dict", data := .dict #[⟨PyData.keyHash P (.ofString "__module__"), .str (.ofString "__module__") 371, .str (.ofString "thinstack.ip_header") 346⟩, ⟨PyData.keyHash P (.ofString "__firstlineno__"), .str (.ofString "__firstlineno__") 375, .int 54 374⟩, ⟨PyData.keyHash P (.ofString "__init__"), .str (.ofString "__init__") 397, .ref 150⟩, ⟨PyData.keyHash P (.ofString "size"), .str (.ofString "size") 404, .ref 157⟩, ⟨PyData.keyHash P (.ofString "is_fragment"), .str (.ofString "is_fragment") 411, .ref 164⟩, ⟨PyData.keyHash P (.ofString "is_first"), .str (.ofString "is_first") 418, .ref 171⟩, ⟨PyData.keyHash P (.ofString "part"), .str (.ofString "part") 428, .ref 178⟩, ⟨PyData.keyHash P (.ofString "row"), .str (.ofString "row") 435, .ref 185⟩, ⟨PyData.keyHash P (.ofString "__static_attributes__"), .str (.ofString "__static_attributes__") 446, .ref 186⟩, ⟨PyData.keyHash P (.ofString "__dict__"), .str (.ofString "__dict__") 448, .ref 189⟩, ⟨PyData.keyHash P (.ofString "__weakref__"), .str (.ofString "__weakref__") 450, .ref 190⟩, ⟨PyData.keyHash P (.ofString "__doc__"), .str (.ofString "__doc__") 451, .none⟩] 4 }
noncomputable def q238 : Obj := { cls := .type "type", data := .cls { name := .ofString "IpHeader", bases := [.type "object"], mro := [.ref 188, .type "object"], ns := 187, qualname := .ofString "IpHeader" }, slots := #[none, none, some (.str (.ofString "IpHeader") 364), some (.str (.ofString "IpHeader") 372), some (.builtin "object.__new__"), some (.bool true)] }
noncomputable def q239 : Obj := { cls := .type "getset_descriptor", data := .fields #[.str (.ofString "__dict__") 447, .ref 188, .builtin "function.__dict__", .builtin "function.__dict__#set"] }
noncomputable def q240 : Obj := { cls := .type "getset_descriptor", data := .fields #[.str (.ofString "__weakref__") 449, .ref 188, .builtin "ExceptionGroup.__weakref__", .none] }
noncomputable def q241 : Obj := { cls := .type "super", data := .fields #[.ref 188, .ref 188, .ref 188] }
noncomputable def q242 : Obj := { cls := .type "builtin_function_or_method", data := .fields #[.builtin "object.__init_subclass__", .ref 188] }
noncomputable def q243 (P : Params) : Obj := { cls := .type "dict", data := .dict #[⟨PyData.keyHash P (.ofString "__name__"), .str (.ofString "__name__") 165, .str (.ofString "thinstack.ip_options") 519⟩, ⟨PyData.keyHash P (.ofString "__doc__"), .str (.ofString "__doc__") 166, .none⟩, ⟨PyData.keyHash P (.ofString "__package__"), .str (.ofString "__package__") 167, .none⟩, ⟨PyData.keyHash P (.ofString "__loader__"), .str (.ofString "__loader__") 168, .builtin "__main__.__loader__#opaque"⟩, ⟨PyData.keyHash P (.ofString "__spec__"), .str (.ofString "__spec__") 169, .none⟩, ⟨PyData.keyHash P (.ofString "__annotations__"), .str (.ofString "__annotations__") 170, .ref 6⟩, ⟨PyData.keyHash P (.ofString "__builtins__"), .str (.ofString "__builtins__") 171, .ref 4⟩, ⟨PyData.keyHash P (.ofString "__file__"), .str (.ofString "__file__") 173, .str (.ofString "/claim/cut.py") 172⟩, ⟨PyData.keyHash P (.ofString "__cached__"), .str (.ofString "__cached__") 174, .none⟩, ⟨PyData.keyHash P (.ofString "_wall"), .str (.ofString "_wall") 193, .ref 21⟩, ⟨PyData.keyHash P (.ofString "StackError"), .str (.ofString "StackError") 224, .ref 38⟩, ⟨PyData.keyHash P (.ofString "FormError"), .str (.ofString "FormError") 240, .ref 51⟩, ⟨PyData.keyHash P (.ofString "SizeError"), .str (.ofString "SizeError") 256, .ref 63⟩, ⟨PyData.keyHash P (.ofString "RouteError"), .str (.ofString "RouteError") 272, .ref 75⟩, ⟨PyData.keyHash P (.ofString "put16"), .str (.ofString "put16") 281, .ref 84⟩, ⟨PyData.keyHash P (.ofString "put32"), .str (.ofString "put32") 288, .ref 91⟩, ⟨PyData.keyHash P (.ofString "need"), .str (.ofString "need") 297, .ref 98⟩, ⟨PyData.keyHash P (.ofString "get16"), .str (.ofString "get16") 305, .ref 105⟩, ⟨PyData.keyHash P (.ofString "get32"), .str (.ofString "get32") 313, .ref 112⟩, ⟨PyData.keyHash P (.ofString "ALL_ONES"), .str (.ofString "ALL_ONES") 317, .int 65535 316⟩, ⟨PyData.keyHash P (.ofString "fold"), .str (.ofString "fold") 324, .ref 119⟩, ⟨PyData.keyHash P (.ofString "ones_sum"), .str (.ofString "ones_sum") 336, .ref 127⟩, ⟨PyData.keyHash P (.ofString "checksum"), .str (.ofString "checksum") 345, .ref 135⟩, ⟨PyData.keyHash P (.ofString "VERSION"), .str (.ofString "VERSION") 349, .int 4 348⟩, ⟨PyData.keyHash P (.ofString "LEAST_HEAD"), .str (.ofString "LEAST_HEAD") 351, .int 20 350⟩, ⟨PyData.keyHash P (.ofString "MOST_HEAD"), .str (.ofString "MOST_HEAD") 353, .int 60 352⟩, ⟨PyData.keyHash P (.ofString "MOST_TOTAL"), .str (.ofString "MOST_TOTAL") 355, .int 65535 354⟩, ⟨PyData.keyHash P (.ofString "DONT_BIT"), .str (.ofString "DONT_BIT") 357, .int 16384 356⟩, ⟨PyData.keyHash P (.ofString "MORE_BIT"), .str (.ofString "MORE_BIT") 359, .int 8192 358⟩, ⟨PyData.keyHash P (.ofString "PLACE_BITS"), .str (.ofString "PLACE_BITS") 361, .int 8191 360⟩, ⟨PyData.keyHash P (.ofString "TTL_PLACE"), .str (.ofString "TTL_PLACE") 363, .int 8 362⟩, ⟨PyData.keyHash P (.ofString "IpHeader"), .str (.ofString "IpHeader") 453, .ref 188⟩, ⟨PyData.keyHash P (.ofString "is_within"), .str (.ofString "is_within") 461, .ref 199⟩, ⟨PyData.keyHash P (.ofString "check_fields"), .str (.ofString "check_fields") 469, .ref 206⟩, ⟨PyData.keyHash P (.ofString "check_size"), .str (.ofString "check_size") 477, .ref 213⟩, ⟨PyData.keyHash P (.ofString "flags_of"), .str (.ofString "flags_of") 485, .ref 220⟩, ⟨PyData.keyHash P (.ofString "pack_ip"), .str (.ofString "pack_ip") 498, .ref 227⟩, ⟨PyData.keyHash P (.ofString "head_size"), .str (.ofString "head_size") 506, .ref 234⟩, ⟨PyData.keyHash P (.ofString "unpack_ip"), .str (.ofString "unpack_ip") 518, .ref 241⟩, ⟨PyData.keyHash P (.ofString "END"), .str (.ofString "END") 522, .int 0 521⟩, ⟨PyData.keyHash P (.ofString "NOTHING"), .str (.ofString "NOTHING") 524, .int 1 523⟩, ⟨PyData.keyHash P (.ofString "MOST_OPTIONS"), .str (.ofString "MOST_OPTIONS") 526, .int 40 525⟩, ⟨PyData.keyHash P (.ofString "COPY_BIT"), .str (.ofString "COPY_BIT") 528, .int 128 527⟩, ⟨PyData.keyHash P (.ofString "is_single"), .str (.ofString "is_single") 535, .ref 248⟩, ⟨PyData.keyHash P (.ofString "read_options"), .str (.ofString "read_options") 546, .ref 255⟩, ⟨PyData.keyHash P (.ofString "size_at"), .str (.ofString "size_at") 555, .ref 262⟩, ⟨PyData.keyHash P (.ofString "write_options"), .str (.ofString "write_options") 565, .ref 269⟩] 47 }
noncomputable def q244 : Obj := { cls := .none, data := .fields #[.int 1 0, .int 0 0, .ref 20, .int 5 0, .int 0 0, .ref 27, .int 9 0, .int 0 0, .ref 47, .int 11 0, .int 0 0, .ref 59, .int 13 0, .int 0 0, .ref 71, .int 16 0, .int 0 0, .ref 83, .int 18 0, .int 0 0, .ref 90, .int 20 0, .int 0 0, .ref 97, .int 23 0, .int 0 0, .ref 104, .int 26 0, .int 0 0, .ref 111, .int 31 0, .int 0 0, .ref 118, .int 35 0, .int 0 0, .ref 126, .int 43 0, .int 0 0, .ref 134, .int 54 0, .int 0 0, .ref 141, .int 82 0, .int 0 0, .ref 198, .int 84 0, .int 0 0, .ref 205, .int 95 0, .int 0 0, .ref 212, .int 100 0, .int 0 0, .ref 219, .int 107 0, .int 0 0, .ref 226, .int 116 0, .int 0 0, .ref 233, .int 125 0, .int 0 0, .ref 240, .int 141 0, .int 0 0, .ref 247, .int 143 0, .int 0 0, .ref 254, .int 156 0, .int 0 0, .ref 261, .int 163 0, .int 0 0, .ref 268] }
noncomputable def q247 : Obj := { cls := .type "tuple", data := .seq #[.str (.ofString "number") 457, .str (.ofString "bits") 458] }
noncomputable def q249 : Obj := { cls := .none, data := .func { name := .ofString "is_within", qualname := .ofString "is_within", params := fP 27 0, body := .stmts (fB 27 0), scope := fS 27 0, globals := 0, closure := [], defaults := .none, kwdefaults := .none } }
noncomputable def q250 : Obj := { cls := .type "code", data := .fields #[.str (.ofString "is_within") 454, .str (.ofString "is_within") 455, .str (.ofString "/claim/cut.py") 456, .int 82 0, .int 2 0, .int 0 0, .int 0 0, .int 3 0, .ref 193, .bool true, .int 181 0, .ref 194, .none, .ref 195, .ref 196, .ref 197, .int 459 0, .int 82 0, .str (.ofString "/claim/cut.py") 460] }
noncomputable def q251 : Obj := { cls := .type "function", data := .func { name := .ofString "is_within", qualname := .ofString "is_within", params := fP 27 0, body := .stmts (fB 27 0), scope := fS 27 0, globals := 3, closure := [], defaults := .none, kwdefaults := .none, pyModule := .str (.ofString "thinstack.ip_header") 346, code := .ref 198 } }
noncomputable def q254 : Obj := { cls := .type "tuple", data := .seq #[.str (.ofString "header") 465, .str (.ofString "number") 466] }
noncomputable def q256 : Obj := { cls := .none, data := .func { name := .ofString "check_fields", qualname := .ofString "check_fields", params := fP 28 0, body := .stmts (fB 28 0), scope := fS 28 0, globals := 0, closure := [], defaults := .none, kwdefaults := .none } }
noncomputable def q257 : Obj := { cls := .type "code", data := .fields #[.str (.ofString "check_fields") 462, .str (.ofString "check_fields") 463, .str (.ofString "/claim/cut.py") 464, .int 84 0, .int 1 0, .int 0 0, .int 0 0, .int 3 0, .ref 200, .bool true, .int 181 0, .ref 201, .none, .ref 202, .ref 203, .ref 204, .int 467 0, .int 84 0, .str (.ofString "/claim/cut.py") 468] }
noncomputable def q258 : Obj := { cls := .type "function", data := .func { name := .ofString "check_fields", qualname := .ofString "check_fields", params := fP 28 0, body := .stmts (fB 28 0), scope := fS 28 0, globals := 3, closure := [], defaults := .none, kwdefaults := .none, pyModule := .str (.ofString "thinstack.ip_header") 346, code := .ref 205 } }
noncomputable def q261 : Obj := { cls := .type "tuple", data := .seq #[.str (.ofString "header") 473, .str (.ofString "payload") 474] }
noncomputable def q263 : Obj := { cls := .none, data := .func { name := .ofString "check_size", qualname := .ofString "check_size", params := fP 29 0, body := .stmts (fB 29 0), scope := fS 29 0, globals := 0, closure := [], defaults := .none, kwdefaults := .none } }
noncomputable def q264 : Obj := { cls := .type "code", data := .fields #[.str (.ofString "check_size") 470, .str (.ofString "check_size") 471, .str (.ofString "/claim/cut.py") 472, .int 95 0, .int 2 0, .int 0 0, .int 0 0, .int 3 0, .ref 207, .bool true, .int 181 0, .ref 208, .none, .ref 209, .ref 210, .ref 211, .int 475 0, .int 95 0, .str (.ofString "/claim/cut.py") 476] }
noncomputable def q265 : Obj := { cls := .type "function", data := .func { name := .ofString "check_size", qualname := .ofString "check_size", params := fP 29 0, body := .stmts (fB 29 0), scope := fS 29 0, globals := 3, closure := [], defaults := .none, kwdefaults := .none, pyModule := .str (.ofString "thinstack.ip_header") 346, code := .ref 212 } }
noncomputable def q268 : Obj := { cls := .type "tuple", data := .seq #[.str (.ofString "header") 481, .str (.ofString "found") 482] }
noncomputable def q270 : Obj := { cls := .none, data := .func { name := .ofString "flags_of", qualname := .ofString "flags_of", params := fP 30 0, body := .stmts (fB 30 0), scope := fS 30 0, globals := 0, closure := [], defaults := .none, kwdefaults := .none } }
noncomputable def q271 : Obj := { cls := .type "code", data := .fields #[.str (.ofString "flags_of") 478, .str (.ofString "flags_of") 479, .str (.ofString "/claim/cut.py") 480, .int 100 0, .int 1 0, .int 0 0, .int 0 0, .int 3 0, .ref 214, .bool true, .int 181 0, .ref 215, .none, .ref 216, .ref 217, .ref 218, .int 483 0, .int 100 0, .str (.ofString "/claim/cut.py") 484] }
noncomputable def q272 : Obj := { cls := .type "function", data := .func { name := .ofString "flags_of", qualname := .ofString "flags_of", params := fP 30 0, body := .stmts (fB 30 0), scope := fS 30 0, globals := 3, closure := [], defaults := .none, kwdefaults := .none, pyModule := .str (.ofString "thinstack.ip_header") 346, code := .ref 219 } }
noncomputable def q275 : Obj := { cls := .type "tuple", data := .seq #[.str (.ofString "header") 489, .str (.ofString "payload") 490, .str (.ofString "first") 491, .str (.ofString "second") 492, .str (.ofString "third") 493, .str (.ofString "behind") 494, .str (.ofString "check") 495] }
noncomputable def q277 : Obj := { cls := .none, data := .func { name := .ofString "pack_ip", qualname := .ofString "pack_ip", params := fP 31 0, body := .stmts (fB 31 0), scope := fS 31 0, globals := 0, closure := [], defaults := .none, kwdefaults := .none } }
noncomputable def q278 : Obj := { cls := .type "code", data := .fields #[.str (.ofString "pack_ip") 486, .str (.ofString "pack_ip") 487, .str (.ofString "/claim/cut.py") 488, .int 107 0, .int 2 0, .int 0 0, .int 0 0, .int 3 0, .ref 221, .bool true, .int 181 0, .ref 222, .none, .ref 223, .ref 224, .ref 225, .int 496 0, .int 107 0, .str (.ofString "/claim/cut.py") 497] }
noncomputable def q279 : Obj := { cls := .type "function", data := .func { name := .ofString "pack_ip", qualname := .ofString "pack_ip", params := fP 31 0, body := .stmts (fB 31 0), scope := fS 31 0, globals := 3, closure := [], defaults := .none, kwdefaults := .none, pyModule := .str (.ofString "thinstack.ip_header") 346, code := .ref 226 } }
noncomputable def q282 : Obj := { cls := .type "tuple", data := .seq #[.str (.ofString "octets") 502, .str (.ofString "size") 503] }
noncomputable def q284 : Obj := { cls := .none, data := .func { name := .ofString "head_size", qualname := .ofString "head_size", params := fP 32 0, body := .stmts (fB 32 0), scope := fS 32 0, globals := 0, closure := [], defaults := .none, kwdefaults := .none } }
noncomputable def q285 : Obj := { cls := .type "code", data := .fields #[.str (.ofString "head_size") 499, .str (.ofString "head_size") 500, .str (.ofString "/claim/cut.py") 501, .int 116 0, .int 1 0, .int 0 0, .int 0 0, .int 3 0, .ref 228, .bool true, .int 181 0, .ref 229, .none, .ref 230, .ref 231, .ref 232, .int 504 0, .int 116 0, .str (.ofString "/claim/cut.py") 505] }
noncomputable def q286 : Obj := { cls := .type "function", data := .func { name := .ofString "head_size", qualname := .ofString "head_size", params := fP 32 0, body := .stmts (fB 32 0), scope := fS 32 0, globals := 3, closure := [], defaults := .none, kwdefaults := .none, pyModule := .str (.ofString "thinstack.ip_header") 346, code := .ref 233 } }
noncomputable def q289 : Obj := { cls := .type "tuple", data := .seq #[.str (.ofString "octets") 510, .str (.ofString "size") 511, .str (.ofString "total") 512, .str (.ofString "flags") 513, .str (.ofString "options") 514, .str (.ofString "header") 515] }
noncomputable def q291 : Obj := { cls := .none, data := .func { name := .ofString "unpack_ip", qualname := .ofString "unpack_ip", params := fP 33 0, body := .stmts (fB 33 0), scope := fS 33 0, globals := 0, closure := [], defaults := .none, kwdefaults := .none } }
noncomputable def q292 : Obj := { cls := .type "code", data := .fields #[.str (.ofString "unpack_ip") 507, .str (.ofString "unpack_ip") 508, .str (.ofString "/claim/cut.py") 509, .int 125 0, .int 1 0, .int 0 0, .int 0 0, .int 3 0, .ref 235, .bool true, .int 181 0, .ref 236, .none, .ref 237, .ref 238, .ref 239, .int 516 0, .int 125 0, .str (.ofString "/claim/cut.py") 517] }
noncomputable def q293 : Obj := { cls := .type "function", data := .func { name := .ofString "unpack_ip", qualname := .ofString "unpack_ip", params := fP 33 0, body := .stmts (fB 33 0), scope := fS 33 0, globals := 3, closure := [], defaults := .none, kwdefaults := .none, pyModule := .str (.ofString "thinstack.ip_header") 346, code := .ref 240 } }
noncomputable def q296 : Obj := { cls := .type "tuple", data := .seq #[.str (.ofString "kind") 532] }
noncomputable def q298 : Obj := { cls := .none, data := .func { name := .ofString "is_single", qualname := .ofString "is_single", params := fP 39 0, body := .stmts (fB 39 0), scope := fS 39 0, globals := 0, closure := [], defaults := .none, kwdefaults := .none } }
noncomputable def q299 : Obj := { cls := .type "code", data := .fields #[.str (.ofString "is_single") 529, .str (.ofString "is_single") 530, .str (.ofString "/claim/cut.py") 531, .int 141 0, .int 1 0, .int 0 0, .int 0 0, .int 3 0, .ref 242, .bool true, .int 181 0, .ref 243, .none, .ref 244, .ref 245, .ref 246, .int 533 0, .int 141 0, .str (.ofString "/claim/cut.py") 534] }
noncomputable def q300 : Obj := { cls := .type "function", data := .func { name := .ofString "is_single", qualname := .ofString "is_single", params := fP 39 0, body := .stmts (fB 39 0), scope := fS 39 0, globals := 3, closure := [], defaults := .none, kwdefaults := .none, pyModule := .str (.ofString "thinstack.ip_options") 519, code := .ref 247 } }
noncomputable def q303 : Obj := { cls := .type "tuple", data := .seq #[.str (.ofString "octets") 539, .str (.ofString "found") 540, .str (.ofString "at") 541, .str (.ofString "kind") 542, .str (.ofString "size") 543] }
noncomputable def q305 : Obj := { cls := .none, data := .func { name := .ofString "read_options", qualname := .ofString "read_options", params := fP 40 0, body := .stmts (fB 40 0), scope := fS 40 0, globals := 0, closure := [], defaults := .none, kwdefaults := .none } }
noncomputable def q306 : Obj := { cls := .type "code", data := .fields #[.str (.ofString "read_options") 536, .str (.ofString "read_options") 537, .str (.ofString "/claim/cut.py") 538, .int 143 0, .int 1 0, .int 0 0, .int 0 0, .int 3 0, .ref 249, .bool true, .int 181 0, .ref 250, .none, .ref 251, .ref 252, .ref 253, .int 544 0, .int 143 0, .str (.ofString "/claim/cut.py") 545] }
noncomputable def q307 : Obj := { cls := .type "function", data := .func { name := .ofString "read_options", qualname := .ofString "read_options", params := fP 40 0, body := .stmts (fB 40 0), scope := fS 40 0, globals := 3, closure := [], defaults := .none, kwdefaults := .none, pyModule := .str (.ofString "thinstack.ip_options") 519, code := .ref 254 } }
noncomputable def q310 : Obj := { cls := .type "tuple", data := .seq #[.str (.ofString "octets") 550, .str (.ofString "at") 551, .str (.ofString "size") 552] }
noncomputable def q312 : Obj := { cls := .none, data := .func { name := .ofString "size_at", qualname := .ofString "size_at", params := fP 41 0, body := .stmts (fB 41 0), scope := fS 41 0, globals := 0, closure := [], defaults := .none, kwdefaults := .none } }
noncomputable def q313 : Obj := { cls := .type "code", data := .fields #[.str (.ofString "size_at") 547, .str (.ofString "size_at") 548, .str (.ofString "/claim/cut.py") 549, .int 156 0, .int 2 0, .int 0 0, .int 0 0, .int 3 0, .ref 256, .bool true, .int 181 0, .ref 257, .none, .ref 258, .ref 259, .ref 260, .int 553 0, .int 156 0, .str (.ofString "/claim/cut.py") 554] }
noncomputable def q314 : Obj := { cls := .type "function", data := .func { name := .ofString "size_at", qualname := .ofString "size_at", params := fP 41 0, body := .stmts (fB 41 0), scope := fS 41 0, globals := 3, closure := [], defaults := .none, kwdefaults := .none, pyModule := .str (.ofString "thinstack.ip_options") 519, code := .ref 261 } }
noncomputable def q317 : Obj := { cls := .type "tuple", data := .seq #[.str (.ofString "options") 559, .str (.ofString "found") 560, .str (.ofString "kind") 561, .str (.ofString "octets") 562] }
noncomputable def q319 : Obj := { cls := .none, data := .func { name := .ofString "write_options", qualname := .ofString "write_options", params := fP 42 0, body := .stmts (fB 42 0), scope := fS 42 0, globals := 0, closure := [], defaults := .none, kwdefaults := .none } }
noncomputable def q320 : Obj := { cls := .type "code", data := .fields #[.str (.ofString "write_options") 556, .str (.ofString "write_options") 557, .str (.ofString "/claim/cut.py") 558, .int 163 0, .int 1 0, .int 0 0, .int 0 0, .int 3 0, .ref 263, .bool true, .int 181 0, .ref 264, .none, .ref 265, .ref 266, .ref 267, .int 563 0, .int 163 0, .str (.ofString "/claim/cut.py") 564] }
noncomputable def q321 : Obj := { cls := .type "function", data := .func { name := .ofString "write_options", qualname := .ofString "write_options", params := fP 42 0, body := .stmts (fB 42 0), scope := fS 42 0, globals := 3, closure := [], defaults := .none, kwdefaults := .none, pyModule := .str (.ofString "thinstack.ip_options") 519, code := .ref 268 } }
noncomputable def q326 : Obj := { cls := .type "tuple", data := .seq #[.str (.ofString "kind") 569, .str (.ofString "octets") 570] }
noncomputable def q328 : Obj := { cls := .none, data := .func { name := .ofString "option_octets", qualname := .ofString "option_octets", params := fP 43 0, body := .stmts (fB 43 0), scope := fS 43 0, globals := 0, closure := [], defaults := .none, kwdefaults := .none } }
noncomputable def q329 : Obj := { cls := .type "code", data := .fields #[.str (.ofString "option_octets") 566, .str (.ofString "option_octets") 567, .str (.ofString "/claim/cut.py") 568, .int 171 0, .int 2 0, .int 0 0, .int 0 0, .int 3 0, .ref 270, .bool true, .int 181 0, .ref 271, .none, .ref 272, .ref 273, .ref 274, .int 571 0, .int 171 0, .str (.ofString "/claim/cut.py") 572] }
noncomputable def q330 : Obj := { cls := .type "function", data := .func { name := .ofString "option_octets", qualname := .ofString "option_octets", params := fP 43 0, body := .stmts (fB 43 0), scope := fS 43 0, globals := 3, closure := [], defaults := .none, kwdefaults := .none, pyModule := .str (.ofString "thinstack.ip_options") 519, code := .ref 275 } }
noncomputable def q333 : Obj := { cls := .type "tuple", data := .seq #[.str (.ofString "kind") 577] }
noncomputable def q335 : Obj := { cls := .none, data := .func { name := .ofString "is_copied", qualname := .ofString "is_copied", params := fP 44 0, body := .stmts (fB 44 0), scope := fS 44 0, globals := 0, closure := [], defaults := .none, kwdefaults := .none } }
noncomputable def q336 : Obj := { cls := .type "code", data := .fields #[.str (.ofString "is_copied") 574, .str (.ofString "is_copied") 575, .str (.ofString "/claim/cut.py") 576, .int 181 0, .int 1 0, .int 0 0, .int 0 0, .int 3 0, .ref 277, .bool true, .int 181 0, .ref 278, .none, .ref 279, .ref 280, .ref 281, .int 578 0, .int 181 0, .str (.ofString "/claim/cut.py") 579] }
noncomputable def q337 : Obj := { cls := .type "function", data := .func { name := .ofString "is_copied", qualname := .ofString "is_copied", params := fP 44 0, body := .stmts (fB 44 0), scope := fS 44 0, globals := 3, closure := [], defaults := .none, kwdefaults := .none, pyModule := .str (.ofString "thinstack.ip_options") 519, code := .ref 282 } }
noncomputable def q340 : Obj := { cls := .none, data := .func { name := .ofString "copied", qualname := .ofString "copied", params := fP 45 0, body := .stmts (fB 45 0), scope := fS 45 0, globals := 0, closure := [], defaults := .none, kwdefaults := .none } }
noncomputable def q341 : Obj := { cls := .type "code", data := .fields #[.str (.ofString "copied") 581, .str (.ofString "copied") 582, .str (.ofString "/claim/cut.py") 583, .int 183 0, .int 1 0, .int 0 0, .int 0 0, .int 3 0, .ref 284, .bool true, .int 181 0, .ref 285, .none, .none, .none, .ref 286, .int 584 0, .int 183 0, .str (.ofString "/claim/cut.py") 585] }
noncomputable def q342 : Obj := { cls := .type "function", data := .func { name := .ofString "copied", qualname := .ofString "copied", params := fP 45 0, body := .stmts (fB 45 0), scope := fS 45 0, globals := 3, closure := [], defaults := .none, kwdefaults := .none, pyModule := .str (.ofString "thinstack.ip_options") 519, code := .ref 287 } }
noncomputable def q345 : Obj := { cls := .type "tuple", data := .seq #[.str (.ofString "options") 594] }
noncomputable def q347 : Obj := { cls := .none, data := .func { name := .ofString "later_options", qualname := .ofString "later_options", params := fP 48 0, body := .stmts (fB 48 0), scope := fS 48 0, globals := 0, closure := [], defaults := .none, kwdefaults := .none } }
noncomputable def q348 : Obj := { cls := .type "code", data := .fields #[.str (.ofString "later_options") 591, .str (.ofString "later_options") 592, .str (.ofString "/claim/cut.py") 593, .int 187 0, .int 1 0, .int 0 0, .int 0 0, .int 3 0, .ref 289, .bool true, .int 181 0, .ref 290, .none, .ref 291, .ref 292, .ref 293, .int 595 0, .int 187 0, .str (.ofString "/claim/cut.py") 596] }
noncomputable def q349 : Obj := { cls := .type "function", data := .func { name := .ofString "later_options", qualname := .ofString "later_options", params := fP 48 0, body := .stmts (fB 48 0), scope := fS 48 0, globals := 3, closure := [], defaults := .none, kwdefaults := .none, pyModule := .str (.ofString "thinstack.fragments") 587, code := .ref 294 } }
noncomputable def q352 : Obj := { cls := .type "tuple", data := .seq #[.str (.ofString "header") 601, .str (.ofString "offset") 602, .str (.ofString "more") 603, .str (.ofString "options") 604] }
noncomputable def q354 : Obj := { cls := .none, data := .func { name := .ofString "part_header", qualname := .ofString "part_header", params := fP 49 0, body := .stmts (fB 49 0), scope := fS 49 0, globals := 0, closure := [], defaults := .none, kwdefaults := .none } }
noncomputable def q355 : Obj := { cls := .type "code", data := .fields #[.str (.ofString "part_header") 598, .str (.ofString "part_header") 599, .str (.ofString "/claim/cut.py") 600, .int 192 0, .int 4 0, .int 0 0, .int 0 0, .int 3 0, .ref 296, .bool true, .int 181 0, .ref 297, .none, .ref 298, .ref 299, .ref 300, .int 605 0, .int 192 0, .str (.ofString "/claim/cut.py") 606] }
noncomputable def q356 : Obj := { cls := .type "function", data := .func { name := .ofString "part_header", qualname := .ofString "part_header", params := fP 49 0, body := .stmts (fB 49 0), scope := fS 49 0, globals := 3, closure := [], defaults := .none, kwdefaults := .none, pyModule := .str (.ofString "thinstack.fragments") 587, code := .ref 301 } }
noncomputable def q359 : Obj := { cls := .type "tuple", data := .seq #[.str (.ofString "mtu") 611, .str (.ofString "header_size") 612, .str (.ofString "room") 613] }
noncomputable def q361 : Obj := { cls := .none, data := .func { name := .ofString "room_of", qualname := .ofString "room_of", params := fP 50 0, body := .stmts (fB 50 0), scope := fS 50 0, globals := 0, closure := [], defaults := .none, kwdefaults := .none } }
noncomputable def q362 : Obj := { cls := .type "code", data := .fields #[.str (.ofString "room_of") 608, .str (.ofString "room_of") 609, .str (.ofString "/claim/cut.py") 610, .int 194 0, .int 2 0, .int 0 0, .int 0 0, .int 3 0, .ref 303, .bool true, .int 181 0, .ref 304, .none, .ref 305, .ref 306, .ref 307, .int 614 0, .int 194 0, .str (.ofString "/claim/cut.py") 615] }
noncomputable def q363 : Obj := { cls := .type "function", data := .func { name := .ofString "room_of", qualname := .ofString "room_of", params := fP 50 0, body := .stmts (fB 50 0), scope := fS 50 0, globals := 3, closure := [], defaults := .none, kwdefaults := .none, pyModule := .str (.ofString "thinstack.fragments") 587, code := .ref 308 } }
noncomputable def q366 : Obj := { cls := .type "tuple", data := .seq #[.str (.ofString "header") 620, .str (.ofString "payload") 621, .str (.ofString "mtu") 622, .str (.ofString "found") 623, .str (.ofString "at") 624, .str (.ofString "options") 625, .str (.ofString "later") 626, .str (.ofString "head") 627, .str (.ofString "left") 628, .str (.ofString "room") 629] }
noncomputable def q368 : Obj := { cls := .none, data := .func { name := .ofString "cut", qualname := .ofString "cut", params := fP 51 0, body := .stmts (fB 51 0), scope := fS 51 0, globals := 0, closure := [], defaults := .none, kwdefaults := .none } }
noncomputable def q369 : Obj := { cls := .type "code", data := .fields #[.str (.ofString "cut") 617, .str (.ofString "cut") 618, .str (.ofString "/claim/cut.py") 619, .int 199 0, .int 3 0, .int 0 0, .int 0 0, .int 3 0, .ref 310, .bool true, .int 181 0, .ref 311, .none, .ref 312, .ref 313, .ref 314, .int 630 0, .int 199 0, .str (.ofString "/claim/cut.py") 631] }
noncomputable def q370 : Obj := { cls := .type "function", data := .func { name := .ofString "cut", qualname := .ofString "cut", params := fP 51 0, body := .stmts (fB 51 0), scope := fS 51 0, globals := 3, closure := [], defaults := .none, kwdefaults := .none, pyModule := .str (.ofString "thinstack.fragments") 587, code := .ref 315 } }
noncomputable def q373 : Obj := { cls := .type "tuple", data := .seq #[.str (.ofString "prefix") 646] }
noncomputable def q375 : Obj := { cls := .none, data := .func { name := .ofString "mask_of", qualname := .ofString "mask_of", params := fP 55 0, body := .stmts (fB 55 0), scope := fS 55 0, globals := 0, closure := [], defaults := .none, kwdefaults := .none } }
noncomputable def q376 : Obj := { cls := .type "code", data := .fields #[.str (.ofString "mask_of") 643, .str (.ofString "mask_of") 644, .str (.ofString "/claim/cut.py") 645, .int 221 0, .int 1 0, .int 0 0, .int 0 0, .int 3 0, .ref 317, .bool true, .int 181 0, .ref 318, .none, .ref 319, .ref 320, .ref 321, .int 647 0, .int 221 0, .str (.ofString "/claim/cut.py") 648] }
noncomputable def q377 : Obj := { cls := .type "function", data := .func { name := .ofString "mask_of", qualname := .ofString "mask_of", params := fP 55 0, body := .stmts (fB 55 0), scope := fS 55 0, globals := 3, closure := [], defaults := .none, kwdefaults := .none, pyModule := .str (.ofString "thinstack.routes") 633, code := .ref 322 } }
noncomputable def q380 : Obj := { cls := .type "tuple", data := .seq #[.str (.ofString "address") 653, .str (.ofString "prefix") 654] }
noncomputable def q382 : Obj := { cls := .none, data := .func { name := .ofString "net_of", qualname := .ofString "net_of", params := fP 56 0, body := .stmts (fB 56 0), scope := fS 56 0, globals := 0, closure := [], defaults := .none, kwdefaults := .none } }
noncomputable def q383 : Obj := { cls := .type "code", data := .fields #[.str (.ofString "net_of") 650, .str (.ofString "net_of") 651, .str (.ofString "/claim/cut.py") 652, .int 225 0, .int 2 0, .int 0 0, .int 0 0, .int 3 0, .ref 324, .bool true, .int 181 0, .ref 325, .none, .ref 326, .ref 327, .ref 328, .int 655 0, .int 225 0, .str (.ofString "/claim/cut.py") 656] }
noncomputable def q384 : Obj := { cls := .type "function", data := .func { name := .ofString "net_of", qualname := .ofString "net_of", params := fP 56 0, body := .stmts (fB 56 0), scope := fS 56 0, globals := 3, closure := [], defaults := .none, kwdefaults := .none, pyModule := .str (.ofString "thinstack.routes") 633, code := .ref 329 } }
noncomputable def q387 : Obj := { cls := .type "tuple", data := .seq #[.str (.ofString "address") 661] }
noncomputable def q389 : Obj := { cls := .none, data := .func { name := .ofString "is_group", qualname := .ofString "is_group", params := fP 57 0, body := .stmts (fB 57 0), scope := fS 57 0, globals := 0, closure := [], defaults := .none, kwdefaults := .none } }
noncomputable def q390 : Obj := { cls := .type "code", data := .fields #[.str (.ofString "is_group") 658, .str (.ofString "is_group") 659, .str (.ofString "/claim/cut.py") 660, .int 227 0, .int 1 0, .int 0 0, .int 0 0, .int 3 0, .ref 331, .bool true, .int 181 0, .ref 332, .none, .ref 333, .ref 334, .ref 335, .int 662 0, .int 227 0, .str (.ofString "/claim/cut.py") 663] }
noncomputable def q391 : Obj := { cls := .type "function", data := .func { name := .ofString "is_group", qualname := .ofString "is_group", params := fP 57 0, body := .stmts (fB 57 0), scope := fS 57 0, globals := 3, closure := [], defaults := .none, kwdefaults := .none, pyModule := .str (.ofString "thinstack.routes") 633, code := .ref 336 } }
noncomputable def q394 : Obj := { cls := .type "tuple", data := .seq #[.str (.ofString "address") 668] }
noncomputable def q396 : Obj := { cls := .none, data := .func { name := .ofString "is_loop", qualname := .ofString "is_loop", params := fP 58 0, body := .stmts (fB 58 0), scope := fS 58 0, globals := 0, closure := [], defaults := .none, kwdefaults := .none } }
noncomputable def q397 : Obj := { cls := .type "code", data := .fields #[.str (.ofString "is_loop") 665, .str (.ofString "is_loop") 666, .str (.ofString "/claim/cut.py") 667, .int 229 0, .int 1 0, .int 0 0, .int 0 0, .int 3 0, .ref 338, .bool true, .int 181 0, .ref 339, .none, .ref 340, .ref 341, .ref 342, .int 669 0, .int 229 0, .str (.ofString "/claim/cut.py") 670] }
noncomputable def q398 : Obj := { cls := .type "function", data := .func { name := .ofString "is_loop", qualname := .ofString "is_loop", params := fP 58 0, body := .stmts (fB 58 0), scope := fS 58 0, globals := 3, closure := [], defaults := .none, kwdefaults := .none, pyModule := .str (.ofString "thinstack.routes") 633, code := .ref 343 } }
noncomputable def q403 (P : Params) : Obj := { cls := .type "dict", data := .dict #[⟨PyData.keyHash P (.ofString "__module__"), .str (.ofString "__module__") 679, .str (.ofString "thinstack.routes") 633⟩, ⟨PyData.keyHash P (.ofString "__qualname__"), .str (.ofString "__qualname__") 681, .str (.ofString "Route") 680⟩, ⟨PyData.keyHash P (.ofString "__firstlineno__"), .str (.ofString "__firstlineno__") 683, .int 231 682⟩, ⟨PyData.keyHash P (.ofString "__init__"), .str (.ofString "__init__") 696, .ref 359⟩, ⟨PyData.keyHash P (.ofString "next_address"), .str (.ofString "next_address") 704, .ref 366⟩, ⟨PyData.keyHash P (.ofString "row"), .str (.ofString "row") 711, .ref 373⟩, ⟨PyData.keyHash P (.ofString "__static_attributes__"), .str (.ofString "__static_attributes__") 717, .ref 374⟩] 7 }
noncomputable def q405 : Obj := { cls := .none, data := .fields #[.int 233 0, .int 4 0, .ref 358, .int 240 0, .int 4 0, .ref 365, .int 243 0, .int 4 0, .ref 372] }
noncomputable def q406 : Obj := { cls := .type "code", data := .fields #[.str (.ofString "Route") 674, .str (.ofString "Route") 675, .str (.ofString "/claim/cut.py") 676, .int 231 0, .int 0 0, .int 0 0, .int 0 0, .int 0 0, .ref 348, .bool false, .int 181 0, .ref 349, .none, .none, .none, .none, .int 677 0, .int 231 0, .str (.ofString "/claim/cut.py") 678] }
noncomputable def q407 : Obj := { cls := .type "frame", slots := #[some (.ref 350), some (.ref 3), some (.ref 347), none, some (.str (.ofString "thinstack.routes") 633), none, some (.ref 0)] }
noncomputable def q408 : Obj := { cls := .type "tuple", data := .seq #[.int 0 684] }
noncomputable def q411 : Obj := { cls := .type "tuple", data := .seq #[.str (.ofString "self") 688, .str (.ofString "net") 689, .str (.ofString "prefix") 690, .str (.ofString "gateway") 691, .str (.ofString "face") 692, .str (.ofString "metric") 693] }
noncomputable def q413 : Obj := { cls := .none, data := .func { name := .ofString "__init__", qualname := .ofString "Route.__init__", params := fP 59 1, body := .stmts (fB 59 1), scope := fS 59 1, globals := 0, closure := [], defaults := .none, kwdefaults := .none } }
noncomputable def q414 : Obj := { cls := .type "code", data := .fields #[.str (.ofString "__init__") 685, .str (.ofString "Route.__init__") 686, .str (.ofString "/claim/cut.py") 687, .int 233 0, .int 6 0, .int 0 0, .int 0 0, .int 3 0, .ref 353, .bool true, .int 181 0, .ref 354, .none, .ref 355, .ref 356, .ref 357, .int 694 0, .int 233 0, .str (.ofString "/claim/cut.py") 695] }
noncomputable def q415 : Obj := { cls := .type "function", data := .func { name := .ofString "__init__", qualname := .ofString "Route.__init__", params := fP 59 1, body := .stmts (fB 59 1), scope := fS 59 1, globals := 3, closure := [], defaults := .ref 352, kwdefaults := .none, pyModule := .str (.ofString "thinstack.routes") 633, code := .ref 358 } }
noncomputable def q418 : Obj := { cls := .type "tuple", data := .seq #[.str (.ofString "self") 700, .str (.ofString "target") 701] }
noncomputable def q420 : Obj := { cls := .none, data := .func { name := .ofString "next_address", qualname := .ofString "Route.next_address", params := fP 59 2, body := .stmts (fB 59 2), scope := fS 59 2, globals := 0, closure := [], defaults := .none, kwdefaults := .none } }
noncomputable def q421 : Obj := { cls := .type "code", data := .fields #[.str (.ofString "next_address") 697, .str (.ofString "Route.next_address") 698, .str (.ofString "/claim/cut.py") 699, .int 240 0, .int 2 0, .int 0 0, .int 0 0, .int 3 0, .ref 360, .bool true, .int 181 0, .ref 361, .none, .ref 362, .ref 363, .ref 364, .int 702 0, .int 240 0, .str (.ofString "/claim/cut.py") 703] }
noncomputable def q422 : Obj := { cls := .type "function", data := .func { name := .ofString "next_address", qualname := .ofString "Route.next_address", params := fP 59 2, body := .stmts (fB 59 2), scope := fS 59 2, globals := 3, closure := [], defaults := .none, kwdefaults := .none, pyModule := .str (.ofString "thinstack.routes") 633, code := .ref 365 } }
noncomputable def q425 : Obj := { cls := .type "tuple", data := .seq #[.str (.ofString "self") 708] }
noncomputable def q427 : Obj := { cls := .none, data := .func { name := .ofString "row", qualname := .ofString "Route.row", params := fP 59 3, body := .stmts (fB 59 3), scope := fS 59 3, globals := 0, closure := [], defaults := .none, kwdefaults := .none } }
noncomputable def q428 : Obj := { cls := .type "code", data := .fields #[.str (.ofString "row") 705, .str (.ofString "Route.row") 706, .str (.ofString "/claim/cut.py") 707, .int 243 0, .int 1 0, .int 0 0, .int 0 0, .int 3 0, .ref 367, .bool true, .int 181 0, .ref 368, .none, .ref 369, .ref 370, .ref 371, .int 709 0, .int 243 0, .str (.ofString "/claim/cut.py") 710] }
noncomputable def q429 : Obj := { cls := .type "function", data := .func { name := .ofString "row", qualname := .ofString "Route.row", params := fP 59 3, body := .stmts (fB 59 3), scope := fS 59 3, globals := 3, closure := [], defaults := .none, kwdefaults := .none, pyModule := .str (.ofString "thinstack.routes") 633, code := .ref 372 } }
noncomputable def q430 : Obj := { cls := .type "tuple", data := .seq #[.str (.ofString "face") 712, .str (.ofString "gateway") 713, .str (.ofString "metric") 714, .str (.ofString "net") 715, .str (.ofString "prefix") 716] }
noncomputable def q431 (P : Params) : Obj := { cls := .type "dict", data := .dict #[⟨PyData.keyHash P (.ofString "__module__"), .str (.ofString "__module__") 679, .str (.ofString "thinstack.routes") 633⟩, ⟨PyData.keyHash P (.ofString "__firstlineno__"), .str (.ofString "__firstlineno__") 683, .int 231 682⟩, ⟨PyData.keyHash P (.ofString "__init__"), .str (.ofString "__init__") 696, .ref 359⟩, ⟨PyData.keyHash P (.ofString "next_address"), .str (.ofString "next_address") 704, .ref 366⟩, ⟨PyData.keyHash P (.ofString "row"), .str (.ofString "row") 711, .ref 373⟩, ⟨PyData.keyHash P (.ofString "__static_attributes__"), .str (.ofString "__static_attributes__") 717, .ref 374⟩, ⟨PyData.keyHash P (.ofString "__dict__"), .str (.ofString "__dict__") 719, .ref 377⟩, ⟨PyData.keyHash P (.ofString "__weakref__"), .str (.ofString "__weakref__") 721, .ref 378⟩, ⟨PyData.keyHash P (.ofString "__doc__"), .str (.ofString "__doc__") 722, .none⟩] 4 }
noncomputable def q432 : Obj := { cls := .type "type", data := .cls { name := .ofString "Route", bases := [.type "object"], mro := [.ref 376, .type "object"], ns := 375, qualname := .ofString "Route" }, slots := #[none, none, some (.str (.ofString "Route") 672), some (.str (.ofString "Route") 680), some (.builtin "object.__new__"), some (.bool true)] }
noncomputable def q433 : Obj := { cls := .type "getset_descriptor", data := .fields #[.str (.ofString "__dict__") 718, .ref 376, .builtin "function.__dict__", .builtin "function.__dict__#set"] }
noncomputable def q434 : Obj := { cls := .type "getset_descriptor", data := .fields #[.str (.ofString "__weakref__") 720, .ref 376, .builtin "ExceptionGroup.__weakref__", .none] }
noncomputable def q435 : Obj := { cls := .type "super", data := .fields #[.ref 376, .ref 376, .ref 376] }
noncomputable def q436 : Obj := { cls := .type "builtin_function_or_method", data := .fields #[.builtin "object.__init_subclass__", .ref 376] }
noncomputable def q437 (P : Params) : Obj := { cls := .type "dict", data := .dict #[⟨PyData.keyHash P (.ofString "__name__"), .str (.ofString "__name__") 165, .str (.ofString "thinstack.routes") 633⟩, ⟨PyData.keyHash P (.ofString "__doc__"), .str (.ofString "__doc__") 166, .none⟩, ⟨PyData.keyHash P (.ofString "__package__"), .str (.ofString "__package__") 167, .none⟩, ⟨PyData.keyHash P (.ofString "__loader__"), .str (.ofString "__loader__") 168, .builtin "__main__.__loader__#opaque"⟩, ⟨PyData.keyHash P (.ofString "__spec__"), .str (.ofString "__spec__") 169, .none⟩, ⟨PyData.keyHash P (.ofString "__annotations__"), .str (.ofString "__annotations__") 170, .ref 6⟩, ⟨PyData.keyHash P (.ofString "__builtins__"), .str (.ofString "__builtins__") 171, .ref 4⟩, ⟨PyData.keyHash P (.ofString "__file__"), .str (.ofString "__file__") 173, .str (.ofString "/claim/cut.py") 172⟩, ⟨PyData.keyHash P (.ofString "__cached__"), .str (.ofString "__cached__") 174, .none⟩, ⟨PyData.keyHash P (.ofString "_wall"), .str (.ofString "_wall") 193, .ref 21⟩, ⟨PyData.keyHash P (.ofString "StackError"), .str (.ofString "StackError") 224, .ref 38⟩, ⟨PyData.keyHash P (.ofString "FormError"), .str (.ofString "FormError") 240, .ref 51⟩, ⟨PyData.keyHash P (.ofString "SizeError"), .str (.ofString "SizeError") 256, .ref 63⟩, ⟨PyData.keyHash P (.ofString "RouteError"), .str (.ofString "RouteError") 272, .ref 75⟩, ⟨PyData.keyHash P (.ofString "put16"), .str (.ofString "put16") 281, .ref 84⟩, ⟨PyData.keyHash P (.ofString "put32"), .str (.ofString "put32") 288, .ref 91⟩, ⟨PyData.keyHash P (.ofString "need"), .str (.ofString "need") 297, .ref 98⟩, ⟨PyData.keyHash P (.ofString "get16"), .str (.ofString "get16") 305, .ref 105⟩, ⟨PyData.keyHash P (.ofString "get32"), .str (.ofString "get32") 313, .ref 112⟩, ⟨PyData.keyHash P (.ofString "ALL_ONES"), .str (.ofString "ALL_ONES") 317, .int 65535 316⟩, ⟨PyData.keyHash P (.ofString "fold"), .str (.ofString "fold") 324, .ref 119⟩, ⟨PyData.keyHash P (.ofString "ones_sum"), .str (.ofString "ones_sum") 336, .ref 127⟩, ⟨PyData.keyHash P (.ofString "checksum"), .str (.ofString "checksum") 345, .ref 135⟩, ⟨PyData.keyHash P (.ofString "VERSION"), .str (.ofString "VERSION") 349, .int 4 348⟩, ⟨PyData.keyHash P (.ofString "LEAST_HEAD"), .str (.ofString "LEAST_HEAD") 351, .int 20 350⟩, ⟨PyData.keyHash P (.ofString "MOST_HEAD"), .str (.ofString "MOST_HEAD") 353, .int 60 352⟩, ⟨PyData.keyHash P (.ofString "MOST_TOTAL"), .str (.ofString "MOST_TOTAL") 355, .int 65535 354⟩, ⟨PyData.keyHash P (.ofString "DONT_BIT"), .str (.ofString "DONT_BIT") 357, .int 16384 356⟩, ⟨PyData.keyHash P (.ofString "MORE_BIT"), .str (.ofString "MORE_BIT") 359, .int 8192 358⟩, ⟨PyData.keyHash P (.ofString "PLACE_BITS"), .str (.ofString "PLACE_BITS") 361, .int 8191 360⟩, ⟨PyData.keyHash P (.ofString "TTL_PLACE"), .str (.ofString "TTL_PLACE") 363, .int 8 362⟩, ⟨PyData.keyHash P (.ofString "IpHeader"), .str (.ofString "IpHeader") 453, .ref 188⟩, ⟨PyData.keyHash P (.ofString "is_within"), .str (.ofString "is_within") 461, .ref 199⟩, ⟨PyData.keyHash P (.ofString "check_fields"), .str (.ofString "check_fields") 469, .ref 206⟩, ⟨PyData.keyHash P (.ofString "check_size"), .str (.ofString "check_size") 477, .ref 213⟩, ⟨PyData.keyHash P (.ofString "flags_of"), .str (.ofString "flags_of") 485, .ref 220⟩, ⟨PyData.keyHash P (.ofString "pack_ip"), .str (.ofString "pack_ip") 498, .ref 227⟩, ⟨PyData.keyHash P (.ofString "head_size"), .str (.ofString "head_size") 506, .ref 234⟩, ⟨PyData.keyHash P (.ofString "unpack_ip"), .str (.ofString "unpack_ip") 518, .ref 241⟩, ⟨PyData.keyHash P (.ofString "END"), .str (.ofString "END") 522, .int 0 521⟩, ⟨PyData.keyHash P (.ofString "NOTHING"), .str (.ofString "NOTHING") 524, .int 1 523⟩, ⟨PyData.keyHash P (.ofString "MOST_OPTIONS"), .str (.ofString "MOST_OPTIONS") 526, .int 40 525⟩, ⟨PyData.keyHash P (.ofString "COPY_BIT"), .str (.ofString "COPY_BIT") 528, .int 128 527⟩, ⟨PyData.keyHash P (.ofString "is_single"), .str (.ofString "is_single") 535, .ref 248⟩, ⟨PyData.keyHash P (.ofString "read_options"), .str (.ofString "read_options") 546, .ref 255⟩, ⟨PyData.keyHash P (.ofString "size_at"), .str (.ofString "size_at") 555, .ref 262⟩, ⟨PyData.keyHash P (.ofString "write_options"), .str (.ofString "write_options") 565, .ref 269⟩, ⟨PyData.keyHash P (.ofString "option_octets"), .str (.ofString "option_octets") 573, .ref 276⟩, ⟨PyData.keyHash P (.ofString "is_copied"), .str (.ofString "is_copied") 580, .ref 283⟩, ⟨PyData.keyHash P (.ofString "copied"), .str (.ofString "copied") 586, .ref 288⟩, ⟨PyData.keyHash P (.ofString "STEP_fragments"), .str (.ofString "STEP_fragments") 590, .int 8 589⟩, ⟨PyData.keyHash P (.ofString "later_options"), .str (.ofString "later_options") 597, .ref 295⟩, ⟨PyData.keyHash P (.ofString "part_header"), .str (.ofString "part_header") 607, .ref 302⟩, ⟨PyData.keyHash P (.ofString "room_of"), .str (.ofString "room_of") 616, .ref 309⟩, ⟨PyData.keyHash P (.ofString "cut"), .str (.ofString "cut") 632, .ref 316⟩, ⟨PyData.keyHash P (.ofString "BITS"), .str (.ofString "BITS") 636, .int 32 635⟩, ⟨PyData.keyHash P (.ofString "ALL"), .str (.ofString "ALL") 642, .int 4294967295 641⟩, ⟨PyData.keyHash P (.ofString "mask_of"), .str (.ofString "mask_of") 649, .ref 323⟩, ⟨PyData.keyHash P (.ofString "net_of"), .str (.ofString "net_of") 657, .ref 330⟩, ⟨PyData.keyHash P (.ofString "is_group"), .str (.ofString "is_group") 664, .ref 337⟩, ⟨PyData.keyHash P (.ofString "is_loop"), .str (.ofString "is_loop") 671, .ref 344⟩, ⟨PyData.keyHash P (.ofString "Route"), .str (.ofString "Route") 724, .ref 376⟩, ⟨PyData.keyHash P (.ofString "Branch"), .str (.ofString "Branch") 787, .ref 425⟩, ⟨PyData.keyHash P (.ofString "bit_at"), .str (.ofString "bit_at") 795, .ref 436⟩] 64 }
noncomputable def q438 : Obj := { cls := .none, data := .fields #[.int 1 0, .int 0 0, .ref 20, .int 5 0, .int 0 0, .ref 27, .int 9 0, .int 0 0, .ref 47, .int 11 0, .int 0 0, .ref 59, .int 13 0, .int 0 0, .ref 71, .int 16 0, .int 0 0, .ref 83, .int 18 0, .int 0 0, .ref 90, .int 20 0, .int 0 0, .ref 97, .int 23 0, .int 0 0, .ref 104, .int 26 0, .int 0 0, .ref 111, .int 31 0, .int 0 0, .ref 118, .int 35 0, .int 0 0, .ref 126, .int 43 0, .int 0 0, .ref 134, .int 54 0, .int 0 0, .ref 141, .int 82 0, .int 0 0, .ref 198, .int 84 0, .int 0 0, .ref 205, .int 95 0, .int 0 0, .ref 212, .int 100 0, .int 0 0, .ref 219, .int 107 0, .int 0 0, .ref 226, .int 116 0, .int 0 0, .ref 233, .int 125 0, .int 0 0, .ref 240, .int 141 0, .int 0 0, .ref 247, .int 143 0, .int 0 0, .ref 254, .int 156 0, .int 0 0, .ref 261, .int 163 0, .int 0 0, .ref 268, .int 171 0, .int 0 0, .ref 275, .int 181 0, .int 0 0, .ref 282, .int 183 0, .int 0 0, .ref 287, .int 187 0, .int 0 0, .ref 294, .int 192 0, .int 0 0, .ref 301, .int 194 0, .int 0 0, .ref 308, .int 199 0, .int 0 0, .ref 315, .int 221 0, .int 0 0, .ref 322, .int 225 0, .int 0 0, .ref 329, .int 227 0, .int 0 0, .ref 336, .int 229 0, .int 0 0, .ref 343, .int 231 0, .int 0 0, .ref 350, .int 245 0, .int 0 0, .ref 386, .int 272 0, .int 0 0, .ref 435] }
noncomputable def q441 (P : Params) : Obj := { cls := .type "dict", data := .dict #[⟨PyData.keyHash P (.ofString "__module__"), .str (.ofString "__module__") 732, .str (.ofString "thinstack.routes") 633⟩, ⟨PyData.keyHash P (.ofString "__qualname__"), .str (.ofString "__qualname__") 734, .str (.ofString "Branch") 733⟩, ⟨PyData.keyHash P (.ofString "__firstlineno__"), .str (.ofString "__firstlineno__") 736, .int 245 735⟩, ⟨PyData.keyHash P (.ofString "__init__"), .str (.ofString "__init__") 743, .ref 394⟩, ⟨PyData.keyHash P (.ofString "child"), .str (.ofString "child") 751, .ref 401⟩, ⟨PyData.keyHash P (.ofString "set_child"), .str (.ofString "set_child") 760, .ref 408⟩, ⟨PyData.keyHash P (.ofString "is_bare"), .str (.ofString "is_bare") 767, .ref 415⟩, ⟨PyData.keyHash P (.ofString "best"), .str (.ofString "best") 776, .ref 422⟩, ⟨PyData.keyHash P (.ofString "__static_attributes__"), .str (.ofString "__static_attributes__") 780, .ref 423⟩] 9 }
noncomputable def q443 : Obj := { cls := .none, data := .fields #[.int 247 0, .int 4 0, .ref 393, .int 252 0, .int 4 0, .ref 400, .int 257 0, .int 4 0, .ref 407, .int 263 0, .int 4 0, .ref 414, .int 266 0, .int 4 0, .ref 421] }
noncomputable def q444 : Obj := { cls := .type "code", data := .fields #[.str (.ofString "Branch") 727, .str (.ofString "Branch") 728, .str (.ofString "/claim/cut.py") 729, .int 245 0, .int 0 0, .int 0 0, .int 0 0, .int 0 0, .ref 384, .bool false, .int 181 0, .ref 385, .none, .none, .none, .none, .int 730 0, .int 245 0, .str (.ofString "/claim/cut.py") 731] }
noncomputable def q445 : Obj := { cls := .type "frame", slots := #[some (.ref 386), some (.ref 3), some (.ref 383), none, some (.str (.ofString "thinstack.routes") 633), none, some (.ref 0)] }
noncomputable def q448 : Obj := { cls := .type "tuple", data := .seq #[.str (.ofString "self") 740] }
noncomputable def q450 : Obj := { cls := .none, data := .func { name := .ofString "__init__", qualname := .ofString "Branch.__init__", params := fP 60 1, body := .stmts (fB 60 1), scope := fS 60 1, globals := 0, closure := [], defaults := .none, kwdefaults := .none } }
noncomputable def q451 : Obj := { cls := .type "code", data := .fields #[.str (.ofString "__init__") 737, .str (.ofString "Branch.__init__") 738, .str (.ofString "/claim/cut.py") 739, .int 247 0, .int 1 0, .int 0 0, .int 0 0, .int 3 0, .ref 388, .bool true, .int 181 0, .ref 389, .none, .ref 390, .ref 391, .ref 392, .int 741 0, .int 247 0, .str (.ofString "/claim/cut.py") 742] }
noncomputable def q452 : Obj := { cls := .type "function", data := .func { name := .ofString "__init__", qualname := .ofString "Branch.__init__", params := fP 60 1, body := .stmts (fB 60 1), scope := fS 60 1, globals := 3, closure := [], defaults := .none, kwdefaults := .none, pyModule := .str (.ofString "thinstack.routes") 633, code := .ref 393 } }
noncomputable def q455 : Obj := { cls := .type "tuple", data := .seq #[.str (.ofString "self") 747, .str (.ofString "bit") 748] }
noncomputable def q457 : Obj := { cls := .none, data := .func { name := .ofString "child", qualname := .ofString "Branch.child", params := fP 60 2, body := .stmts (fB 60 2), scope := fS 60 2, globals := 0, closure := [], defaults := .none, kwdefaults := .none } }
noncomputable def q458 : Obj := { cls := .type "code", data := .fields #[.str (.ofString "child") 744, .str (.ofString "Branch.child") 745, .str (.ofString "/claim/cut.py") 746, .int 252 0, .int 2 0, .int 0 0, .int 0 0, .int 3 0, .ref 395, .bool true, .int 181 0, .ref 396, .none, .ref 397, .ref 398, .ref 399, .int 749 0, .int 252 0, .str (.ofString "/claim/cut.py") 750] }
noncomputable def q459 : Obj := { cls := .type "function", data := .func { name := .ofString "child", qualname := .ofString "Branch.child", params := fP 60 2, body := .stmts (fB 60 2), scope := fS 60 2, globals := 3, closure := [], defaults := .none, kwdefaults := .none, pyModule := .str (.ofString "thinstack.routes") 633, code := .ref 400 } }
noncomputable def q462 : Obj := { cls := .type "tuple", data := .seq #[.str (.ofString "self") 755, .str (.ofString "bit") 756, .str (.ofString "branch") 757] }
noncomputable def q464 : Obj := { cls := .none, data := .func { name := .ofString "set_child", qualname := .ofString "Branch.set_child", params := fP 60 3, body := .stmts (fB 60 3), scope := fS 60 3, globals := 0, closure := [], defaults := .none, kwdefaults := .none } }
noncomputable def q465 : Obj := { cls := .type "code", data := .fields #[.str (.ofString "set_child") 752, .str (.ofString "Branch.set_child") 753, .str (.ofString "/claim/cut.py") 754, .int 257 0, .int 3 0, .int 0 0, .int 0 0, .int 3 0, .ref 402, .bool true, .int 181 0, .ref 403, .none, .ref 404, .ref 405, .ref 406, .int 758 0, .int 257 0, .str (.ofString "/claim/cut.py") 759] }
noncomputable def q466 : Obj := { cls := .type "function", data := .func { name := .ofString "set_child", qualname := .ofString "Branch.set_child", params := fP 60 3, body := .stmts (fB 60 3), scope := fS 60 3, globals := 3, closure := [], defaults := .none, kwdefaults := .none, pyModule := .str (.ofString "thinstack.routes") 633, code := .ref 407 } }
noncomputable def q469 : Obj := { cls := .type "tuple", data := .seq #[.str (.ofString "self") 764] }
noncomputable def q471 : Obj := { cls := .none, data := .func { name := .ofString "is_bare", qualname := .ofString "Branch.is_bare", params := fP 60 4, body := .stmts (fB 60 4), scope := fS 60 4, globals := 0, closure := [], defaults := .none, kwdefaults := .none } }
noncomputable def q472 : Obj := { cls := .type "code", data := .fields #[.str (.ofString "is_bare") 761, .str (.ofString "Branch.is_bare") 762, .str (.ofString "/claim/cut.py") 763, .int 263 0, .int 1 0, .int 0 0, .int 0 0, .int 3 0, .ref 409, .bool true, .int 181 0, .ref 410, .none, .ref 411, .ref 412, .ref 413, .int 765 0, .int 263 0, .str (.ofString "/claim/cut.py") 766] }
noncomputable def q473 : Obj := { cls := .type "function", data := .func { name := .ofString "is_bare", qualname := .ofString "Branch.is_bare", params := fP 60 4, body := .stmts (fB 60 4), scope := fS 60 4, globals := 3, closure := [], defaults := .none, kwdefaults := .none, pyModule := .str (.ofString "thinstack.routes") 633, code := .ref 414 } }
noncomputable def q476 : Obj := { cls := .type "tuple", data := .seq #[.str (.ofString "self") 771, .str (.ofString "found") 772, .str (.ofString "route") 773] }
noncomputable def q478 : Obj := { cls := .none, data := .func { name := .ofString "best", qualname := .ofString "Branch.best", params := fP 60 5, body := .stmts (fB 60 5), scope := fS 60 5, globals := 0, closure := [], defaults := .none, kwdefaults := .none } }
noncomputable def q479 : Obj := { cls := .type "code", data := .fields #[.str (.ofString "best") 768, .str (.ofString "Branch.best") 769, .str (.ofString "/claim/cut.py") 770, .int 266 0, .int 1 0, .int 0 0, .int 0 0, .int 3 0, .ref 416, .bool true, .int 181 0, .ref 417, .none, .ref 418, .ref 419, .ref 420, .int 774 0, .int 266 0, .str (.ofString "/claim/cut.py") 775] }
noncomputable def q480 : Obj := { cls := .type "function", data := .func { name := .ofString "best", qualname := .ofString "Branch.best", params := fP 60 5, body := .stmts (fB 60 5), scope := fS 60 5, globals := 3, closure := [], defaults := .none, kwdefaults := .none, pyModule := .str (.ofString "thinstack.routes") 633, code := .ref 421 } }
noncomputable def q481 : Obj := { cls := .type "tuple", data := .seq #[.str (.ofString "one") 777, .str (.ofString "routes") 778, .str (.ofString "zero") 779] }
noncomputable def q482 (P : Params) : Obj := { cls := .type "dict", data := .dict #[⟨PyData.keyHash P (.ofString "__module__"), .str (.ofString "__module__") 732, .str (.ofString "thinstack.routes") 633⟩, ⟨PyData.keyHash P (.ofString "__firstlineno__"), .str (.ofString "__firstlineno__") 736, .int 245 735⟩, ⟨PyData.keyHash P (.ofString "__init__"), .str (.ofString "__init__") 743, .ref 394⟩, ⟨PyData.keyHash P (.ofString "child"), .str (.ofString "child") 751, .ref 401⟩, ⟨PyData.keyHash P (.ofString "set_child"), .str (.ofString "set_child") 760, .ref 408⟩, ⟨PyData.keyHash P (.ofString "is_bare"), .str (.ofString "is_bare") 767, .ref 415⟩, ⟨PyData.keyHash P (.ofString "best"), .str (.ofString "best") 776, .ref 422⟩, ⟨PyData.keyHash P (.ofString "__static_attributes__"), .str (.ofString "__static_attributes__") 780, .ref 423⟩, ⟨PyData.keyHash P (.ofString "__dict__"), .str (.ofString "__dict__") 782, .ref 426⟩, ⟨PyData.keyHash P (.ofString "__weakref__"), .str (.ofString "__weakref__") 784, .ref 427⟩, ⟨PyData.keyHash P (.ofString "__doc__"), .str (.ofString "__doc__") 785, .none⟩] 4 }
noncomputable def q483 : Obj := { cls := .type "type", data := .cls { name := .ofString "Branch", bases := [.type "object"], mro := [.ref 425, .type "object"], ns := 424, qualname := .ofString "Branch" }, slots := #[none, none, some (.str (.ofString "Branch") 725), some (.str (.ofString "Branch") 733), some (.builtin "object.__new__"), some (.bool true)] }
noncomputable def q484 : Obj := { cls := .type "getset_descriptor", data := .fields #[.str (.ofString "__dict__") 781, .ref 425, .builtin "function.__dict__", .builtin "function.__dict__#set"] }
noncomputable def q485 : Obj := { cls := .type "getset_descriptor", data := .fields #[.str (.ofString "__weakref__") 783, .ref 425, .builtin "ExceptionGroup.__weakref__", .none] }
noncomputable def q486 : Obj := { cls := .type "super", data := .fields #[.ref 425, .ref 425, .ref 425] }
noncomputable def q487 : Obj := { cls := .type "builtin_function_or_method", data := .fields #[.builtin "object.__init_subclass__", .ref 425] }
noncomputable def q490 : Obj := { cls := .type "tuple", data := .seq #[.str (.ofString "address") 791, .str (.ofString "place") 792] }
noncomputable def q492 : Obj := { cls := .none, data := .func { name := .ofString "bit_at", qualname := .ofString "bit_at", params := fP 61 0, body := .stmts (fB 61 0), scope := fS 61 0, globals := 0, closure := [], defaults := .none, kwdefaults := .none } }
noncomputable def q493 : Obj := { cls := .type "code", data := .fields #[.str (.ofString "bit_at") 788, .str (.ofString "bit_at") 789, .str (.ofString "/claim/cut.py") 790, .int 272 0, .int 2 0, .int 0 0, .int 0 0, .int 3 0, .ref 430, .bool true, .int 181 0, .ref 431, .none, .ref 432, .ref 433, .ref 434, .int 793 0, .int 272 0, .str (.ofString "/claim/cut.py") 794] }
noncomputable def q494 : Obj := { cls := .type "function", data := .func { name := .ofString "bit_at", qualname := .ofString "bit_at", params := fP 61 0, body := .stmts (fB 61 0), scope := fS 61 0, globals := 3, closure := [], defaults := .none, kwdefaults := .none, pyModule := .str (.ofString "thinstack.routes") 633, code := .ref 435 } }
noncomputable def q499 (P : Params) : Obj := { cls := .type "dict", data := .dict #[⟨PyData.keyHash P (.ofString "__module__"), .str (.ofString "__module__") 803, .str (.ofString "thinstack.routes") 633⟩, ⟨PyData.keyHash P (.ofString "__qualname__"), .str (.ofString "__qualname__") 805, .str (.ofString "Routes") 804⟩, ⟨PyData.keyHash P (.ofString "__firstlineno__"), .str (.ofString "__firstlineno__") 807, .int 274 806⟩, ⟨PyData.keyHash P (.ofString "__init__"), .str (.ofString "__init__") 814, .ref 450⟩, ⟨PyData.keyHash P (.ofString "size"), .str (.ofString "size") 821, .ref 457⟩, ⟨PyData.keyHash P (.ofString "path"), .str (.ofString "path") 835, .ref 464⟩, ⟨PyData.keyHash P (.ofString "add"), .str (.ofString "add") 847, .ref 471⟩, ⟨PyData.keyHash P (.ofString "remove"), .str (.ofString "remove") 856, .ref 478⟩, ⟨PyData.keyHash P (.ofString "remove_face"), .str (.ofString "remove_face") 864, .ref 485⟩, ⟨PyData.keyHash P (.ofString "prune"), .str (.ofString "prune") 873, .ref 492⟩, ⟨PyData.keyHash P (.ofString "find"), .str (.ofString "find") 884, .ref 499⟩, ⟨PyData.keyHash P (.ofString "rows"), .str (.ofString "rows") 894, .ref 506⟩, ⟨PyData.keyHash P (.ofString "__static_attributes__"), .str (.ofString "__static_attributes__") 897, .ref 507⟩] 13 }
noncomputable def q501 : Obj := { cls := .none, data := .fields #[.int 276 0, .int 4 0, .ref 449, .int 280 0, .int 4 0, .ref 456, .int 283 0, .int 4 0, .ref 463, .int 296 0, .int 4 0, .ref 470, .int 311 0, .int 4 0, .ref 477, .int 314 0, .int 4 0, .ref 484, .int 317 0, .int 4 0, .ref 491, .int 320 0, .int 4 0, .ref 498, .int 331 0, .int 4 0, .ref 505] }
noncomputable def q502 : Obj := { cls := .type "code", data := .fields #[.str (.ofString "Routes") 798, .str (.ofString "Routes") 799, .str (.ofString "/claim/cut.py") 800, .int 274 0, .int 0 0, .int 0 0, .int 0 0, .int 0 0, .ref 440, .bool false, .int 181 0, .ref 441, .none, .none, .none, .none, .int 801 0, .int 274 0, .str (.ofString "/claim/cut.py") 802] }
noncomputable def q503 : Obj := { cls := .type "frame", slots := #[some (.ref 442), some (.ref 3), some (.ref 439), none, some (.str (.ofString "thinstack.routes") 633), none, some (.ref 0)] }
noncomputable def q506 : Obj := { cls := .type "tuple", data := .seq #[.str (.ofString "self") 811] }
noncomputable def q508 : Obj := { cls := .none, data := .func { name := .ofString "__init__", qualname := .ofString "Routes.__init__", params := fP 62 1, body := .stmts (fB 62 1), scope := fS 62 1, globals := 0, closure := [], defaults := .none, kwdefaults := .none } }
noncomputable def q509 : Obj := { cls := .type "code", data := .fields #[.str (.ofString "__init__") 808, .str (.ofString "Routes.__init__") 809, .str (.ofString "/claim/cut.py") 810, .int 276 0, .int 1 0, .int 0 0, .int 0 0, .int 3 0, .ref 444, .bool true, .int 181 0, .ref 445, .none, .ref 446, .ref 447, .ref 448, .int 812 0, .int 276 0, .str (.ofString "/claim/cut.py") 813] }
noncomputable def q510 : Obj := { cls := .type "function", data := .func { name := .ofString "__init__", qualname := .ofString "Routes.__init__", params := fP 62 1, body := .stmts (fB 62 1), scope := fS 62 1, globals := 3, closure := [], defaults := .none, kwdefaults := .none, pyModule := .str (.ofString "thinstack.routes") 633, code := .ref 449 } }
noncomputable def q513 : Obj := { cls := .type "tuple", data := .seq #[.str (.ofString "self") 818] }
noncomputable def q515 : Obj := { cls := .none, data := .func { name := .ofString "size", qualname := .ofString "Routes.size", params := fP 62 2, body := .stmts (fB 62 2), scope := fS 62 2, globals := 0, closure := [], defaults := .none, kwdefaults := .none } }
noncomputable def q516 : Obj := { cls := .type "code", data := .fields #[.str (.ofString "size") 815, .str (.ofString "Routes.size") 816, .str (.ofString "/claim/cut.py") 817, .int 280 0, .int 1 0, .int 0 0, .int 0 0, .int 3 0, .ref 451, .bool true, .int 181 0, .ref 452, .none, .ref 453, .ref 454, .ref 455, .int 819 0, .int 280 0, .str (.ofString "/claim/cut.py") 820] }
noncomputable def q517 : Obj := { cls := .type "function", data := .func { name := .ofString "size", qualname := .ofString "Routes.size", params := fP 62 2, body := .stmts (fB 62 2), scope := fS 62 2, globals := 3, closure := [], defaults := .none, kwdefaults := .none, pyModule := .str (.ofString "thinstack.routes") 633, code := .ref 456 } }
noncomputable def q520 : Obj := { cls := .type "tuple", data := .seq #[.str (.ofString "self") 825, .str (.ofString "net") 826, .str (.ofString "prefix") 827, .str (.ofString "makes") 828, .str (.ofString "found") 829, .str (.ofString "place") 830, .str (.ofString "bit") 831, .str (.ofString "later") 832] }
noncomputable def q522 : Obj := { cls := .none, data := .func { name := .ofString "path", qualname := .ofString "Routes.path", params := fP 62 3, body := .stmts (fB 62 3), scope := fS 62 3, globals := 0, closure := [], defaults := .none, kwdefaults := .none } }
noncomputable def q523 : Obj := { cls := .type "code", data := .fields #[.str (.ofString "path") 822, .str (.ofString "Routes.path") 823, .str (.ofString "/claim/cut.py") 824, .int 283 0, .int 4 0, .int 0 0, .int 0 0, .int 3 0, .ref 458, .bool true, .int 181 0, .ref 459, .none, .ref 460, .ref 461, .ref 462, .int 833 0, .int 283 0, .str (.ofString "/claim/cut.py") 834] }
noncomputable def q524 : Obj := { cls := .type "function", data := .func { name := .ofString "path", qualname := .ofString "Routes.path", params := fP 62 3, body := .stmts (fB 62 3), scope := fS 62 3, globals := 3, closure := [], defaults := .none, kwdefaults := .none, pyModule := .str (.ofString "thinstack.routes") 633, code := .ref 463 } }
noncomputable def q527 : Obj := { cls := .type "tuple", data := .seq #[.str (.ofString "self") 839, .str (.ofString "route") 840, .str (.ofString "net") 841, .str (.ofString "branch") 842, .str (.ofString "at") 843, .str (.ofString "other") 844] }
noncomputable def q529 : Obj := { cls := .none, data := .func { name := .ofString "add", qualname := .ofString "Routes.add", params := fP 62 4, body := .stmts (fB 62 4), scope := fS 62 4, globals := 0, closure := [], defaults := .none, kwdefaults := .none } }
noncomputable def q530 : Obj := { cls := .type "code", data := .fields #[.str (.ofString "add") 836, .str (.ofString "Routes.add") 837, .str (.ofString "/claim/cut.py") 838, .int 296 0, .int 2 0, .int 0 0, .int 0 0, .int 3 0, .ref 465, .bool true, .int 181 0, .ref 466, .none, .ref 467, .ref 468, .ref 469, .int 845 0, .int 296 0, .str (.ofString "/claim/cut.py") 846] }
noncomputable def q531 : Obj := { cls := .type "function", data := .func { name := .ofString "add", qualname := .ofString "Routes.add", params := fP 62 4, body := .stmts (fB 62 4), scope := fS 62 4, globals := 3, closure := [], defaults := .none, kwdefaults := .none, pyModule := .str (.ofString "thinstack.routes") 633, code := .ref 470 } }
noncomputable def q534 : Obj := { cls := .type "tuple", data := .seq #[.str (.ofString "self") 851, .str (.ofString "net") 852, .str (.ofString "prefix") 853] }
noncomputable def q536 : Obj := { cls := .none, data := .func { name := .ofString "remove", qualname := .ofString "Routes.remove", params := fP 62 5, body := .stmts (fB 62 5), scope := fS 62 5, globals := 0, closure := [], defaults := .none, kwdefaults := .none } }
noncomputable def q537 : Obj := { cls := .type "code", data := .fields #[.str (.ofString "remove") 848, .str (.ofString "Routes.remove") 849, .str (.ofString "/claim/cut.py") 850, .int 311 0, .int 3 0, .int 0 0, .int 0 0, .int 3 0, .ref 472, .bool true, .int 181 0, .ref 473, .none, .ref 474, .ref 475, .ref 476, .int 854 0, .int 311 0, .str (.ofString "/claim/cut.py") 855] }
noncomputable def q538 : Obj := { cls := .type "function", data := .func { name := .ofString "remove", qualname := .ofString "Routes.remove", params := fP 62 5, body := .stmts (fB 62 5), scope := fS 62 5, globals := 3, closure := [], defaults := .none, kwdefaults := .none, pyModule := .str (.ofString "thinstack.routes") 633, code := .ref 477 } }
noncomputable def q541 : Obj := { cls := .type "tuple", data := .seq #[.str (.ofString "self") 860, .str (.ofString "face") 861] }
noncomputable def q543 : Obj := { cls := .none, data := .func { name := .ofString "remove_face", qualname := .ofString "Routes.remove_face", params := fP 62 6, body := .stmts (fB 62 6), scope := fS 62 6, globals := 0, closure := [], defaults := .none, kwdefaults := .none } }
noncomputable def q544 : Obj := { cls := .type "code", data := .fields #[.str (.ofString "remove_face") 857, .str (.ofString "Routes.remove_face") 858, .str (.ofString "/claim/cut.py") 859, .int 314 0, .int 2 0, .int 0 0, .int 0 0, .int 3 0, .ref 479, .bool true, .int 181 0, .ref 480, .none, .ref 481, .ref 482, .ref 483, .int 862 0, .int 314 0, .str (.ofString "/claim/cut.py") 863] }
noncomputable def q545 : Obj := { cls := .type "function", data := .func { name := .ofString "remove_face", qualname := .ofString "Routes.remove_face", params := fP 62 6, body := .stmts (fB 62 6), scope := fS 62 6, globals := 3, closure := [], defaults := .none, kwdefaults := .none, pyModule := .str (.ofString "thinstack.routes") 633, code := .ref 484 } }
noncomputable def q548 : Obj := { cls := .type "tuple", data := .seq #[.str (.ofString "self") 868, .str (.ofString "net") 869, .str (.ofString "path") 870] }
noncomputable def q550 : Obj := { cls := .none, data := .func { name := .ofString "prune", qualname := .ofString "Routes.prune", params := fP 62 7, body := .stmts (fB 62 7), scope := fS 62 7, globals := 0, closure := [], defaults := .none, kwdefaults := .none } }
noncomputable def q551 : Obj := { cls := .type "code", data := .fields #[.str (.ofString "prune") 865, .str (.ofString "Routes.prune") 866, .str (.ofString "/claim/cut.py") 867, .int 317 0, .int 3 0, .int 0 0, .int 0 0, .int 3 0, .ref 486, .bool true, .int 181 0, .ref 487, .none, .ref 488, .ref 489, .ref 490, .int 871 0, .int 317 0, .str (.ofString "/claim/cut.py") 872] }
noncomputable def q552 : Obj := { cls := .type "function", data := .func { name := .ofString "prune", qualname := .ofString "Routes.prune", params := fP 62 7, body := .stmts (fB 62 7), scope := fS 62 7, globals := 3, closure := [], defaults := .none, kwdefaults := .none, pyModule := .str (.ofString "thinstack.routes") 633, code := .ref 491 } }
noncomputable def q555 : Obj := { cls := .type "tuple", data := .seq #[.str (.ofString "self") 877, .str (.ofString "address") 878, .str (.ofString "branch") 879, .str (.ofString "found") 880, .str (.ofString "place") 881] }
noncomputable def q557 : Obj := { cls := .none, data := .func { name := .ofString "find", qualname := .ofString "Routes.find", params := fP 62 8, body := .stmts (fB 62 8), scope := fS 62 8, globals := 0, closure := [], defaults := .none, kwdefaults := .none } }
noncomputable def q558 : Obj := { cls := .type "code", data := .fields #[.str (.ofString "find") 874, .str (.ofString "Routes.find") 875, .str (.ofString "/claim/cut.py") 876, .int 320 0, .int 2 0, .int 0 0, .int 0 0, .int 3 0, .ref 493, .bool true, .int 181 0, .ref 494, .none, .ref 495, .ref 496, .ref 497, .int 882 0, .int 320 0, .str (.ofString "/claim/cut.py") 883] }
noncomputable def q559 : Obj := { cls := .type "function", data := .func { name := .ofString "find", qualname := .ofString "Routes.find", params := fP 62 8, body := .stmts (fB 62 8), scope := fS 62 8, globals := 3, closure := [], defaults := .none, kwdefaults := .none, pyModule := .str (.ofString "thinstack.routes") 633, code := .ref 498 } }
noncomputable def q562 : Obj := { cls := .type "tuple", data := .seq #[.str (.ofString "self") 888, .str (.ofString "found") 889, .str (.ofString "left") 890, .str (.ofString "branch") 891] }
noncomputable def q564 : Obj := { cls := .none, data := .func { name := .ofString "rows", qualname := .ofString "Routes.rows", params := fP 62 9, body := .stmts (fB 62 9), scope := fS 62 9, globals := 0, closure := [], defaults := .none, kwdefaults := .none } }
noncomputable def q565 : Obj := { cls := .type "code", data := .fields #[.str (.ofString "rows") 885, .str (.ofString "Routes.rows") 886, .str (.ofString "/claim/cut.py") 887, .int 331 0, .int 1 0, .int 0 0, .int 0 0, .int 3 0, .ref 500, .bool true, .int 181 0, .ref 501, .none, .ref 502, .ref 503, .ref 504, .int 892 0, .int 331 0, .str (.ofString "/claim/cut.py") 893] }
noncomputable def q566 : Obj := { cls := .type "function", data := .func { name := .ofString "rows", qualname := .ofString "Routes.rows", params := fP 62 9, body := .stmts (fB 62 9), scope := fS 62 9, globals := 3, closure := [], defaults := .none, kwdefaults := .none, pyModule := .str (.ofString "thinstack.routes") 633, code := .ref 505 } }
noncomputable def q567 : Obj := { cls := .type "tuple", data := .seq #[.str (.ofString "many") 895, .str (.ofString "root") 896] }
noncomputable def q568 (P : Params) : Obj := { cls := .type "dict", data := .dict #[⟨PyData.keyHash P (.ofString "__module__"), .str (.ofString "__module__") 803, .str (.ofString "thinstack.routes") 633⟩, ⟨PyData.keyHash P (.ofString "__firstlineno__"), .str (.ofString "__firstlineno__") 807, .int 274 806⟩, ⟨PyData.keyHash P (.ofString "__init__"), .str (.ofString "__init__") 814, .ref 450⟩, ⟨PyData.keyHash P (.ofString "size"), .str (.ofString "size") 821, .ref 457⟩, ⟨PyData.keyHash P (.ofString "path"), .str (.ofString "path") 835, .ref 464⟩, ⟨PyData.keyHash P (.ofString "add"), .str (.ofString "add") 847, .ref 471⟩, ⟨PyData.keyHash P (.ofString "remove"), .str (.ofString "remove") 856, .ref 478⟩, ⟨PyData.keyHash P (.ofString "remove_face"), .str (.ofString "remove_face") 864, .ref 485⟩, ⟨PyData.keyHash P (.ofString "prune"), .str (.ofString "prune") 873, .ref 492⟩, ⟨PyData.keyHash P (.ofString "find"), .str (.ofString "find") 884, .ref 499⟩, ⟨PyData.keyHash P (.ofString "rows"), .str (.ofString "rows") 894, .ref 506⟩, ⟨PyData.keyHash P (.ofString "__static_attributes__"), .str (.ofString "__static_attributes__") 897, .ref 507⟩, ⟨PyData.keyHash P (.ofString "__dict__"), .str (.ofString "__dict__") 899, .ref 510⟩, ⟨PyData.keyHash P (.ofString "__weakref__"), .str (.ofString "__weakref__") 901, .ref 511⟩, ⟨PyData.keyHash P (.ofString "__doc__"), .str (.ofString "__doc__") 902, .none⟩] 4 }
noncomputable def q569 : Obj := { cls := .type "type", data := .cls { name := .ofString "Routes", bases := [.type "object"], mro := [.ref 509, .type "object"], ns := 508, qualname := .ofString "Routes" }, slots := #[none, none, some (.str (.ofString "Routes") 796), some (.str (.ofString "Routes") 804), some (.builtin "object.__new__"), some (.bool true)] }
noncomputable def q570 : Obj := { cls := .type "getset_descriptor", data := .fields #[.str (.ofString "__dict__") 898, .ref 509, .builtin "function.__dict__", .builtin "function.__dict__#set"] }
noncomputable def q571 : Obj := { cls := .type "getset_descriptor", data := .fields #[.str (.ofString "__weakref__") 900, .ref 509, .builtin "ExceptionGroup.__weakref__", .none] }
noncomputable def q572 : Obj := { cls := .type "super", data := .fields #[.ref 509, .ref 509, .ref 509] }
noncomputable def q573 : Obj := { cls := .type "builtin_function_or_method", data := .fields #[.builtin "object.__init_subclass__", .ref 509] }
noncomputable def q574 (P : Params) : Obj := { cls := .type "dict", data := .dict #[⟨PyData.keyHash P (.ofString "__name__"), .str (.ofString "__name__") 165, .str (.ofString "thinstack.ip_layer") 905⟩, ⟨PyData.keyHash P (.ofString "__doc__"), .str (.ofString "__doc__") 166, .none⟩, ⟨PyData.keyHash P (.ofString "__package__"), .str (.ofString "__package__") 167, .none⟩, ⟨PyData.keyHash P (.ofString "__loader__"), .str (.ofString "__loader__") 168, .builtin "__main__.__loader__#opaque"⟩, ⟨PyData.keyHash P (.ofString "__spec__"), .str (.ofString "__spec__") 169, .none⟩, ⟨PyData.keyHash P (.ofString "__annotations__"), .str (.ofString "__annotations__") 170, .ref 6⟩, ⟨PyData.keyHash P (.ofString "__builtins__"), .str (.ofString "__builtins__") 171, .ref 4⟩, ⟨PyData.keyHash P (.ofString "__file__"), .str (.ofString "__file__") 173, .str (.ofString "/claim/cut.py") 172⟩, ⟨PyData.keyHash P (.ofString "__cached__"), .str (.ofString "__cached__") 174, .none⟩, ⟨PyData.keyHash P (.ofString "_wall"), .str (.ofString "_wall") 193, .ref 21⟩, ⟨PyData.keyHash P (.ofString "StackError"), .str (.ofString "StackError") 224, .ref 38⟩, ⟨PyData.keyHash P (.ofString "FormError"), .str (.ofString "FormError") 240, .ref 51⟩, ⟨PyData.keyHash P (.ofString "SizeError"), .str (.ofString "SizeError") 256, .ref 63⟩, ⟨PyData.keyHash P (.ofString "RouteError"), .str (.ofString "RouteError") 272, .ref 75⟩, ⟨PyData.keyHash P (.ofString "put16"), .str (.ofString "put16") 281, .ref 84⟩, ⟨PyData.keyHash P (.ofString "put32"), .str (.ofString "put32") 288, .ref 91⟩, ⟨PyData.keyHash P (.ofString "need"), .str (.ofString "need") 297, .ref 98⟩, ⟨PyData.keyHash P (.ofString "get16"), .str (.ofString "get16") 305, .ref 105⟩, ⟨PyData.keyHash P (.ofString "get32"), .str (.ofString "get32") 313, .ref 112⟩, ⟨PyData.keyHash P (.ofString "ALL_ONES"), .str (.ofString "ALL_ONES") 317, .int 65535 316⟩, ⟨PyData.keyHash P (.ofString "fold"), .str (.ofString "fold") 324, .ref 119⟩, ⟨PyData.keyHash P (.ofString "ones_sum"), .str (.ofString "ones_sum") 336, .ref 127⟩, ⟨PyData.keyHash P (.ofString "checksum"), .str (.ofString "checksum") 345, .ref 135⟩, ⟨PyData.keyHash P (.ofString "VERSION"), .str (.ofString "VERSION") 349, .int 4 348⟩, ⟨PyData.keyHash P (.ofString "LEAST_HEAD"), .str (.ofString "LEAST_HEAD") 351, .int 20 350⟩, ⟨PyData.keyHash P (.ofString "MOST_HEAD"), .str (.ofString "MOST_HEAD") 353, .int 60 352⟩, ⟨PyData.keyHash P (.ofString "MOST_TOTAL"), .str (.ofString "MOST_TOTAL") 355, .int 65535 354⟩, ⟨PyData.keyHash P (.ofString "DONT_BIT"), .str (.ofString "DONT_BIT") 357, .int 16384 356⟩, ⟨PyData.keyHash P (.ofString "MORE_BIT"), .str (.ofString "MORE_BIT") 359, .int 8192 358⟩, ⟨PyData.keyHash P (.ofString "PLACE_BITS"), .str (.ofString "PLACE_BITS") 361, .int 8191 360⟩, ⟨PyData.keyHash P (.ofString "TTL_PLACE"), .str (.ofString "TTL_PLACE") 363, .int 8 362⟩, ⟨PyData.keyHash P (.ofString "IpHeader"), .str (.ofString "IpHeader") 453, .ref 188⟩, ⟨PyData.keyHash P (.ofString "is_within"), .str (.ofString "is_within") 461, .ref 199⟩, ⟨PyData.keyHash P (.ofString "check_fields"), .str (.ofString "check_fields") 469, .ref 206⟩, ⟨PyData.keyHash P (.ofString "check_size"), .str (.ofString "check_size") 477, .ref 213⟩, ⟨PyData.keyHash P (.ofString "flags_of"), .str (.ofString "flags_of") 485, .ref 220⟩, ⟨PyData.keyHash P (.ofString "pack_ip"), .str (.ofString "pack_ip") 498, .ref 227⟩, ⟨PyData.keyHash P (.ofString "head_size"), .str (.ofString "head_size") 506, .ref 234⟩, ⟨PyData.keyHash P (.ofString "unpack_ip"), .str (.ofString "unpack_ip") 518, .ref 241⟩, ⟨PyData.keyHash P (.ofString "END"), .str (.ofString "END") 522, .int 0 521⟩, ⟨PyData.keyHash P (.ofString "NOTHING"), .str (.ofString "NOTHING") 524, .int 1 523⟩, ⟨PyData.keyHash P (.ofString "MOST_OPTIONS"), .str (.ofString "MOST_OPTIONS") 526, .int 40 525⟩, ⟨PyData.keyHash P (.ofString "COPY_BIT"), .str (.ofString "COPY_BIT") 528, .int 128 527⟩, ⟨PyData.keyHash P (.ofString "is_single"), .str (.ofString "is_single") 535, .ref 248⟩, ⟨PyData.keyHash P (.ofString "read_options"), .str (.ofString "read_options") 546, .ref 255⟩, ⟨PyData.keyHash P (.ofString "size_at"), .str (.ofString "size_at") 555, .ref 262⟩, ⟨PyData.keyHash P (.ofString "write_options"), .str (.ofString "write_options") 565, .ref 269⟩, ⟨PyData.keyHash P (.ofString "option_octets"), .str (.ofString "option_octets") 573, .ref 276⟩, ⟨PyData.keyHash P (.ofString "is_copied"), .str (.ofString "is_copied") 580, .ref 283⟩, ⟨PyData.keyHash P (.ofString "copied"), .str (.ofString "copied") 586, .ref 288⟩, ⟨PyData.keyHash P (.ofString "STEP_fragments"), .str (.ofString "STEP_fragments") 590, .int 8 589⟩, ⟨PyData.keyHash P (.ofString "later_options"), .str (.ofString "later_options") 597, .ref 295⟩, ⟨PyData.keyHash P (.ofString "part_header"), .str (.ofString "part_header") 607, .ref 302⟩, ⟨PyData.keyHash P (.ofString "room_of"), .str (.ofString "room_of") 616, .ref 309⟩, ⟨PyData.keyHash P (.ofString "cut"), .str (.ofString "cut") 632, .ref 316⟩, ⟨PyData.keyHash P (.ofString "BITS"), .str (.ofString "BITS") 636, .int 32 635⟩, ⟨PyData.keyHash P (.ofString "ALL"), .str (.ofString "ALL") 642, .int 4294967295 641⟩, ⟨PyData.keyHash P (.ofString "mask_of"), .str (.ofString "mask_of") 649, .ref 323⟩, ⟨PyData.keyHash P (.ofString "net_of"), .str (.ofString "net_of") 657, .ref 330⟩, ⟨PyData.keyHash P (.ofString "is_group"), .str (.ofString "is_group") 664, .ref 337⟩, ⟨PyData.keyHash P (.ofString "is_loop"), .str (.ofString "is_loop") 671, .ref 344⟩, ⟨PyData.keyHash P (.ofString "Route"), .str (.ofString "Route") 724, .ref 376⟩, ⟨PyData.keyHash P (.ofString "Branch"), .str (.ofString "Branch") 787, .ref 425⟩, ⟨PyData.keyHash P (.ofString "bit_at"), .str (.ofString "bit_at") 795, .ref 436⟩, ⟨PyData.keyHash P (.ofString "Routes"), .str (.ofString "Routes") 904, .ref 509⟩, ⟨PyData.keyHash P (.ofString "ALL_HOSTS"), .str (.ofString "ALL_HOSTS") 912, .int 4294967295 911⟩, ⟨PyData.keyHash P (.ofString "LEAST_TARGET"), .str (.ofString "LEAST_TARGET") 916, .int 16777216 915⟩, ⟨PyData.keyHash P (.ofString "UNREACHABLE"), .str (.ofString "UNREACHABLE") 918, .int 3 917⟩, ⟨PyData.keyHash P (.ofString "EXCEEDED"), .str (.ofString "EXCEEDED") 920, .int 11 919⟩, ⟨PyData.keyHash P (.ofString "NO_NET"), .str (.ofString "NO_NET") 922, .int 0 921⟩, ⟨PyData.keyHash P (.ofString "TOO_GREAT"), .str (.ofString "TOO_GREAT") 924, .int 4 923⟩, ⟨PyData.keyHash P (.ofString "IN_TRANSIT"), .str (.ofString "IN_TRANSIT") 926, .int 0 925⟩, ⟨PyData.keyHash P (.ofString "FaceRow"), .str (.ofString "FaceRow") 959, .ref 530⟩, ⟨PyData.keyHash P (.ofString "header_like"), .str (.ofString "header_like") 968, .ref 541⟩] 74 }
noncomputable def q575 : Obj := { cls := .none, data := .fields #[.int 1 0, .int 0 0, .ref 20, .int 5 0, .int 0 0, .ref 27, .int 9 0, .int 0 0, .ref 47, .int 11 0, .int 0 0, .ref 59, .int 13 0, .int 0 0, .ref 71, .int 16 0, .int 0 0, .ref 83, .int 18 0, .int 0 0, .ref 90, .int 20 0, .int 0 0, .ref 97, .int 23 0, .int 0 0, .ref 104, .int 26 0, .int 0 0, .ref 111, .int 31 0, .int 0 0, .ref 118, .int 35 0, .int 0 0, .ref 126, .int 43 0, .int 0 0, .ref 134, .int 54 0, .int 0 0, .ref 141, .int 82 0, .int 0 0, .ref 198, .int 84 0, .int 0 0, .ref 205, .int 95 0, .int 0 0, .ref 212, .int 100 0, .int 0 0, .ref 219, .int 107 0, .int 0 0, .ref 226, .int 116 0, .int 0 0, .ref 233, .int 125 0, .int 0 0, .ref 240, .int 141 0, .int 0 0, .ref 247, .int 143 0, .int 0 0, .ref 254, .int 156 0, .int 0 0, .ref 261, .int 163 0, .int 0 0, .ref 268, .int 171 0, .int 0 0, .ref 275, .int 181 0, .int 0 0, .ref 282, .int 183 0, .int 0 0, .ref 287, .int 187 0, .int 0 0, .ref 294, .int 192 0, .int 0 0, .ref 301, .int 194 0, .int 0 0, .ref 308, .int 199 0, .int 0 0, .ref 315, .int 221 0, .int 0 0, .ref 322, .int 225 0, .int 0 0, .ref 329, .int 227 0, .int 0 0, .ref 336, .int 229 0, .int 0 0, .ref 343, .int 231 0, .int 0 0, .ref 350, .int 245 0, .int 0 0, .ref 386, .int 272 0, .int 0 0, .ref 435, .int 274 0, .int 0 0, .ref 442, .int 350 0, .int 0 0, .ref 519, .int 356 0, .int 0 0, .ref 540] }
noncomputable def q578 (P : Params) : Obj := { cls := .type "dict", data := .dict #[⟨PyData.keyHash P (.ofString "__module__"), .str (.ofString "__module__") 934, .str (.ofString "thinstack.ip_layer") 905⟩, ⟨PyData.keyHash P (.ofString "__qualname__"), .str (.ofString "__qualname__") 936, .str (.ofString "FaceRow") 935⟩, ⟨PyData.keyHash P (.ofString "__firstlineno__"), .str (.ofString "__firstlineno__") 938, .int 350 937⟩, ⟨PyData.keyHash P (.ofString "__init__"), .str (.ofString "__init__") 948, .ref 527⟩, ⟨PyData.keyHash P (.ofString "__static_attributes__"), .str (.ofString "__static_attributes__") 952, .ref 528⟩] 5 }
noncomputable def q580 : Obj := { cls := .none, data := .fields #[.int 352 0, .int 4 0, .ref 526] }
noncomputable def q581 : Obj := { cls := .type "code", data := .fields #[.str (.ofString "FaceRow") 929, .str (.ofString "FaceRow") 930, .str (.ofString "/claim/cut.py") 931, .int 350 0, .int 0 0, .int 0 0, .int 0 0, .int 0 0, .ref 517, .bool false, .int 181 0, .ref 518, .none, .none, .none, .none, .int 932 0, .int 350 0, .str (.ofString "/claim/cut.py") 933] }
noncomputable def q582 : Obj := { cls := .type "frame", slots := #[some (.ref 519), some (.ref 3), some (.ref 516), none, some (.str (.ofString "thinstack.ip_layer") 905), none, some (.ref 0)] }
noncomputable def q585 : Obj := { cls := .type "tuple", data := .seq #[.str (.ofString "self") 942, .str (.ofString "address") 943, .str (.ofString "prefix") 944, .str (.ofString "mtu") 945] }
noncomputable def q587 : Obj := { cls := .none, data := .func { name := .ofString "__init__", qualname := .ofString "FaceRow.__init__", params := fP 71 1, body := .stmts (fB 71 1), scope := fS 71 1, globals := 0, closure := [], defaults := .none, kwdefaults := .none } }
noncomputable def q588 : Obj := { cls := .type "code", data := .fields #[.str (.ofString "__init__") 939, .str (.ofString "FaceRow.__init__") 940, .str (.ofString "/claim/cut.py") 941, .int 352 0, .int 4 0, .int 0 0, .int 0 0, .int 3 0, .ref 521, .bool true, .int 181 0, .ref 522, .none, .ref 523, .ref 524, .ref 525, .int 946 0, .int 352 0, .str (.ofString "/claim/cut.py") 947] }
noncomputable def q589 : Obj := { cls := .type "function", data := .func { name := .ofString "__init__", qualname := .ofString "FaceRow.__init__", params := fP 71 1, body := .stmts (fB 71 1), scope := fS 71 1, globals := 3, closure := [], defaults := .none, kwdefaults := .none, pyModule := .str (.ofString "thinstack.ip_layer") 905, code := .ref 526 } }
noncomputable def q590 : Obj := { cls := .type "tuple", data := .seq #[.str (.ofString "address") 949, .str (.ofString "mtu") 950, .str (.ofString "prefix") 951] }
noncomputable def q591 (P : Params) : Obj := { cls := .type "dict", data := .dict #[⟨PyData.keyHash P (.ofString "__module__"), .str (.ofString "__module__") 934, .str (.ofString "thinstack.ip_layer") 905⟩, ⟨PyData.keyHash P (.ofString "__firstlineno__"), .str (.ofString "__firstlineno__") 938, .int 350 937⟩, ⟨PyData.keyHash P (.ofString "__init__"), .str (.ofString "__init__") 948, .ref 527⟩, ⟨PyData.keyHash P (.ofString "__static_attributes__"), .str (.ofString "__static_attributes__") 952, .ref 528⟩, ⟨PyData.keyHash P (.ofString "__dict__"), .str (.ofString "__dict__") 954, .ref 531⟩, ⟨PyData.keyHash P (.ofString "__weakref__"), .str (.ofString "__weakref__") 956, .ref 532⟩, ⟨PyData.keyHash P (.ofString "__doc__"), .str (.ofString "__doc__") 957, .none⟩] 4 }
noncomputable def q592 : Obj := { cls := .type "type", data := .cls { name := .ofString "FaceRow", bases := [.type "object"], mro := [.ref 530, .type "object"], ns := 529, qualname := .ofString "FaceRow" }, slots := #[none, none, some (.str (.ofString "FaceRow") 927), some (.str (.ofString "FaceRow") 935), some (.builtin "object.__new__"), some (.bool true)] }
noncomputable def q593 : Obj := { cls := .type "getset_descriptor", data := .fields #[.str (.ofString "__dict__") 953, .ref 530, .builtin "function.__dict__", .builtin "function.__dict__#set"] }
noncomputable def q594 : Obj := { cls := .type "getset_descriptor", data := .fields #[.str (.ofString "__weakref__") 955, .ref 530, .builtin "ExceptionGroup.__weakref__", .none] }
noncomputable def q595 : Obj := { cls := .type "super", data := .fields #[.ref 530, .ref 530, .ref 530] }
noncomputable def q596 : Obj := { cls := .type "builtin_function_or_method", data := .fields #[.builtin "object.__init_subclass__", .ref 530] }
noncomputable def q599 : Obj := { cls := .type "tuple", data := .seq #[.str (.ofString "header") 963, .str (.ofString "source") 964, .str (.ofString "ttl") 965] }
noncomputable def q601 : Obj := { cls := .none, data := .func { name := .ofString "header_like", qualname := .ofString "header_like", params := fP 72 0, body := .stmts (fB 72 0), scope := fS 72 0, globals := 0, closure := [], defaults := .none, kwdefaults := .none } }
noncomputable def q602 : Obj := { cls := .type "code", data := .fields #[.str (.ofString "header_like") 960, .str (.ofString "header_like") 961, .str (.ofString "/claim/cut.py") 962, .int 356 0, .int 3 0, .int 0 0, .int 0 0, .int 3 0, .ref 535, .bool true, .int 181 0, .ref 536, .none, .ref 537, .ref 538, .ref 539, .int 966 0, .int 356 0, .str (.ofString "/claim/cut.py") 967] }
noncomputable def q603 : Obj := { cls := .type "function", data := .func { name := .ofString "header_like", qualname := .ofString "header_like", params := fP 72 0, body := .stmts (fB 72 0), scope := fS 72 0, globals := 3, closure := [], defaults := .none, kwdefaults := .none, pyModule := .str (.ofString "thinstack.ip_layer") 905, code := .ref 540 } }
noncomputable def q608 (P : Params) : Obj := { cls := .type "dict", data := .dict #[⟨PyData.keyHash P (.ofString "__module__"), .str (.ofString "__module__") 976, .str (.ofString "thinstack.ip_layer") 905⟩, ⟨PyData.keyHash P (.ofString "__qualname__"), .str (.ofString "__qualname__") 978, .str (.ofString "IpLayer") 977⟩, ⟨PyData.keyHash P (.ofString "__firstlineno__"), .str (.ofString "__firstlineno__") 980, .int 358 979⟩, ⟨PyData.keyHash P (.ofString "__init__"), .str (.ofString "__init__") 991, .ref 556⟩, ⟨PyData.keyHash P (.ofString "next_ident"), .str (.ofString "next_ident") 998, .ref 563⟩, ⟨PyData.keyHash P (.ofString "is_own"), .str (.ofString "is_own") 1006, .ref 570⟩, ⟨PyData.keyHash P (.ofString "is_told_to_all"), .str (.ofString "is_told_to_all") 1015, .ref 577⟩, ⟨PyData.keyHash P (.ofString "is_for_all"), .str (.ofString "is_for_all") 1023, .ref 584⟩, ⟨PyData.keyHash P (.ofString "may_send"), .str (.ofString "may_send") 1031, .ref 591⟩, ⟨PyData.keyHash P (.ofString "input"), .str (.ofString "input") 1041, .ref 598⟩, ⟨PyData.keyHash P (.ofString "deliver"), .str (.ofString "deliver") 1052, .ref 605⟩, ⟨PyData.keyHash P (.ofString "forward"), .str (.ofString "forward") 1063, .ref 612⟩, ⟨PyData.keyHash P (.ofString "packets"), .str (.ofString "packets") 1078, .ref 619⟩, ⟨PyData.keyHash P (.ofString "route_to"), .str (.ofString "route_to") 1086, .ref 626⟩, ⟨PyData.keyHash P (.ofString "source_for"), .str (.ofString "source_for") 1094, .ref 633⟩, ⟨PyData.keyHash P (.ofString "want_one_host"), .str (.ofString "want_one_host") 1102, .ref 640⟩, ⟨PyData.keyHash P (.ofString "output"), .str (.ofString "output") 1116, .ref 648⟩, ⟨PyData.keyHash P (.ofString "given_up"), .str (.ofString "given_up") 1124, .ref 655⟩, ⟨PyData.keyHash P (.ofString "expire"), .str (.ofString "expire") 1132, .ref 662⟩, ⟨PyData.keyHash P (.ofString "__static_attributes__"), .str (.ofString "__static_attributes__") 1138, .ref 663⟩] 20 }
noncomputable def q610 : Obj := { cls := .none, data := .fields #[.int 360 0, .int 4 0, .ref 555, .int 367 0, .int 4 0, .ref 562, .int 370 0, .int 4 0, .ref 569, .int 373 0, .int 4 0, .ref 576, .int 376 0, .int 4 0, .ref 583, .int 379 0, .int 4 0, .ref 590, .int 382 0, .int 4 0, .ref 597, .int 385 0, .int 4 0, .ref 604, .int 388 0, .int 4 0, .ref 611, .int 404 0, .int 4 0, .ref 618, .int 412 0, .int 4 0, .ref 625, .int 415 0, .int 4 0, .ref 632, .int 418 0, .int 4 0, .ref 639, .int 421 0, .int 4 0, .ref 647, .int 424 0, .int 4 0, .ref 654, .int 427 0, .int 4 0, .ref 661] }
noncomputable def q611 : Obj := { cls := .type "code", data := .fields #[.str (.ofString "IpLayer") 971, .str (.ofString "IpLayer") 972, .str (.ofString "/claim/cut.py") 973, .int 358 0, .int 0 0, .int 0 0, .int 0 0, .int 0 0, .ref 545, .bool false, .int 181 0, .ref 546, .none, .none, .none, .none, .int 974 0, .int 358 0, .str (.ofString "/claim/cut.py") 975] }
noncomputable def q612 : Obj := { cls := .type "frame", slots := #[some (.ref 547), some (.ref 3), some (.ref 544), none, some (.str (.ofString "thinstack.ip_layer") 905), none, some (.ref 0)] }
noncomputable def q613 : Obj := { cls := .type "tuple", data := .seq #[.bool false] }
noncomputable def q616 : Obj := { cls := .type "tuple", data := .seq #[.str (.ofString "self") 984, .str (.ofString "faces") 985, .str (.ofString "routes") 986, .str (.ofString "reassembly") 987, .str (.ofString "forwards") 988] }
noncomputable def q618 : Obj := { cls := .none, data := .func { name := .ofString "__init__", qualname := .ofString "IpLayer.__init__", params := fP 73 1, body := .stmts (fB 73 1), scope := fS 73 1, globals := 0, closure := [], defaults := .none, kwdefaults := .none } }
noncomputable def q619 : Obj := { cls := .type "code", data := .fields #[.str (.ofString "__init__") 981, .str (.ofString "IpLayer.__init__") 982, .str (.ofString "/claim/cut.py") 983, .int 360 0, .int 5 0, .int 0 0, .int 0 0, .int 3 0, .ref 550, .bool true, .int 181 0, .ref 551, .none, .ref 552, .ref 553, .ref 554, .int 989 0, .int 360 0, .str (.ofString "/claim/cut.py") 990] }
noncomputable def q620 : Obj := { cls := .type "function", data := .func { name := .ofString "__init__", qualname := .ofString "IpLayer.__init__", params := fP 73 1, body := .stmts (fB 73 1), scope := fS 73 1, globals := 3, closure := [], defaults := .ref 549, kwdefaults := .none, pyModule := .str (.ofString "thinstack.ip_layer") 905, code := .ref 555 } }
noncomputable def q623 : Obj := { cls := .type "tuple", data := .seq #[.str (.ofString "self") 995] }
noncomputable def q625 : Obj := { cls := .none, data := .func { name := .ofString "next_ident", qualname := .ofString "IpLayer.next_ident", params := fP 73 2, body := .stmts (fB 73 2), scope := fS 73 2, globals := 0, closure := [], defaults := .none, kwdefaults := .none } }
noncomputable def q626 : Obj := { cls := .type "code", data := .fields #[.str (.ofString "next_ident") 992, .str (.ofString "IpLayer.next_ident") 993, .str (.ofString "/claim/cut.py") 994, .int 367 0, .int 1 0, .int 0 0, .int 0 0, .int 3 0, .ref 557, .bool true, .int 181 0, .ref 558, .none, .ref 559, .ref 560, .ref 561, .int 996 0, .int 367 0, .str (.ofString "/claim/cut.py") 997] }
noncomputable def q627 : Obj := { cls := .type "function", data := .func { name := .ofString "next_ident", qualname := .ofString "IpLayer.next_ident", params := fP 73 2, body := .stmts (fB 73 2), scope := fS 73 2, globals := 3, closure := [], defaults := .none, kwdefaults := .none, pyModule := .str (.ofString "thinstack.ip_layer") 905, code := .ref 562 } }
noncomputable def q630 : Obj := { cls := .type "tuple", data := .seq #[.str (.ofString "self") 1002, .str (.ofString "address") 1003] }
noncomputable def q632 : Obj := { cls := .none, data := .func { name := .ofString "is_own", qualname := .ofString "IpLayer.is_own", params := fP 73 3, body := .stmts (fB 73 3), scope := fS 73 3, globals := 0, closure := [], defaults := .none, kwdefaults := .none } }
noncomputable def q633 : Obj := { cls := .type "code", data := .fields #[.str (.ofString "is_own") 999, .str (.ofString "IpLayer.is_own") 1000, .str (.ofString "/claim/cut.py") 1001, .int 370 0, .int 2 0, .int 0 0, .int 0 0, .int 3 0, .ref 564, .bool true, .int 181 0, .ref 565, .none, .ref 566, .ref 567, .ref 568, .int 1004 0, .int 370 0, .str (.ofString "/claim/cut.py") 1005] }
noncomputable def q634 : Obj := { cls := .type "function", data := .func { name := .ofString "is_own", qualname := .ofString "IpLayer.is_own", params := fP 73 3, body := .stmts (fB 73 3), scope := fS 73 3, globals := 3, closure := [], defaults := .none, kwdefaults := .none, pyModule := .str (.ofString "thinstack.ip_layer") 905, code := .ref 569 } }
noncomputable def q637 : Obj := { cls := .type "tuple", data := .seq #[.str (.ofString "self") 1010, .str (.ofString "address") 1011, .str (.ofString "face") 1012] }
noncomputable def q639 : Obj := { cls := .none, data := .func { name := .ofString "is_told_to_all", qualname := .ofString "IpLayer.is_told_to_all", params := fP 73 4, body := .stmts (fB 73 4), scope := fS 73 4, globals := 0, closure := [], defaults := .none, kwdefaults := .none } }
noncomputable def q640 : Obj := { cls := .type "code", data := .fields #[.str (.ofString "is_told_to_all") 1007, .str (.ofString "IpLayer.is_told_to_all") 1008, .str (.ofString "/claim/cut.py") 1009, .int 373 0, .int 3 0, .int 0 0, .int 0 0, .int 3 0, .ref 571, .bool true, .int 181 0, .ref 572, .none, .ref 573, .ref 574, .ref 575, .int 1013 0, .int 373 0, .str (.ofString "/claim/cut.py") 1014] }
noncomputable def q641 : Obj := { cls := .type "function", data := .func { name := .ofString "is_told_to_all", qualname := .ofString "IpLayer.is_told_to_all", params := fP 73 4, body := .stmts (fB 73 4), scope := fS 73 4, globals := 3, closure := [], defaults := .none, kwdefaults := .none, pyModule := .str (.ofString "thinstack.ip_layer") 905, code := .ref 576 } }
noncomputable def q644 : Obj := { cls := .type "tuple", data := .seq #[.str (.ofString "self") 1019, .str (.ofString "address") 1020] }
noncomputable def q646 : Obj := { cls := .none, data := .func { name := .ofString "is_for_all", qualname := .ofString "IpLayer.is_for_all", params := fP 73 5, body := .stmts (fB 73 5), scope := fS 73 5, globals := 0, closure := [], defaults := .none, kwdefaults := .none } }
noncomputable def q647 : Obj := { cls := .type "code", data := .fields #[.str (.ofString "is_for_all") 1016, .str (.ofString "IpLayer.is_for_all") 1017, .str (.ofString "/claim/cut.py") 1018, .int 376 0, .int 2 0, .int 0 0, .int 0 0, .int 3 0, .ref 578, .bool true, .int 181 0, .ref 579, .none, .ref 580, .ref 581, .ref 582, .int 1021 0, .int 376 0, .str (.ofString "/claim/cut.py") 1022] }
noncomputable def q648 : Obj := { cls := .type "function", data := .func { name := .ofString "is_for_all", qualname := .ofString "IpLayer.is_for_all", params := fP 73 5, body := .stmts (fB 73 5), scope := fS 73 5, globals := 3, closure := [], defaults := .none, kwdefaults := .none, pyModule := .str (.ofString "thinstack.ip_layer") 905, code := .ref 583 } }
noncomputable def q651 : Obj := { cls := .type "tuple", data := .seq #[.str (.ofString "self") 1027, .str (.ofString "address") 1028] }
noncomputable def q653 : Obj := { cls := .none, data := .func { name := .ofString "may_send", qualname := .ofString "IpLayer.may_send", params := fP 73 6, body := .stmts (fB 73 6), scope := fS 73 6, globals := 0, closure := [], defaults := .none, kwdefaults := .none } }
noncomputable def q654 : Obj := { cls := .type "code", data := .fields #[.str (.ofString "may_send") 1024, .str (.ofString "IpLayer.may_send") 1025, .str (.ofString "/claim/cut.py") 1026, .int 379 0, .int 2 0, .int 0 0, .int 0 0, .int 3 0, .ref 585, .bool true, .int 181 0, .ref 586, .none, .ref 587, .ref 588, .ref 589, .int 1029 0, .int 379 0, .str (.ofString "/claim/cut.py") 1030] }
noncomputable def q655 : Obj := { cls := .type "function", data := .func { name := .ofString "may_send", qualname := .ofString "IpLayer.may_send", params := fP 73 6, body := .stmts (fB 73 6), scope := fS 73 6, globals := 3, closure := [], defaults := .none, kwdefaults := .none, pyModule := .str (.ofString "thinstack.ip_layer") 905, code := .ref 590 } }
noncomputable def q658 : Obj := { cls := .type "tuple", data := .seq #[.str (.ofString "self") 1035, .str (.ofString "octets") 1036, .str (.ofString "face") 1037, .str (.ofString "now") 1038] }
noncomputable def q660 : Obj := { cls := .none, data := .func { name := .ofString "input", qualname := .ofString "IpLayer.input", params := fP 73 7, body := .stmts (fB 73 7), scope := fS 73 7, globals := 0, closure := [], defaults := .none, kwdefaults := .none } }
noncomputable def q661 : Obj := { cls := .type "code", data := .fields #[.str (.ofString "input") 1032, .str (.ofString "IpLayer.input") 1033, .str (.ofString "/claim/cut.py") 1034, .int 382 0, .int 4 0, .int 0 0, .int 0 0, .int 3 0, .ref 592, .bool true, .int 181 0, .ref 593, .none, .ref 594, .ref 595, .ref 596, .int 1039 0, .int 382 0, .str (.ofString "/claim/cut.py") 1040] }
noncomputable def q662 : Obj := { cls := .type "function", data := .func { name := .ofString "input", qualname := .ofString "IpLayer.input", params := fP 73 7, body := .stmts (fB 73 7), scope := fS 73 7, globals := 3, closure := [], defaults := .none, kwdefaults := .none, pyModule := .str (.ofString "thinstack.ip_layer") 905, code := .ref 597 } }
noncomputable def q665 : Obj := { cls := .type "tuple", data := .seq #[.str (.ofString "self") 1045, .str (.ofString "header") 1046, .str (.ofString "payload") 1047, .str (.ofString "to_all") 1048, .str (.ofString "now") 1049] }
noncomputable def q667 : Obj := { cls := .none, data := .func { name := .ofString "deliver", qualname := .ofString "IpLayer.deliver", params := fP 73 8, body := .stmts (fB 73 8), scope := fS 73 8, globals := 0, closure := [], defaults := .none, kwdefaults := .none } }
noncomputable def q668 : Obj := { cls := .type "code", data := .fields #[.str (.ofString "deliver") 1042, .str (.ofString "IpLayer.deliver") 1043, .str (.ofString "/claim/cut.py") 1044, .int 385 0, .int 5 0, .int 0 0, .int 0 0, .int 3 0, .ref 599, .bool true, .int 181 0, .ref 600, .none, .ref 601, .ref 602, .ref 603, .int 1050 0, .int 385 0, .str (.ofString "/claim/cut.py") 1051] }
noncomputable def q669 : Obj := { cls := .type "function", data := .func { name := .ofString "deliver", qualname := .ofString "IpLayer.deliver", params := fP 73 8, body := .stmts (fB 73 8), scope := fS 73 8, globals := 3, closure := [], defaults := .none, kwdefaults := .none, pyModule := .str (.ofString "thinstack.ip_layer") 905, code := .ref 604 } }
noncomputable def q672 : Obj := { cls := .type "tuple", data := .seq #[.str (.ofString "self") 1056, .str (.ofString "header") 1057, .str (.ofString "payload") 1058, .str (.ofString "route") 1059, .str (.ofString "later") 1060] }
noncomputable def q674 : Obj := { cls := .none, data := .func { name := .ofString "forward", qualname := .ofString "IpLayer.forward", params := fP 73 9, body := .stmts (fB 73 9), scope := fS 73 9, globals := 0, closure := [], defaults := .none, kwdefaults := .none } }
noncomputable def q675 : Obj := { cls := .type "code", data := .fields #[.str (.ofString "forward") 1053, .str (.ofString "IpLayer.forward") 1054, .str (.ofString "/claim/cut.py") 1055, .int 388 0, .int 3 0, .int 0 0, .int 0 0, .int 3 0, .ref 606, .bool true, .int 181 0, .ref 607, .none, .ref 608, .ref 609, .ref 610, .int 1061 0, .int 388 0, .str (.ofString "/claim/cut.py") 1062] }
noncomputable def q676 : Obj := { cls := .type "function", data := .func { name := .ofString "forward", qualname := .ofString "IpLayer.forward", params := fP 73 9, body := .stmts (fB 73 9), scope := fS 73 9, globals := 3, closure := [], defaults := .none, kwdefaults := .none, pyModule := .str (.ofString "thinstack.ip_layer") 905, code := .ref 611 } }
noncomputable def q679 : Obj := { cls := .type "tuple", data := .seq #[.str (.ofString "self") 1067, .str (.ofString "header") 1068, .str (.ofString "payload") 1069, .str (.ofString "route") 1070, .str (.ofString "is_near") 1071, .str (.ofString "address") 1072, .str (.ofString "found") 1073, .str (.ofString "part") 1074, .str (.ofString "octets") 1075] }
noncomputable def q681 : Obj := { cls := .none, data := .func { name := .ofString "packets", qualname := .ofString "IpLayer.packets", params := fP 73 10, body := .stmts (fB 73 10), scope := fS 73 10, globals := 0, closure := [], defaults := .none, kwdefaults := .none } }
noncomputable def q682 : Obj := { cls := .type "code", data := .fields #[.str (.ofString "packets") 1064, .str (.ofString "IpLayer.packets") 1065, .str (.ofString "/claim/cut.py") 1066, .int 404 0, .int 4 0, .int 0 0, .int 0 0, .int 3 0, .ref 613, .bool true, .int 181 0, .ref 614, .none, .ref 615, .ref 616, .ref 617, .int 1076 0, .int 404 0, .str (.ofString "/claim/cut.py") 1077] }
noncomputable def q683 : Obj := { cls := .type "function", data := .func { name := .ofString "packets", qualname := .ofString "IpLayer.packets", params := fP 73 10, body := .stmts (fB 73 10), scope := fS 73 10, globals := 3, closure := [], defaults := .none, kwdefaults := .none, pyModule := .str (.ofString "thinstack.ip_layer") 905, code := .ref 618 } }
noncomputable def q686 : Obj := { cls := .type "tuple", data := .seq #[.str (.ofString "self") 1082, .str (.ofString "target") 1083] }
noncomputable def q688 : Obj := { cls := .none, data := .func { name := .ofString "route_to", qualname := .ofString "IpLayer.route_to", params := fP 73 11, body := .stmts (fB 73 11), scope := fS 73 11, globals := 0, closure := [], defaults := .none, kwdefaults := .none } }
noncomputable def q689 : Obj := { cls := .type "code", data := .fields #[.str (.ofString "route_to") 1079, .str (.ofString "IpLayer.route_to") 1080, .str (.ofString "/claim/cut.py") 1081, .int 412 0, .int 2 0, .int 0 0, .int 0 0, .int 3 0, .ref 620, .bool true, .int 181 0, .ref 621, .none, .ref 622, .ref 623, .ref 624, .int 1084 0, .int 412 0, .str (.ofString "/claim/cut.py") 1085] }
noncomputable def q690 : Obj := { cls := .type "function", data := .func { name := .ofString "route_to", qualname := .ofString "IpLayer.route_to", params := fP 73 11, body := .stmts (fB 73 11), scope := fS 73 11, globals := 3, closure := [], defaults := .none, kwdefaults := .none, pyModule := .str (.ofString "thinstack.ip_layer") 905, code := .ref 625 } }
noncomputable def q693 : Obj := { cls := .type "tuple", data := .seq #[.str (.ofString "self") 1090, .str (.ofString "target") 1091] }
noncomputable def q695 : Obj := { cls := .none, data := .func { name := .ofString "source_for", qualname := .ofString "IpLayer.source_for", params := fP 73 12, body := .stmts (fB 73 12), scope := fS 73 12, globals := 0, closure := [], defaults := .none, kwdefaults := .none } }
noncomputable def q696 : Obj := { cls := .type "code", data := .fields #[.str (.ofString "source_for") 1087, .str (.ofString "IpLayer.source_for") 1088, .str (.ofString "/claim/cut.py") 1089, .int 415 0, .int 2 0, .int 0 0, .int 0 0, .int 3 0, .ref 627, .bool true, .int 181 0, .ref 628, .none, .ref 629, .ref 630, .ref 631, .int 1092 0, .int 415 0, .str (.ofString "/claim/cut.py") 1093] }
noncomputable def q697 : Obj := { cls := .type "function", data := .func { name := .ofString "source_for", qualname := .ofString "IpLayer.source_for", params := fP 73 12, body := .stmts (fB 73 12), scope := fS 73 12, globals := 3, closure := [], defaults := .none, kwdefaults := .none, pyModule := .str (.ofString "thinstack.ip_layer") 905, code := .ref 632 } }
noncomputable def q700 : Obj := { cls := .type "tuple", data := .seq #[.str (.ofString "self") 1098, .str (.ofString "target") 1099] }
noncomputable def q702 : Obj := { cls := .none, data := .func { name := .ofString "want_one_host", qualname := .ofString "IpLayer.want_one_host", params := fP 73 13, body := .stmts (fB 73 13), scope := fS 73 13, globals := 0, closure := [], defaults := .none, kwdefaults := .none } }
noncomputable def q703 : Obj := { cls := .type "code", data := .fields #[.str (.ofString "want_one_host") 1095, .str (.ofString "IpLayer.want_one_host") 1096, .str (.ofString "/claim/cut.py") 1097, .int 418 0, .int 2 0, .int 0 0, .int 0 0, .int 3 0, .ref 634, .bool true, .int 181 0, .ref 635, .none, .ref 636, .ref 637, .ref 638, .int 1100 0, .int 418 0, .str (.ofString "/claim/cut.py") 1101] }
noncomputable def q704 : Obj := { cls := .type "function", data := .func { name := .ofString "want_one_host", qualname := .ofString "IpLayer.want_one_host", params := fP 73 13, body := .stmts (fB 73 13), scope := fS 73 13, globals := 3, closure := [], defaults := .none, kwdefaults := .none, pyModule := .str (.ofString "thinstack.ip_layer") 905, code := .ref 639 } }
noncomputable def q705 : Obj := { cls := .type "tuple", data := .seq #[.int 64 1103, .bool false] }
noncomputable def q708 : Obj := { cls := .type "tuple", data := .seq #[.str (.ofString "self") 1107, .str (.ofString "protocol") 1108, .str (.ofString "source") 1109, .str (.ofString "target") 1110, .str (.ofString "payload") 1111, .str (.ofString "ttl") 1112, .str (.ofString "dont") 1113] }
noncomputable def q710 : Obj := { cls := .none, data := .func { name := .ofString "output", qualname := .ofString "IpLayer.output", params := fP 73 14, body := .stmts (fB 73 14), scope := fS 73 14, globals := 0, closure := [], defaults := .none, kwdefaults := .none } }
noncomputable def q711 : Obj := { cls := .type "code", data := .fields #[.str (.ofString "output") 1104, .str (.ofString "IpLayer.output") 1105, .str (.ofString "/claim/cut.py") 1106, .int 421 0, .int 7 0, .int 0 0, .int 0 0, .int 3 0, .ref 642, .bool true, .int 181 0, .ref 643, .none, .ref 644, .ref 645, .ref 646, .int 1114 0, .int 421 0, .str (.ofString "/claim/cut.py") 1115] }
noncomputable def q712 : Obj := { cls := .type "function", data := .func { name := .ofString "output", qualname := .ofString "IpLayer.output", params := fP 73 14, body := .stmts (fB 73 14), scope := fS 73 14, globals := 3, closure := [], defaults := .ref 641, kwdefaults := .none, pyModule := .str (.ofString "thinstack.ip_layer") 905, code := .ref 647 } }
noncomputable def q715 : Obj := { cls := .type "tuple", data := .seq #[.str (.ofString "self") 1120, .str (.ofString "octets") 1121] }
noncomputable def q717 : Obj := { cls := .none, data := .func { name := .ofString "given_up", qualname := .ofString "IpLayer.given_up", params := fP 73 15, body := .stmts (fB 73 15), scope := fS 73 15, globals := 0, closure := [], defaults := .none, kwdefaults := .none } }
noncomputable def q718 : Obj := { cls := .type "code", data := .fields #[.str (.ofString "given_up") 1117, .str (.ofString "IpLayer.given_up") 1118, .str (.ofString "/claim/cut.py") 1119, .int 424 0, .int 2 0, .int 0 0, .int 0 0, .int 3 0, .ref 649, .bool true, .int 181 0, .ref 650, .none, .ref 651, .ref 652, .ref 653, .int 1122 0, .int 424 0, .str (.ofString "/claim/cut.py") 1123] }
noncomputable def q719 : Obj := { cls := .type "function", data := .func { name := .ofString "given_up", qualname := .ofString "IpLayer.given_up", params := fP 73 15, body := .stmts (fB 73 15), scope := fS 73 15, globals := 3, closure := [], defaults := .none, kwdefaults := .none, pyModule := .str (.ofString "thinstack.ip_layer") 905, code := .ref 654 } }
noncomputable def q722 : Obj := { cls := .type "tuple", data := .seq #[.str (.ofString "self") 1128, .str (.ofString "now") 1129] }
noncomputable def q724 : Obj := { cls := .none, data := .func { name := .ofString "expire", qualname := .ofString "IpLayer.expire", params := fP 73 16, body := .stmts (fB 73 16), scope := fS 73 16, globals := 0, closure := [], defaults := .none, kwdefaults := .none } }
noncomputable def q725 : Obj := { cls := .type "code", data := .fields #[.str (.ofString "expire") 1125, .str (.ofString "IpLayer.expire") 1126, .str (.ofString "/claim/cut.py") 1127, .int 427 0, .int 2 0, .int 0 0, .int 0 0, .int 3 0, .ref 656, .bool true, .int 181 0, .ref 657, .none, .ref 658, .ref 659, .ref 660, .int 1130 0, .int 427 0, .str (.ofString "/claim/cut.py") 1131] }
noncomputable def q726 : Obj := { cls := .type "function", data := .func { name := .ofString "expire", qualname := .ofString "IpLayer.expire", params := fP 73 16, body := .stmts (fB 73 16), scope := fS 73 16, globals := 3, closure := [], defaults := .none, kwdefaults := .none, pyModule := .str (.ofString "thinstack.ip_layer") 905, code := .ref 661 } }
noncomputable def q727 : Obj := { cls := .type "tuple", data := .seq #[.str (.ofString "faces") 1133, .str (.ofString "forwards") 1134, .str (.ofString "last_ident") 1135, .str (.ofString "reassembly") 1136, .str (.ofString "routes") 1137] }
noncomputable def q728 (P : Params) : Obj := { cls := .type "dict", data := .dict #[⟨PyData.keyHash P (.ofString "__module__"), .str (.ofString "__module__") 976, .str (.ofString "thinstack.ip_layer") 905⟩, ⟨PyData.keyHash P (.ofString "__firstlineno__"), .str (.ofString "__firstlineno__") 980, .int 358 979⟩, ⟨PyData.keyHash P (.ofString "__init__"), .str (.ofString "__init__") 991, .ref 556⟩, ⟨PyData.keyHash P (.ofString "next_ident"), .str (.ofString "next_ident") 998, .ref 563⟩, ⟨PyData.keyHash P (.ofString "is_own"), .str (.ofString "is_own") 1006, .ref 570⟩, ⟨PyData.keyHash P (.ofString "is_told_to_all"), .str (.ofString "is_told_to_all") 1015, .ref 577⟩, ⟨PyData.keyHash P (.ofString "is_for_all"), .str (.ofString "is_for_all") 1023, .ref 584⟩, ⟨PyData.keyHash P (.ofString "may_send"), .str (.ofString "may_send") 1031, .ref 591⟩, ⟨PyData.keyHash P (.ofString "input"), .str (.ofString "input") 1041, .ref 598⟩, ⟨PyData.keyHash P (.ofString "deliver"), .str (.ofString "deliver") 1052, .ref 605⟩, ⟨PyData.keyHash P (.ofString "forward"), .str (.ofString "forward") 1063, .ref 612⟩, ⟨PyData.keyHash P (.ofString "packets"), .str (.ofString "packets") 1078, .ref 619⟩, ⟨PyData.keyHash P (.ofString "route_to"), .str (.ofString "route_to") 1086, .ref 626⟩, ⟨PyData.keyHash P (.ofString "source_for"), .str (.ofString "source_for") 1094, .ref 633⟩, ⟨PyData.keyHash P (.ofString "want_one_host"), .str (.ofString "want_one_host") 1102, .ref 640⟩, ⟨PyData.keyHash P (.ofString "output"), .str (.ofString "output") 1116, .ref 648⟩, ⟨PyData.keyHash P (.ofString "given_up"), .str (.ofString "given_up") 1124, .ref 655⟩, ⟨PyData.keyHash P (.ofString "expire"), .str (.ofString "expire") 1132, .ref 662⟩, ⟨PyData.keyHash P (.ofString "__static_attributes__"), .str (.ofString "__static_attributes__") 1138, .ref 663⟩, ⟨PyData.keyHash P (.ofString "__dict__"), .str (.ofString "__dict__") 1140, .ref 666⟩, ⟨PyData.keyHash P (.ofString "__weakref__"), .str (.ofString "__weakref__") 1142, .ref 667⟩, ⟨PyData.keyHash P (.ofString "__doc__"), .str (.ofString "__doc__") 1143, .none⟩] 4 }
noncomputable def q729 : Obj := { cls := .type "type", data := .cls { name := .ofString "IpLayer", bases := [.type "object"], mro := [.ref 665, .type "object"], ns := 664, qualname := .ofString "IpLayer" }, slots := #[none, none, some (.str (.ofString "IpLayer") 969), some (.str (.ofString "IpLayer") 977), some (.builtin "object.__new__"), some (.bool true)] }
noncomputable def q730 : Obj := { cls := .type "getset_descriptor", data := .fields #[.str (.ofString "__dict__") 1139, .ref 665, .builtin "function.__dict__", .builtin "function.__dict__#set"] }
noncomputable def q731 : Obj := { cls := .type "getset_descriptor", data := .fields #[.str (.ofString "__weakref__") 1141, .ref 665, .builtin "ExceptionGroup.__weakref__", .none] }
noncomputable def q732 : Obj := { cls := .type "super", data := .fields #[.ref 665, .ref 665, .ref 665] }
noncomputable def q733 : Obj := { cls := .type "builtin_function_or_method", data := .fields #[.builtin "object.__init_subclass__", .ref 665] }
noncomputable def q820 (P : Params) : Obj := { cls := .type "dict", data := .dict #[⟨PyData.keyHash P (.ofString "__name__"), .str (.ofString "__name__") 165, .str (.ofString "thinstack.reassembly") 1146⟩, ⟨PyData.keyHash P (.ofString "__doc__"), .str (.ofString "__doc__") 166, .none⟩, ⟨PyData.keyHash P (.ofString "__package__"), .str (.ofString "__package__") 167, .none⟩, ⟨PyData.keyHash P (.ofString "__loader__"), .str (.ofString "__loader__") 168, .builtin "__main__.__loader__#opaque"⟩, ⟨PyData.keyHash P (.ofString "__spec__"), .str (.ofString "__spec__") 169, .none⟩, ⟨PyData.keyHash P (.ofString "__annotations__"), .str (.ofString "__annotations__") 170, .ref 6⟩, ⟨PyData.keyHash P (.ofString "__builtins__"), .str (.ofString "__builtins__") 171, .ref 4⟩, ⟨PyData.keyHash P (.ofString "__file__"), .str (.ofString "__file__") 173, .str (.ofString "/claim/cut.py") 172⟩, ⟨PyData.keyHash P (.ofString "__cached__"), .str (.ofString "__cached__") 174, .none⟩, ⟨PyData.keyHash P (.ofString "_wall"), .str (.ofString "_wall") 193, .ref 21⟩, ⟨PyData.keyHash P (.ofString "StackError"), .str (.ofString "StackError") 224, .ref 38⟩, ⟨PyData.keyHash P (.ofString "FormError"), .str (.ofString "FormError") 240, .ref 51⟩, ⟨PyData.keyHash P (.ofString "SizeError"), .str (.ofString "SizeError") 256, .ref 63⟩, ⟨PyData.keyHash P (.ofString "RouteError"), .str (.ofString "RouteError") 272, .ref 75⟩, ⟨PyData.keyHash P (.ofString "put16"), .str (.ofString "put16") 281, .ref 84⟩, ⟨PyData.keyHash P (.ofString "put32"), .str (.ofString "put32") 288, .ref 91⟩, ⟨PyData.keyHash P (.ofString "need"), .str (.ofString "need") 297, .ref 98⟩, ⟨PyData.keyHash P (.ofString "get16"), .str (.ofString "get16") 305, .ref 105⟩, ⟨PyData.keyHash P (.ofString "get32"), .str (.ofString "get32") 313, .ref 112⟩, ⟨PyData.keyHash P (.ofString "ALL_ONES"), .str (.ofString "ALL_ONES") 317, .int 65535 316⟩, ⟨PyData.keyHash P (.ofString "fold"), .str (.ofString "fold") 324, .ref 119⟩, ⟨PyData.keyHash P (.ofString "ones_sum"), .str (.ofString "ones_sum") 336, .ref 127⟩, ⟨PyData.keyHash P (.ofString "checksum"), .str (.ofString "checksum") 345, .ref 135⟩, ⟨PyData.keyHash P (.ofString "VERSION"), .str (.ofString "VERSION") 349, .int 4 348⟩, ⟨PyData.keyHash P (.ofString "LEAST_HEAD"), .str (.ofString "LEAST_HEAD") 351, .int 20 350⟩, ⟨PyData.keyHash P (.ofString "MOST_HEAD"), .str (.ofString "MOST_HEAD") 353, .int 60 352⟩, ⟨PyData.keyHash P (.ofString "MOST_TOTAL"), .str (.ofString "MOST_TOTAL") 355, .int 65535 354⟩, ⟨PyData.keyHash P (.ofString "DONT_BIT"), .str (.ofString "DONT_BIT") 357, .int 16384 356⟩, ⟨PyData.keyHash P (.ofString "MORE_BIT"), .str (.ofString "MORE_BIT") 359, .int 8192 358⟩, ⟨PyData.keyHash P (.ofString "PLACE_BITS"), .str (.ofString "PLACE_BITS") 361, .int 8191 360⟩, ⟨PyData.keyHash P (.ofString "TTL_PLACE"), .str (.ofString "TTL_PLACE") 363, .int 8 362⟩, ⟨PyData.keyHash P (.ofString "IpHeader"), .str (.ofString "IpHeader") 453, .ref 188⟩, ⟨PyData.keyHash P (.ofString "is_within"), .str (.ofString "is_within") 461, .ref 199⟩, ⟨PyData.keyHash P (.ofString "check_fields"), .str (.ofString "check_fields") 469, .ref 206⟩, ⟨PyData.keyHash P (.ofString "check_size"), .str (.ofString "check_size") 477, .ref 213⟩, ⟨PyData.keyHash P (.ofString "flags_of"), .str (.ofString "flags_of") 485, .ref 220⟩, ⟨PyData.keyHash P (.ofString "pack_ip"), .str (.ofString "pack_ip") 498, .ref 227⟩, ⟨PyData.keyHash P (.ofString "head_size"), .str (.ofString "head_size") 506, .ref 234⟩, ⟨PyData.keyHash P (.ofString "unpack_ip"), .str (.ofString "unpack_ip") 518, .ref 241⟩, ⟨PyData.keyHash P (.ofString "END"), .str (.ofString "END") 522, .int 0 521⟩, ⟨PyData.keyHash P (.ofString "NOTHING"), .str (.ofString "NOTHING") 524, .int 1 523⟩, ⟨PyData.keyHash P (.ofString "MOST_OPTIONS"), .str (.ofString "MOST_OPTIONS") 526, .int 40 525⟩, ⟨PyData.keyHash P (.ofString "COPY_BIT"), .str (.ofString "COPY_BIT") 528, .int 128 527⟩, ⟨PyData.keyHash P (.ofString "is_single"), .str (.ofString "is_single") 535, .ref 248⟩, ⟨PyData.keyHash P (.ofString "read_options"), .str (.ofString "read_options") 546, .ref 255⟩, ⟨PyData.keyHash P (.ofString "size_at"), .str (.ofString "size_at") 555, .ref 262⟩, ⟨PyData.keyHash P (.ofString "write_options"), .str (.ofString "write_options") 565, .ref 269⟩, ⟨PyData.keyHash P (.ofString "option_octets"), .str (.ofString "option_octets") 573, .ref 276⟩, ⟨PyData.keyHash P (.ofString "is_copied"), .str (.ofString "is_copied") 580, .ref 283⟩, ⟨PyData.keyHash P (.ofString "copied"), .str (.ofString "copied") 586, .ref 288⟩, ⟨PyData.keyHash P (.ofString "STEP_fragments"), .str (.ofString "STEP_fragments") 590, .int 8 589⟩, ⟨PyData.keyHash P (.ofString "later_options"), .str (.ofString "later_options") 597, .ref 295⟩, ⟨PyData.keyHash P (.ofString "part_header"), .str (.ofString "part_header") 607, .ref 302⟩, ⟨PyData.keyHash P (.ofString "room_of"), .str (.ofString "room_of") 616, .ref 309⟩, ⟨PyData.keyHash P (.ofString "cut"), .str (.ofString "cut") 632, .ref 316⟩, ⟨PyData.keyHash P (.ofString "BITS"), .str (.ofString "BITS") 636, .int 32 635⟩, ⟨PyData.keyHash P (.ofString "ALL"), .str (.ofString "ALL") 642, .int 4294967295 641⟩, ⟨PyData.keyHash P (.ofString "mask_of"), .str (.ofString "mask_of") 649, .ref 323⟩, ⟨PyData.keyHash P (.ofString "net_of"), .str (.ofString "net_of") 657, .ref 330⟩, ⟨PyData.keyHash P (.ofString "is_group"), .str (.ofString "is_group") 664, .ref 337⟩, ⟨PyData.keyHash P (.ofString "is_loop"), .str (.ofString "is_loop") 671, .ref 344⟩, ⟨PyData.keyHash P (.ofString "Route"), .str (.ofString "Route") 724, .ref 376⟩, ⟨PyData.keyHash P (.ofString "Branch"), .str (.ofString "Branch") 787, .ref 425⟩, ⟨PyData.keyHash P (.ofString "bit_at"), .str (.ofString "bit_at") 795, .ref 436⟩, ⟨PyData.keyHash P (.ofString "Routes"), .str (.ofString "Routes") 904, .ref 509⟩, ⟨PyData.keyHash P (.ofString "ALL_HOSTS"), .str (.ofString "ALL_HOSTS") 912, .int 4294967295 911⟩, ⟨PyData.keyHash P (.ofString "LEAST_TARGET"), .str (.ofString "LEAST_TARGET") 916, .int 16777216 915⟩, ⟨PyData.keyHash P (.ofString "UNREACHABLE"), .str (.ofString "UNREACHABLE") 918, .int 3 917⟩, ⟨PyData.keyHash P (.ofString "EXCEEDED"), .str (.ofString "EXCEEDED") 920, .int 11 919⟩, ⟨PyData.keyHash P (.ofString "NO_NET"), .str (.ofString "NO_NET") 922, .int 0 921⟩, ⟨PyData.keyHash P (.ofString "TOO_GREAT"), .str (.ofString "TOO_GREAT") 924, .int 4 923⟩, ⟨PyData.keyHash P (.ofString "IN_TRANSIT"), .str (.ofString "IN_TRANSIT") 926, .int 0 925⟩, ⟨PyData.keyHash P (.ofString "FaceRow"), .str (.ofString "FaceRow") 959, .ref 530⟩, ⟨PyData.keyHash P (.ofString "header_like"), .str (.ofString "header_like") 968, .ref 541⟩, ⟨PyData.keyHash P (.ofString "IpLayer"), .str (.ofString "IpLayer") 1145, .ref 665⟩, ⟨PyData.keyHash P (.ofString "STEP_reassembly"), .str (.ofString "STEP_reassembly") 1149, .int 8 1148⟩, ⟨PyData.keyHash P (.ofString "Holes"), .str (.ofString "Holes") 1216, .ref 714⟩] 77 }
noncomputable def q821 : Obj := { cls := .none, data := .fields #[.int 1 0, .int 0 0, .ref 20, .int 5 0, .int 0 0, .ref 27, .int 9 0, .int 0 0, .ref 47, .int 11 0, .int 0 0, .ref 59, .int 13 0, .int 0 0, .ref 71, .int 16 0, .int 0 0, .ref 83, .int 18 0, .int 0 0, .ref 90, .int 20 0, .int 0 0, .ref 97, .int 23 0, .int 0 0, .ref 104, .int 26 0, .int 0 0, .ref 111, .int 31 0, .int 0 0, .ref 118, .int 35 0, .int 0 0, .ref 126, .int 43 0, .int 0 0, .ref 134, .int 54 0, .int 0 0, .ref 141, .int 82 0, .int 0 0, .ref 198, .int 84 0, .int 0 0, .ref 205, .int 95 0, .int 0 0, .ref 212, .int 100 0, .int 0 0, .ref 219, .int 107 0, .int 0 0, .ref 226, .int 116 0, .int 0 0, .ref 233, .int 125 0, .int 0 0, .ref 240, .int 141 0, .int 0 0, .ref 247, .int 143 0, .int 0 0, .ref 254, .int 156 0, .int 0 0, .ref 261, .int 163 0, .int 0 0, .ref 268, .int 171 0, .int 0 0, .ref 275, .int 181 0, .int 0 0, .ref 282, .int 183 0, .int 0 0, .ref 287, .int 187 0, .int 0 0, .ref 294, .int 192 0, .int 0 0, .ref 301, .int 194 0, .int 0 0, .ref 308, .int 199 0, .int 0 0, .ref 315, .int 221 0, .int 0 0, .ref 322, .int 225 0, .int 0 0, .ref 329, .int 227 0, .int 0 0, .ref 336, .int 229 0, .int 0 0, .ref 343, .int 231 0, .int 0 0, .ref 350, .int 245 0, .int 0 0, .ref 386, .int 272 0, .int 0 0, .ref 435, .int 274 0, .int 0 0, .ref 442, .int 350 0, .int 0 0, .ref 519, .int 356 0, .int 0 0, .ref 540, .int 358 0, .int 0 0, .ref 547, .int 431 0, .int 0 0, .ref 675] }
noncomputable def q824 (P : Params) : Obj := { cls := .type "dict", data := .dict #[⟨PyData.keyHash P (.ofString "__module__"), .str (.ofString "__module__") 1157, .str (.ofString "thinstack.reassembly") 1146⟩, ⟨PyData.keyHash P (.ofString "__qualname__"), .str (.ofString "__qualname__") 1159, .str (.ofString "Holes") 1158⟩, ⟨PyData.keyHash P (.ofString "__firstlineno__"), .str (.ofString "__firstlineno__") 1161, .int 431 1160⟩, ⟨PyData.keyHash P (.ofString "__init__"), .str (.ofString "__init__") 1169, .ref 683⟩, ⟨PyData.keyHash P (.ofString "fill"), .str (.ofString "fill") 1184, .ref 690⟩, ⟨PyData.keyHash P (.ofString "end_at"), .str (.ofString "end_at") 1192, .ref 697⟩, ⟨PyData.keyHash P (.ofString "reach"), .str (.ofString "reach") 1199, .ref 704⟩, ⟨PyData.keyHash P (.ofString "is_whole"), .str (.ofString "is_whole") 1206, .ref 711⟩, ⟨PyData.keyHash P (.ofString "__static_attributes__"), .str (.ofString "__static_attributes__") 1209, .ref 712⟩] 9 }
noncomputable def q826 : Obj := { cls := .none, data := .fields #[.int 433 0, .int 4 0, .ref 682, .int 437 0, .int 4 0, .ref 689, .int 454 0, .int 4 0, .ref 696, .int 457 0, .int 4 0, .ref 703, .int 462 0, .int 4 0, .ref 710] }
noncomputable def q827 : Obj := { cls := .type "code", data := .fields #[.str (.ofString "Holes") 1152, .str (.ofString "Holes") 1153, .str (.ofString "/claim/cut.py") 1154, .int 431 0, .int 0 0, .int 0 0, .int 0 0, .int 0 0, .ref 673, .bool false, .int 181 0, .ref 674, .none, .none, .none, .none, .int 1155 0, .int 431 0, .str (.ofString "/claim/cut.py") 1156] }
noncomputable def q828 : Obj := { cls := .type "frame", slots := #[some (.ref 675), some (.ref 3), some (.ref 672), none, some (.str (.ofString "thinstack.reassembly") 1146), none, some (.ref 0)] }
noncomputable def q831 : Obj := { cls := .type "tuple", data := .seq #[.str (.ofString "self") 1165, .str (.ofString "most") 1166] }
noncomputable def q833 : Obj := { cls := .none, data := .func { name := .ofString "__init__", qualname := .ofString "Holes.__init__", params := fP 76 1, body := .stmts (fB 76 1), scope := fS 76 1, globals := 0, closure := [], defaults := .none, kwdefaults := .none } }
noncomputable def q834 : Obj := { cls := .type "code", data := .fields #[.str (.ofString "__init__") 1162, .str (.ofString "Holes.__init__") 1163, .str (.ofString "/claim/cut.py") 1164, .int 433 0, .int 2 0, .int 0 0, .int 0 0, .int 3 0, .ref 677, .bool true, .int 181 0, .ref 678, .none, .ref 679, .ref 680, .ref 681, .int 1167 0, .int 433 0, .str (.ofString "/claim/cut.py") 1168] }
noncomputable def q835 : Obj := { cls := .type "function", data := .func { name := .ofString "__init__", qualname := .ofString "Holes.__init__", params := fP 76 1, body := .stmts (fB 76 1), scope := fS 76 1, globals := 3, closure := [], defaults := .none, kwdefaults := .none, pyModule := .str (.ofString "thinstack.reassembly") 1146, code := .ref 682 } }
noncomputable def q838 : Obj := { cls := .type "tuple", data := .seq #[.str (.ofString "self") 1173, .str (.ofString "begin") 1174, .str (.ofString "end") 1175, .str (.ofString "found") 1176, .str (.ofString "rows") 1177, .str (.ofString "low") 1178, .str (.ofString "high") 1179, .str (.ofString "first") 1180, .str (.ofString "last") 1181] }
noncomputable def q840 : Obj := { cls := .none, data := .func { name := .ofString "fill", qualname := .ofString "Holes.fill", params := fP 76 2, body := .stmts (fB 76 2), scope := fS 76 2, globals := 0, closure := [], defaults := .none, kwdefaults := .none } }
noncomputable def q841 : Obj := { cls := .type "code", data := .fields #[.str (.ofString "fill") 1170, .str (.ofString "Holes.fill") 1171, .str (.ofString "/claim/cut.py") 1172, .int 437 0, .int 3 0, .int 0 0, .int 0 0, .int 3 0, .ref 684, .bool true, .int 181 0, .ref 685, .none, .ref 686, .ref 687, .ref 688, .int 1182 0, .int 437 0, .str (.ofString "/claim/cut.py") 1183] }
noncomputable def q842 : Obj := { cls := .type "function", data := .func { name := .ofString "fill", qualname := .ofString "Holes.fill", params := fP 76 2, body := .stmts (fB 76 2), scope := fS 76 2, globals := 3, closure := [], defaults := .none, kwdefaults := .none, pyModule := .str (.ofString "thinstack.reassembly") 1146, code := .ref 689 } }
noncomputable def q845 : Obj := { cls := .type "tuple", data := .seq #[.str (.ofString "self") 1188, .str (.ofString "end") 1189] }
noncomputable def q847 : Obj := { cls := .none, data := .func { name := .ofString "end_at", qualname := .ofString "Holes.end_at", params := fP 76 3, body := .stmts (fB 76 3), scope := fS 76 3, globals := 0, closure := [], defaults := .none, kwdefaults := .none } }
noncomputable def q848 : Obj := { cls := .type "code", data := .fields #[.str (.ofString "end_at") 1185, .str (.ofString "Holes.end_at") 1186, .str (.ofString "/claim/cut.py") 1187, .int 454 0, .int 2 0, .int 0 0, .int 0 0, .int 3 0, .ref 691, .bool true, .int 181 0, .ref 692, .none, .ref 693, .ref 694, .ref 695, .int 1190 0, .int 454 0, .str (.ofString "/claim/cut.py") 1191] }
noncomputable def q849 : Obj := { cls := .type "function", data := .func { name := .ofString "end_at", qualname := .ofString "Holes.end_at", params := fP 76 3, body := .stmts (fB 76 3), scope := fS 76 3, globals := 3, closure := [], defaults := .none, kwdefaults := .none, pyModule := .str (.ofString "thinstack.reassembly") 1146, code := .ref 696 } }
noncomputable def q852 : Obj := { cls := .type "tuple", data := .seq #[.str (.ofString "self") 1196] }
noncomputable def q854 : Obj := { cls := .none, data := .func { name := .ofString "reach", qualname := .ofString "Holes.reach", params := fP 76 4, body := .stmts (fB 76 4), scope := fS 76 4, globals := 0, closure := [], defaults := .none, kwdefaults := .none } }
noncomputable def q855 : Obj := { cls := .type "code", data := .fields #[.str (.ofString "reach") 1193, .str (.ofString "Holes.reach") 1194, .str (.ofString "/claim/cut.py") 1195, .int 457 0, .int 1 0, .int 0 0, .int 0 0, .int 3 0, .ref 698, .bool true, .int 181 0, .ref 699, .none, .ref 700, .ref 701, .ref 702, .int 1197 0, .int 457 0, .str (.ofString "/claim/cut.py") 1198] }
noncomputable def q856 : Obj := { cls := .type "function", data := .func { name := .ofString "reach", qualname := .ofString "Holes.reach", params := fP 76 4, body := .stmts (fB 76 4), scope := fS 76 4, globals := 3, closure := [], defaults := .none, kwdefaults := .none, pyModule := .str (.ofString "thinstack.reassembly") 1146, code := .ref 703 } }
noncomputable def q859 : Obj := { cls := .type "tuple", data := .seq #[.str (.ofString "self") 1203] }
noncomputable def q861 : Obj := { cls := .none, data := .func { name := .ofString "is_whole", qualname := .ofString "Holes.is_whole", params := fP 76 5, body := .stmts (fB 76 5), scope := fS 76 5, globals := 0, closure := [], defaults := .none, kwdefaults := .none } }
noncomputable def q862 : Obj := { cls := .type "code", data := .fields #[.str (.ofString "is_whole") 1200, .str (.ofString "Holes.is_whole") 1201, .str (.ofString "/claim/cut.py") 1202, .int 462 0, .int 1 0, .int 0 0, .int 0 0, .int 3 0, .ref 705, .bool true, .int 181 0, .ref 706, .none, .ref 707, .ref 708, .ref 709, .int 1204 0, .int 462 0, .str (.ofString "/claim/cut.py") 1205] }
noncomputable def q863 : Obj := { cls := .type "function", data := .func { name := .ofString "is_whole", qualname := .ofString "Holes.is_whole", params := fP 76 5, body := .stmts (fB 76 5), scope := fS 76 5, globals := 3, closure := [], defaults := .none, kwdefaults := .none, pyModule := .str (.ofString "thinstack.reassembly") 1146, code := .ref 710 } }
noncomputable def q864 : Obj := { cls := .type "tuple", data := .seq #[.str (.ofString "most") 1207, .str (.ofString "rows") 1208] }
noncomputable def q865 (P : Params) : Obj := { cls := .type "dict", data := .dict #[⟨PyData.keyHash P (.ofString "__module__"), .str (.ofString "__module__") 1157, .str (.ofString "thinstack.reassembly") 1146⟩, ⟨PyData.keyHash P (.ofString "__firstlineno__"), .str (.ofString "__firstlineno__") 1161, .int 431 1160⟩, ⟨PyData.keyHash P (.ofString "__init__"), .str (.ofString "__init__") 1169, .ref 683⟩, ⟨PyData.keyHash P (.ofString "fill"), .str (.ofString "fill") 1184, .ref 690⟩, ⟨PyData.keyHash P (.ofString "end_at"), .str (.ofString "end_at") 1192, .ref 697⟩, ⟨PyData.keyHash P (.ofString "reach"), .str (.ofString "reach") 1199, .ref 704⟩, ⟨PyData.keyHash P (.ofString "is_whole"), .str (.ofString "is_whole") 1206, .ref 711⟩, ⟨PyData.keyHash P (.ofString "__static_attributes__"), .str (.ofString "__static_attributes__") 1209, .ref 712⟩, ⟨PyData.keyHash P (.ofString "__dict__"), .str (.ofString "__dict__") 1211, .ref 715⟩, ⟨PyData.keyHash P (.ofString "__weakref__"), .str (.ofString "__weakref__") 1213, .ref 716⟩, ⟨PyData.keyHash P (.ofString "__doc__"), .str (.ofString "__doc__") 1214, .none⟩] 4 }
noncomputable def q866 : Obj := { cls := .type "type", data := .cls { name := .ofString "Holes", bases := [.type "object"], mro := [.ref 714, .type "object"], ns := 713, qualname := .ofString "Holes" }, slots := #[none, none, some (.str (.ofString "Holes") 1150), some (.str (.ofString "Holes") 1158), some (.builtin "object.__new__"), some (.bool true)] }
noncomputable def q867 : Obj := { cls := .type "getset_descriptor", data := .fields #[.str (.ofString "__dict__") 1210, .ref 714, .builtin "function.__dict__", .builtin "function.__dict__#set"] }
noncomputable def q868 : Obj := { cls := .type "getset_descriptor", data := .fields #[.str (.ofString "__weakref__") 1212, .ref 714, .builtin "ExceptionGroup.__weakref__", .none] }
noncomputable def q869 : Obj := { cls := .type "super", data := .fields #[.ref 714, .ref 714, .ref 714] }
noncomputable def q870 : Obj := { cls := .type "builtin_function_or_method", data := .fields #[.builtin "object.__init_subclass__", .ref 714] }
noncomputable def q875 (P : Params) : Obj := { cls := .type "dict", data := .dict #[⟨PyData.keyHash P (.ofString "__module__"), .str (.ofString "__module__") 1224, .str (.ofString "thinstack.reassembly") 1146⟩, ⟨PyData.keyHash P (.ofString "__qualname__"), .str (.ofString "__qualname__") 1226, .str (.ofString "Datagram") 1225⟩, ⟨PyData.keyHash P (.ofString "__firstlineno__"), .str (.ofString "__firstlineno__") 1228, .int 464 1227⟩, ⟨PyData.keyHash P (.ofString "__init__"), .str (.ofString "__init__") 1237, .ref 732⟩, ⟨PyData.keyHash P (.ofString "is_against"), .str (.ofString "is_against") 1247, .ref 739⟩, ⟨PyData.keyHash P (.ofString "put"), .str (.ofString "put") 1260, .ref 746⟩, ⟨PyData.keyHash P (.ofString "is_whole"), .str (.ofString "is_whole") 1267, .ref 753⟩, ⟨PyData.keyHash P (.ofString "octets"), .str (.ofString "octets") 1273, .ref 758⟩, ⟨PyData.keyHash P (.ofString "told_octets"), .str (.ofString "told_octets") 1280, .ref 765⟩, ⟨PyData.keyHash P (.ofString "__static_attributes__"), .str (.ofString "__static_attributes__") 1289, .ref 766⟩] 10 }
noncomputable def q877 : Obj := { cls := .none, data := .fields #[.int 466 0, .int 4 0, .ref 731, .int 476 0, .int 4 0, .ref 738, .int 485 0, .int 4 0, .ref 745, .int 502 0, .int 4 0, .ref 752, .int 505 0, .int 4 0, .ref 757, .int 508 0, .int 4 0, .ref 764] }
noncomputable def q878 : Obj := { cls := .type "code", data := .fields #[.str (.ofString "Datagram") 1219, .str (.ofString "Datagram") 1220, .str (.ofString "/claim/cut.py") 1221, .int 464 0, .int 0 0, .int 0 0, .int 0 0, .int 0 0, .ref 722, .bool false, .int 181 0, .ref 723, .none, .none, .none, .none, .int 1222 0, .int 464 0, .str (.ofString "/claim/cut.py") 1223] }
noncomputable def q879 : Obj := { cls := .type "frame", slots := #[some (.ref 724), some (.ref 3), some (.ref 721), none, some (.str (.ofString "thinstack.reassembly") 1146), none, some (.ref 0)] }
noncomputable def q882 : Obj := { cls := .type "tuple", data := .seq #[.str (.ofString "self") 1232, .str (.ofString "began") 1233, .str (.ofString "most") 1234] }
noncomputable def q884 : Obj := { cls := .none, data := .func { name := .ofString "__init__", qualname := .ofString "Datagram.__init__", params := fP 77 1, body := .stmts (fB 77 1), scope := fS 77 1, globals := 0, closure := [], defaults := .none, kwdefaults := .none } }
noncomputable def q885 : Obj := { cls := .type "code", data := .fields #[.str (.ofString "__init__") 1229, .str (.ofString "Datagram.__init__") 1230, .str (.ofString "/claim/cut.py") 1231, .int 466 0, .int 3 0, .int 0 0, .int 0 0, .int 3 0, .ref 726, .bool true, .int 181 0, .ref 727, .none, .ref 728, .ref 729, .ref 730, .int 1235 0, .int 466 0, .str (.ofString "/claim/cut.py") 1236] }
noncomputable def q886 : Obj := { cls := .type "function", data := .func { name := .ofString "__init__", qualname := .ofString "Datagram.__init__", params := fP 77 1, body := .stmts (fB 77 1), scope := fS 77 1, globals := 3, closure := [], defaults := .none, kwdefaults := .none, pyModule := .str (.ofString "thinstack.reassembly") 1146, code := .ref 731 } }
noncomputable def q889 : Obj := { cls := .type "tuple", data := .seq #[.str (.ofString "self") 1241, .str (.ofString "begin") 1242, .str (.ofString "end") 1243, .str (.ofString "more") 1244] }
noncomputable def q891 : Obj := { cls := .none, data := .func { name := .ofString "is_against", qualname := .ofString "Datagram.is_against", params := fP 77 2, body := .stmts (fB 77 2), scope := fS 77 2, globals := 0, closure := [], defaults := .none, kwdefaults := .none } }
noncomputable def q892 : Obj := { cls := .type "code", data := .fields #[.str (.ofString "is_against") 1238, .str (.ofString "Datagram.is_against") 1239, .str (.ofString "/claim/cut.py") 1240, .int 476 0, .int 4 0, .int 0 0, .int 0 0, .int 3 0, .ref 733, .bool true, .int 181 0, .ref 734, .none, .ref 735, .ref 736, .ref 737, .int 1245 0, .int 476 0, .str (.ofString "/claim/cut.py") 1246] }
noncomputable def q893 : Obj := { cls := .type "function", data := .func { name := .ofString "is_against", qualname := .ofString "Datagram.is_against", params := fP 77 2, body := .stmts (fB 77 2), scope := fS 77 2, globals := 3, closure := [], defaults := .none, kwdefaults := .none, pyModule := .str (.ofString "thinstack.reassembly") 1146, code := .ref 738 } }
noncomputable def q896 : Obj := { cls := .type "tuple", data := .seq #[.str (.ofString "self") 1251, .str (.ofString "header") 1252, .str (.ofString "payload") 1253, .str (.ofString "begin") 1254, .str (.ofString "end") 1255, .str (.ofString "low") 1256, .str (.ofString "high") 1257] }
noncomputable def q898 : Obj := { cls := .none, data := .func { name := .ofString "put", qualname := .ofString "Datagram.put", params := fP 77 3, body := .stmts (fB 77 3), scope := fS 77 3, globals := 0, closure := [], defaults := .none, kwdefaults := .none } }
noncomputable def q899 : Obj := { cls := .type "code", data := .fields #[.str (.ofString "put") 1248, .str (.ofString "Datagram.put") 1249, .str (.ofString "/claim/cut.py") 1250, .int 485 0, .int 3 0, .int 0 0, .int 0 0, .int 3 0, .ref 740, .bool true, .int 181 0, .ref 741, .none, .ref 742, .ref 743, .ref 744, .int 1258 0, .int 485 0, .str (.ofString "/claim/cut.py") 1259] }
noncomputable def q900 : Obj := { cls := .type "function", data := .func { name := .ofString "put", qualname := .ofString "Datagram.put", params := fP 77 3, body := .stmts (fB 77 3), scope := fS 77 3, globals := 3, closure := [], defaults := .none, kwdefaults := .none, pyModule := .str (.ofString "thinstack.reassembly") 1146, code := .ref 745 } }
noncomputable def q903 : Obj := { cls := .type "tuple", data := .seq #[.str (.ofString "self") 1264] }
noncomputable def q905 : Obj := { cls := .none, data := .func { name := .ofString "is_whole", qualname := .ofString "Datagram.is_whole", params := fP 77 4, body := .stmts (fB 77 4), scope := fS 77 4, globals := 0, closure := [], defaults := .none, kwdefaults := .none } }
noncomputable def q906 : Obj := { cls := .type "code", data := .fields #[.str (.ofString "is_whole") 1261, .str (.ofString "Datagram.is_whole") 1262, .str (.ofString "/claim/cut.py") 1263, .int 502 0, .int 1 0, .int 0 0, .int 0 0, .int 3 0, .ref 747, .bool true, .int 181 0, .ref 748, .none, .ref 749, .ref 750, .ref 751, .int 1265 0, .int 502 0, .str (.ofString "/claim/cut.py") 1266] }
noncomputable def q907 : Obj := { cls := .type "function", data := .func { name := .ofString "is_whole", qualname := .ofString "Datagram.is_whole", params := fP 77 4, body := .stmts (fB 77 4), scope := fS 77 4, globals := 3, closure := [], defaults := .none, kwdefaults := .none, pyModule := .str (.ofString "thinstack.reassembly") 1146, code := .ref 752 } }
noncomputable def q910 : Obj := { cls := .none, data := .func { name := .ofString "octets", qualname := .ofString "Datagram.octets", params := fP 77 5, body := .stmts (fB 77 5), scope := fS 77 5, globals := 0, closure := [], defaults := .none, kwdefaults := .none } }
noncomputable def q911 : Obj := { cls := .type "code", data := .fields #[.str (.ofString "octets") 1268, .str (.ofString "Datagram.octets") 1269, .str (.ofString "/claim/cut.py") 1270, .int 505 0, .int 1 0, .int 0 0, .int 0 0, .int 3 0, .ref 754, .bool true, .int 181 0, .ref 755, .none, .none, .none, .ref 756, .int 1271 0, .int 505 0, .str (.ofString "/claim/cut.py") 1272] }
noncomputable def q912 : Obj := { cls := .type "function", data := .func { name := .ofString "octets", qualname := .ofString "Datagram.octets", params := fP 77 5, body := .stmts (fB 77 5), scope := fS 77 5, globals := 3, closure := [], defaults := .none, kwdefaults := .none, pyModule := .str (.ofString "thinstack.reassembly") 1146, code := .ref 757 } }
noncomputable def q915 : Obj := { cls := .type "tuple", data := .seq #[.str (.ofString "self") 1277] }
noncomputable def q917 : Obj := { cls := .none, data := .func { name := .ofString "told_octets", qualname := .ofString "Datagram.told_octets", params := fP 77 6, body := .stmts (fB 77 6), scope := fS 77 6, globals := 0, closure := [], defaults := .none, kwdefaults := .none } }
noncomputable def q918 : Obj := { cls := .type "code", data := .fields #[.str (.ofString "told_octets") 1274, .str (.ofString "Datagram.told_octets") 1275, .str (.ofString "/claim/cut.py") 1276, .int 508 0, .int 1 0, .int 0 0, .int 0 0, .int 3 0, .ref 759, .bool true, .int 181 0, .ref 760, .none, .ref 761, .ref 762, .ref 763, .int 1278 0, .int 508 0, .str (.ofString "/claim/cut.py") 1279] }
noncomputable def q919 : Obj := { cls := .type "function", data := .func { name := .ofString "told_octets", qualname := .ofString "Datagram.told_octets", params := fP 77 6, body := .stmts (fB 77 6), scope := fS 77 6, globals := 3, closure := [], defaults := .none, kwdefaults := .none, pyModule := .str (.ofString "thinstack.reassembly") 1146, code := .ref 764 } }
noncomputable def q920 : Obj := { cls := .type "tuple", data := .seq #[.str (.ofString "ahead") 1281, .str (.ofString "began") 1282, .str (.ofString "end") 1283, .str (.ofString "first") 1284, .str (.ofString "holes") 1285, .str (.ofString "most") 1286, .str (.ofString "parts") 1287, .str (.ofString "size") 1288] }
noncomputable def q921 (P : Params) : Obj := { cls := .type "dict", data := .dict #[⟨PyData.keyHash P (.ofString "__module__"), .str (.ofString "__module__") 1224, .str (.ofString "thinstack.reassembly") 1146⟩, ⟨PyData.keyHash P (.ofString "__firstlineno__"), .str (.ofString "__firstlineno__") 1228, .int 464 1227⟩, ⟨PyData.keyHash P (.ofString "__init__"), .str (.ofString "__init__") 1237, .ref 732⟩, ⟨PyData.keyHash P (.ofString "is_against"), .str (.ofString "is_against") 1247, .ref 739⟩, ⟨PyData.keyHash P (.ofString "put"), .str (.ofString "put") 1260, .ref 746⟩, ⟨PyData.keyHash P (.ofString "is_whole"), .str (.ofString "is_whole") 1267, .ref 753⟩, ⟨PyData.keyHash P (.ofString "octets"), .str (.ofString "octets") 1273, .ref 758⟩, ⟨PyData.keyHash P (.ofString "told_octets"), .str (.ofString "told_octets") 1280, .ref 765⟩, ⟨PyData.keyHash P (.ofString "__static_attributes__"), .str (.ofString "__static_attributes__") 1289, .ref 766⟩, ⟨PyData.keyHash P (.ofString "__dict__"), .str (.ofString "__dict__") 1291, .ref 769⟩, ⟨PyData.keyHash P (.ofString "__weakref__"), .str (.ofString "__weakref__") 1293, .ref 770⟩, ⟨PyData.keyHash P (.ofString "__doc__"), .str (.ofString "__doc__") 1294, .none⟩] 4 }
noncomputable def q922 : Obj := { cls := .type "type", data := .cls { name := .ofString "Datagram", bases := [.type "object"], mro := [.ref 768, .type "object"], ns := 767, qualname := .ofString "Datagram" }, slots := #[none, none, some (.str (.ofString "Datagram") 1217), some (.str (.ofString "Datagram") 1225), some (.builtin "object.__new__"), some (.bool true)] }
noncomputable def q923 : Obj := { cls := .type "getset_descriptor", data := .fields #[.str (.ofString "__dict__") 1290, .ref 768, .builtin "function.__dict__", .builtin "function.__dict__#set"] }
noncomputable def q924 : Obj := { cls := .type "getset_descriptor", data := .fields #[.str (.ofString "__weakref__") 1292, .ref 768, .builtin "ExceptionGroup.__weakref__", .none] }
noncomputable def q925 : Obj := { cls := .type "super", data := .fields #[.ref 768, .ref 768, .ref 768] }
noncomputable def q926 : Obj := { cls := .type "builtin_function_or_method", data := .fields #[.builtin "object.__init_subclass__", .ref 768] }
noncomputable def q931 : Obj := { cls := .type "tuple", data := .seq #[.str (.ofString "header") 1300] }
noncomputable def q933 : Obj := { cls := .none, data := .func { name := .ofString "whole_header", qualname := .ofString "whole_header", params := fP 78 0, body := .stmts (fB 78 0), scope := fS 78 0, globals := 0, closure := [], defaults := .none, kwdefaults := .none } }
noncomputable def q934 : Obj := { cls := .type "code", data := .fields #[.str (.ofString "whole_header") 1297, .str (.ofString "whole_header") 1298, .str (.ofString "/claim/cut.py") 1299, .int 510 0, .int 1 0, .int 0 0, .int 0 0, .int 3 0, .ref 773, .bool true, .int 181 0, .ref 774, .none, .ref 775, .ref 776, .ref 777, .int 1301 0, .int 510 0, .str (.ofString "/claim/cut.py") 1302] }
noncomputable def q935 : Obj := { cls := .type "function", data := .func { name := .ofString "whole_header", qualname := .ofString "whole_header", params := fP 78 0, body := .stmts (fB 78 0), scope := fS 78 0, globals := 3, closure := [], defaults := .none, kwdefaults := .none, pyModule := .str (.ofString "thinstack.reassembly") 1146, code := .ref 778 } }
noncomputable def q938 : Obj := { cls := .type "tuple", data := .seq #[.str (.ofString "header") 1307] }
noncomputable def q940 : Obj := { cls := .none, data := .func { name := .ofString "key_of", qualname := .ofString "key_of", params := fP 79 0, body := .stmts (fB 79 0), scope := fS 79 0, globals := 0, closure := [], defaults := .none, kwdefaults := .none } }
noncomputable def q941 : Obj := { cls := .type "code", data := .fields #[.str (.ofString "key_of") 1304, .str (.ofString "key_of") 1305, .str (.ofString "/claim/cut.py") 1306, .int 512 0, .int 1 0, .int 0 0, .int 0 0, .int 3 0, .ref 780, .bool true, .int 181 0, .ref 781, .none, .ref 782, .ref 783, .ref 784, .int 1308 0, .int 512 0, .str (.ofString "/claim/cut.py") 1309] }
noncomputable def q942 : Obj := { cls := .type "function", data := .func { name := .ofString "key_of", qualname := .ofString "key_of", params := fP 79 0, body := .stmts (fB 79 0), scope := fS 79 0, globals := 3, closure := [], defaults := .none, kwdefaults := .none, pyModule := .str (.ofString "thinstack.reassembly") 1146, code := .ref 785 } }
noncomputable def q945 : Obj := { cls := .type "tuple", data := .seq #[.str (.ofString "header") 1314, .str (.ofString "payload") 1315] }
noncomputable def q947 : Obj := { cls := .none, data := .func { name := .ofString "is_bad_piece", qualname := .ofString "is_bad_piece", params := fP 80 0, body := .stmts (fB 80 0), scope := fS 80 0, globals := 0, closure := [], defaults := .none, kwdefaults := .none } }
noncomputable def q948 : Obj := { cls := .type "code", data := .fields #[.str (.ofString "is_bad_piece") 1311, .str (.ofString "is_bad_piece") 1312, .str (.ofString "/claim/cut.py") 1313, .int 514 0, .int 2 0, .int 0 0, .int 0 0, .int 3 0, .ref 787, .bool true, .int 181 0, .ref 788, .none, .ref 789, .ref 790, .ref 791, .int 1316 0, .int 514 0, .str (.ofString "/claim/cut.py") 1317] }
noncomputable def q949 : Obj := { cls := .type "function", data := .func { name := .ofString "is_bad_piece", qualname := .ofString "is_bad_piece", params := fP 80 0, body := .stmts (fB 80 0), scope := fS 80 0, globals := 3, closure := [], defaults := .none, kwdefaults := .none, pyModule := .str (.ofString "thinstack.reassembly") 1146, code := .ref 792 } }
noncomputable def q954 (P : Params) : Obj := { cls := .type "dict", data := .dict #[⟨PyData.keyHash P (.ofString "__module__"), .str (.ofString "__module__") 1326, .str (.ofString "thinstack.reassembly") 1146⟩, ⟨PyData.keyHash P (.ofString "__qualname__"), .str (.ofString "__qualname__") 1328, .str (.ofString "Reassembly") 1327⟩, ⟨PyData.keyHash P (.ofString "__firstlineno__"), .str (.ofString "__firstlineno__") 1330, .int 516 1329⟩, ⟨PyData.keyHash P (.ofString "__init__"), .str (.ofString "__init__") 1341, .ref 808⟩, ⟨PyData.keyHash P (.ofString "put"), .str (.ofString "put") 1354, .ref 815⟩, ⟨PyData.keyHash P (.ofString "stored"), .str (.ofString "stored") 1360, .ref 820⟩, ⟨PyData.keyHash P (.ofString "count"), .str (.ofString "count") 1367, .ref 827⟩, ⟨PyData.keyHash P (.ofString "make_room"), .str (.ofString "make_room") 1374, .ref 834⟩, ⟨PyData.keyHash P (.ofString "expire"), .str (.ofString "expire") 1382, .ref 841⟩, ⟨PyData.keyHash P (.ofString "next_time"), .str (.ofString "next_time") 1389, .ref 848⟩, ⟨PyData.keyHash P (.ofString "__static_attributes__"), .str (.ofString "__static_attributes__") 1394, .ref 849⟩] 11 }
noncomputable def q956 : Obj := { cls := .none, data := .fields #[.int 518 0, .int 4 0, .ref 807, .int 524 0, .int 4 0, .ref 814, .int 543 0, .int 4 0, .ref 819, .int 546 0, .int 4 0, .ref 826, .int 549 0, .int 4 0, .ref 833, .int 553 0, .int 4 0, .ref 840, .int 556 0, .int 4 0, .ref 847] }
noncomputable def q957 : Obj := { cls := .type "code", data := .fields #[.str (.ofString "Reassembly") 1321, .str (.ofString "Reassembly") 1322, .str (.ofString "/claim/cut.py") 1323, .int 516 0, .int 0 0, .int 0 0, .int 0 0, .int 0 0, .ref 797, .bool false, .int 181 0, .ref 798, .none, .none, .none, .none, .int 1324 0, .int 516 0, .str (.ofString "/claim/cut.py") 1325] }
noncomputable def q958 : Obj := { cls := .type "frame", slots := #[some (.ref 799), some (.ref 3), some (.ref 796), none, some (.str (.ofString "thinstack.reassembly") 1146), none, some (.ref 0)] }
noncomputable def q959 : Obj := { cls := .type "tuple", data := .seq #[.int 65535 1331] }
noncomputable def q962 : Obj := { cls := .type "tuple", data := .seq #[.str (.ofString "self") 1335, .str (.ofString "time_limit") 1336, .str (.ofString "most_octets") 1337, .str (.ofString "most") 1338] }
noncomputable def q964 : Obj := { cls := .none, data := .func { name := .ofString "__init__", qualname := .ofString "Reassembly.__init__", params := fP 81 1, body := .stmts (fB 81 1), scope := fS 81 1, globals := 0, closure := [], defaults := .none, kwdefaults := .none } }
noncomputable def q965 : Obj := { cls := .type "code", data := .fields #[.str (.ofString "__init__") 1332, .str (.ofString "Reassembly.__init__") 1333, .str (.ofString "/claim/cut.py") 1334, .int 518 0, .int 4 0, .int 0 0, .int 0 0, .int 3 0, .ref 802, .bool true, .int 181 0, .ref 803, .none, .ref 804, .ref 805, .ref 806, .int 1339 0, .int 518 0, .str (.ofString "/claim/cut.py") 1340] }
noncomputable def q966 : Obj := { cls := .type "function", data := .func { name := .ofString "__init__", qualname := .ofString "Reassembly.__init__", params := fP 81 1, body := .stmts (fB 81 1), scope := fS 81 1, globals := 3, closure := [], defaults := .ref 801, kwdefaults := .none, pyModule := .str (.ofString "thinstack.reassembly") 1146, code := .ref 807 } }
noncomputable def q969 : Obj := { cls := .type "tuple", data := .seq #[.str (.ofString "self") 1345, .str (.ofString "header") 1346, .str (.ofString "payload") 1347, .str (.ofString "now") 1348, .str (.ofString "key") 1349, .str (.ofString "found") 1350, .str (.ofString "is_too_great") 1351] }
noncomputable def q971 : Obj := { cls := .none, data := .func { name := .ofString "put", qualname := .ofString "Reassembly.put", params := fP 81 2, body := .stmts (fB 81 2), scope := fS 81 2, globals := 0, closure := [], defaults := .none, kwdefaults := .none } }
noncomputable def q972 : Obj := { cls := .type "code", data := .fields #[.str (.ofString "put") 1342, .str (.ofString "Reassembly.put") 1343, .str (.ofString "/claim/cut.py") 1344, .int 524 0, .int 4 0, .int 0 0, .int 0 0, .int 3 0, .ref 809, .bool true, .int 181 0, .ref 810, .none, .ref 811, .ref 812, .ref 813, .int 1352 0, .int 524 0, .str (.ofString "/claim/cut.py") 1353] }
noncomputable def q973 : Obj := { cls := .type "function", data := .func { name := .ofString "put", qualname := .ofString "Reassembly.put", params := fP 81 2, body := .stmts (fB 81 2), scope := fS 81 2, globals := 3, closure := [], defaults := .none, kwdefaults := .none, pyModule := .str (.ofString "thinstack.reassembly") 1146, code := .ref 814 } }
noncomputable def q976 : Obj := { cls := .none, data := .func { name := .ofString "stored", qualname := .ofString "Reassembly.stored", params := fP 81 3, body := .stmts (fB 81 3), scope := fS 81 3, globals := 0, closure := [], defaults := .none, kwdefaults := .none } }
noncomputable def q977 : Obj := { cls := .type "code", data := .fields #[.str (.ofString "stored") 1355, .str (.ofString "Reassembly.stored") 1356, .str (.ofString "/claim/cut.py") 1357, .int 543 0, .int 1 0, .int 0 0, .int 0 0, .int 3 0, .ref 816, .bool true, .int 181 0, .ref 817, .none, .none, .none, .ref 818, .int 1358 0, .int 543 0, .str (.ofString "/claim/cut.py") 1359] }
noncomputable def q978 : Obj := { cls := .type "function", data := .func { name := .ofString "stored", qualname := .ofString "Reassembly.stored", params := fP 81 3, body := .stmts (fB 81 3), scope := fS 81 3, globals := 3, closure := [], defaults := .none, kwdefaults := .none, pyModule := .str (.ofString "thinstack.reassembly") 1146, code := .ref 819 } }
noncomputable def q981 : Obj := { cls := .type "tuple", data := .seq #[.str (.ofString "self") 1364] }
noncomputable def q983 : Obj := { cls := .none, data := .func { name := .ofString "count", qualname := .ofString "Reassembly.count", params := fP 81 4, body := .stmts (fB 81 4), scope := fS 81 4, globals := 0, closure := [], defaults := .none, kwdefaults := .none } }
noncomputable def q984 : Obj := { cls := .type "code", data := .fields #[.str (.ofString "count") 1361, .str (.ofString "Reassembly.count") 1362, .str (.ofString "/claim/cut.py") 1363, .int 546 0, .int 1 0, .int 0 0, .int 0 0, .int 3 0, .ref 821, .bool true, .int 181 0, .ref 822, .none, .ref 823, .ref 824, .ref 825, .int 1365 0, .int 546 0, .str (.ofString "/claim/cut.py") 1366] }
noncomputable def q985 : Obj := { cls := .type "function", data := .func { name := .ofString "count", qualname := .ofString "Reassembly.count", params := fP 81 4, body := .stmts (fB 81 4), scope := fS 81 4, globals := 3, closure := [], defaults := .none, kwdefaults := .none, pyModule := .str (.ofString "thinstack.reassembly") 1146, code := .ref 826 } }
noncomputable def q988 : Obj := { cls := .type "tuple", data := .seq #[.str (.ofString "self") 1371] }
noncomputable def q990 : Obj := { cls := .none, data := .func { name := .ofString "make_room", qualname := .ofString "Reassembly.make_room", params := fP 81 5, body := .stmts (fB 81 5), scope := fS 81 5, globals := 0, closure := [], defaults := .none, kwdefaults := .none } }
noncomputable def q991 : Obj := { cls := .type "code", data := .fields #[.str (.ofString "make_room") 1368, .str (.ofString "Reassembly.make_room") 1369, .str (.ofString "/claim/cut.py") 1370, .int 549 0, .int 1 0, .int 0 0, .int 0 0, .int 3 0, .ref 828, .bool true, .int 181 0, .ref 829, .none, .ref 830, .ref 831, .ref 832, .int 1372 0, .int 549 0, .str (.ofString "/claim/cut.py") 1373] }
noncomputable def q992 : Obj := { cls := .type "function", data := .func { name := .ofString "make_room", qualname := .ofString "Reassembly.make_room", params := fP 81 5, body := .stmts (fB 81 5), scope := fS 81 5, globals := 3, closure := [], defaults := .none, kwdefaults := .none, pyModule := .str (.ofString "thinstack.reassembly") 1146, code := .ref 833 } }
noncomputable def q995 : Obj := { cls := .type "tuple", data := .seq #[.str (.ofString "self") 1378, .str (.ofString "now") 1379] }
noncomputable def q997 : Obj := { cls := .none, data := .func { name := .ofString "expire", qualname := .ofString "Reassembly.expire", params := fP 81 6, body := .stmts (fB 81 6), scope := fS 81 6, globals := 0, closure := [], defaults := .none, kwdefaults := .none } }
noncomputable def q998 : Obj := { cls := .type "code", data := .fields #[.str (.ofString "expire") 1375, .str (.ofString "Reassembly.expire") 1376, .str (.ofString "/claim/cut.py") 1377, .int 553 0, .int 2 0, .int 0 0, .int 0 0, .int 3 0, .ref 835, .bool true, .int 181 0, .ref 836, .none, .ref 837, .ref 838, .ref 839, .int 1380 0, .int 553 0, .str (.ofString "/claim/cut.py") 1381] }
noncomputable def q999 : Obj := { cls := .type "function", data := .func { name := .ofString "expire", qualname := .ofString "Reassembly.expire", params := fP 81 6, body := .stmts (fB 81 6), scope := fS 81 6, globals := 3, closure := [], defaults := .none, kwdefaults := .none, pyModule := .str (.ofString "thinstack.reassembly") 1146, code := .ref 840 } }
noncomputable def q1002 : Obj := { cls := .type "tuple", data := .seq #[.str (.ofString "self") 1386] }
noncomputable def q1004 : Obj := { cls := .none, data := .func { name := .ofString "next_time", qualname := .ofString "Reassembly.next_time", params := fP 81 7, body := .stmts (fB 81 7), scope := fS 81 7, globals := 0, closure := [], defaults := .none, kwdefaults := .none } }
noncomputable def q1005 : Obj := { cls := .type "code", data := .fields #[.str (.ofString "next_time") 1383, .str (.ofString "Reassembly.next_time") 1384, .str (.ofString "/claim/cut.py") 1385, .int 556 0, .int 1 0, .int 0 0, .int 0 0, .int 3 0, .ref 842, .bool true, .int 181 0, .ref 843, .none, .ref 844, .ref 845, .ref 846, .int 1387 0, .int 556 0, .str (.ofString "/claim/cut.py") 1388] }
noncomputable def q1006 : Obj := { cls := .type "function", data := .func { name := .ofString "next_time", qualname := .ofString "Reassembly.next_time", params := fP 81 7, body := .stmts (fB 81 7), scope := fS 81 7, globals := 3, closure := [], defaults := .none, kwdefaults := .none, pyModule := .str (.ofString "thinstack.reassembly") 1146, code := .ref 847 } }
noncomputable def q1007 : Obj := { cls := .type "tuple", data := .seq #[.str (.ofString "most") 1390, .str (.ofString "most_octets") 1391, .str (.ofString "time_limit") 1392, .str (.ofString "waiting") 1393] }
noncomputable def q1008 (P : Params) : Obj := { cls := .type "dict", data := .dict #[⟨PyData.keyHash P (.ofString "__module__"), .str (.ofString "__module__") 1326, .str (.ofString "thinstack.reassembly") 1146⟩, ⟨PyData.keyHash P (.ofString "__firstlineno__"), .str (.ofString "__firstlineno__") 1330, .int 516 1329⟩, ⟨PyData.keyHash P (.ofString "__init__"), .str (.ofString "__init__") 1341, .ref 808⟩, ⟨PyData.keyHash P (.ofString "put"), .str (.ofString "put") 1354, .ref 815⟩, ⟨PyData.keyHash P (.ofString "stored"), .str (.ofString "stored") 1360, .ref 820⟩, ⟨PyData.keyHash P (.ofString "count"), .str (.ofString "count") 1367, .ref 827⟩, ⟨PyData.keyHash P (.ofString "make_room"), .str (.ofString "make_room") 1374, .ref 834⟩, ⟨PyData.keyHash P (.ofString "expire"), .str (.ofString "expire") 1382, .ref 841⟩, ⟨PyData.keyHash P (.ofString "next_time"), .str (.ofString "next_time") 1389, .ref 848⟩, ⟨PyData.keyHash P (.ofString "__static_attributes__"), .str (.ofString "__static_attributes__") 1394, .ref 849⟩, ⟨PyData.keyHash P (.ofString "__dict__"), .str (.ofString "__dict__") 1396, .ref 852⟩, ⟨PyData.keyHash P (.ofString "__weakref__"), .str (.ofString "__weakref__") 1398, .ref 853⟩, ⟨PyData.keyHash P (.ofString "__doc__"), .str (.ofString "__doc__") 1399, .none⟩] 4 }
noncomputable def q1009 : Obj := { cls := .type "type", data := .cls { name := .ofString "Reassembly", bases := [.type "object"], mro := [.ref 851, .type "object"], ns := 850, qualname := .ofString "Reassembly" }, slots := #[none, none, some (.str (.ofString "Reassembly") 1319), some (.str (.ofString "Reassembly") 1327), some (.builtin "object.__new__"), some (.bool true)] }
noncomputable def q1010 : Obj := { cls := .type "getset_descriptor", data := .fields #[.str (.ofString "__dict__") 1395, .ref 851, .builtin "function.__dict__", .builtin "function.__dict__#set"] }
noncomputable def q1011 : Obj := { cls := .type "getset_descriptor", data := .fields #[.str (.ofString "__weakref__") 1397, .ref 851, .builtin "ExceptionGroup.__weakref__", .none] }
noncomputable def q1012 : Obj := { cls := .type "super", data := .fields #[.ref 851, .ref 851, .ref 851] }
noncomputable def q1013 : Obj := { cls := .type "builtin_function_or_method", data := .fields #[.builtin "object.__init_subclass__", .ref 851] }
noncomputable def q1014 (P : Params) : Obj := { cls := .type "dict", data := .dict #[⟨PyData.keyHash P (.ofString "__name__"), .str (.ofString "__name__") 165, .str (.ofString "law_xw0341_02") 1402⟩, ⟨PyData.keyHash P (.ofString "__doc__"), .str (.ofString "__doc__") 166, .none⟩, ⟨PyData.keyHash P (.ofString "__package__"), .str (.ofString "__package__") 167, .none⟩, ⟨PyData.keyHash P (.ofString "__loader__"), .str (.ofString "__loader__") 168, .builtin "__main__.__loader__#opaque"⟩, ⟨PyData.keyHash P (.ofString "__spec__"), .str (.ofString "__spec__") 169, .none⟩, ⟨PyData.keyHash P (.ofString "__annotations__"), .str (.ofString "__annotations__") 170, .ref 6⟩, ⟨PyData.keyHash P (.ofString "__builtins__"), .str (.ofString "__builtins__") 171, .ref 4⟩, ⟨PyData.keyHash P (.ofString "__file__"), .str (.ofString "__file__") 173, .str (.ofString "/claim/cut.py") 172⟩, ⟨PyData.keyHash P (.ofString "__cached__"), .str (.ofString "__cached__") 174, .none⟩, ⟨PyData.keyHash P (.ofString "_wall"), .str (.ofString "_wall") 193, .ref 21⟩, ⟨PyData.keyHash P (.ofString "StackError"), .str (.ofString "StackError") 224, .ref 38⟩, ⟨PyData.keyHash P (.ofString "FormError"), .str (.ofString "FormError") 240, .ref 51⟩, ⟨PyData.keyHash P (.ofString "SizeError"), .str (.ofString "SizeError") 256, .ref 63⟩, ⟨PyData.keyHash P (.ofString "RouteError"), .str (.ofString "RouteError") 272, .ref 75⟩, ⟨PyData.keyHash P (.ofString "put16"), .str (.ofString "put16") 281, .ref 84⟩, ⟨PyData.keyHash P (.ofString "put32"), .str (.ofString "put32") 288, .ref 91⟩, ⟨PyData.keyHash P (.ofString "need"), .str (.ofString "need") 297, .ref 98⟩, ⟨PyData.keyHash P (.ofString "get16"), .str (.ofString "get16") 305, .ref 105⟩, ⟨PyData.keyHash P (.ofString "get32"), .str (.ofString "get32") 313, .ref 112⟩, ⟨PyData.keyHash P (.ofString "ALL_ONES"), .str (.ofString "ALL_ONES") 317, .int 65535 316⟩, ⟨PyData.keyHash P (.ofString "fold"), .str (.ofString "fold") 324, .ref 119⟩, ⟨PyData.keyHash P (.ofString "ones_sum"), .str (.ofString "ones_sum") 336, .ref 127⟩, ⟨PyData.keyHash P (.ofString "checksum"), .str (.ofString "checksum") 345, .ref 135⟩, ⟨PyData.keyHash P (.ofString "VERSION"), .str (.ofString "VERSION") 349, .int 4 348⟩, ⟨PyData.keyHash P (.ofString "LEAST_HEAD"), .str (.ofString "LEAST_HEAD") 351, .int 20 350⟩, ⟨PyData.keyHash P (.ofString "MOST_HEAD"), .str (.ofString "MOST_HEAD") 353, .int 60 352⟩, ⟨PyData.keyHash P (.ofString "MOST_TOTAL"), .str (.ofString "MOST_TOTAL") 355, .int 65535 354⟩, ⟨PyData.keyHash P (.ofString "DONT_BIT"), .str (.ofString "DONT_BIT") 357, .int 16384 356⟩, ⟨PyData.keyHash P (.ofString "MORE_BIT"), .str (.ofString "MORE_BIT") 359, .int 8192 358⟩, ⟨PyData.keyHash P (.ofString "PLACE_BITS"), .str (.ofString "PLACE_BITS") 361, .int 8191 360⟩, ⟨PyData.keyHash P (.ofString "TTL_PLACE"), .str (.ofString "TTL_PLACE") 363, .int 8 362⟩, ⟨PyData.keyHash P (.ofString "IpHeader"), .str (.ofString "IpHeader") 453, .ref 188⟩, ⟨PyData.keyHash P (.ofString "is_within"), .str (.ofString "is_within") 461, .ref 199⟩, ⟨PyData.keyHash P (.ofString "check_fields"), .str (.ofString "check_fields") 469, .ref 206⟩, ⟨PyData.keyHash P (.ofString "check_size"), .str (.ofString "check_size") 477, .ref 213⟩, ⟨PyData.keyHash P (.ofString "flags_of"), .str (.ofString "flags_of") 485, .ref 220⟩, ⟨PyData.keyHash P (.ofString "pack_ip"), .str (.ofString "pack_ip") 498, .ref 227⟩, ⟨PyData.keyHash P (.ofString "head_size"), .str (.ofString "head_size") 506, .ref 234⟩, ⟨PyData.keyHash P (.ofString "unpack_ip"), .str (.ofString "unpack_ip") 518, .ref 241⟩, ⟨PyData.keyHash P (.ofString "END"), .str (.ofString "END") 522, .int 0 521⟩, ⟨PyData.keyHash P (.ofString "NOTHING"), .str (.ofString "NOTHING") 524, .int 1 523⟩, ⟨PyData.keyHash P (.ofString "MOST_OPTIONS"), .str (.ofString "MOST_OPTIONS") 526, .int 40 525⟩, ⟨PyData.keyHash P (.ofString "COPY_BIT"), .str (.ofString "COPY_BIT") 528, .int 128 527⟩, ⟨PyData.keyHash P (.ofString "is_single"), .str (.ofString "is_single") 535, .ref 248⟩, ⟨PyData.keyHash P (.ofString "read_options"), .str (.ofString "read_options") 546, .ref 255⟩, ⟨PyData.keyHash P (.ofString "size_at"), .str (.ofString "size_at") 555, .ref 262⟩, ⟨PyData.keyHash P (.ofString "write_options"), .str (.ofString "write_options") 565, .ref 269⟩, ⟨PyData.keyHash P (.ofString "option_octets"), .str (.ofString "option_octets") 573, .ref 276⟩, ⟨PyData.keyHash P (.ofString "is_copied"), .str (.ofString "is_copied") 580, .ref 283⟩, ⟨PyData.keyHash P (.ofString "copied"), .str (.ofString "copied") 586, .ref 288⟩, ⟨PyData.keyHash P (.ofString "STEP_fragments"), .str (.ofString "STEP_fragments") 590, .int 8 589⟩, ⟨PyData.keyHash P (.ofString "later_options"), .str (.ofString "later_options") 597, .ref 295⟩, ⟨PyData.keyHash P (.ofString "part_header"), .str (.ofString "part_header") 607, .ref 302⟩, ⟨PyData.keyHash P (.ofString "room_of"), .str (.ofString "room_of") 616, .ref 309⟩, ⟨PyData.keyHash P (.ofString "cut"), .str (.ofString "cut") 632, .ref 316⟩, ⟨PyData.keyHash P (.ofString "BITS"), .str (.ofString "BITS") 636, .int 32 635⟩, ⟨PyData.keyHash P (.ofString "ALL"), .str (.ofString "ALL") 642, .int 4294967295 641⟩, ⟨PyData.keyHash P (.ofString "mask_of"), .str (.ofString "mask_of") 649, .ref 323⟩, ⟨PyData.keyHash P (.ofString "net_of"), .str (.ofString "net_of") 657, .ref 330⟩, ⟨PyData.keyHash P (.ofString "is_group"), .str (.ofString "is_group") 664, .ref 337⟩, ⟨PyData.keyHash P (.ofString "is_loop"), .str (.ofString "is_loop") 671, .ref 344⟩, ⟨PyData.keyHash P (.ofString "Route"), .str (.ofString "Route") 724, .ref 376⟩, ⟨PyData.keyHash P (.ofString "Branch"), .str (.ofString "Branch") 787, .ref 425⟩, ⟨PyData.keyHash P (.ofString "bit_at"), .str (.ofString "bit_at") 795, .ref 436⟩, ⟨PyData.keyHash P (.ofString "Routes"), .str (.ofString "Routes") 904, .ref 509⟩, ⟨PyData.keyHash P (.ofString "ALL_HOSTS"), .str (.ofString "ALL_HOSTS") 912, .int 4294967295 911⟩, ⟨PyData.keyHash P (.ofString "LEAST_TARGET"), .str (.ofString "LEAST_TARGET") 916, .int 16777216 915⟩, ⟨PyData.keyHash P (.ofString "UNREACHABLE"), .str (.ofString "UNREACHABLE") 918, .int 3 917⟩, ⟨PyData.keyHash P (.ofString "EXCEEDED"), .str (.ofString "EXCEEDED") 920, .int 11 919⟩, ⟨PyData.keyHash P (.ofString "NO_NET"), .str (.ofString "NO_NET") 922, .int 0 921⟩, ⟨PyData.keyHash P (.ofString "TOO_GREAT"), .str (.ofString "TOO_GREAT") 924, .int 4 923⟩, ⟨PyData.keyHash P (.ofString "IN_TRANSIT"), .str (.ofString "IN_TRANSIT") 926, .int 0 925⟩, ⟨PyData.keyHash P (.ofString "FaceRow"), .str (.ofString "FaceRow") 959, .ref 530⟩, ⟨PyData.keyHash P (.ofString "header_like"), .str (.ofString "header_like") 968, .ref 541⟩, ⟨PyData.keyHash P (.ofString "IpLayer"), .str (.ofString "IpLayer") 1145, .ref 665⟩, ⟨PyData.keyHash P (.ofString "STEP_reassembly"), .str (.ofString "STEP_reassembly") 1149, .int 8 1148⟩, ⟨PyData.keyHash P (.ofString "Holes"), .str (.ofString "Holes") 1216, .ref 714⟩, ⟨PyData.keyHash P (.ofString "Datagram"), .str (.ofString "Datagram") 1296, .ref 768⟩, ⟨PyData.keyHash P (.ofString "whole_header"), .str (.ofString "whole_header") 1303, .ref 779⟩, ⟨PyData.keyHash P (.ofString "key_of"), .str (.ofString "key_of") 1310, .ref 786⟩, ⟨PyData.keyHash P (.ofString "is_bad_piece"), .str (.ofString "is_bad_piece") 1318, .ref 793⟩, ⟨PyData.keyHash P (.ofString "Reassembly"), .str (.ofString "Reassembly") 1401, .ref 851⟩, ⟨PyData.keyHash P (.ofString "_law_pool"), .str (.ofString "_law_pool") 1414, .ref 862⟩, ⟨PyData.keyHash P (.ofString "_law_take"), .str (.ofString "_law_take") 1423, .ref 869⟩, ⟨PyData.keyHash P (.ofString "_law_one"), .str (.ofString "_law_one") 1431, .ref 876⟩, ⟨PyData.keyHash P (.ofString "_law_layer"), .str (.ofString "_law_layer") 1442, .ref 883⟩, ⟨PyData.keyHash P (.ofString "_law_due"), .str (.ofString "_law_due") 1467, .ref 890⟩, ⟨PyData.keyHash P (.ofString "_law_seen"), .str (.ofString "_law_seen") 1484, .ref 897⟩, ⟨PyData.keyHash P (.ofString "_law_right"), .str (.ofString "_law_right") 1495, .ref 904⟩, ⟨PyData.keyHash P (.ofString "law"), .str (.ofString "law") 1510, .ref 911⟩] 90 }
noncomputable def q1015 : Obj := { cls := .none, data := .fields #[.int 1 0, .int 0 0, .ref 20, .int 5 0, .int 0 0, .ref 27, .int 9 0, .int 0 0, .ref 47, .int 11 0, .int 0 0, .ref 59, .int 13 0, .int 0 0, .ref 71, .int 16 0, .int 0 0, .ref 83, .int 18 0, .int 0 0, .ref 90, .int 20 0, .int 0 0, .ref 97, .int 23 0, .int 0 0, .ref 104, .int 26 0, .int 0 0, .ref 111, .int 31 0, .int 0 0, .ref 118, .int 35 0, .int 0 0, .ref 126, .int 43 0, .int 0 0, .ref 134, .int 54 0, .int 0 0, .ref 141, .int 82 0, .int 0 0, .ref 198, .int 84 0, .int 0 0, .ref 205, .int 95 0, .int 0 0, .ref 212, .int 100 0, .int 0 0, .ref 219, .int 107 0, .int 0 0, .ref 226, .int 116 0, .int 0 0, .ref 233, .int 125 0, .int 0 0, .ref 240, .int 141 0, .int 0 0, .ref 247, .int 143 0, .int 0 0, .ref 254, .int 156 0, .int 0 0, .ref 261, .int 163 0, .int 0 0, .ref 268, .int 171 0, .int 0 0, .ref 275, .int 181 0, .int 0 0, .ref 282, .int 183 0, .int 0 0, .ref 287, .int 187 0, .int 0 0, .ref 294, .int 192 0, .int 0 0, .ref 301, .int 194 0, .int 0 0, .ref 308, .int 199 0, .int 0 0, .ref 315, .int 221 0, .int 0 0, .ref 322, .int 225 0, .int 0 0, .ref 329, .int 227 0, .int 0 0, .ref 336, .int 229 0, .int 0 0, .ref 343, .int 231 0, .int 0 0, .ref 350, .int 245 0, .int 0 0, .ref 386, .int 272 0, .int 0 0, .ref 435, .int 274 0, .int 0 0, .ref 442, .int 350 0, .int 0 0, .ref 519, .int 356 0, .int 0 0, .ref 540, .int 358 0, .int 0 0, .ref 547, .int 431 0, .int 0 0, .ref 675, .int 464 0, .int 0 0, .ref 724, .int 510 0, .int 0 0, .ref 778, .int 512 0, .int 0 0, .ref 785, .int 514 0, .int 0 0, .ref 792, .int 516 0, .int 0 0, .ref 799, .int 559 0, .int 0 0, .ref 861, .int 564 0, .int 0 0, .ref 868, .int 571 0, .int 0 0, .ref 875, .int 573 0, .int 0 0, .ref 882, .int 578 0, .int 0 0, .ref 889, .int 604 0, .int 0 0, .ref 896, .int 613 0, .int 0 0, .ref 903, .int 617 0, .int 0 0, .ref 910] }
noncomputable def q1018 : Obj := { cls := .type "tuple", data := .seq #[.str (.ofString "script") 1407, .str (.ofString "k") 1408, .str (.ofString "cell") 1409, .str (.ofString "great") 1410, .str (.ofString "mixed") 1411] }
noncomputable def q1020 : Obj := { cls := .none, data := .func { name := .ofString "_law_pool", qualname := .ofString "_law_pool", params := fP 83 0, body := .stmts (fB 83 0), scope := fS 83 0, globals := 0, closure := [], defaults := .none, kwdefaults := .none } }
noncomputable def q1021 : Obj := { cls := .type "code", data := .fields #[.str (.ofString "_law_pool") 1404, .str (.ofString "_law_pool") 1405, .str (.ofString "/claim/cut.py") 1406, .int 559 0, .int 2 0, .int 0 0, .int 0 0, .int 3 0, .ref 856, .bool true, .int 181 0, .ref 857, .none, .ref 858, .ref 859, .ref 860, .int 1412 0, .int 559 0, .str (.ofString "/claim/cut.py") 1413] }
noncomputable def q1022 : Obj := { cls := .type "function", data := .func { name := .ofString "_law_pool", qualname := .ofString "_law_pool", params := fP 83 0, body := .stmts (fB 83 0), scope := fS 83 0, globals := 3, closure := [], defaults := .none, kwdefaults := .none, pyModule := .str (.ofString "law_xw0341_02") 1402, code := .ref 861 } }
noncomputable def q1025 : Obj := { cls := .type "tuple", data := .seq #[.str (.ofString "source") 1418, .str (.ofString "top") 1419, .str (.ofString "drawn") 1420] }
noncomputable def q1027 : Obj := { cls := .none, data := .func { name := .ofString "_law_take", qualname := .ofString "_law_take", params := fP 84 0, body := .stmts (fB 84 0), scope := fS 84 0, globals := 0, closure := [], defaults := .none, kwdefaults := .none } }
noncomputable def q1028 : Obj := { cls := .type "code", data := .fields #[.str (.ofString "_law_take") 1415, .str (.ofString "_law_take") 1416, .str (.ofString "/claim/cut.py") 1417, .int 564 0, .int 2 0, .int 0 0, .int 0 0, .int 3 0, .ref 863, .bool true, .int 181 0, .ref 864, .none, .ref 865, .ref 866, .ref 867, .int 1421 0, .int 564 0, .str (.ofString "/claim/cut.py") 1422] }
noncomputable def q1029 : Obj := { cls := .type "function", data := .func { name := .ofString "_law_take", qualname := .ofString "_law_take", params := fP 84 0, body := .stmts (fB 84 0), scope := fS 84 0, globals := 3, closure := [], defaults := .none, kwdefaults := .none, pyModule := .str (.ofString "law_xw0341_02") 1402, code := .ref 868 } }
noncomputable def q1032 : Obj := { cls := .type "tuple", data := .seq #[.str (.ofString "source") 1427, .str (.ofString "things") 1428] }
noncomputable def q1034 : Obj := { cls := .none, data := .func { name := .ofString "_law_one", qualname := .ofString "_law_one", params := fP 85 0, body := .stmts (fB 85 0), scope := fS 85 0, globals := 0, closure := [], defaults := .none, kwdefaults := .none } }
noncomputable def q1035 : Obj := { cls := .type "code", data := .fields #[.str (.ofString "_law_one") 1424, .str (.ofString "_law_one") 1425, .str (.ofString "/claim/cut.py") 1426, .int 571 0, .int 2 0, .int 0 0, .int 0 0, .int 3 0, .ref 870, .bool true, .int 181 0, .ref 871, .none, .ref 872, .ref 873, .ref 874, .int 1429 0, .int 571 0, .str (.ofString "/claim/cut.py") 1430] }
noncomputable def q1036 : Obj := { cls := .type "function", data := .func { name := .ofString "_law_one", qualname := .ofString "_law_one", params := fP 85 0, body := .stmts (fB 85 0), scope := fS 85 0, globals := 3, closure := [], defaults := .none, kwdefaults := .none, pyModule := .str (.ofString "law_xw0341_02") 1402, code := .ref 875 } }
noncomputable def q1039 : Obj := { cls := .type "tuple", data := .seq #[.str (.ofString "mtu") 1435, .str (.ofString "routes") 1436, .str (.ofString "net") 1437, .str (.ofString "gateway") 1438, .str (.ofString "face") 1439] }
noncomputable def q1041 : Obj := { cls := .none, data := .func { name := .ofString "_law_layer", qualname := .ofString "_law_layer", params := fP 86 0, body := .stmts (fB 86 0), scope := fS 86 0, globals := 0, closure := [], defaults := .none, kwdefaults := .none } }
noncomputable def q1042 : Obj := { cls := .type "code", data := .fields #[.str (.ofString "_law_layer") 1432, .str (.ofString "_law_layer") 1433, .str (.ofString "/claim/cut.py") 1434, .int 573 0, .int 1 0, .int 0 0, .int 0 0, .int 3 0, .ref 877, .bool true, .int 181 0, .ref 878, .none, .ref 879, .ref 880, .ref 881, .int 1440 0, .int 573 0, .str (.ofString "/claim/cut.py") 1441] }
noncomputable def q1043 : Obj := { cls := .type "function", data := .func { name := .ofString "_law_layer", qualname := .ofString "_law_layer", params := fP 86 0, body := .stmts (fB 86 0), scope := fS 86 0, globals := 3, closure := [], defaults := .none, kwdefaults := .none, pyModule := .str (.ofString "law_xw0341_02") 1402, code := .ref 882 } }
noncomputable def q1046 : Obj := { cls := .type "tuple", data := .seq #[.str (.ofString "row") 1446, .str (.ofString "payload") 1447, .str (.ofString "mtu") 1448, .str (.ofString "target") 1449, .str (.ofString "ttl") 1450, .str (.ofString "dont") 1451, .str (.ofString "more") 1452, .str (.ofString "offset") 1453, .str (.ofString "net") 1454, .str (.ofString "face") 1455, .str (.ofString "address") 1456, .str (.ofString "room") 1457, .str (.ofString "cuts") 1458, .str (.ofString "step") 1459, .str (.ofString "found") 1460, .str (.ofString "begin") 1461, .str (.ofString "end") 1462, .str (.ofString "is_more") 1463, .str (.ofString "head") 1464] }
noncomputable def q1048 : Obj := { cls := .none, data := .func { name := .ofString "_law_due", qualname := .ofString "_law_due", params := fP 87 0, body := .stmts (fB 87 0), scope := fS 87 0, globals := 0, closure := [], defaults := .none, kwdefaults := .none } }
noncomputable def q1049 : Obj := { cls := .type "code", data := .fields #[.str (.ofString "_law_due") 1443, .str (.ofString "_law_due") 1444, .str (.ofString "/claim/cut.py") 1445, .int 578 0, .int 3 0, .int 0 0, .int 0 0, .int 3 0, .ref 884, .bool true, .int 181 0, .ref 885, .none, .ref 886, .ref 887, .ref 888, .int 1465 0, .int 578 0, .str (.ofString "/claim/cut.py") 1466] }
noncomputable def q1050 : Obj := { cls := .type "function", data := .func { name := .ofString "_law_due", qualname := .ofString "_law_due", params := fP 87 0, body := .stmts (fB 87 0), scope := fS 87 0, globals := 3, closure := [], defaults := .none, kwdefaults := .none, pyModule := .str (.ofString "law_xw0341_02") 1402, code := .ref 889 } }
noncomputable def q1053 : Obj := { cls := .type "tuple", data := .seq #[.str (.ofString "rows") 1471, .str (.ofString "header") 1472, .str (.ofString "payload") 1473, .str (.ofString "is_well") 1474, .str (.ofString "found") 1475, .str (.ofString "word") 1476, .str (.ofString "face") 1477, .str (.ofString "address") 1478, .str (.ofString "packet") 1479, .str (.ofString "head") 1480, .str (.ofString "octets") 1481] }
noncomputable def q1055 : Obj := { cls := .none, data := .func { name := .ofString "_law_seen", qualname := .ofString "_law_seen", params := fP 88 0, body := .stmts (fB 88 0), scope := fS 88 0, globals := 0, closure := [], defaults := .none, kwdefaults := .none } }
noncomputable def q1056 : Obj := { cls := .type "code", data := .fields #[.str (.ofString "_law_seen") 1468, .str (.ofString "_law_seen") 1469, .str (.ofString "/claim/cut.py") 1470, .int 604 0, .int 3 0, .int 0 0, .int 0 0, .int 3 0, .ref 891, .bool true, .int 181 0, .ref 892, .none, .ref 893, .ref 894, .ref 895, .int 1482 0, .int 604 0, .str (.ofString "/claim/cut.py") 1483] }
noncomputable def q1057 : Obj := { cls := .type "function", data := .func { name := .ofString "_law_seen", qualname := .ofString "_law_seen", params := fP 88 0, body := .stmts (fB 88 0), scope := fS 88 0, globals := 3, closure := [], defaults := .none, kwdefaults := .none, pyModule := .str (.ofString "law_xw0341_02") 1402, code := .ref 896 } }
noncomputable def q1060 : Obj := { cls := .type "tuple", data := .seq #[.str (.ofString "row") 1488, .str (.ofString "payload") 1489, .str (.ofString "mtu") 1490, .str (.ofString "header") 1491, .str (.ofString "told") 1492] }
noncomputable def q1062 : Obj := { cls := .none, data := .func { name := .ofString "_law_right", qualname := .ofString "_law_right", params := fP 89 0, body := .stmts (fB 89 0), scope := fS 89 0, globals := 0, closure := [], defaults := .none, kwdefaults := .none } }
noncomputable def q1063 : Obj := { cls := .type "code", data := .fields #[.str (.ofString "_law_right") 1485, .str (.ofString "_law_right") 1486, .str (.ofString "/claim/cut.py") 1487, .int 613 0, .int 3 0, .int 0 0, .int 0 0, .int 3 0, .ref 898, .bool true, .int 181 0, .ref 899, .none, .ref 900, .ref 901, .ref 902, .int 1493 0, .int 613 0, .str (.ofString "/claim/cut.py") 1494] }
noncomputable def q1064 : Obj := { cls := .type "function", data := .func { name := .ofString "_law_right", qualname := .ofString "_law_right", params := fP 89 0, body := .stmts (fB 89 0), scope := fS 89 0, globals := 3, closure := [], defaults := .none, kwdefaults := .none, pyModule := .str (.ofString "law_xw0341_02") 1402, code := .ref 903 } }
noncomputable def q1067 : Obj := { cls := .type "tuple", data := .seq #[.str (.ofString "script") 1499, .str (.ofString "source") 1500, .str (.ofString "turn") 1501, .str (.ofString "targets") 1502, .str (.ofString "target") 1503, .str (.ofString "ttl") 1504, .str (.ofString "marks") 1505, .str (.ofString "row") 1506, .str (.ofString "payload") 1507] }
noncomputable def q1069 : Obj := { cls := .none, data := .func { name := .ofString "law", qualname := .ofString "law", params := fP 90 0, body := .stmts (fB 90 0), scope := fS 90 0, globals := 0, closure := [], defaults := .none, kwdefaults := .none } }
noncomputable def q1070 : Obj := { cls := .type "code", data := .fields #[.str (.ofString "law") 1496, .str (.ofString "law") 1497, .str (.ofString "/claim/cut.py") 1498, .int 617 0, .int 1 0, .int 0 0, .int 0 0, .int 3 0, .ref 905, .bool true, .int 181 0, .ref 906, .none, .ref 907, .ref 908, .ref 909, .int 1508 0, .int 617 0, .str (.ofString "/claim/cut.py") 1509] }
noncomputable def q1071 : Obj := { cls := .type "function", data := .func { name := .ofString "law", qualname := .ofString "law", params := fP 90 0, body := .stmts (fB 90 0), scope := fS 90 0, globals := 3, closure := [], defaults := .none, kwdefaults := .none, pyModule := .str (.ofString "law_xw0341_02") 1402, code := .ref 910 } }
noncomputable def heapA (P : Params) : Heap := { objs := ⟨[boot_o_0 P, boot_o_1 P, boot_o_2 P, boot_o_3 P, boot_o_4 P, boot_o_5 P, boot_o_6 P, boot_o_7 P, boot_o_8 P, boot_o_9 P, boot_o_10 P, q43, q44, q45, q46]⟩ }
noncomputable def nd (o : Obj) (a b : BT) : BT := .node o a b
noncomputable def ni : BT := .nil
noncomputable def lf (o : Obj) : BT := .node o .nil .nil
noncomputable def tree47 (P : Params) : BT := nd (boot_o_0 P) (nd (boot_o_1 P) (nd (boot_o_3 P) (lf (boot_o_7 P)) (lf q43)) (nd (boot_o_5 P) (lf (boot_o_9 P)) (lf q45))) (nd (boot_o_2 P) (nd (boot_o_4 P) (lf (boot_o_8 P)) (lf q44)) (nd (boot_o_6 P) (lf (boot_o_10 P)) (lf q46)))
noncomputable def tree158 (P : Params) : BT := nd (boot_o_0 P) (nd (boot_o_1 P) (nd (q109 P) (nd (boot_o_7 P) (nd q43 (nd q68 (lf q106) (lf q43)) (nd q87 (lf q44) (lf q157))) (nd q60 (nd q76 (lf q117) (lf q149)) (nd q60 (lf q133) ni))) (nd q43 (nd q56 (nd q72 (lf q60) (lf q43)) (nd q91 (lf q129) ni)) (nd q64 (nd q60 (lf q121) (lf q44)) (nd q102 (lf q137) ni)))) (nd (boot_o_5 P) (nd (boot_o_9 P) (nd q54 (nd q70 (lf q108) (lf q143)) (nd q43 (lf q43) ni)) (nd q43 (nd q78 (lf q43) (lf q151)) (nd q43 (lf q135) ni))) (nd q45 (nd q58 (nd (q74 P) (lf q43) (lf q147)) (nd q93 (lf q43) ni)) (nd q43 (nd q43 (lf q123) (lf q43)) (nd q43 (lf q44) ni))))) (nd (q49 P) (nd (boot_o_4 P) (nd (boot_o_8 P) (nd q44 (nd q43 (lf q107) (lf q142)) (nd q88 (lf q126) (lf q158))) (nd (q61 P) (nd q77 (lf q118) (lf q150)) (nd (q99 P) (lf q43) ni))) (nd q110 (nd q57 (nd q73 (lf (q114 P)) (lf q44)) (nd q92 (lf q130) ni)) (nd q65 (nd (q84 P) (lf q122) (lf q154)) (nd q103 (lf q43) ni)))) (nd (boot_o_6 P) (nd (boot_o_10 P) (nd q43 (nd q71 (lf q82) (lf q144)) (nd (q90 P) (lf q128) ni)) (nd q63 (nd q82 (lf (q120 P)) (lf q43)) (nd q44 (lf q136) ni))) (nd q46 (nd q59 (nd q111 (lf q44) (lf q43)) (nd q82 (lf q44) ni)) (nd q44 (nd q44 (lf q43) (lf q156)) (nd (q105 P) (lf q140) ni)))))
noncomputable def tree321 (P : Params) : BT := nd (boot_o_0 P) (nd (boot_o_1 P) (nd (q243 P) (nd (boot_o_7 P) (nd q43 (nd q68 (nd q106 (nd q175 (lf q307) ni) (lf q241)) (nd q43 (lf q44) (lf q275))) (nd q87 (nd q44 (lf q193) (lf q43)) (nd q157 (lf q43) (lf q291)))) (nd q60 (nd q76 (nd q117 (nd q183 (lf q43) ni) (lf q251)) (nd q149 (lf q217) (lf q43))) (nd q60 (nd q133 (lf q43) (lf q44)) (nd q167 (lf q233) (lf q299))))) (nd q43 (nd q56 (nd q72 (nd q60 (nd q179 (lf q43) ni) (lf q247)) (nd q43 (lf q213) (lf q279))) (nd q91 (nd q129 (lf q43) (lf q263)) (nd q163 (lf q43) (lf q44)))) (nd q64 (nd q60 (nd q121 (nd q43 (lf q319) ni) (lf q43)) (nd q44 (lf q221) (lf q43))) (nd q102 (nd q137 (lf q205) (lf q271)) (nd q171 (lf (q237 P)) (lf q303)))))) (nd (boot_o_5 P) (nd (boot_o_9 P) (nd q54 (nd q70 (nd q108 (nd q43 (lf q44) ni) (lf q43)) (nd q143 (lf q43) (lf q277))) (nd q43 (nd q43 (lf q44) (lf q261)) (nd q43 (lf q227) (lf q293)))) (nd q43 (nd q78 (nd q43 (nd q60 (lf q317) ni) (lf q44)) (nd q151 (lf q219) (lf q285))) (nd q43 (nd q135 (lf q203) (lf q43)) (nd q43 (lf q235) (lf q43))))) (nd q45 (nd q58 (nd (q74 P) (nd q43 (nd q181 (lf q313) ni) (lf q249)) (nd q147 (lf q43) (lf q44))) (nd q93 (nd q43 (lf q199) (lf q265)) (nd q165 (lf q231) (lf q43)))) (nd q43 (nd q43 (nd q123 (nd q191 (lf q321) ni) (lf q257)) (nd q43 (lf q44) (lf q289))) (nd q43 (nd q44 (lf q207) (lf q43)) (nd q173 (lf q239) (lf q305))))))) (nd (q49 P) (nd (boot_o_4 P) (nd (boot_o_8 P) (nd q44 (nd q43 (nd q107 (nd q176 (lf q43) ni) (lf q242)) (nd q142 (lf q210) (lf q43))) (nd q88 (nd q126 (lf q43) (lf q44)) (nd q158 (lf q226) (lf q292)))) (nd (q61 P) (nd q77 (nd q118 (nd q43 (lf q44) ni) (lf q43)) (nd q150 (lf q43) (lf q284))) (nd (q99 P) (nd q43 (lf q44) (lf q268)) (nd q168 (lf q234) (lf q300))))) (nd q244 (nd q57 (nd q73 (nd (q114 P) (nd q43 (lf q312) ni) (lf q43)) (nd q44 (lf q214) (lf q43))) (nd q92 (nd q130 (lf q198) (lf q264)) (nd q43 (lf q44) (lf q296)))) (nd q65 (nd (q84 P) (nd q122 (nd q190 (lf q320) ni) (lf q256)) (nd q154 (lf q43) (lf q44))) (nd q103 (nd q43 (lf q206) (lf q272)) (nd q43 (lf q238) (lf q43)))))) (nd (boot_o_6 P) (nd (boot_o_10 P) (nd q43 (nd q71 (nd q82 (nd q44 (lf q310) ni) (lf q44)) (nd q144 (lf q212) (lf q278))) (nd (q90 P) (nd q128 (lf q196) (lf q43)) (nd q44 (lf q228) (lf q43)))) (nd q63 (nd q82 (nd (q120 P) (nd (q188 P) (lf q43) ni) (lf q254)) (nd q43 (lf q220) (lf q286))) (nd q44 (nd q136 (lf q43) (lf q270)) (nd q44 (lf q236) (lf q44))))) (nd q46 (nd q59 (nd q111 (nd q44 (nd q182 (lf q314) ni) (lf q250)) (nd q43 (lf q44) (lf q282))) (nd q82 (nd q44 (lf q200) (lf q43)) (nd q166 (lf q43) (lf q298)))) (nd q44 (nd q44 (nd q43 (lf q192) (lf q258)) (nd q156 (lf q224) (lf q43))) (nd (q105 P) (nd q140 (lf q43) (lf q44)) (nd q174 (lf q240) (lf q306)))))))
noncomputable def tree494 (P : Params) : BT := nd (boot_o_0 P) (nd (boot_o_1 P) (nd (q437 P) (nd (boot_o_7 P) (nd q43 (nd q68 (nd q106 (nd q175 (lf q307) (lf (q441 P))) (nd q241 (lf q373) ni)) (nd q43 (nd q44 (lf q341) (lf q473)) (nd q275 (lf q407) ni))) (nd q87 (nd q44 (nd q193 (lf q44) (lf q457)) (nd q43 (lf q389) ni)) (nd q157 (nd q43 (lf q43) (lf q44)) (nd q291 (lf q43) ni)))) (nd q60 (nd q76 (nd q117 (nd q183 (lf q43) (lf q43)) (nd q251 (lf q43) ni)) (nd q149 (nd q217 (lf q349) (lf q481)) (nd q43 (lf q415) ni))) (nd q60 (nd q133 (nd q43 (lf q333) (lf q465)) (nd q44 (lf q397) ni)) (nd q167 (nd q233 (lf q44) ni) (nd q299 (lf (q431 P)) ni))))) (nd q43 (nd q56 (nd q72 (nd q60 (nd q179 (lf q43) (lf q445)) (nd q247 (lf q377) ni)) (nd q43 (nd q213 (lf q345) (lf q43)) (nd q279 (lf q411) ni))) (nd q91 (nd q129 (nd q43 (lf q329) (lf q44)) (nd q263 (lf q44) ni)) (nd q163 (nd q43 (lf q361) (lf q493)) (nd q44 (lf q427) ni)))) (nd q64 (nd q60 (nd q121 (nd q43 (lf q319) (lf q43)) (nd q43 (lf q43) ni)) (nd q44 (nd q221 (lf q43) (lf q485)) (nd q43 (lf q43) ni))) (nd q102 (nd q137 (nd q205 (lf q337) (lf q469)) (nd q271 (lf (q403 P)) ni)) (nd q171 (nd (q237 P) (lf q369) ni) (nd q303 (lf q435) ni)))))) (nd (boot_o_5 P) (nd (boot_o_9 P) (nd q54 (nd q70 (nd q108 (nd q43 (lf q44) (lf q443)) (nd q43 (lf q375) ni)) (nd q143 (nd q43 (lf q43) (lf q44)) (nd q277 (lf q43) ni))) (nd q43 (nd q43 (nd q44 (lf q43) (lf q459)) (nd q261 (lf q391) ni)) (nd q43 (nd q227 (lf q359) (lf q43)) (nd q293 (lf q425) ni)))) (nd q43 (nd q78 (nd q43 (nd q60 (lf q317) (lf q451)) (nd q44 (lf q383) ni)) (nd q151 (nd q219 (lf q44) (lf q483)) (nd q285 (lf q44) ni))) (nd q43 (nd q135 (nd q203 (lf q335) (lf q43)) (nd q43 (lf q43) ni)) (nd q43 (nd q235 (lf q43) ni) (nd q43 (lf q433) ni))))) (nd q45 (nd q58 (nd (q74 P) (nd q43 (nd q181 (lf q313) (lf q44)) (nd q249 (lf q44) ni)) (nd q147 (nd q43 (lf q347) (lf q479)) (nd q44 (lf q413) ni))) (nd q93 (nd q43 (nd q199 (lf q43) (lf q43)) (nd q265 (lf q43) ni)) (nd q165 (nd q231 (lf q363) ni) (nd q43 (lf q429) ni)))) (nd q43 (nd q43 (nd q123 (nd q191 (lf q321) (lf q455)) (nd q257 (lf q387) ni)) (nd q43 (nd q44 (lf q355) (lf q487)) (nd q289 (lf q421) ni))) (nd q43 (nd q44 (nd q207 (lf q44) (lf q471)) (nd q43 (lf q405) ni)) (nd q173 (nd q239 (lf q43) ni) (nd q305 (lf q43) ni))))))) (nd (q49 P) (nd (boot_o_4 P) (nd (boot_o_8 P) (nd q44 (nd q43 (nd q107 (nd q176 (lf q43) (lf q43)) (nd q242 (lf q43) ni)) (nd q142 (nd q210 (lf q342) (lf q43)) (nd q43 (lf q408) ni))) (nd q88 (nd q126 (nd q43 (lf q326) (lf q458)) (nd q44 (lf q390) ni)) (nd q158 (nd q226 (lf q44) (lf q490)) (nd q292 (lf q44) ni)))) (nd (q61 P) (nd q77 (nd q118 (nd q43 (lf q44) (lf q450)) (nd q43 (lf q382) ni)) (nd q150 (nd q43 (lf q43) (lf (q482 P))) (nd q284 (lf q43) ni))) (nd (q99 P) (nd q43 (nd q44 (lf q43) (lf q466)) (nd q268 (lf q398) ni)) (nd q168 (nd q234 (lf q366) ni) (nd q300 (lf q432) ni))))) (nd q438 (nd q57 (nd q73 (nd (q114 P) (nd q43 (lf q312) (lf q43)) (nd q43 (lf q43) ni)) (nd q44 (nd q214 (lf q43) (lf q478)) (nd q43 (lf q43) ni))) (nd q92 (nd q130 (nd q198 (lf q330) (lf q462)) (nd q264 (lf q394) ni)) (nd q43 (nd q44 (lf q362) (lf q494)) (nd q296 (lf q428) ni)))) (nd q65 (nd (q84 P) (nd q122 (nd q190 (lf q320) (lf q44)) (nd q256 (lf q44) ni)) (nd q154 (nd q43 (lf q354) (lf q486)) (nd q44 (lf q420) ni))) (nd q103 (nd q43 (nd q206 (lf q43) (lf q43)) (nd q272 (lf q43) ni)) (nd q43 (nd q238 (lf q370) ni) (nd q43 (lf q436) ni)))))) (nd (boot_o_6 P) (nd (boot_o_10 P) (nd q43 (nd q71 (nd q82 (nd q44 (lf q310) (lf q444)) (nd q44 (lf q376) ni)) (nd q144 (nd q212 (lf q44) (lf q476)) (nd q278 (lf q44) ni))) (nd (q90 P) (nd q128 (nd q196 (lf q328) (lf q43)) (nd q43 (lf q43) ni)) (nd q44 (nd q228 (lf q43) (lf q492)) (nd q43 (lf q43) ni)))) (nd q63 (nd q82 (nd (q120 P) (nd (q188 P) (lf q43) (lf q452)) (nd q254 (lf q384) ni)) (nd q43 (nd q220 (lf q352) (lf q484)) (nd q286 (lf q418) ni))) (nd q44 (nd q136 (nd q43 (lf q336) (lf q44)) (nd q270 (lf q60) ni)) (nd q44 (nd q236 (lf q368) ni) (nd q44 (lf q434) ni))))) (nd q46 (nd q59 (nd q111 (nd q44 (nd q182 (lf q314) (lf q448)) (nd q250 (lf q380) ni)) (nd q43 (nd q44 (lf q348) (lf q480)) (nd q282 (lf q414) ni))) (nd q82 (nd q44 (nd q200 (lf q44) (lf q464)) (nd q43 (lf q396) ni)) (nd q166 (nd q43 (lf q43) ni) (nd q298 (lf q430) ni)))) (nd q44 (nd q44 (nd q43 (nd q192 (lf q43) (lf q43)) (nd q258 (lf q43) ni)) (nd q156 (nd q224 (lf q356) (lf q43)) (nd q43 (lf q422) ni))) (nd (q105 P) (nd q140 (nd q43 (lf q340) (lf q472)) (nd q44 (lf q406) ni)) (nd q174 (nd q240 (lf q44) ni) (nd q306 (lf q60) ni)))))))
noncomputable def tree603 (P : Params) : BT := nd (boot_o_0 P) (nd (boot_o_1 P) (nd (q574 P) (nd (boot_o_7 P) (nd q43 (nd q68 (nd q106 (nd q175 (nd q307 (lf q571) ni) (lf (q441 P))) (nd q241 (lf q373) (lf q43))) (nd q43 (nd q44 (lf q341) (lf q473)) (nd q275 (lf q407) (lf q43)))) (nd q87 (nd q44 (nd q193 (nd q44 (lf q589) ni) (lf q457)) (nd q43 (lf q389) (lf q523))) (nd q157 (nd q43 (lf q43) (lf q44)) (nd q291 (lf q43) (lf q555))))) (nd q60 (nd q76 (nd q117 (nd q183 (nd q43 (lf q581) ni) (lf q43)) (nd q251 (lf q43) (lf q515))) (nd q149 (nd q217 (lf q349) (lf q481)) (nd q43 (lf q415) (lf q44)))) (nd q60 (nd q133 (nd q43 (nd q333 (lf q43) ni) (lf q465)) (nd q44 (lf q397) (lf q531))) (nd q167 (nd q233 (lf q44) (lf (q499 P))) (nd q299 (lf (q431 P)) (lf q43)))))) (nd q43 (nd q56 (nd q72 (nd q60 (nd q179 (nd q43 (lf q60) ni) (lf q445)) (nd q247 (lf q377) (lf q43))) (nd q43 (nd q213 (lf q345) (lf q43)) (nd q279 (lf q411) (lf q543)))) (nd q91 (nd q129 (nd q43 (nd q329 (lf q593) ni) (lf q44)) (nd q263 (lf q44) (lf q527))) (nd q163 (nd q43 (lf q361) (lf q493)) (nd q44 (lf q427) (lf q559))))) (nd q64 (nd q60 (nd q121 (nd q43 (nd q319 (lf q585) ni) (lf q43)) (nd q43 (lf q43) (lf q44))) (nd q44 (nd q221 (lf q43) (lf q485)) (nd q43 (lf q43) (lf q551)))) (nd q102 (nd q137 (nd q205 (nd q337 (lf q601) ni) (lf q469)) (nd q271 (lf (q403 P)) (lf q43))) (nd q171 (nd (q237 P) (lf q369) (lf q503)) (nd q303 (lf q435) (lf q567))))))) (nd (boot_o_5 P) (nd (boot_o_9 P) (nd q54 (nd q70 (nd q108 (nd q43 (nd q44 (lf q573) ni) (lf q443)) (nd q43 (lf q375) (lf q509))) (nd q143 (nd q43 (lf q43) (lf q44)) (nd q277 (lf q43) (lf q541)))) (nd q43 (nd q43 (nd q44 (nd q43 (lf (q591 P)) ni) (lf q459)) (nd q261 (lf q391) (lf q43))) (nd q43 (nd q227 (lf q359) (lf q43)) (nd q293 (lf q425) (lf q557))))) (nd q43 (nd q78 (nd q43 (nd q60 (nd q317 (lf q43) ni) (lf q451)) (nd q44 (lf q383) (lf q517))) (nd q151 (nd q219 (lf q44) (lf q483)) (nd q285 (lf q44) (lf q43)))) (nd q43 (nd q135 (nd q203 (nd q335 (lf q599) ni) (lf q43)) (nd q43 (lf q43) (lf q44))) (nd q43 (nd q235 (lf q43) (lf q501)) (nd q43 (lf q433) (lf q565)))))) (nd q45 (nd q58 (nd (q74 P) (nd q43 (nd q181 (nd q313 (lf q43) ni) (lf q44)) (nd q249 (lf q44) (lf q513))) (nd q147 (nd q43 (lf q347) (lf q479)) (nd q44 (lf q413) (lf q545)))) (nd q93 (nd q43 (nd q199 (nd q43 (lf q595) ni) (lf q43)) (nd q265 (lf q43) (lf q529))) (nd q165 (nd q231 (lf q363) (lf q43)) (nd q43 (lf q429) (lf q44))))) (nd q43 (nd q43 (nd q123 (nd q191 (nd q321 (lf q587) ni) (lf q455)) (nd q257 (lf q387) (lf q43))) (nd q43 (nd q44 (lf q355) (lf q487)) (nd q289 (lf q421) (lf q43)))) (nd q43 (nd q44 (nd q207 (nd q44 (lf q603) ni) (lf q471)) (nd q43 (lf q405) (lf q537))) (nd q173 (nd q239 (lf q43) (lf q44)) (nd q305 (lf q43) (lf q569)))))))) (nd (q49 P) (nd (boot_o_4 P) (nd (boot_o_8 P) (nd q44 (nd q43 (nd q107 (nd q176 (nd q43 (lf q572) ni) (lf q43)) (nd q242 (lf q43) (lf q508))) (nd q142 (nd q210 (lf q342) (lf q43)) (nd q43 (lf q408) (lf q44)))) (nd q88 (nd q126 (nd q43 (nd q326 (lf q590) ni) (lf q458)) (nd q44 (lf q390) (lf q524))) (nd q158 (nd q226 (lf q44) (lf q490)) (nd q292 (lf q44) (lf q43))))) (nd (q61 P) (nd q77 (nd q118 (nd q43 (nd q44 (lf q582) ni) (lf q450)) (nd q43 (lf q382) (lf q516))) (nd q150 (nd q43 (lf q43) (lf (q482 P))) (nd q284 (lf q43) (lf q548)))) (nd (q99 P) (nd q43 (nd q44 (nd q43 (lf q44) ni) (lf q466)) (nd q268 (lf q398) (lf q43))) (nd q168 (nd q234 (lf q366) (lf q43)) (nd q300 (lf q432) (lf q564)))))) (nd q575 (nd q57 (nd q73 (nd (q114 P) (nd q43 (nd q312 (lf (q578 P)) ni) (lf q43)) (nd q43 (lf q43) (lf q44))) (nd q44 (nd q214 (lf q43) (lf q478)) (nd q43 (lf q43) (lf q544)))) (nd q92 (nd q130 (nd q198 (nd q330 (lf q594) ni) (lf q462)) (nd q264 (lf q394) (lf q43))) (nd q43 (nd q44 (lf q362) (lf q494)) (nd q296 (lf q428) (lf q43))))) (nd q65 (nd (q84 P) (nd q122 (nd q190 (nd q320 (lf q43) ni) (lf q44)) (nd q256 (lf q44) (lf q520))) (nd q154 (nd q43 (lf q354) (lf q486)) (nd q44 (lf q420) (lf q552)))) (nd q103 (nd q43 (nd q206 (nd q43 (lf q602) ni) (lf q43)) (nd q272 (lf q43) (lf q536))) (nd q43 (nd q238 (lf q370) (lf q43)) (nd q43 (lf q436) (lf (q568 P)))))))) (nd (boot_o_6 P) (nd (boot_o_10 P) (nd q43 (nd q71 (nd q82 (nd q44 (nd q310 (lf q43) ni) (lf q444)) (nd q44 (lf q376) (lf q510))) (nd q144 (nd q212 (lf q44) (lf q476)) (nd q278 (lf q44) (lf q43)))) (nd (q90 P) (nd q128 (nd q196 (nd q328 (lf q592) ni) (lf q43)) (nd q43 (lf q43) (lf q44))) (nd q44 (nd q228 (lf q43) (lf q492)) (nd q43 (lf q43) (lf q558))))) (nd q63 (nd q82 (nd (q120 P) (nd (q188 P) (nd q43 (lf q44) ni) (lf q452)) (nd q254 (lf q384) (lf q43))) (nd q43 (nd q220 (lf q352) (lf q484)) (nd q286 (lf q418) (lf q550)))) (nd q44 (nd q136 (nd q43 (nd q336 (lf q43) ni) (lf q44)) (nd q270 (lf q60) (lf q534))) (nd q44 (nd q236 (lf q368) (lf q502)) (nd q44 (lf q434) (lf q566)))))) (nd q46 (nd q59 (nd q111 (nd q44 (nd q182 (nd q314 (lf q580) ni) (lf q448)) (nd q250 (lf q380) (lf q43))) (nd q43 (nd q44 (lf q348) (lf q480)) (nd q282 (lf q414) (lf q43)))) (nd q82 (nd q44 (nd q200 (nd q44 (lf q596) ni) (lf q464)) (nd q43 (lf q396) (lf q530))) (nd q166 (nd q43 (lf q43) (lf q60)) (nd q298 (lf q430) (lf q562))))) (nd q44 (nd q44 (nd q43 (nd q192 (nd q43 (lf q588) ni) (lf q43)) (nd q258 (lf q43) (lf q522))) (nd q156 (nd q224 (lf q356) (lf q43)) (nd q43 (lf q422) (lf q44)))) (nd (q105 P) (nd q140 (nd q43 (lf q340) (lf q472)) (nd q44 (lf q406) (lf q538))) (nd q174 (nd q240 (lf q44) (lf q506)) (nd q306 (lf q60) (lf q570))))))))
noncomputable def tree870 (P : Params) : BT := nd (boot_o_0 P) (nd (boot_o_1 P) (nd (q820 P) (nd (boot_o_7 P) (nd q43 (nd q68 (nd q106 (nd q175 (nd q307 (lf q571) ni) (nd (q441 P) (lf q703) ni)) (nd q241 (nd q373 (lf q639) ni) (nd q43 (lf q855) ni))) (nd q43 (nd q44 (nd q341 (lf q60) ni) (nd q473 (lf q60) ni)) (nd q275 (nd q407 (lf q44) ni) (lf q43)))) (nd q87 (nd q44 (nd q193 (nd q44 (lf q589) ni) (nd q457 (lf q719) ni)) (nd q43 (nd q389 (lf q655) ni) (lf q523))) (nd q157 (nd q43 (nd q43 (lf q623) ni) (nd q44 (lf q43) ni)) (nd q291 (nd q43 (lf q43) ni) (lf q555))))) (nd q60 (nd q76 (nd q117 (nd q183 (nd q43 (lf q581) ni) (nd q43 (lf q711) ni)) (nd q251 (nd q43 (lf q647) ni) (nd q515 (lf q863) ni))) (nd q149 (nd q217 (nd q349 (lf q44) ni) (nd q481 (lf q831) ni)) (nd q43 (nd q415 (lf q679) ni) (lf q44)))) (nd q60 (nd q133 (nd q43 (nd q333 (lf q43) ni) (nd q465 (lf q727) ni)) (nd q44 (nd q397 (lf q43) ni) (lf q531))) (nd q167 (nd q233 (nd q44 (lf q43) ni) (nd (q499 P) (lf q847) ni)) (nd q299 (nd (q431 P) (lf q695) ni) (lf q43)))))) (nd q43 (nd q56 (nd q72 (nd q60 (nd q179 (nd q43 (lf q60) ni) (nd q445 (lf q44) ni)) (nd q247 (nd q377 (lf q44) ni) (nd q43 (lf q859) ni))) (nd q43 (nd q213 (nd q345 (lf q611) ni) (nd q43 (lf q827) ni)) (nd q279 (nd q411 (lf q675) ni) (lf q543)))) (nd q91 (nd q129 (nd q43 (nd q329 (lf q593) ni) (nd q44 (lf q43) ni)) (nd q263 (nd q44 (lf q43) ni) (lf q527))) (nd q163 (nd q43 (nd q361 (lf q627) ni) (nd q493 (lf q43) ni)) (nd q44 (nd q427 (lf q43) ni) (lf q559))))) (nd q64 (nd q60 (nd q121 (nd q43 (nd q319 (lf q585) ni) (nd q43 (lf q715) ni)) (nd q43 (nd q43 (lf q651) ni) (nd q44 (lf q867) ni))) (nd q44 (nd q221 (nd q43 (lf q619) ni) (nd q485 (lf q835) ni)) (nd q43 (nd q43 (lf q683) ni) (lf q551)))) (nd q102 (nd q137 (nd q205 (nd q337 (lf q601) ni) (nd q469 (lf q731) ni)) (nd q271 (nd (q403 P) (lf q667) ni) (lf q43))) (nd q171 (nd (q237 P) (nd q369 (lf q43) ni) (nd q503 (lf q44) ni)) (nd q303 (nd q435 (lf q44) ni) (lf q567))))))) (nd (boot_o_5 P) (nd (boot_o_9 P) (nd q54 (nd q70 (nd q108 (nd q43 (nd q44 (lf q573) ni) (nd q443 (lf q705) ni)) (nd q43 (nd q375 (lf q641) ni) (nd q509 (lf q43) ni))) (nd q143 (nd q43 (nd q43 (lf q43) ni) (nd q44 (lf q43) ni)) (nd q277 (nd q43 (lf q43) ni) (lf q541)))) (nd q43 (nd q43 (nd q44 (nd q43 (lf (q591 P)) ni) (nd q459 (lf q44) ni)) (nd q261 (nd q391 (lf q44) ni) (lf q43))) (nd q43 (nd q227 (nd q359 (lf q625) ni) (nd q43 (lf q841) ni)) (nd q293 (nd q425 (lf q689) ni) (lf q557))))) (nd q43 (nd q78 (nd q43 (nd q60 (nd q317 (lf q43) ni) (nd q451 (lf q43) ni)) (nd q44 (nd q383 (lf q43) ni) (nd q517 (lf (q865 P)) ni))) (nd q151 (nd q219 (nd q44 (lf q43) ni) (nd q483 (lf q833) ni)) (nd q285 (nd q44 (lf q681) ni) (lf q43)))) (nd q43 (nd q135 (nd q203 (nd q335 (lf q599) ni) (nd q43 (lf q729) ni)) (nd q43 (nd q43 (lf q665) ni) (lf q44))) (nd q43 (nd q235 (nd q43 (lf q633) ni) (nd q501 (lf q849) ni)) (nd q43 (nd q433 (lf q697) ni) (lf q565)))))) (nd q45 (nd q58 (nd (q74 P) (nd q43 (nd q181 (nd q313 (lf q43) ni) (nd q44 (lf q43) ni)) (nd q249 (nd q44 (lf q43) ni) (nd q513 (lf q861) ni))) (nd q147 (nd q43 (nd q347 (lf q613) ni) (nd q479 (lf q43) ni)) (nd q44 (nd q413 (lf q43) ni) (lf q545)))) (nd q93 (nd q43 (nd q199 (nd q43 (lf q595) ni) (nd q43 (lf q725) ni)) (nd q265 (nd q43 (lf q661) ni) (lf q529))) (nd q165 (nd q231 (nd q363 (lf q44) ni) (nd q43 (lf q845) ni)) (nd q43 (nd q429 (lf q693) ni) (lf q44))))) (nd q43 (nd q43 (nd q123 (nd q191 (nd q321 (lf q587) ni) (nd q455 (lf q717) ni)) (nd q257 (nd q387 (lf q653) ni) (nd q43 (lf q869) ni))) (nd q43 (nd q44 (nd q355 (lf q43) ni) (nd q487 (lf q44) ni)) (nd q289 (nd q421 (lf q44) ni) (lf q43)))) (nd q43 (nd q44 (nd q207 (nd q44 (lf q603) ni) (nd q471 (lf q733) ni)) (nd q43 (nd q405 (lf q669) ni) (lf q537))) (nd q173 (nd q239 (nd q43 (lf q637) ni) (nd q44 (lf q43) ni)) (nd q305 (nd q43 (lf q43) ni) (lf q569)))))))) (nd (q49 P) (nd (boot_o_4 P) (nd (boot_o_8 P) (nd q44 (nd q43 (nd q107 (nd q176 (nd q43 (lf q572) ni) (nd q43 (lf q704) ni)) (nd q242 (nd q43 (lf q640) ni) (nd q508 (lf q856) ni))) (nd q142 (nd q210 (nd q342 (lf (q608 P)) ni) (nd q43 (lf (q824 P)) ni)) (nd q43 (nd q408 (lf q672) ni) (lf q44)))) (nd q88 (nd q126 (nd q43 (nd q326 (lf q590) ni) (nd q458 (lf q43) ni)) (nd q44 (nd q390 (lf q43) ni) (lf q524))) (nd q158 (nd q226 (nd q44 (lf q43) ni) (nd q490 (lf q840) ni)) (nd q292 (nd q44 (lf q688) ni) (lf q43))))) (nd (q61 P) (nd q77 (nd q118 (nd q43 (nd q44 (lf q582) ni) (nd q450 (lf q712) ni)) (nd q43 (nd q382 (lf q648) ni) (nd q516 (lf q864) ni))) (nd q150 (nd q43 (nd q43 (lf q616) ni) (nd (q482 P) (lf q43) ni)) (nd q284 (nd q43 (lf q43) ni) (lf q548)))) (nd (q99 P) (nd q43 (nd q44 (nd q43 (lf q44) ni) (nd q466 (lf (q728 P)) ni)) (nd q268 (nd q398 (lf q44) ni) (lf q43))) (nd q168 (nd q234 (nd q366 (lf q632) ni) (nd q43 (lf q848) ni)) (nd q300 (nd q432 (lf q696) ni) (lf q564)))))) (nd q821 (nd q57 (nd q73 (nd (q114 P) (nd q43 (nd q312 (lf (q578 P)) ni) (nd q43 (lf q708) ni)) (nd q43 (nd q43 (lf q644) ni) (nd q44 (lf q43) ni))) (nd q44 (nd q214 (nd q43 (lf q612) ni) (nd q478 (lf q828) ni)) (nd q43 (nd q43 (lf q676) ni) (lf q544)))) (nd q92 (nd q130 (nd q198 (nd q330 (lf q594) ni) (nd q462 (lf q724) ni)) (nd q264 (nd q394 (lf q660) ni) (lf q43))) (nd q43 (nd q44 (nd q362 (lf q43) ni) (nd q494 (lf q44) ni)) (nd q296 (nd q428 (lf q44) ni) (lf q43))))) (nd q65 (nd (q84 P) (nd q122 (nd q190 (nd q320 (lf q43) ni) (nd q44 (lf q43) ni)) (nd q256 (nd q44 (lf q43) ni) (nd q520 (lf q868) ni))) (nd q154 (nd q43 (nd q354 (lf q620) ni) (nd q486 (lf q43) ni)) (nd q44 (nd q420 (lf q43) ni) (lf q552)))) (nd q103 (nd q43 (nd q206 (nd q43 (lf q602) ni) (nd q43 (lf q732) ni)) (nd q272 (nd q43 (lf q668) ni) (lf q536))) (nd q43 (nd q238 (nd q370 (lf q44) ni) (nd q43 (lf q852) ni)) (nd q43 (nd q436 (lf q700) ni) (lf (q568 P)))))))) (nd (boot_o_6 P) (nd (boot_o_10 P) (nd q43 (nd q71 (nd q82 (nd q44 (nd q310 (lf q43) ni) (nd q444 (lf q43) ni)) (nd q44 (nd q376 (lf q43) ni) (nd q510 (lf q44) ni))) (nd q144 (nd q212 (nd q44 (lf q610) ni) (nd q476 (lf q826) ni)) (nd q278 (nd q44 (lf q674) ni) (lf q43)))) (nd (q90 P) (nd q128 (nd q196 (nd q328 (lf q592) ni) (nd q43 (lf q722) ni)) (nd q43 (nd q43 (lf q658) ni) (lf q44))) (nd q44 (nd q228 (nd q43 (lf q626) ni) (nd q492 (lf q842) ni)) (nd q43 (nd q43 (lf q690) ni) (lf q558))))) (nd q63 (nd q82 (nd (q120 P) (nd (q188 P) (nd q43 (lf q44) ni) (nd q452 (lf q44) ni)) (nd q254 (nd q384 (lf q44) ni) (nd q43 (lf q866) ni))) (nd q43 (nd q220 (nd q352 (lf q618) ni) (nd q484 (lf q834) ni)) (nd q286 (nd q418 (lf q682) ni) (lf q550)))) (nd q44 (nd q136 (nd q43 (nd q336 (lf q43) ni) (nd q44 (lf q730) ni)) (nd q270 (nd q60 (lf q43) ni) (lf q534))) (nd q44 (nd q236 (nd q368 (lf q634) ni) (nd q502 (lf q43) ni)) (nd q44 (nd q434 (lf q43) ni) (lf q566)))))) (nd q46 (nd q59 (nd q111 (nd q44 (nd q182 (nd q314 (lf q580) ni) (nd q448 (lf q710) ni)) (nd q250 (nd q380 (lf q646) ni) (nd q43 (lf q862) ni))) (nd q43 (nd q44 (nd q348 (lf q43) ni) (nd q480 (lf q44) ni)) (nd q282 (nd q414 (lf q44) ni) (lf q43)))) (nd q82 (nd q44 (nd q200 (nd q44 (lf q596) ni) (nd q464 (lf q726) ni)) (nd q43 (nd q396 (lf q662) ni) (lf q530))) (nd q166 (nd q43 (nd q43 (lf q630) ni) (nd q60 (lf q43) ni)) (nd q298 (nd q430 (lf q43) ni) (lf q562))))) (nd q44 (nd q44 (nd q43 (nd q192 (nd q43 (lf q588) ni) (nd q43 (lf q718) ni)) (nd q258 (nd q43 (lf q654) ni) (nd q522 (lf q870) ni))) (nd q156 (nd q224 (nd q356 (lf q44) ni) (nd q43 (lf q838) ni)) (nd q43 (nd q422 (lf q686) ni) (lf q44)))) (nd (q105 P) (nd q140 (nd q43 (nd q340 (lf q43) ni) (nd q472 (lf q43) ni)) (nd q44 (nd q406 (lf q43) ni) (lf q538))) (nd q174 (nd q240 (nd q44 (lf q43) ni) (nd q506 (lf q854) ni)) (nd q306 (nd q60 (lf q702) ni) (lf q570))))))))
noncomputable def tree1071 (P : Params) : BT := nd (boot_o_0 P) (nd (boot_o_1 P) (nd (q1014 P) (nd (boot_o_7 P) (nd q43 (nd q68 (nd q106 (nd q175 (nd q307 (lf q571) (lf (q921 P))) (nd (q441 P) (lf q703) (lf q1055))) (nd q241 (nd q373 (lf q639) (lf q43)) (nd q43 (lf q855) ni))) (nd q43 (nd q44 (nd q341 (lf q60) (lf q957)) (nd q473 (lf q60) ni)) (nd q275 (nd q407 (lf q44) (lf q43)) (nd q43 (lf q889) ni)))) (nd q87 (nd q44 (nd q193 (nd q44 (lf q589) (lf q43)) (nd q457 (lf q719) (lf q1071))) (nd q43 (nd q389 (lf q655) (lf q1005)) (nd q523 (lf q43) ni))) (nd q157 (nd q43 (nd q43 (lf q623) (lf q973)) (nd q44 (lf q43) ni)) (nd q291 (nd q43 (lf q43) (lf q1039)) (nd q555 (lf q905) ni))))) (nd q60 (nd q76 (nd q117 (nd q183 (nd q43 (lf q581) (lf q931)) (nd q43 (lf q711) (lf q1063))) (nd q251 (nd q43 (lf q647) (lf q997)) (nd q515 (lf q863) ni))) (nd q149 (nd q217 (nd q349 (lf q44) (lf q965)) (nd q481 (lf q831) ni)) (nd q43 (nd q415 (lf q679) (lf q44)) (nd q44 (lf q43) ni)))) (nd q60 (nd q133 (nd q43 (nd q333 (lf q43) (lf q947)) (nd q465 (lf q727) ni)) (nd q44 (nd q397 (lf q43) (lf q1013)) (nd q531 (lf q44) ni))) (nd q167 (nd q233 (nd q44 (lf q43) (lf q981)) (nd (q499 P) (lf q847) ni)) (nd q299 (nd (q431 P) (lf q695) (lf q43)) (nd q43 (lf q43) ni)))))) (nd q43 (nd q56 (nd q72 (nd q60 (nd q179 (nd q43 (lf q60) (lf q925)) (nd q445 (lf q44) (lf q44))) (nd q247 (nd q377 (lf q44) (lf q43)) (nd q43 (lf q859) ni))) (nd q43 (nd q213 (nd q345 (lf q611) (lf q44)) (nd q43 (lf q827) ni)) (nd q279 (nd q411 (lf q675) (lf q1027)) (nd q543 (lf q893) ni)))) (nd q91 (nd q129 (nd q43 (nd q329 (lf q593) (lf q43)) (nd q44 (lf q43) ni)) (nd q263 (nd q44 (lf q43) (lf q1009)) (nd q527 (lf q877) ni))) (nd q163 (nd q43 (nd q361 (lf q627) (lf q977)) (nd q493 (lf q43) ni)) (nd q44 (nd q427 (lf q43) (lf q1043)) (nd q559 (lf q44) ni))))) (nd q64 (nd q60 (nd q121 (nd q43 (nd q319 (lf q585) (lf q935)) (nd q43 (lf q715) (lf q1067))) (nd q43 (nd q43 (lf q651) (lf q44)) (nd q44 (lf q867) ni))) (nd q44 (nd q221 (nd q43 (lf q619) (lf q969)) (nd q485 (lf q835) ni)) (nd q43 (nd q43 (lf q683) (lf q1035)) (nd q551 (lf q43) ni)))) (nd q102 (nd q137 (nd q205 (nd q337 (lf q601) (lf q60)) (nd q469 (lf q731) ni)) (nd q271 (nd (q403 P) (lf q667) (lf q43)) (nd q43 (lf q885) ni))) (nd q171 (nd (q237 P) (nd q369 (lf q43) (lf q985)) (nd q503 (lf q44) ni)) (nd q303 (nd q435 (lf q44) (lf q43)) (nd q567 (lf q917) ni))))))) (nd (boot_o_5 P) (nd (boot_o_9 P) (nd q54 (nd q70 (nd q108 (nd q43 (nd q44 (lf q573) (lf q923)) (nd q443 (lf q705) (lf q1057))) (nd q43 (nd q375 (lf q641) (lf q991)) (nd q509 (lf q43) ni))) (nd q143 (nd q43 (nd q43 (lf q43) (lf q959)) (nd q44 (lf q43) ni)) (nd q277 (nd q43 (lf q43) (lf q1025)) (nd q541 (lf q891) ni)))) (nd q43 (nd q43 (nd q44 (nd q43 (lf (q591 P)) (lf q941)) (nd q459 (lf q44) ni)) (nd q261 (nd q391 (lf q44) (lf q1007)) (nd q43 (lf (q875 P)) ni))) (nd q43 (nd q227 (nd q359 (lf q625) (lf q44)) (nd q43 (lf q841) ni)) (nd q293 (nd q425 (lf q689) (lf q1041)) (nd q557 (lf q907) ni))))) (nd q43 (nd q78 (nd q43 (nd q60 (nd q317 (lf q43) (lf q933)) (nd q451 (lf q43) (lf q43))) (nd q44 (nd q383 (lf q43) (lf q999)) (nd q517 (lf (q865 P)) ni))) (nd q151 (nd q219 (nd q44 (lf q43) (lf q43)) (nd q483 (lf q833) ni)) (nd q285 (nd q44 (lf q681) (lf q43)) (nd q43 (lf q899) ni)))) (nd q43 (nd q135 (nd q203 (nd q335 (lf q599) (lf q949)) (nd q43 (lf q729) ni)) (nd q43 (nd q43 (lf q665) (lf q44)) (nd q44 (lf q43) ni))) (nd q43 (nd q235 (nd q43 (lf q633) (lf q983)) (nd q501 (lf q849) ni)) (nd q43 (nd q433 (lf q697) (lf q1049)) (nd q565 (lf q915) ni)))))) (nd q45 (nd q58 (nd (q74 P) (nd q43 (nd q181 (nd q313 (lf q43) (lf q43)) (nd q44 (lf q43) (lf q43))) (nd q249 (nd q44 (lf q43) (lf q995)) (nd q513 (lf q861) ni))) (nd q147 (nd q43 (nd q347 (lf q613) (lf q43)) (nd q479 (lf q43) ni)) (nd q44 (nd q413 (lf q43) (lf q1029)) (nd q545 (lf q44) ni)))) (nd q93 (nd q43 (nd q199 (nd q43 (lf q595) (lf q945)) (nd q43 (lf q725) ni)) (nd q265 (nd q43 (lf q661) (lf q1011)) (nd q529 (lf q879) ni))) (nd q165 (nd q231 (nd q363 (lf q44) (lf q43)) (nd q43 (lf q845) ni)) (nd q43 (nd q429 (lf q693) (lf q44)) (nd q44 (lf q911) ni))))) (nd q43 (nd q43 (nd q123 (nd q191 (nd q321 (lf q587) (lf q44)) (nd q455 (lf q717) (lf q1069))) (nd q257 (nd q387 (lf q653) (lf q43)) (nd q43 (lf q869) ni))) (nd q43 (nd q44 (nd q355 (lf q43) (lf q971)) (nd q487 (lf q44) ni)) (nd q289 (nd q421 (lf q44) (lf q43)) (nd q43 (lf q903) ni)))) (nd q43 (nd q44 (nd q207 (nd q44 (lf q603) (lf q43)) (nd q471 (lf q733) ni)) (nd q43 (nd q405 (lf q669) (lf q1021)) (nd q537 (lf q43) ni))) (nd q173 (nd q239 (nd q43 (lf q637) (lf q44)) (nd q44 (lf q43) ni)) (nd q305 (nd q43 (lf q43) (lf q1053)) (nd q569 (lf q919) ni)))))))) (nd (q49 P) (nd (boot_o_4 P) (nd (boot_o_8 P) (nd q44 (nd q43 (nd q107 (nd q176 (nd q43 (lf q572) (lf q922)) (nd q43 (lf q704) (lf q1056))) (nd q242 (nd q43 (lf q640) (lf q990)) (nd q508 (lf q856) ni))) (nd q142 (nd q210 (nd q342 (lf (q608 P)) (lf q958)) (nd q43 (lf (q824 P)) ni)) (nd q43 (nd q408 (lf q672) (lf q44)) (nd q44 (lf q43) ni)))) (nd q88 (nd q126 (nd q43 (nd q326 (lf q590) (lf q940)) (nd q458 (lf q43) ni)) (nd q44 (nd q390 (lf q43) (lf q1006)) (nd q524 (lf q60) ni))) (nd q158 (nd q226 (nd q44 (lf q43) (lf q43)) (nd q490 (lf q840) ni)) (nd q292 (nd q44 (lf q688) (lf q43)) (nd q43 (lf q906) ni))))) (nd (q61 P) (nd q77 (nd q118 (nd q43 (nd q44 (lf q582) (lf q43)) (nd q450 (lf q712) (lf q1064))) (nd q43 (nd q382 (lf q648) (lf q998)) (nd q516 (lf q864) ni))) (nd q150 (nd q43 (nd q43 (lf q616) (lf q966)) (nd (q482 P) (lf q43) ni)) (nd q284 (nd q43 (lf q43) (lf q1032)) (nd q548 (lf q898) ni)))) (nd (q99 P) (nd q43 (nd q44 (nd q43 (lf q44) (lf q948)) (nd q466 (lf (q728 P)) ni)) (nd q268 (nd q398 (lf q44) (lf q43)) (nd q43 (lf q882) ni))) (nd q168 (nd q234 (nd q366 (lf q632) (lf q43)) (nd q43 (lf q848) ni)) (nd q300 (nd q432 (lf q696) (lf q1048)) (nd q564 (lf q44) ni)))))) (nd q1015 (nd q57 (nd q73 (nd (q114 P) (nd q43 (nd q312 (lf (q578 P)) (lf q926)) (nd q43 (lf q708) (lf q1060))) (nd q43 (nd q43 (lf q644) (lf q44)) (nd q44 (lf q43) ni))) (nd q44 (nd q214 (nd q43 (lf q612) (lf q962)) (nd q478 (lf q828) ni)) (nd q43 (nd q43 (lf q676) (lf q1028)) (nd q544 (lf q43) ni)))) (nd q92 (nd q130 (nd q198 (nd q330 (lf q594) (lf q44)) (nd q462 (lf q724) ni)) (nd q264 (nd q394 (lf q660) (lf q1010)) (nd q43 (lf q878) ni))) (nd q43 (nd q44 (nd q362 (lf q43) (lf q978)) (nd q494 (lf q44) ni)) (nd q296 (nd q428 (lf q44) (lf q43)) (nd q43 (lf q910) ni))))) (nd q65 (nd (q84 P) (nd q122 (nd q190 (nd q320 (lf q43) (lf q43)) (nd q44 (lf q43) (lf q43))) (nd q256 (nd q44 (lf q43) (lf q1002)) (nd q520 (lf q868) ni))) (nd q154 (nd q43 (nd q354 (lf q620) (lf q43)) (nd q486 (lf q43) ni)) (nd q44 (nd q420 (lf q43) (lf q1036)) (nd q552 (lf q44) ni)))) (nd q103 (nd q43 (nd q206 (nd q43 (lf q602) (lf (q954 P))) (nd q43 (lf q732) ni)) (nd q272 (nd q43 (lf q668) (lf q1020)) (nd q536 (lf q886) ni))) (nd q43 (nd q238 (nd q370 (lf q44) (lf q43)) (nd q43 (lf q852) ni)) (nd q43 (nd q436 (lf q700) (lf q44)) (nd (q568 P) (lf q918) ni))))))) (nd (boot_o_6 P) (nd (boot_o_10 P) (nd q43 (nd q71 (nd q82 (nd q44 (nd q310 (lf q43) (lf q924)) (nd q444 (lf q43) (lf q43))) (nd q44 (nd q376 (lf q43) (lf q992)) (nd q510 (lf q44) ni))) (nd q144 (nd q212 (nd q44 (lf q610) (lf q43)) (nd q476 (lf q826) ni)) (nd q278 (nd q44 (lf q674) (lf q43)) (nd q43 (lf q892) ni)))) (nd (q90 P) (nd q128 (nd q196 (nd q328 (lf q592) (lf q942)) (nd q43 (lf q722) ni)) (nd q43 (nd q43 (lf q658) (lf (q1008 P))) (nd q44 (lf q43) ni))) (nd q44 (nd q228 (nd q43 (lf q626) (lf q976)) (nd q492 (lf q842) ni)) (nd q43 (nd q43 (lf q690) (lf q1042)) (nd q558 (lf q43) ni))))) (nd q63 (nd q82 (nd (q120 P) (nd (q188 P) (nd q43 (lf q44) (lf q934)) (nd q452 (lf q44) (lf q44))) (nd q254 (nd q384 (lf q44) (lf q43)) (nd q43 (lf q866) ni))) (nd q43 (nd q220 (nd q352 (lf q618) (lf q44)) (nd q484 (lf q834) ni)) (nd q286 (nd q418 (lf q682) (lf q1034)) (nd q550 (lf q900) ni)))) (nd q44 (nd q136 (nd q43 (nd q336 (lf q43) (lf q43)) (nd q44 (lf q730) ni)) (nd q270 (nd q60 (lf q43) (lf q1018)) (nd q534 (lf q884) ni))) (nd q44 (nd q236 (nd q368 (lf q634) (lf q984)) (nd q502 (lf q43) ni)) (nd q44 (nd q434 (lf q43) (lf q1050)) (nd q566 (lf q43) ni)))))) (nd q46 (nd q59 (nd q111 (nd q44 (nd q182 (nd q314 (lf q580) (lf q44)) (nd q448 (lf q710) (lf q1062))) (nd q250 (nd q380 (lf q646) (lf q43)) (nd q43 (lf q862) ni))) (nd q43 (nd q44 (nd q348 (lf q43) (lf q964)) (nd q480 (lf q44) ni)) (nd q282 (nd q414 (lf q44) (lf q43)) (nd q43 (lf q896) ni)))) (nd q82 (nd q44 (nd q200 (nd q44 (lf q596) (lf q43)) (nd q464 (lf q726) ni)) (nd q43 (nd q396 (lf q662) (lf q1012)) (nd q530 (lf q43) ni))) (nd q166 (nd q43 (nd q43 (lf q630) (lf q44)) (nd q60 (lf q43) ni)) (nd q298 (nd q430 (lf q43) (lf q1046)) (nd q562 (lf q912) ni))))) (nd q44 (nd q44 (nd q43 (nd q192 (nd q43 (lf q588) (lf q938)) (nd q43 (lf q718) (lf q1070))) (nd q258 (nd q43 (lf q654) (lf q1004)) (nd q522 (lf q870) ni))) (nd q156 (nd q224 (nd q356 (lf q44) (lf q972)) (nd q43 (lf q838) ni)) (nd q43 (nd q422 (lf q686) (lf q44)) (nd q44 (lf q43) ni)))) (nd (q105 P) (nd q140 (nd q43 (nd q340 (lf q43) (lf q956)) (nd q472 (lf q43) ni)) (nd q44 (nd q406 (lf q43) (lf q1022)) (nd q538 (lf q44) ni))) (nd q174 (nd q240 (nd q44 (lf q43) (lf q988)) (nd q506 (lf q854) ni)) (nd q306 (nd q60 (lf q702) (lf q43)) (nd q570 (lf q920) ni))))))))
noncomputable abbrev stT (T : Params → BT) (n k : Nat) (w : World) (os : OsState) : SharedT := { tree := T w.params, n := n, life := {}, gens := #[], drawn := {}, toks := k, os := os }
noncomputable def ss (a n : Nat) : List Stmt := ((behindTheImports Pr).drop a).take n
noncomputable abbrev stA0 (w : World) (os : OsState) : Shared := { heap := boot_heap w.params, gens := #[], drawn := boot_drawn, toks := boot_toks, os := os }
noncomputable abbrev stB0 (w : World) (os : OsState) : Shared := { heap := heapA w.params, gens := #[], drawn := {}, toks := 187, os := os }
noncomputable abbrev stC0 (w : World) (os : OsState) : SharedT := stT tree47 15 187 w os
theorem run_pre (w : World) : (fun os => topGo treeTable Pr w 11 (some (.ref 6)) 12 (stA0 w os) (topStub Pr)) = fun os => some (stB0 w os, ⟨denote treeTable cE, cE, p0, [topFrame p0]⟩) :=
  use4 (fun go tt dn (_ : Unit) => (fun os => go tt Pr w 11 (some (Value.ref 6)) 12 (stA0 w os) (topStub Pr)) = fun os => some (stB0 w os, ⟨dn tt cE, cE, p0, [topFrame p0]⟩)) Fast.te15667345088766844465 Fast.te14364793385576792824 Fast.te11892475500146522536 (rfl : () = ()) (by kernel_rfl)
theorem run_block (w : World) : (fun os => segRun treeTable Pr w 11 (some (.ref 6)) 1 1 (stB0 w os) (blockOf (behindTheImports Pr) hEnv cE p0 [topFrame p0])) = fun os => some (.next, (stC0 w os).abs, cE, p0) :=
  use2 (fun go tt => (fun os => go tt Pr w 11 (some (Value.ref 6)) 1 1 (stB0 w os) (blockOf (behindTheImports Pr) hEnv cE p0 [topFrame p0])) = fun os => some (.next, (stC0 w os).abs, cE, p0)) Fast.te14374325043358763698 Fast.te14364793385576792824 (by kernel_rfl)
theorem run_fin (w : World) : ∀ s : SharedT, topRun treeTable Pr w 11 (some (.ref 6)) 2 s.abs ⟨doneF .next, cE, p9, [topFrame p0]⟩ = some s.abs := fun ⟨_, _, _, _, _, _, _⟩ => rfl
theorem stretch1 (w : World) : (fun os => segRunT treeTable Pr w 11 (some (Value.ref 6)) 1 1082 (stT tree47 15 187 w os) (piecesOf (ss 0 14) hEnv cE p0 [topFrame p0])) = fun os => some (Flow.next, stT tree158 113 318 w os, cE, ⟨30, 0, 30, 8⟩) :=
  use2 (fun go tt => (fun os => go tt Pr w 11 (some (Value.ref 6)) 1 1082 (stT tree47 15 187 w os) (piecesOf (ss 0 14) hEnv cE p0 [topFrame p0])) = fun os => some (Flow.next, stT tree158 113 318 w os, cE, ⟨30, 0, 30, 8⟩)) Fast.te10110043849684766642 Fast.te14364793385576792824 (by kernel_rfl)
theorem stretch2 (w : World) : (fun os => segRunT treeTable Pr w 11 (some (Value.ref 6)) 1 971 (stT tree158 113 318 w os) (piecesOf (ss 14 29) hEnv cE ⟨30, 0, 30, 8⟩ [topFrame p0])) = fun os => some (Flow.next, stT tree321 270 566 w os, cE, ⟨163, 0, 170, 16⟩) :=
  use2 (fun go tt => (fun os => go tt Pr w 11 (some (Value.ref 6)) 1 971 (stT tree158 113 318 w os) (piecesOf (ss 14 29) hEnv cE ⟨30, 0, 30, 8⟩ [topFrame p0])) = fun os => some (Flow.next, stT tree321 270 566 w os, cE, ⟨163, 0, 170, 16⟩)) Fast.te10110043849684766642 Fast.te14364793385576792824 (by kernel_rfl)
theorem stretch3 (w : World) : (fun os => segRunT treeTable Pr w 11 (some (Value.ref 6)) 1 1067 (stT tree321 270 566 w os) (piecesOf (ss 43 19) hEnv cE ⟨163, 0, 170, 16⟩ [topFrame p0])) = fun os => some (Flow.next, stT tree494 437 796 w os, cE, ⟨272, 0, 273, 49⟩) :=
  use2 (fun go tt => (fun os => go tt Pr w 11 (some (Value.ref 6)) 1 1067 (stT tree321 270 566 w os) (piecesOf (ss 43 19) hEnv cE ⟨163, 0, 170, 16⟩ [topFrame p0])) = fun os => some (Flow.next, stT tree494 437 796 w os, cE, ⟨272, 0, 273, 49⟩)) Fast.te10110043849684766642 Fast.te14364793385576792824 (by kernel_rfl)
theorem stretch4 (w : World) : (fun os => segRunT treeTable Pr w 11 (some (Value.ref 6)) 1 842 (stT tree494 437 796 w os) (piecesOf (ss 62 11) hEnv cE ⟨272, 0, 273, 49⟩ [topFrame p0])) = fun os => some (Flow.next, stT tree603 542 969 w os, cE, ⟨356, 0, 357, 147⟩) :=
  use2 (fun go tt => (fun os => go tt Pr w 11 (some (Value.ref 6)) 1 842 (stT tree494 437 796 w os) (piecesOf (ss 62 11) hEnv cE ⟨272, 0, 273, 49⟩ [topFrame p0])) = fun os => some (Flow.next, stT tree603 542 969 w os, cE, ⟨356, 0, 357, 147⟩)) Fast.te10110043849684766642 Fast.te14364793385576792824 (by kernel_rfl)
theorem stretch5 (w : World) : (fun os => segRunT treeTable Pr w 11 (some (Value.ref 6)) 1 1107 (stT tree603 542 969 w os) (piecesOf (ss 73 4) hEnv cE ⟨356, 0, 357, 147⟩ [topFrame p0])) = fun os => some (Flow.next, stT tree870 719 1217 w os, cE, ⟨431, 0, 463, 30⟩) :=
  use2 (fun go tt => (fun os => go tt Pr w 11 (some (Value.ref 6)) 1 1107 (stT tree603 542 969 w os) (piecesOf (ss 73 4) hEnv cE ⟨356, 0, 357, 147⟩ [topFrame p0])) = fun os => some (Flow.next, stT tree870 719 1217 w os, cE, ⟨431, 0, 463, 30⟩)) Fast.te10110043849684766642 Fast.te14364793385576792824 (by kernel_rfl)
theorem stretch6 (w : World) : (fun os => segRunT treeTable Pr w 11 (some (Value.ref 6)) 1 1191 (stT tree870 719 1217 w os) (piecesOf (ss 77 14) hEnv cE ⟨431, 0, 463, 30⟩ [topFrame p0])) = fun os => some (Flow.next, stT tree1071 912 1511 w os, cE, p9) :=
  use2 (fun go tt => (fun os => go tt Pr w 11 (some (Value.ref 6)) 1 1191 (stT tree870 719 1217 w os) (piecesOf (ss 77 14) hEnv cE ⟨431, 0, 463, 30⟩ [topFrame p0])) = fun os => some (Flow.next, stT tree1071 912 1511 w os, cE, p9)) Fast.te10110043849684766642 Fast.te14364793385576792824 (by kernel_rfl)
theorem ss_all : ss 0 14 ++ (ss 14 29 ++ (ss 43 19 ++ (ss 62 11 ++ (ss 73 4 ++ (ss 77 14 ++ []))))) = behindTheImports Pr := by kernel_rfl
noncomputable abbrev stZ (w : World) (os : OsState) : Shared := (stT tree1071 912 1511 w os).abs
theorem look1 (w : World) : (fun os => staticsOk (importedModules Pr.main.body) (boot_heap w.params) (stZ w os).heap && namesBound Pr (stZ w os).heap && gensDone (stZ w os) && laidKept (boot_heap w.params) (stZ w os).heap) = fun _ => true :=
  use2 (fun im (_ : Unit) => (fun os => staticsOk (im Pr.main.body) (boot_heap w.params) (stZ w os).heap && namesBound Pr (stZ w os).heap && gensDone (stZ w os) && laidKept (boot_heap w.params) (stZ w os).heap) = fun _ => true) Fast.te5923862056798008813 (rfl : () = ()) (by kernel_rfl)
theorem look2 (w : World) : (fun os => openSeen hd.view_39 Loo (importedModules Pr.main.body) (fun s => xlAt hd.view_39 Lv s && recOk PySem.Challenge.rw_xw0341_02.row.toRowW.records s) true (stZ w os)) = fun _ => openGood hd.view_39 Loo :=
  use2 (fun im sn => (fun os => sn hd.view_39 Loo (im Pr.main.body) (fun s => xlAt hd.view_39 Lv s && recOk PySem.Challenge.rw_xw0341_02.row.toRowW.records s) true (stZ w os)) = fun _ => openGood hd.view_39 Loo) Fast.te5923862056798008813 Fast.te4187177175401517315 (by kernel_rfl)
theorem look3 (w : World) : (fun os => hd.hook.obs (stZ w os)) = fun _ => hd.hook.val w := by kernel_rfl
theorem size0 (w : World) : ((boot_heap w.params).isNs mainGlobals && (#[] : Array GenState).size == 0, (boot_heap w.params).objs.size, (boot_heap w.params).nsMap mainGlobals "__annotations__") = (true, 11, some (.ref 6)) :=
  use2 (fun ns (_ : Unit) => ((boot_heap w.params).isNs mainGlobals && (#[] : Array GenState).size == 0, (boot_heap w.params).objs.size, ns (boot_heap w.params) mainGlobals "__annotations__") = (true, 11, some (Value.ref 6))) Fast.te8920871248978507458 (rfl : () = ()) (by kernel_rfl)
theorem open0 : ∀ w : World, (fencedOpening treeTable Pr w 12634).map (fun s => (s.heap, s.gens, s.drawn, s.toks)) = some (boot_heap w.params, Array.mk [], boot_drawn, boot_toks) :=
  boot_open (by kernel_rfl) (by kernel_rfl) fun s => by kernel_rfl
/-- the whole top, and its end looked at -/
theorem run_end (w : World) (os : OsState) : topRun treeTable Pr w 11 (some (.ref 6)) (12 + (1 + (1082 + (971 + (1067 + (842 + (1107 + (1191 + 2)))))))) (stA0 w os) (topStub Pr) = some (stZ w os) := by
  have k6 := piece_app (rest := []) (segRun_of (congrFun (stretch6 w) os)) (piece_nil (run_fin w _))
  have k5 := piece_app (segRun_of (congrFun (stretch5 w) os)) k6
  have k4 := piece_app (segRun_of (congrFun (stretch4 w) os)) k5
  have k3 := piece_app (segRun_of (congrFun (stretch3 w) os)) k4
  have k2 := piece_app (segRun_of (congrFun (stretch2 w) os)) k3
  have k1 := piece_app (segRun_of (congrFun (stretch1 w) os)) k2
  rw [ss_all] at k1
  exact go_top (congrFun (run_pre w) os) (piece_block (congrFun (run_block w) os) k1)
theorem left_end : LeftO Pr hd.view_39 Loo (fun s => xlAt hd.view_39 Lv s && recOk PySem.Challenge.rw_xw0341_02.row.toRowW.records s) hd.hook.obs hd.hook.val 12634 := fun w => by
  obtain ⟨⟨h, gs, d, k, os⟩, hs, hv⟩ := Option.map_eq_some_iff.mp (open0 w)
  obtain ⟨rfl, rfl, rfl, rfl⟩ : h = boot_heap w.params ∧ gs = Array.mk [] ∧ d = boot_drawn ∧ k = boot_toks := by simpa using hv
  obtain ⟨z1, z2, z3⟩ : _ ∧ _ ∧ _ := by simpa only [Prod.mk.injEq] using size0 w
  have hr := run_end w os
  have l1 := congrFun (look1 w) os
  have l2 := congrFun (look2 w) os
  have l3 := congrFun (look3 w) os
  generalize stZ w os = r at hr l1 l2 l3
  have hr' : topRun treeTable Pr w 11 (some (.ref 6)) 12634 (stA0 w os) (topStub Pr) = some r := by
    have := topRun_mono 6359 _ _ _ _ hr
    rwa [show 12 + (1 + (1082 + (971 + (1067 + (842 + (1107 + (1191 + 2))))))) + 6359 = 12634 from rfl] at this
  have ht : topFrom treeTable Pr w 12634 ⟨boot_heap w.params, Array.mk [], boot_drawn, boot_toks, os⟩ = some r := by
    unfold topFrom
    dsimp only
    rw [z1, z2, z3]
    show (topRun treeTable Pr w 11 (some (.ref 6)) 12634 (stA0 w os) (topStub Pr)).bind _ = some r
    rw [hr']
    show (match staticsOk (importedModules Pr.main.body) (boot_heap w.params) r.heap && namesBound Pr r.heap && gensDone r && laidKept (boot_heap w.params) r.heap with | true => some r | false => none) = some r
    rw [l1]
  unfold openEnds
  rw [hs, Option.bind_some, ht, Option.map_some, l2, l3]
theorem law_said : PySem.Challenge.rw_xw0341_02.wellSaid = true :=
  use2 (fun f (_ : Unit) => f PySem.Challenge.rw_xw0341_02 = true) Fast.te9446332074065402090 (rfl : () = ()) (by kernel_rfl)
theorem hd {d : DefRec} {kwd : List (PySem.Str × PySem.Expr)} (hdef : defOf hd.view_39 PySem.Challenge.rw_xw0341_02.row.name = some (d, kwd)) (hp : PySem.Challenge.rw_xw0341_02.row.prog.theDef PySem.Challenge.rw_xw0341_02.row.name = some (d.params, d.body, d.scope))
    (hk : kwWritten? d.params.kwonlyargs d.params.kw_defaults = some kwd)
    (call : WalkO hd.view_39 [Str.ofString "ones_sum", Str.ofString "checksum", Str.ofString "IpHeader", Str.ofString "ALL", Str.ofString "ALL_HOSTS", Str.ofString "LEAST_TARGET"] (XL hd.view_39 [(Str.ofString "ALL", WData.int 4294967295), (Str.ofString "ALL_HOSTS", WData.int 4294967295), (Str.ofString "LEAST_TARGET", WData.int 16777216)]) (kHook hd.heap_39 (2 :: 3 :: 15 :: 17 :: 18 :: 20 :: 21 :: 22 :: 29 :: 31 :: 32 :: 34 :: 35 :: 36 :: 37 :: 38 :: 39 :: 42 :: 49 :: 50 :: 51 :: 54 :: 61 :: 62 :: 63 :: 66 :: 73 :: 74 :: 75 :: 78 :: 80 :: 81 :: 83 :: 84 :: 85 :: 87 :: 88 :: 90 :: 91 :: 92 :: 94 :: 95 :: 97 :: 98 :: 99 :: 101 :: 102 :: 104 :: 105 :: 106 :: 108 :: 109 :: 111 :: 112 :: 113 :: 115 :: 116 :: 118 :: 119 :: 120 :: 121 :: 123 :: 124 :: 126 :: 127 :: 128 :: 129 :: 131 :: 132 :: 134 :: 135 :: 143 :: 144 :: 146 :: 147 :: 149 :: 150 :: 151 :: 153 :: 154 :: 156 :: 157 :: 158 :: 160 :: 161 :: 163 :: 164 :: 165 :: 167 :: 168 :: 170 :: 171 :: 172 :: 174 :: 175 :: 177 :: 178 :: 179 :: 181 :: 182 :: 184 :: 185 :: 186 :: 187 :: 188 :: 189 :: 190 :: 193 :: 195 :: 196 :: 198 :: 199 :: 200 :: 202 :: 203 :: 205 :: 206 :: 207 :: 209 :: 210 :: 212 :: 213 :: 214 :: 216 :: 217 :: 219 :: 220 :: 221 :: 223 :: 224 :: 226 :: 227 :: 228 :: 230 :: 231 :: 233 :: 234 :: 235 :: 237 :: 238 :: 240 :: 241 :: 242 :: 244 :: 245 :: 247 :: 248 :: 249 :: 251 :: 252 :: 254 :: 255 :: 256 :: 258 :: 259 :: 261 :: 262 :: 263 :: 265 :: 266 :: 268 :: 269 :: 270 :: 272 :: 273 :: 275 :: 276 :: 277 :: 279 :: 280 :: 282 :: 283 :: 284 :: 287 :: 288 :: 289 :: 291 :: 292 :: 294 :: 295 :: 296 :: 298 :: 299 :: 301 :: 302 :: 303 :: 305 :: 306 :: 308 :: 309 :: 310 :: 312 :: 313 :: 315 :: 316 :: 317 :: 319 :: 320 :: 322 :: 323 :: 324 :: 326 :: 327 :: 329 :: 330 :: 331 :: 333 :: 334 :: 336 :: 337 :: 338 :: 340 :: 341 :: 343 :: 344 :: 352 :: 353 :: 355 :: 356 :: 358 :: 359 :: 360 :: 362 :: 363 :: 365 :: 366 :: 367 :: 369 :: 370 :: 372 :: 373 :: 374 :: 375 :: 376 :: 377 :: 378 :: 388 :: 390 :: 391 :: 393 :: 394 :: 395 :: 397 :: 398 :: 400 :: 401 :: 402 :: 404 :: 405 :: 407 :: 408 :: 409 :: 411 :: 412 :: 414 :: 415 :: 416 :: 418 :: 419 :: 421 :: 422 :: 423 :: 424 :: 425 :: 426 :: 427 :: 430 :: 432 :: 433 :: 435 :: 436 :: 444 :: 446 :: 447 :: 449 :: 450 :: 451 :: 453 :: 454 :: 456 :: 457 :: 458 :: 460 :: 461 :: 463 :: 464 :: 465 :: 467 :: 468 :: 470 :: 471 :: 472 :: 474 :: 475 :: 477 :: 478 :: 479 :: 481 :: 482 :: 484 :: 485 :: 486 :: 488 :: 489 :: 491 :: 492 :: 493 :: 495 :: 496 :: 498 :: 499 :: 500 :: 502 :: 503 :: 505 :: 506 :: 507 :: 508 :: 509 :: 510 :: 511 :: 521 :: 523 :: 524 :: 526 :: 527 :: 528 :: 529 :: 530 :: 531 :: 532 :: 535 :: 537 :: 538 :: 540 :: 541 :: 549 :: 550 :: 552 :: 553 :: 555 :: 556 :: 557 :: 559 :: 560 :: 562 :: 563 :: 564 :: 566 :: 567 :: 569 :: 570 :: 571 :: 573 :: 574 :: 576 :: 577 :: 578 :: 580 :: 581 :: 583 :: 584 :: 585 :: 587 :: 588 :: 590 :: 591 :: 592 :: 594 :: 595 :: 597 :: 598 :: 599 :: 601 :: 602 :: 604 :: 605 :: 606 :: 608 :: 609 :: 611 :: 612 :: 613 :: 615 :: 616 :: 618 :: 619 :: 620 :: 622 :: 623 :: 625 :: 626 :: 627 :: 629 :: 630 :: 632 :: 633 :: 634 :: 636 :: 637 :: 639 :: 640 :: 641 :: 642 :: 644 :: 645 :: 647 :: 648 :: 649 :: 651 :: 652 :: 654 :: 655 :: 656 :: 658 :: 659 :: 661 :: 662 :: 663 :: 664 :: 665 :: 666 :: 667 :: 677 :: 679 :: 680 :: 682 :: 683 :: 684 :: 686 :: 687 :: 689 :: 690 :: 691 :: 693 :: 694 :: 696 :: 697 :: 698 :: 700 :: 701 :: 703 :: 704 :: 705 :: 707 :: 708 :: 710 :: 711 :: 712 :: 713 :: 714 :: 715 :: 716 :: 726 :: 728 :: 729 :: 731 :: 732 :: 733 :: 735 :: 736 :: 738 :: 739 :: 740 :: 742 :: 743 :: 745 :: 746 :: 747 :: 749 :: 750 :: 752 :: 753 :: 754 :: 757 :: 758 :: 759 :: 761 :: 762 :: 764 :: 765 :: 766 :: 767 :: 768 :: 769 :: 770 :: 773 :: 775 :: 776 :: 778 :: 779 :: 780 :: 782 :: 783 :: 785 :: 786 :: 787 :: 789 :: 790 :: 792 :: 793 :: 801 :: 802 :: 804 :: 805 :: 807 :: 808 :: 809 :: 811 :: 812 :: 814 :: 815 :: 816 :: 819 :: 820 :: 821 :: 823 :: 824 :: 826 :: 827 :: 828 :: 830 :: 831 :: 833 :: 834 :: 835 :: 837 :: 838 :: 840 :: 841 :: 842 :: 844 :: 845 :: 847 :: 848 :: 849 :: 850 :: 851 :: 852 :: 853 :: 856 :: 858 :: 859 :: 861 :: 862 :: 863 :: 865 :: 866 :: 868 :: 869 :: 870 :: 872 :: 873 :: 875 :: 876 :: 877 :: 879 :: 880 :: 882 :: 883 :: 884 :: 886 :: 887 :: 889 :: 890 :: 891 :: 893 :: 894 :: 896 :: 897 :: 898 :: 900 :: 901 :: 903 :: 904 :: 905 :: 907 :: 908 :: 910 :: 911 :: []) hd.keys).says PySem.Challenge.rw_xw0341_02.row.toRowW d kwd fun f vs => PySem.call f vs) : PySem.Challenge.rw_xw0341_02.Holds := by
  refine holds_law law_said fun said => ?_
  refine holds_open (q := hd.view_39) (loose := Loo) (Xt := fun s => xlAt hd.view_39 Lv s && recOk PySem.Challenge.rw_xw0341_02.row.toRowW.records s) (XP := XL hd.view_39 Lv) (Yf := hd.hook.obs) (Ya := hd.hook.val) (YP := hd.hook.says) (N := 12634) left_end (Hook.of hd.hook) (Hook.keeps hd.hook)
    (fun s e => xl_of s (Bool.and_eq_true_iff.mp e).1) XL.keeps hdef hp hk (fun s e => recFacts_of (Bool.and_eq_true_iff.mp e).2) rfl said (by decide +kernel) ⟨rfl, rfl, rfl, rfl, rfl, by decide +kernel⟩ ?hw call
  case hw => w_witness2

-- F_B1
noncomputable abbrev VW := hd.view_39
noncomputable abbrev LS : List Str := looseW VW [Str.ofString "ones_sum", Str.ofString "checksum", Str.ofString "IpHeader", Str.ofString "ALL", Str.ofString "ALL_HOSTS", Str.ofString "LEAST_TARGET"]
noncomputable def Fn (w : World) (mean : ExcName → Option Value) (mg mb : Str → Option Value) (f : Addr) (d u : Nat) (args : List Value) (news : Ledger) (post : Value → Ledger → Prop) : Prop :=
  ∀ (dp un : Nat) (gd : Option (List Code)) (cn : Str) (cs : Scope) (a : Addr) (ccd : Value) (cl : List (Str × Addr)) (outer : List Env) (A₀ : Around) (base h₀ : Heap) (L : Addr) (m : Str → Option Value) (s : Shared)
    (Q E : Value → Shared → Prop),
    Below A₀ base outer h₀ → Fr h₀ L s.heap m → (hd.heap_39 w.params).In h₀ → News h₀ L s.heap news → Top VW LS mean mg mb h₀ → cs.kind = .function → dp + d < recursionLimit → un + u < cLine →
    (∀ r news' h' tk', Fr h₀ L h' m → News h₀ L h' news' → post r news' → Q r { s with heap := h', toks := tk' }) →
    wpAny (model PySem.Challenge.rw_xw0341_02.row.prog w) (ktrTop dp un gd cn cs L a ccd cl outer) (call (.ref f) args) Q E s

section
variable {w : World} {mean : ExcName → Option Value} {mg mb : Str → Option Value} {f : Addr} {d u : Nat} {args : List Value} {news : Ledger} {post : Value → Ledger → Prop}
theorem fn_use {dp un : Nat} {gd : Option (List Code)} {cn : Str} {cs : Scope} {a : Addr} {ccd : Value} {cl : List (Str × Addr)} {outer : List Env} {A₀ : Around} {base h₀ : Heap} {L : Addr} {m : Str → Option Value} {s : Shared}
    {Q E : Value → Shared → Prop} (C : Fn w mean mg mb f d u args news post)
    (B : Below A₀ base outer h₀) (F : Fr h₀ L s.heap m) (X : (hd.heap_39 w.params).In h₀) (N : News h₀ L s.heap news) (T : Top VW LS mean mg mb h₀) (hk : cs.kind = .function) (hd : dp + d < recursionLimit) (hu : un + u < cLine)
    (ret : ∀ r news' h' tk', Fr h₀ L h' m → News h₀ L h' news' → post r news' → Q r { s with heap := h', toks := tk' }) :
    wpAny (model PySem.Challenge.rw_xw0341_02.row.prog w) (ktrTop dp un gd cn cs L a ccd cl outer) (call (.ref f) args) Q E s := C _ _ _ _ _ _ _ _ _ _ _ _ _ _ _ _ _ B F X N T hk hd hu ret
/-- the ledger stays; the value is told but for its token -/
theorem fn_useT {val : Tok → Value} {dp un : Nat} {gd : Option (List Code)} {cn : Str} {cs : Scope} {a : Addr} {ccd : Value} {cl : List (Str × Addr)} {outer : List Env} {A₀ : Around} {base h₀ : Heap} {L : Addr} {m : Str → Option Value} {s : Shared}
    {Q E : Value → Shared → Prop} (C : Fn w mean mg mb f d u args news (fun r n' => n' = news ∧ ∃ t, r = val t))
    (B : Below A₀ base outer h₀) (F : Fr h₀ L s.heap m) (X : (hd.heap_39 w.params).In h₀) (N : News h₀ L s.heap news) (T : Top VW LS mean mg mb h₀) (hk : cs.kind = .function) (hd : dp + d < recursionLimit) (hu : un + u < cLine)
    (ret : ∀ t h' tk', Fr h₀ L h' m → News h₀ L h' news → Q (val t) { s with heap := h', toks := tk' }) :
    wpAny (model PySem.Challenge.rw_xw0341_02.row.prog w) (ktrTop dp un gd cn cs L a ccd cl outer) (call (.ref f) args) Q E s := fn_use C B F X N T hk hd hu fun _ _ h' tk' F' N' e => by obtain ⟨rfl, t, rfl⟩ := e; exact ret t h' tk' F' N'
theorem fn_useX {val : Tok → Value} {dp un : Nat} {gd : Option (List Code)} {cn : Str} {cs : Scope} {a : Addr} {ccd : Value} {cl : List (Str × Addr)} {outer : List Env} {A₀ : Around} {base h₀ : Heap} {L : Addr} {m : Str → Option Value} {s : Shared}
    {Q E : Value → Shared → Prop} (C : Fn w mean mg mb f d u args news (fun r n' => (∃ t, r = val t) ∧ n' = news))
    (B : Below A₀ base outer h₀) (F : Fr h₀ L s.heap m) (X : (hd.heap_39 w.params).In h₀) (N : News h₀ L s.heap news) (T : Top VW LS mean mg mb h₀) (hk : cs.kind = .function) (hd : dp + d < recursionLimit) (hu : un + u < cLine)
    (ret : ∀ t h' tk', Fr h₀ L h' m → News h₀ L h' news → Q (val t) { s with heap := h', toks := tk' }) :
    wpAny (model PySem.Challenge.rw_xw0341_02.row.prog w) (ktrTop dp un gd cn cs L a ccd cl outer) (call (.ref f) args) Q E s := fn_use C B F X N T hk hd hu fun _ _ h' tk' F' N' e => by obtain ⟨⟨t, rfl⟩, rfl⟩ := e; exact ret t h' tk' F' N'
theorem fn_useU {val : Tok → Value} {dp un : Nat} {gd : Option (List Code)} {cn : Str} {cs : Scope} {a : Addr} {ccd : Value} {cl : List (Str × Addr)} {outer : List Env} {A₀ : Around} {base h₀ : Heap} {L : Addr} {m : Str → Option Value} {s : Shared}
    {Q E : Value → Shared → Prop} (C : Fn w mean mg mb f d u args news (fun r n' => ∃ t, r = val t ∧ n' = news))
    (B : Below A₀ base outer h₀) (F : Fr h₀ L s.heap m) (X : (hd.heap_39 w.params).In h₀) (N : News h₀ L s.heap news) (T : Top VW LS mean mg mb h₀) (hk : cs.kind = .function) (hd : dp + d < recursionLimit) (hu : un + u < cLine)
    (ret : ∀ t h' tk', Fr h₀ L h' m → News h₀ L h' news → Q (val t) { s with heap := h', toks := tk' }) :
    wpAny (model PySem.Challenge.rw_xw0341_02.row.prog w) (ktrTop dp un gd cn cs L a ccd cl outer) (call (.ref f) args) Q E s := fn_use C B F X N T hk hd hu fun _ _ h' tk' F' N' e => by obtain ⟨t, rfl, rfl⟩ := e; exact ret t h' tk' F' N'
theorem fn_useV {v : Value} {dp un : Nat} {gd : Option (List Code)} {cn : Str} {cs : Scope} {a : Addr} {ccd : Value} {cl : List (Str × Addr)} {outer : List Env} {A₀ : Around} {base h₀ : Heap} {L : Addr} {m : Str → Option Value} {s : Shared}
    {Q E : Value → Shared → Prop} (C : Fn w mean mg mb f d u args news (fun r n' => n' = news ∧ r = v))
    (B : Below A₀ base outer h₀) (F : Fr h₀ L s.heap m) (X : (hd.heap_39 w.params).In h₀) (N : News h₀ L s.heap news) (T : Top VW LS mean mg mb h₀) (hk : cs.kind = .function) (hd : dp + d < recursionLimit) (hu : un + u < cLine)
    (ret : ∀ h' tk', Fr h₀ L h' m → News h₀ L h' news → Q v { s with heap := h', toks := tk' }) :
    wpAny (model PySem.Challenge.rw_xw0341_02.row.prog w) (ktrTop dp un gd cn cs L a ccd cl outer) (call (.ref f) args) Q E s := fn_use C B F X N T hk hd hu fun _ _ h' tk' F' N' e => by obtain ⟨rfl, rfl⟩ := e; exact ret h' tk' F' N'
theorem fn_useW {v : Value} {dp un : Nat} {gd : Option (List Code)} {cn : Str} {cs : Scope} {a : Addr} {ccd : Value} {cl : List (Str × Addr)} {outer : List Env} {A₀ : Around} {base h₀ : Heap} {L : Addr} {m : Str → Option Value} {s : Shared}
    {Q E : Value → Shared → Prop} (C : Fn w mean mg mb f d u args news (fun r n' => r = v ∧ n' = news))
    (B : Below A₀ base outer h₀) (F : Fr h₀ L s.heap m) (X : (hd.heap_39 w.params).In h₀) (N : News h₀ L s.heap news) (T : Top VW LS mean mg mb h₀) (hk : cs.kind = .function) (hd : dp + d < recursionLimit) (hu : un + u < cLine)
    (ret : ∀ h' tk', Fr h₀ L h' m → News h₀ L h' news → Q v { s with heap := h', toks := tk' }) :
    wpAny (model PySem.Challenge.rw_xw0341_02.row.prog w) (ktrTop dp un gd cn cs L a ccd cl outer) (call (.ref f) args) Q E s := fn_use C B F X N T hk hd hu fun _ _ h' tk' F' N' e => by obtain ⟨rfl, rfl⟩ := e; exact ret h' tk' F' N'
theorem fn_useE_1_1 {α1 : Type} {val : α1 → Value} {p1 : α1 → Ledger → Prop} {dp un : Nat} {gd : Option (List Code)} {cn : Str} {cs : Scope} {a : Addr} {ccd : Value} {cl : List (Str × Addr)} {outer : List Env} {A₀ : Around} {base h₀ : Heap} {L : Addr} {m : Str → Option Value} {s : Shared}
    {Q E : Value → Shared → Prop} (C : Fn w mean mg mb f d u args news (fun r n' => ∃ x1, r = val x1 ∧ p1 x1 n'))
    (B : Below A₀ base outer h₀) (F : Fr h₀ L s.heap m) (X : (hd.heap_39 w.params).In h₀) (N : News h₀ L s.heap news) (T : Top VW LS mean mg mb h₀) (hk : cs.kind = .function) (hd : dp + d < recursionLimit) (hu : un + u < cLine)
    (ret : ∀ x1 n' h' tk', Fr h₀ L h' m → News h₀ L h' n' → p1 x1 n' → Q (val x1) { s with heap := h', toks := tk' }) :
    wpAny (model PySem.Challenge.rw_xw0341_02.row.prog w) (ktrTop dp un gd cn cs L a ccd cl outer) (call (.ref f) args) Q E s := fn_use C B F X N T hk hd hu fun _ n' h' tk' F' N' e => by obtain ⟨x1, rfl, q1⟩ := e; exact ret x1 n' h' tk' F' N' q1
theorem fn_useE_1_2 {α1 : Type} {val : α1 → Value} {p1 p2 : α1 → Ledger → Prop} {dp un : Nat} {gd : Option (List Code)} {cn : Str} {cs : Scope} {a : Addr} {ccd : Value} {cl : List (Str × Addr)} {outer : List Env} {A₀ : Around} {base h₀ : Heap} {L : Addr} {m : Str → Option Value} {s : Shared}
    {Q E : Value → Shared → Prop} (C : Fn w mean mg mb f d u args news (fun r n' => ∃ x1, r = val x1 ∧ p1 x1 n' ∧ p2 x1 n'))
    (B : Below A₀ base outer h₀) (F : Fr h₀ L s.heap m) (X : (hd.heap_39 w.params).In h₀) (N : News h₀ L s.heap news) (T : Top VW LS mean mg mb h₀) (hk : cs.kind = .function) (hd : dp + d < recursionLimit) (hu : un + u < cLine)
    (ret : ∀ x1 n' h' tk', Fr h₀ L h' m → News h₀ L h' n' → p1 x1 n' → p2 x1 n' → Q (val x1) { s with heap := h', toks := tk' }) :
    wpAny (model PySem.Challenge.rw_xw0341_02.row.prog w) (ktrTop dp un gd cn cs L a ccd cl outer) (call (.ref f) args) Q E s := fn_use C B F X N T hk hd hu fun _ n' h' tk' F' N' e => by obtain ⟨x1, rfl, q1, q2⟩ := e; exact ret x1 n' h' tk' F' N' q1 q2
theorem fn_useE_1_3 {α1 : Type} {val : α1 → Value} {p1 p2 p3 : α1 → Ledger → Prop} {dp un : Nat} {gd : Option (List Code)} {cn : Str} {cs : Scope} {a : Addr} {ccd : Value} {cl : List (Str × Addr)} {outer : List Env} {A₀ : Around} {base h₀ : Heap} {L : Addr} {m : Str → Option Value} {s : Shared}
    {Q E : Value → Shared → Prop} (C : Fn w mean mg mb f d u args news (fun r n' => ∃ x1, r = val x1 ∧ p1 x1 n' ∧ p2 x1 n' ∧ p3 x1 n'))
    (B : Below A₀ base outer h₀) (F : Fr h₀ L s.heap m) (X : (hd.heap_39 w.params).In h₀) (N : News h₀ L s.heap news) (T : Top VW LS mean mg mb h₀) (hk : cs.kind = .function) (hd : dp + d < recursionLimit) (hu : un + u < cLine)
    (ret : ∀ x1 n' h' tk', Fr h₀ L h' m → News h₀ L h' n' → p1 x1 n' → p2 x1 n' → p3 x1 n' → Q (val x1) { s with heap := h', toks := tk' }) :
    wpAny (model PySem.Challenge.rw_xw0341_02.row.prog w) (ktrTop dp un gd cn cs L a ccd cl outer) (call (.ref f) args) Q E s := fn_use C B F X N T hk hd hu fun _ n' h' tk' F' N' e => by obtain ⟨x1, rfl, q1, q2, q3⟩ := e; exact ret x1 n' h' tk' F' N' q1 q2 q3
theorem fn_useE_1_5 {α1 : Type} {val : α1 → Value} {p1 p2 p3 p4 p5 : α1 → Ledger → Prop} {dp un : Nat} {gd : Option (List Code)} {cn : Str} {cs : Scope} {a : Addr} {ccd : Value} {cl : List (Str × Addr)} {outer : List Env} {A₀ : Around} {base h₀ : Heap} {L : Addr} {m : Str → Option Value} {s : Shared}
    {Q E : Value → Shared → Prop} (C : Fn w mean mg mb f d u args news (fun r n' => ∃ x1, r = val x1 ∧ p1 x1 n' ∧ p2 x1 n' ∧ p3 x1 n' ∧ p4 x1 n' ∧ p5 x1 n'))
    (B : Below A₀ base outer h₀) (F : Fr h₀ L s.heap m) (X : (hd.heap_39 w.params).In h₀) (N : News h₀ L s.heap news) (T : Top VW LS mean mg mb h₀) (hk : cs.kind = .function) (hd : dp + d < recursionLimit) (hu : un + u < cLine)
    (ret : ∀ x1 n' h' tk', Fr h₀ L h' m → News h₀ L h' n' → p1 x1 n' → p2 x1 n' → p3 x1 n' → p4 x1 n' → p5 x1 n' → Q (val x1) { s with heap := h', toks := tk' }) :
    wpAny (model PySem.Challenge.rw_xw0341_02.row.prog w) (ktrTop dp un gd cn cs L a ccd cl outer) (call (.ref f) args) Q E s := fn_use C B F X N T hk hd hu fun _ n' h' tk' F' N' e => by obtain ⟨x1, rfl, q1, q2, q3, q4, q5⟩ := e; exact ret x1 n' h' tk' F' N' q1 q2 q3 q4 q5
theorem fn_useE_2_3 {α1 α2 : Type} {val : α1 → α2 → Value} {p1 p2 p3 : α1 → α2 → Ledger → Prop} {dp un : Nat} {gd : Option (List Code)} {cn : Str} {cs : Scope} {a : Addr} {ccd : Value} {cl : List (Str × Addr)} {outer : List Env} {A₀ : Around} {base h₀ : Heap} {L : Addr} {m : Str → Option Value} {s : Shared}
    {Q E : Value → Shared → Prop} (C : Fn w mean mg mb f d u args news (fun r n' => ∃ x1 x2, r = val x1 x2 ∧ p1 x1 x2 n' ∧ p2 x1 x2 n' ∧ p3 x1 x2 n'))
    (B : Below A₀ base outer h₀) (F : Fr h₀ L s.heap m) (X : (hd.heap_39 w.params).In h₀) (N : News h₀ L s.heap news) (T : Top VW LS mean mg mb h₀) (hk : cs.kind = .function) (hd : dp + d < recursionLimit) (hu : un + u < cLine)
    (ret : ∀ x1 x2 n' h' tk', Fr h₀ L h' m → News h₀ L h' n' → p1 x1 x2 n' → p2 x1 x2 n' → p3 x1 x2 n' → Q (val x1 x2) { s with heap := h', toks := tk' }) :
    wpAny (model PySem.Challenge.rw_xw0341_02.row.prog w) (ktrTop dp un gd cn cs L a ccd cl outer) (call (.ref f) args) Q E s := fn_use C B F X N T hk hd hu fun _ n' h' tk' F' N' e => by obtain ⟨x1, x2, rfl, q1, q2, q3⟩ := e; exact ret x1 x2 n' h' tk' F' N' q1 q2 q3
theorem fn_useE_2_4 {α1 α2 : Type} {val : α1 → α2 → Value} {p1 p2 p3 p4 : α1 → α2 → Ledger → Prop} {dp un : Nat} {gd : Option (List Code)} {cn : Str} {cs : Scope} {a : Addr} {ccd : Value} {cl : List (Str × Addr)} {outer : List Env} {A₀ : Around} {base h₀ : Heap} {L : Addr} {m : Str → Option Value} {s : Shared}
    {Q E : Value → Shared → Prop} (C : Fn w mean mg mb f d u args news (fun r n' => ∃ x1 x2, r = val x1 x2 ∧ p1 x1 x2 n' ∧ p2 x1 x2 n' ∧ p3 x1 x2 n' ∧ p4 x1 x2 n'))
    (B : Below A₀ base outer h₀) (F : Fr h₀ L s.heap m) (X : (hd.heap_39 w.params).In h₀) (N : News h₀ L s.heap news) (T : Top VW LS mean mg mb h₀) (hk : cs.kind = .function) (hd : dp + d < recursionLimit) (hu : un + u < cLine)
    (ret : ∀ x1 x2 n' h' tk', Fr h₀ L h' m → News h₀ L h' n' → p1 x1 x2 n' → p2 x1 x2 n' → p3 x1 x2 n' → p4 x1 x2 n' → Q (val x1 x2) { s with heap := h', toks := tk' }) :
    wpAny (model PySem.Challenge.rw_xw0341_02.row.prog w) (ktrTop dp un gd cn cs L a ccd cl outer) (call (.ref f) args) Q E s := fn_use C B F X N T hk hd hu fun _ n' h' tk' F' N' e => by obtain ⟨x1, x2, rfl, q1, q2, q3, q4⟩ := e; exact ret x1 x2 n' h' tk' F' N' q1 q2 q3 q4
theorem fn_useE_3_3 {α1 α2 α3 : Type} {val : α1 → α2 → α3 → Value} {p1 p2 p3 : α1 → α2 → α3 → Ledger → Prop} {dp un : Nat} {gd : Option (List Code)} {cn : Str} {cs : Scope} {a : Addr} {ccd : Value} {cl : List (Str × Addr)} {outer : List Env} {A₀ : Around} {base h₀ : Heap} {L : Addr} {m : Str → Option Value} {s : Shared}
    {Q E : Value → Shared → Prop} (C : Fn w mean mg mb f d u args news (fun r n' => ∃ x1 x2 x3, r = val x1 x2 x3 ∧ p1 x1 x2 x3 n' ∧ p2 x1 x2 x3 n' ∧ p3 x1 x2 x3 n'))
    (B : Below A₀ base outer h₀) (F : Fr h₀ L s.heap m) (X : (hd.heap_39 w.params).In h₀) (N : News h₀ L s.heap news) (T : Top VW LS mean mg mb h₀) (hk : cs.kind = .function) (hd : dp + d < recursionLimit) (hu : un + u < cLine)
    (ret : ∀ x1 x2 x3 n' h' tk', Fr h₀ L h' m → News h₀ L h' n' → p1 x1 x2 x3 n' → p2 x1 x2 x3 n' → p3 x1 x2 x3 n' → Q (val x1 x2 x3) { s with heap := h', toks := tk' }) :
    wpAny (model PySem.Challenge.rw_xw0341_02.row.prog w) (ktrTop dp un gd cn cs L a ccd cl outer) (call (.ref f) args) Q E s := fn_use C B F X N T hk hd hu fun _ n' h' tk' F' N' e => by obtain ⟨x1, x2, x3, rfl, q1, q2, q3⟩ := e; exact ret x1 x2 x3 n' h' tk' F' N' q1 q2 q3
theorem fn_useE_4_4 {α1 α2 α3 α4 : Type} {val : α1 → α2 → α3 → α4 → Value} {p1 p2 p3 p4 : α1 → α2 → α3 → α4 → Ledger → Prop} {dp un : Nat} {gd : Option (List Code)} {cn : Str} {cs : Scope} {a : Addr} {ccd : Value} {cl : List (Str × Addr)} {outer : List Env} {A₀ : Around} {base h₀ : Heap} {L : Addr} {m : Str → Option Value} {s : Shared}
    {Q E : Value → Shared → Prop} (C : Fn w mean mg mb f d u args news (fun r n' => ∃ x1 x2 x3 x4, r = val x1 x2 x3 x4 ∧ p1 x1 x2 x3 x4 n' ∧ p2 x1 x2 x3 x4 n' ∧ p3 x1 x2 x3 x4 n' ∧ p4 x1 x2 x3 x4 n'))
    (B : Below A₀ base outer h₀) (F : Fr h₀ L s.heap m) (X : (hd.heap_39 w.params).In h₀) (N : News h₀ L s.heap news) (T : Top VW LS mean mg mb h₀) (hk : cs.kind = .function) (hd : dp + d < recursionLimit) (hu : un + u < cLine)
    (ret : ∀ x1 x2 x3 x4 n' h' tk', Fr h₀ L h' m → News h₀ L h' n' → p1 x1 x2 x3 x4 n' → p2 x1 x2 x3 x4 n' → p3 x1 x2 x3 x4 n' → p4 x1 x2 x3 x4 n' → Q (val x1 x2 x3 x4) { s with heap := h', toks := tk' }) :
    wpAny (model PySem.Challenge.rw_xw0341_02.row.prog w) (ktrTop dp un gd cn cs L a ccd cl outer) (call (.ref f) args) Q E s := fn_use C B F X N T hk hd hu fun _ n' h' tk' F' N' e => by obtain ⟨x1, x2, x3, x4, rfl, q1, q2, q3, q4⟩ := e; exact ret x1 x2 x3 x4 n' h' tk' F' N' q1 q2 q3 q4
theorem fn_useE_4_5 {α1 α2 α3 α4 : Type} {val : α1 → α2 → α3 → α4 → Value} {p1 p2 p3 p4 p5 : α1 → α2 → α3 → α4 → Ledger → Prop} {dp un : Nat} {gd : Option (List Code)} {cn : Str} {cs : Scope} {a : Addr} {ccd : Value} {cl : List (Str × Addr)} {outer : List Env} {A₀ : Around} {base h₀ : Heap} {L : Addr} {m : Str → Option Value} {s : Shared}
    {Q E : Value → Shared → Prop} (C : Fn w mean mg mb f d u args news (fun r n' => ∃ x1 x2 x3 x4, r = val x1 x2 x3 x4 ∧ p1 x1 x2 x3 x4 n' ∧ p2 x1 x2 x3 x4 n' ∧ p3 x1 x2 x3 x4 n' ∧ p4 x1 x2 x3 x4 n' ∧ p5 x1 x2 x3 x4 n'))
    (B : Below A₀ base outer h₀) (F : Fr h₀ L s.heap m) (X : (hd.heap_39 w.params).In h₀) (N : News h₀ L s.heap news) (T : Top VW LS mean mg mb h₀) (hk : cs.kind = .function) (hd : dp + d < recursionLimit) (hu : un + u < cLine)
    (ret : ∀ x1 x2 x3 x4 n' h' tk', Fr h₀ L h' m → News h₀ L h' n' → p1 x1 x2 x3 x4 n' → p2 x1 x2 x3 x4 n' → p3 x1 x2 x3 x4 n' → p4 x1 x2 x3 x4 n' → p5 x1 x2 x3 x4 n' → Q (val x1 x2 x3 x4) { s with heap := h', toks := tk' }) :
    wpAny (model PySem.Challenge.rw_xw0341_02.row.prog w) (ktrTop dp un gd cn cs L a ccd cl outer) (call (.ref f) args) Q E s := fn_use C B F X N T hk hd hu fun _ n' h' tk' F' N' e => by obtain ⟨x1, x2, x3, x4, rfl, q1, q2, q3, q4, q5⟩ := e; exact ret x1 x2 x3 x4 n' h' tk' F' N' q1 q2 q3 q4 q5
theorem fn_useE_5_4 {α1 α2 α3 α4 α5 : Type} {val : α1 → α2 → α3 → α4 → α5 → Value} {p1 p2 p3 p4 : α1 → α2 → α3 → α4 → α5 → Ledger → Prop} {dp un : Nat} {gd : Option (List Code)} {cn : Str} {cs : Scope} {a : Addr} {ccd : Value} {cl : List (Str × Addr)} {outer : List Env} {A₀ : Around} {base h₀ : Heap} {L : Addr} {m : Str → Option Value} {s : Shared}
    {Q E : Value → Shared → Prop} (C : Fn w mean mg mb f d u args news (fun r n' => ∃ x1 x2 x3 x4 x5, r = val x1 x2 x3 x4 x5 ∧ p1 x1 x2 x3 x4 x5 n' ∧ p2 x1 x2 x3 x4 x5 n' ∧ p3 x1 x2 x3 x4 x5 n' ∧ p4 x1 x2 x3 x4 x5 n'))
    (B : Below A₀ base outer h₀) (F : Fr h₀ L s.heap m) (X : (hd.heap_39 w.params).In h₀) (N : News h₀ L s.heap news) (T : Top VW LS mean mg mb h₀) (hk : cs.kind = .function) (hd : dp + d < recursionLimit) (hu : un + u < cLine)
    (ret : ∀ x1 x2 x3 x4 x5 n' h' tk', Fr h₀ L h' m → News h₀ L h' n' → p1 x1 x2 x3 x4 x5 n' → p2 x1 x2 x3 x4 x5 n' → p3 x1 x2 x3 x4 x5 n' → p4 x1 x2 x3 x4 x5 n' → Q (val x1 x2 x3 x4 x5) { s with heap := h', toks := tk' }) :
    wpAny (model PySem.Challenge.rw_xw0341_02.row.prog w) (ktrTop dp un gd cn cs L a ccd cl outer) (call (.ref f) args) Q E s := fn_use C B F X N T hk hd hu fun _ n' h' tk' F' N' e => by obtain ⟨x1, x2, x3, x4, x5, rfl, q1, q2, q3, q4⟩ := e; exact ret x1 x2 x3 x4 x5 n' h' tk' F' N' q1 q2 q3 q4
theorem fn_useE_5_6 {α1 α2 α3 α4 α5 : Type} {val : α1 → α2 → α3 → α4 → α5 → Value} {p1 p2 p3 p4 p5 p6 : α1 → α2 → α3 → α4 → α5 → Ledger → Prop} {dp un : Nat} {gd : Option (List Code)} {cn : Str} {cs : Scope} {a : Addr} {ccd : Value} {cl : List (Str × Addr)} {outer : List Env} {A₀ : Around} {base h₀ : Heap} {L : Addr} {m : Str → Option Value} {s : Shared}
    {Q E : Value → Shared → Prop} (C : Fn w mean mg mb f d u args news (fun r n' => ∃ x1 x2 x3 x4 x5, r = val x1 x2 x3 x4 x5 ∧ p1 x1 x2 x3 x4 x5 n' ∧ p2 x1 x2 x3 x4 x5 n' ∧ p3 x1 x2 x3 x4 x5 n' ∧ p4 x1 x2 x3 x4 x5 n' ∧ p5 x1 x2 x3 x4 x5 n' ∧ p6 x1 x2 x3 x4 x5 n'))
    (B : Below A₀ base outer h₀) (F : Fr h₀ L s.heap m) (X : (hd.heap_39 w.params).In h₀) (N : News h₀ L s.heap news) (T : Top VW LS mean mg mb h₀) (hk : cs.kind = .function) (hd : dp + d < recursionLimit) (hu : un + u < cLine)
    (ret : ∀ x1 x2 x3 x4 x5 n' h' tk', Fr h₀ L h' m → News h₀ L h' n' → p1 x1 x2 x3 x4 x5 n' → p2 x1 x2 x3 x4 x5 n' → p3 x1 x2 x3 x4 x5 n' → p4 x1 x2 x3 x4 x5 n' → p5 x1 x2 x3 x4 x5 n' → p6 x1 x2 x3 x4 x5 n' → Q (val x1 x2 x3 x4 x5) { s with heap := h', toks := tk' }) :
    wpAny (model PySem.Challenge.rw_xw0341_02.row.prog w) (ktrTop dp un gd cn cs L a ccd cl outer) (call (.ref f) args) Q E s := fn_use C B F X N T hk hd hu fun _ n' h' tk' F' N' e => by obtain ⟨x1, x2, x3, x4, x5, rfl, q1, q2, q3, q4, q5, q6⟩ := e; exact ret x1 x2 x3 x4 x5 n' h' tk' F' N' q1 q2 q3 q4 q5 q6
theorem fn_useE_6_7 {α1 α2 α3 α4 α5 α6 : Type} {val : α1 → α2 → α3 → α4 → α5 → α6 → Value} {p1 p2 p3 p4 p5 p6 p7 : α1 → α2 → α3 → α4 → α5 → α6 → Ledger → Prop} {dp un : Nat} {gd : Option (List Code)} {cn : Str} {cs : Scope} {a : Addr} {ccd : Value} {cl : List (Str × Addr)} {outer : List Env} {A₀ : Around} {base h₀ : Heap} {L : Addr} {m : Str → Option Value} {s : Shared}
    {Q E : Value → Shared → Prop} (C : Fn w mean mg mb f d u args news (fun r n' => ∃ x1 x2 x3 x4 x5 x6, r = val x1 x2 x3 x4 x5 x6 ∧ p1 x1 x2 x3 x4 x5 x6 n' ∧ p2 x1 x2 x3 x4 x5 x6 n' ∧ p3 x1 x2 x3 x4 x5 x6 n' ∧ p4 x1 x2 x3 x4 x5 x6 n' ∧ p5 x1 x2 x3 x4 x5 x6 n' ∧ p6 x1 x2 x3 x4 x5 x6 n' ∧ p7 x1 x2 x3 x4 x5 x6 n'))
    (B : Below A₀ base outer h₀) (F : Fr h₀ L s.heap m) (X : (hd.heap_39 w.params).In h₀) (N : News h₀ L s.heap news) (T : Top VW LS mean mg mb h₀) (hk : cs.kind = .function) (hd : dp + d < recursionLimit) (hu : un + u < cLine)
    (ret : ∀ x1 x2 x3 x4 x5 x6 n' h' tk', Fr h₀ L h' m → News h₀ L h' n' → p1 x1 x2 x3 x4 x5 x6 n' → p2 x1 x2 x3 x4 x5 x6 n' → p3 x1 x2 x3 x4 x5 x6 n' → p4 x1 x2 x3 x4 x5 x6 n' → p5 x1 x2 x3 x4 x5 x6 n' → p6 x1 x2 x3 x4 x5 x6 n' → p7 x1 x2 x3 x4 x5 x6 n' → Q (val x1 x2 x3 x4 x5 x6) { s with heap := h', toks := tk' }) :
    wpAny (model PySem.Challenge.rw_xw0341_02.row.prog w) (ktrTop dp un gd cn cs L a ccd cl outer) (call (.ref f) args) Q E s := fn_use C B F X N T hk hd hu fun _ n' h' tk' F' N' e => by obtain ⟨x1, x2, x3, x4, x5, x6, rfl, q1, q2, q3, q4, q5, q6, q7⟩ := e; exact ret x1 x2 x3 x4 x5 x6 n' h' tk' F' N' q1 q2 q3 q4 q5 q6 q7
end

/-- a text's entry in an object's dict -/
noncomputable abbrev ent (P : Params) (x : Str) (t : Tok) (v : Value) : DictEntry := ⟨PyData.keyHash P x, .str x t, v⟩
noncomputable abbrev brObj (P : Params) (k0 k1 k2 : Tok) (zv ov rv : Value) : Obj := dictOf [ent P "zero" k0 zv, ent P "one" k1 ov, ent P "routes" k2 rv] 3
/-- a route's data -/
structure Rt where
  net : Int
  pre : Int
  gw : Int
  face : Int
  met : Int
/-- a route as an object: its place, its dict's, its tokens -/
structure Ro where
  a : Addr
  d : Addr
  r : Rt
  k0 : Tok
  k1 : Tok
  k2 : Tok
  k3 : Tok
  k4 : Tok
  t0 : Tok
  t1 : Tok
  t2 : Tok
  t3 : Tok
  t4 : Tok
noncomputable abbrev Ro.obj (P : Params) (o : Ro) : Obj := dictOf [ent P "net" o.k0 (.int o.r.net o.t0), ent P "prefix" o.k1 (.int o.r.pre o.t1), ent P "gateway" o.k2 (.int o.r.gw o.t2), ent P "face" o.k3 (.int o.r.face o.t3), ent P "metric" o.k4 (.int o.r.met o.t4)] 5
/-- the route stands in the ledger -/
noncomputable def Ro.In (P : Params) (o : Ro) (l : Ledger) : Prop := (o.a, instObj 376 o.d) ∈ l ∧ (o.d, o.obj P) ∈ l
/-- the first route of least metric -/
noncomputable def best? : List Ro → Option Ro
  | [] => none
  | r :: l => some (l.foldl (fun b o => if o.r.met < b.r.met then o else b) r)
noncomputable def refO : Option Ro → Value
  | none => .none
  | some o => .ref o.a

-- F_C1a
local macro_rules | `(tactic| omega) => `(tactic| with_reducible first
  | assumption
  | exact rm2 ‹_› rfl
  | exact rm0 ‹_›
  | exact rm1 ‹_› rfl
  | exact rm3 ‹_› rfl
  | exact rm4 ‹_› rfl
  | exact rm5 ‹_› rfl
  | exact rm6 ‹_› rfl
  | exact rm7 ‹_› rfl
  | exact rm8 ‹_› rfl
  | exact rmJ ‹_› rfl
  | exact rmK ‹_› rfl
  | decide +kernel
  | exact i6 ‹_› (by decide +kernel)
  | exact iA ‹_› (by decide +kernel)
  | exact i5 ‹_› (by decide +kernel)
  | exact i7 ‹_› (by decide +kernel)
  | exact i8 ‹_› (by decide +kernel)
  | exact i9 ‹_› (by decide +kernel)
  | exact Nat.ne_of_lt ‹_›
  | exact Nat.ne_of_gt ‹_›
  | exact rmA ‹_›
  | exact rmB ‹_›
  | exact rmC ‹_›
  | exact rmD ‹_›
  | exact rmF ‹_›
  | exact rmG ‹_›
  | exact rmH ‹_›
  | exact rmI ‹_›)
local macro_rules | `(tactic| walk_at "rm") => `(tactic| with_reducible first | assumption | exact rm2 ‹_› rfl | exact rm0 ‹_› | exact rm1 ‹_› rfl | exact rm3 ‹_› rfl | exact rm4 ‹_› rfl)
local macro_rules | `(tactic| ktr_room) => `(tactic| ((try simp only [depth_under_make, depth_under_kw, depth_in1, depth_deeper, depth_caller]); (try dsimp only [ktrTop]); walk_at "rm"))
local macro_rules | `(tactic| ktr_units) => `(tactic| ((try simp only [units_under_make, units_in1, units_deeper, Around.mark_units, units_caller]); (try dsimp only [ktrTop]); walk_at "rm"))
local macro_rules | `(tactic| walk_at "storeName") => `(tactic| (k_here; k_dflt (refine' storeX_M ?F ?N ?_ ?a ?b; (case F => k_asm); (case N => k_asm); (case a => rfl); (case b => rfl); k_whole; intro h' m' F' N'; (try k_sweep))))
local macro_rules | `(tactic| k_handed) => `(tactic| assumption)
local macro_rules | `(tactic| k_mem) => `(tactic| assumption)
local macro_rules | `(tactic| k_all) => `(tactic| exact wo_ne)
local macro_rules | `(tactic| k_room) => `(tactic| ktr_room)
local macro_rules | `(tactic| units_room) => `(tactic| ktr_units)
local macro_rules | `(tactic| k_enter) => `(tactic| (refine' code_def ?k1 ?k2 ?k3 ?k4 ?k5 ?kA ?kF ?kK ?k6 ?k7 ?k8 ?k9 ?kB ?_ ?c2 ?c3 ?c4 ?c5; (case kA => exact rfl); (case kF => exact rfl); (case kK => first | exact rfl | assumption); (case k1 => k_asm); (case k2 => k_asm); (case k3 => k_asm); (case k4 => k_asm); (case k5 => k_asm); (case k6 => k_is); (case k7 => k_is); (case k8 => ktr_room); (case k9 => first | exact BindsTo.of_eq rfl | exact binds_K (by k_in) rfl (by k_is) rfl rfl rfl); (case c5 => decide); (case kB => exact locs rfl); (case c2 => exact rfl); (case c3 => exact rfl); (case c4 => exact rfl); k_whole; intro g' L' h' FG' F' N' B' X' T'; (try dsimp only); (try k_fold)))
local macro_rules | `(tactic| walk_at "subscriptTail") => `(tactic| (k_here; (with_reducible show wpAny _ _ (subscriptTail _ _ (Value.ref _) (Value.int _ _)) _ _ _); first
  | ((with_reducible show wpAny _ _ (subscriptTail _ (PySem.Expr.UnaryOp _ _ _) (Value.ref _) (Value.int _ _)) _ _ _); refine' item_last ?k1 ?k2 ?_ ?k7; (case k1 => k_asm); (case k2 => k_mem); (case k7 => with_unfolding_all rfl); k_whole)
  | (refine' item_P ?k1 ?k2 ?k3 ?k4 ?k5 ?_ ?k7; (case k1 => k_asm); (case k2 => k_mem); (case k3 => omega); (case k4 => omega); (case k5 => first | with_reducible assumption | ((with_reducible rw [Int.toNat_natCast]); with_reducible assumption) | exact rfl); (case k7 => with_unfolding_all rfl); k_whole)))
local macro_rules | `(tactic| walk_at "setItem ref int") => `(tactic| (k_here; k_dflt (refine' setAt_P ?k1 ?k2 ?k3 ?k4 ?k5 ?k6 ?_; (case k1 => k_asm); (case k2 => k_asm); (case k3 => k_mem); (case k4 => omega); (case k5 => omega); (case k6 => first | (simp; done) | (simp only [Int.toNat_natCast, List.length_map]; omega) | (simp; omega)); k_whole; intro h' F' N')))
local macro_rules | `(tactic| walk_at "call builtin:list.append") => `(tactic| (k_here; (with_reducible show wpAny _ _ (call (Value.builtin _) [Value.ref _, _]) _ _ _); k_dflt (refine' append_P ?k1 ?k2 ?k3 ?_ ?z; (case k1 => k_asm); (case k2 => k_asm); (case k3 => k_mem); (case z => simp only [sizeLine_eq, List.size_toArray, List.length_append, List.length_map, List.length_cons, List.length_nil]; omega); k_whole; intro h' F' N')))
local macro_rules | `(tactic| walk_at "call builtin:len") => `(tactic| (k_here; (with_reducible show wpAny _ _ (call (Value.builtin "len") [Value.ref _]) _ _ _); k_dflt (refine' len_P ?k1 ?k2 ?k3 ?_; (case k1 => k_asm); (case k2 => k_mem); (case k3 => (try simp only [List.length_map, List.length_append, List.length_cons, List.length_nil]); omega); k_whole); (try simp only [List.length_map])))
local macro_rules | `(tactic| walk_at "compareOp NotEq ref ref") => `(tactic| (k_here; (refine' ne_empty_P ?k1 ?k2 ?k3 ?k4 ?_; (case k1 => k_asm); (case k3 => k_mem); (case k2 => k_mem); (case k4 => units_room); k_whole)))

theorem c_bit_at (w mean mg mb) (x p : Int) (t1 t2 : Tok) (news : Ledger) (hp : 0 ≤ p) (hp' : p ≤ 31) :
    Fn w mean mg mb 436 3 20 [.int x t1, .int p t2] news (fun r n' => (∃ t, r = .int ((x.fdiv (2 ^ (32 - 1 - p).toNat)).fmod 2) t) ∧ n' = news) := by
  unfold Fn; k_fill; intro dp un gd cn cs a ccd cl outer A₀ base h₀ L m s Q E B F X N T hk hdp hun hret
  (refine wpAny_call ?_; ktr_enter; k_steps)
  exact hret _ _ _ _ (by k_asm) (by k_asm) ⟨⟨_, rfl⟩, rfl⟩

theorem c_child (w mean mg mb) (b bd : Addr) (k0 k1 k2 : Tok) (zv ov rv : Value) (i : Int) (t : Tok) (news : Ledger) (h1 : (b, instObj 425 bd) ∈ news) (h2 : (bd, brObj w.params k0 k1 k2 zv ov rv) ∈ news) (hz : handedIn zv = true) (ho : handedIn ov = true) :
    Fn w mean mg mb 401 3 20 [.ref b, .int i t] news (fun r n' => r = (if i = 0 then zv else ov) ∧ n' = news) := by
  unfold Fn; k_fill; intro dp un gd cn cs a ccd cl outer A₀ base h₀ L m s Q E B F X N T hk hdp hun hret
  (refine wpAny_call ?_; ktr_enter; k_steps)
  all_goals exact hret _ _ _ _ (by k_asm) (by k_asm) ⟨by simp [*], rfl⟩

theorem c_set_child (w mean mg mb) (b bd : Addr) (k0 k1 k2 : Tok) (zv ov rv v : Value) (i : Int) (t : Tok) (news : Ledger) (h1 : (b, instObj 425 bd) ∈ news) (h2 : (bd, brObj w.params k0 k1 k2 zv ov rv) ∈ news) (hne : b ≠ bd) :
    Fn w mean mg mb 408 3 20 [.ref b, .int i t, v] news (fun r n' => r = .none ∧ n' = put bd (brObj w.params k0 k1 k2 (if i = 0 then v else zv) (if i = 0 then ov else v) rv) news) := by
  unfold Fn; k_fill; intro dp un gd cn cs a ccd cl outer A₀ base h₀ L m s Q E B F X N T hk hdp hun hret
  replace N := news_focus N h2
  have h1' : (b, instObj 425 bd) ∈ wo bd news := mem_wo.mpr ⟨h1, hne⟩
  clear h1 h2
  (refine wpAny_call ?_; ktr_enter; k_steps)
  all_goals (refine hret _ _ _ _ (by k_asm) (by k_asm) ⟨rfl, ?_⟩; simp [*, put])

-- F_C1b
theorem best_foldl_mem : ∀ (l : List Ro) (b : Ro), l.foldl (fun b o => if o.r.met < b.r.met then o else b) b = b ∨ l.foldl (fun b o => if o.r.met < b.r.met then o else b) b ∈ l
  | [], b => .inl rfl
  | o :: l, b => by
    rw [List.foldl_cons]
    rcases best_foldl_mem l (if o.r.met < b.r.met then o else b) with h | h
    · rw [h]
      split
      · exact .inr (.head _)
      · exact .inl rfl
    · exact .inr (.tail _ h)
theorem best_mem {l : List Ro} {q : Ro} (h : best? l = some q) : q ∈ l := by
  cases l with
  | nil => cases h
  | cons b l =>
    have e := Option.some.inj h
    rcases best_foldl_mem l b with h2 | h2
    · rw [← e, h2]; exact .head _
    · rw [← e]; exact .tail _ h2
theorem best_mem_take {l : List Ro} {q : Ro} {i : Nat} (h : best? (l.take i) = some q) : q ∈ l := List.mem_of_mem_take (best_mem h)
theorem best_snoc (l : List Ro) (o : Ro) : best? (l ++ [o]) = match best? l with | none => some o | some q => some (if o.r.met < q.r.met then o else q) := by
  cases l with
  | nil => rfl
  | cons b l => simp only [best?, List.cons_append, List.foldl_append, List.foldl_cons, List.foldl_nil]
theorem best_next {l : List Ro} {o : Ro} {i : Nat} (h : l[i]? = some o) : best? (l.take (i + 1)) = match best? (l.take i) with | none => some o | some q => some (if o.r.met < q.r.met then o else q) := by
  rw [List.take_add_one, h]; exact best_snoc _ _
theorem c_best (w mean mg mb) (b bd rl : Addr) (k0 k1 k2 : Tok) (zv ov : Value) (rs : List Ro) (n : Nat) (news : Ledger) (h1 : (b, instObj 425 bd) ∈ news) (h2 : (bd, brObj w.params k0 k1 k2 zv ov (.ref rl)) ∈ news)
    (h3 : (rl, listOf (rs.map fun o => Value.ref o.a).toArray n) ∈ news) (h4 : ∀ o ∈ rs, o.In w.params news) :
    Fn w mean mg mb 422 3 20 [.ref b] news (fun r n' => r = refO (best? rs) ∧ n' = news) := by
  unfold Fn; k_fill; intro dp un gd cn cs a ccd cl outer A₀ base h₀ L m s Q E B F X N T hk hdp hun hret
  refine wpAny_call ?_; ktr_enter; repeat' ((fail_if_success (with_reducible show wpAny _ _ (exec (Stmt.For _ _ _ _ _) _) _ _ _)); (fail_if_success (with_reducible show wpAny _ _ (pyIter _) _ _ _)); (fail_if_success (with_reducible show wpAny _ _ (exec (Stmt.Raise _ _ _) _) _ _ _)); (fail_if_success (with_reducible show wpAny _ _ (exec (Stmt.While _ _ _ _) _) _ _ _)); first | (k_unfold; (try dsimp only)) | walk1 | (dsimp only; walk1) | (leave1; (try dsimp only)))
  (rename Fr _ _ _ _ => lF); with_unfolding_all refine' For_invVF lF ?k1 ?k2 ?_; (case k1 => exact rfl); (case k2 => exact rfl)
  walk_at "w"
  (rename Fr _ _ _ _ => F1)
  (rename News _ _ _ _ => N1)
  refine it_list (fun i m nx => nx = news ∧ m "found" = some (refO (best? (rs.take i)))) rfl h3 F1 N1 ⟨rfl, rfl⟩ ?_ ?_
  · rintro i v m₁ news₁ h tk I io hv ⟨rfl, hf⟩ hl hI hio F2 N2
    obtain ⟨o, ho, rfl⟩ : ∃ o, rs[i]? = some o ∧ v = .ref o.a := by
      rw [List.getElem?_map] at hv
      obtain ⟨o, h1, h2⟩ := Option.map_eq_some_iff.mp hv
      exact ⟨o, h1, h2.symm⟩
    obtain ⟨ho1, ho2⟩ := h4 o (List.mem_of_getElem? ho)
    rcases hb : best? (rs.take i) with _ | q
    · replace F2 := fr_know F2 (y0 := "found") (v0 := .none) (by rw [if_neg (by decide), hf, hb]; rfl)
      clear F1 N1
      k_steps
      refine turn_end news₁ (by k_asm) (by k_asm) hI ⟨hl, rfl, ?_⟩
      rw [best_next ho, hb]; rfl
    · replace F2 := fr_know F2 (y0 := "found") (v0 := .ref q.a) (by rw [if_neg (by decide), hf, hb]; rfl)
      obtain ⟨hq1, hq2⟩ := h4 q (best_mem_take hb)
      clear F1 N1
      k_steps
      all_goals refine turn_end news₁ (by k_asm) (by k_asm) hI ⟨hl, rfl, ?_⟩
      all_goals rw [best_next ho, hb]
      all_goals first | (simp [*, refO]; done) | (simp [*, refO]; rfl)
  · rintro m₁ news₁ h tk ⟨rfl, hf⟩ F2 N2
    replace F2 := fr_know F2 (y0 := "found") hf
    k_steps
    exact hret _ _ _ _ (by k_asm) (by k_asm) ⟨by simp, rfl⟩

-- F_D3
noncomputable abbrev rsObj (P : Params) (k0 k1 t : Tok) (root : Addr) (many : Int) : Obj := dictOf [ent P "root" k0 (.ref root), ent P "many" k1 (.int many t)] 2
noncomputable def bitAt (x : Int) (i : Nat) : Bool := decide ((x.fdiv (2 ^ (31 - i))).fmod 2 = 1)
noncomputable def bits (x : Int) (n : Nat) : List Bool := (List.range n).map (bitAt x)
theorem bits_zero (x : Int) : bits x 0 = [] := rfl
theorem bits_succ (x : Int) (n : Nat) : bits x (n + 1) = bits x n ++ [bitAt x n] := by
  unfold bits; rw [List.range_succ, List.map_append]; rfl
theorem bits_length (x : Int) (n : Nat) : (bits x n).length = n := by simp [bits]
/-- a branch of the tree: its place, its dict's, its list's, the tokens, its routes -/
structure Nd where
  b : Addr
  bd : Addr
  rl : Addr
  k0 : Tok
  k1 : Tok
  k2 : Tok
  rs : List Ro
  n : Nat
noncomputable abbrev Tr := List Bool → Option Nd
noncomputable def Tr.val (T : Tr) (p : List Bool) : Value := match T p with
  | none => .none
  | some d => .ref d.b
structure NdIn (P : Params) (T : Tr) (p : List Bool) (d : Nd) (l : Ledger) : Prop where
  hb : (d.b, instObj 425 d.bd) ∈ l
  hd : (d.bd, brObj P d.k0 d.k1 d.k2 (T.val (p ++ [false])) (T.val (p ++ [true])) (.ref d.rl)) ∈ l
  hr : (d.rl, listOf (d.rs.map fun o => Value.ref o.a).toArray d.n) ∈ l
  ho : ∀ o ∈ d.rs, o.In P l
structure TrIn (P : Params) (T : Tr) (l : Ledger) : Prop where
  nd : ∀ p d, T p = some d → NdIn P T p d l
  apart : ∀ p q d e, T p = some d → T q = some e → (d.bd = e.bd ∨ d.rl = e.rl) → p = q
  root : ∃ d, T [] = some d
  closed : ∀ p b d, T (p ++ [b]) = some d → ∃ e, T p = some e
/-- the ledger tells one object of each place -/
noncomputable def One (l : Ledger) : Prop := ∀ a o o', (a, o) ∈ l → (a, o') ∈ l → o = o'
theorem one_of {h₀ h : Heap} {L : Addr} {l : Ledger} (N : News h₀ L h l) : One l := fun _ _ _ h1 h2 => news_one N h1 h2
theorem One.ne {l : Ledger} (U : One l) {a b : Addr} {o o' : Obj} (h1 : (a, o) ∈ l) (h2 : (b, o') ∈ l) (n : o ≠ o') : a ≠ b := fun e => by
  subst e; exact n (U _ _ _ h1 h2)
theorem One.sub {l l' : Ledger} (U : One l) (h : ∀ p ∈ l', p ∈ l) : One l' := fun a o o' h1 h2 => U a o o' (h _ h1) (h _ h2)
theorem one_put {l : Ledger} (U : One l) (a : Addr) (o : Obj) : One (put a o l) := fun x o1 o2 h1 h2 => by
  rcases List.mem_cons.mp h1 with e1 | h1 <;> rcases List.mem_cons.mp h2 with e2 | h2
  · rw [(Prod.mk.inj e1).2, (Prod.mk.inj e2).2]
  · exact absurd (Prod.mk.inj e1).1 (mem_wo.mp h2).2
  · exact absurd (Prod.mk.inj e2).1 (mem_wo.mp h1).2
  · exact U _ _ _ (mem_wo.mp h1).1 (mem_wo.mp h2).1
theorem inst_ne_br {P : Params} {C d : Addr} {k0 k1 k2 : Tok} {z o r : Value} : instObj C d ≠ brObj P k0 k1 k2 z o r := fun e => by
  have := congrArg Obj.cls e; cases this
theorem list_ne_br {P : Params} {vs : Array Value} {n : Nat} {k0 k1 k2 : Tok} {z o r : Value} : listOf vs n ≠ brObj P k0 k1 k2 z o r := fun e => by
  have := congrArg Obj.cls e; injection this with h; exact absurd h (by decide)
theorem ro_ne_br {P : Params} {q : Ro} {k0 k1 k2 : Tok} {z o r : Value} : q.obj P ≠ brObj P k0 k1 k2 z o r := fun e => by
  have h := congrArg Obj.data e
  simp only [Ro.obj, brObj, dictOf] at h
  injection h with h1
  have := congrArg Array.size h1
  simp at this
theorem inst_ne_list {C d : Addr} {vs : Array Value} {n : Nat} : instObj C d ≠ listOf vs n := fun e => by
  have := congrArg Obj.cls e; cases this
theorem ro_ne_list {P : Params} {q : Ro} {vs : Array Value} {n : Nat} : q.obj P ≠ listOf vs n := fun e => by
  have := congrArg Obj.cls e; injection this with h; exact absurd h (by decide)
/-- the tree with one more branch -/
noncomputable def Tr.add (T : Tr) (p : List Bool) (d : Nd) : Tr := fun q => if q = p then some d else T q
theorem Tr.val_add_ne {T : Tr} {p q : List Bool} {d : Nd} (h : q ≠ p) : (T.add p d).val q = T.val q := by unfold Tr.val Tr.add; rw [if_neg h]
theorem Tr.val_add_eq {T : Tr} {p : List Bool} {d : Nd} : (T.add p d).val p = .ref d.b := by unfold Tr.val Tr.add; rw [if_pos rfl]
theorem Tr.val_none {T : Tr} {p : List Bool} (h : T p = none) : T.val p = .none := by unfold Tr.val; rw [h]
theorem Tr.val_some {T : Tr} {p : List Bool} {d : Nd} (h : T p = some d) : T.val p = .ref d.b := by unfold Tr.val; rw [h]
theorem snoc_inj {p q : List Bool} {a b : Bool} (h : p ++ [a] = q ++ [b]) : p = q ∧ a = b := by simpa using List.append_inj' h rfl
theorem snoc_ne {p : List Bool} {a : Bool} : p ++ [a] ≠ p := fun h => by
  have := congrArg List.length h; simp at this
theorem tr_add {P : Params} {T : Tr} {l l₁ : Ledger} {p : List Bool} {d e : Nd} {bt : Bool} (I : TrIn P T l) (U : One l₁) (hp : T p = some d) (hq : T (p ++ [bt]) = none) (hs : ∀ x ∈ l, x ∈ l₁)
    (he : e.rs = [] ∧ e.n = 0) (eb : (e.b, instObj 425 e.bd) ∈ l₁) (ed : (e.bd, brObj P e.k0 e.k1 e.k2 .none .none (.ref e.rl)) ∈ l₁) (er : (e.rl, listOf #[] 0) ∈ l₁) (o2 : Off l e.bd) (o3 : Off l e.rl) :
    TrIn P (T.add (p ++ [bt]) e) (put d.bd (brObj P d.k0 d.k1 d.k2 (if bt then T.val (p ++ [false]) else .ref e.b) (if bt then .ref e.b else T.val (p ++ [true])) (.ref d.rl)) l₁) := by
  have D := I.nd p d hp
  have dd := hs _ D.hd
  have no : ∀ c x, T (p ++ [bt] ++ [c]) = some x → False := fun c x hx => by
    obtain ⟨y, hy⟩ := I.closed _ _ _ hx
    rw [hq] at hy; cases hy
  have noV : ∀ c, (T.add (p ++ [bt]) e).val (p ++ [bt] ++ [c]) = .none := fun c => by
    rw [Tr.val_add_ne snoc_ne]
    exact Tr.val_none (by cases h : T (p ++ [bt] ++ [c]) with | none => rfl | some x => exact (no c x h).elim)
  have keep : ∀ {a : Addr} {o : Obj}, (a, o) ∈ l₁ → o ≠ brObj P d.k0 d.k1 d.k2 (T.val (p ++ [false])) (T.val (p ++ [true])) (.ref d.rl) → (a, o) ∈ put d.bd (brObj P d.k0 d.k1 d.k2 (if bt then T.val (p ++ [false]) else .ref e.b) (if bt then .ref e.b else T.val (p ++ [true])) (.ref d.rl)) l₁ :=
    fun h n => mem_put_ne h (U.ne h dd n)
  refine ⟨fun q x hx => ?_, fun q r x y hx hy h => ?_, ?_, fun q c x hx => ?_⟩
  · by_cases hqe : q = p ++ [bt]
    · subst hqe
      obtain rfl : e = x := by unfold Tr.add at hx; rw [if_pos rfl] at hx; exact Option.some.inj hx
      refine ⟨keep eb inst_ne_br, ?_, keep (by rw [he.1, he.2]; exact er) list_ne_br, fun o ho => by rw [he.1] at ho; cases ho⟩
      rw [noV, noV]
      exact mem_put_ne ed (fun h => o2 _ D.hd h.symm)
    · have hx' : T q = some x := by unfold Tr.add at hx; rw [if_neg hqe] at hx; exact hx
      have X := I.nd q x hx'
      refine ⟨keep (hs _ X.hb) inst_ne_br, ?_, keep (hs _ X.hr) list_ne_br, fun o ho => ⟨keep (hs _ (X.ho o ho).1) inst_ne_br, keep (hs _ (X.ho o ho).2) ro_ne_br⟩⟩
      by_cases hqp : q = p
      · subst hqp
        obtain rfl : d = x := by rw [hp] at hx'; exact Option.some.inj hx'
        cases bt
        · rw [Tr.val_add_eq, Tr.val_add_ne (fun h => by cases (snoc_inj h).2)]
          exact mem_put
        · rw [Tr.val_add_eq, Tr.val_add_ne (fun h => by cases (snoc_inj h).2)]
          exact mem_put
      · rw [Tr.val_add_ne (fun h => hqp (snoc_inj h).1), Tr.val_add_ne (fun h => hqp (snoc_inj h).1)]
        exact mem_put_ne (hs _ X.hd) (fun h => hqp (I.apart _ _ _ _ hx' hp (.inl h)))
  · have key : ∀ {r : List Bool} {y : Nd}, T r = some y → (e.bd = y.bd ∨ e.rl = y.rl) → False := fun hy h => by
      have Y := I.nd _ _ hy
      rcases h with h | h
      · exact o2 _ Y.hd h.symm
      · exact o3 _ Y.hr h.symm
    unfold Tr.add at hx hy
    split at hx <;> split at hy
    · simp [*]
    · obtain rfl := Option.some.inj hx
      exact (key hy h).elim
    · obtain rfl := Option.some.inj hy
      exact (key hx (h.imp Eq.symm Eq.symm)).elim
    · exact I.apart _ _ _ _ hx hy h
  · obtain ⟨r, hr⟩ := I.root
    exact ⟨r, by unfold Tr.add; rw [if_neg (by simp)]; exact hr⟩
  · unfold Tr.add at hx ⊢
    split at hx
    · rename_i h
      obtain ⟨rfl, rfl⟩ := snoc_inj h
      rw [if_neg (fun h => snoc_ne h.symm)]
      exact ⟨_, hp⟩
    · obtain ⟨y, hy⟩ := I.closed _ _ _ hx
      split
      · exact ⟨_, rfl⟩
      · exact ⟨_, hy⟩
/-- a branch's list turned -/
noncomputable def Nd.with (d : Nd) (rs : List Ro) (n : Nat) : Nd := { d with rs := rs, n := n }
theorem tr_list {P : Params} {T : Tr} {l : Ledger} {p : List Bool} {d : Nd} {rs : List Ro} {n : Nat} (I : TrIn P T l) (U : One l) (hp : T p = some d) (hr : ∀ o ∈ rs, o.In P l) :
    TrIn P (T.add p (d.with rs n)) (put d.rl (listOf (rs.map fun o => Value.ref o.a).toArray n) l) := by
  have D := I.nd p d hp
  have V : ∀ q, (T.add p (d.with rs n)).val q = T.val q := fun q => by
    by_cases h : q = p
    · subst h; rw [Tr.val_add_eq, Tr.val_some hp]; rfl
    · exact Tr.val_add_ne h
  have keep : ∀ {a : Addr} {o : Obj}, (a, o) ∈ l → o ≠ listOf (d.rs.map fun o => Value.ref o.a).toArray d.n → (a, o) ∈ put d.rl (listOf (rs.map fun o => Value.ref o.a).toArray n) l :=
    fun h n => mem_put_ne h (U.ne h D.hr n)
  have back : ∀ {q : List Bool} {x : Nd}, (T.add p (d.with rs n)) q = some x → ∃ y, T q = some y ∧ y.bd = x.bd ∧ y.rl = x.rl ∧ y.b = x.b ∧ y.k0 = x.k0 ∧ y.k1 = x.k1 ∧ y.k2 = x.k2 ∧ (q = p ∧ x = d.with rs n ∨ q ≠ p ∧ x = y) := fun {q x} hx => by
    unfold Tr.add at hx
    split at hx
    · rename_i h; subst h
      obtain rfl := Option.some.inj hx
      exact ⟨d, hp, rfl, rfl, rfl, rfl, rfl, rfl, .inl ⟨rfl, rfl⟩⟩
    · rename_i h
      exact ⟨x, hx, rfl, rfl, rfl, rfl, rfl, rfl, .inr ⟨h, rfl⟩⟩
  refine ⟨fun q x hx => ?_, fun q r x y hx hy h => ?_, ?_, fun q c x hx => ?_⟩
  · obtain ⟨y, hy, e1, e2, e3, e4, e5, e6, h⟩ := back hx
    have Y := I.nd q y hy
    have nb : (x.bd, brObj P x.k0 x.k1 x.k2 (T.val (q ++ [false])) (T.val (q ++ [true])) (.ref x.rl)) ∈ l := by rw [← e1, ← e2, ← e4, ← e5, ← e6]; exact Y.hd
    refine ⟨keep (by rw [← e1, ← e3]; exact Y.hb) inst_ne_list, ?_, ?_, ?_⟩
    · rw [V, V]; exact keep nb (fun h => list_ne_br h.symm)
    · rcases h with ⟨rfl, rfl⟩ | ⟨hq, rfl⟩
      · exact mem_put
      · exact mem_put_ne Y.hr (fun h => hq (I.apart _ _ _ _ hy hp (.inr h)))
    · rcases h with ⟨rfl, rfl⟩ | ⟨hq, rfl⟩
      · exact fun o ho => ⟨keep (hr o ho).1 inst_ne_list, keep (hr o ho).2 ro_ne_list⟩
      · exact fun o ho => ⟨keep (Y.ho o ho).1 inst_ne_list, keep (Y.ho o ho).2 ro_ne_list⟩
  · obtain ⟨x', hx', e1, e2, _⟩ := back hx
    obtain ⟨y', hy', f1, f2, _⟩ := back hy
    exact I.apart _ _ _ _ hx' hy' (by rw [e1, e2, f1, f2]; exact h)
  · obtain ⟨r, hr⟩ := I.root
    unfold Tr.add
    by_cases h : [] = p
    · exact ⟨_, if_pos h⟩
    · exact ⟨r, (if_neg h).trans hr⟩
  · obtain ⟨y, hy, _⟩ := back hx
    obtain ⟨z, hz⟩ := I.closed _ _ _ hy
    unfold Tr.add
    by_cases h : q = p
    · exact ⟨_, if_pos h⟩
    · exact ⟨z, (if_neg h).trans hz⟩

-- F_C2
theorem c_branch (w mean mg mb) (news : Ledger) :
    Fn w mean mg mb 425 4 30 [] news (fun r n' => ∃ b bd rl k0 k1 k2, r = .ref b ∧ (∀ p ∈ news, p ∈ n') ∧ (b, instObj 425 bd) ∈ n' ∧ (bd, brObj w.params k0 k1 k2 .none .none (.ref rl)) ∈ n' ∧ (rl, listOf #[] 0) ∈ n' ∧ Off news b ∧ Off news bd ∧ Off news rl) := by
  unfold Fn; k_fill; intro dp un gd cn cs a ccd cl outer A₀ base h₀ L m s Q E B F X N T hk hdp hun hret
  k_steps
  rename (∀ p ∈ news, p.1 < _) => l1
  rename (_ ∧ _ ∧ AllLt _ _) => l3
  have l4 := allLt_out l3.2.2
  rename @LT.lt Addr _ _ _ => l2
  exact hret _ _ _ _ (by k_asm) (by k_asm) ⟨_, _, _, _, _, _, rfl, fun p hp => .tail _ (.tail _ (.tail _ hp)), .tail _ (.head _), .tail _ (.tail _ (.head _)), .head _, off_lt l1 (Nat.le_of_lt l2), off_lt l1 (Nat.le_refl _), off_lt l4 (Nat.le_refl _)⟩

-- F_C3
theorem bit_val (x : Int) (i : Nat) (hi : i < 32) : (x.fdiv (2 ^ (32 - 1 - (i : Int)).toNat)).fmod 2 = if bitAt x i then 1 else 0 := by
  have e : (32 - 1 - (i : Int)).toNat = 31 - i := Int.toNat_sub 31 i
  rw [e]
  unfold bitAt
  have h0 : ((x.fdiv (2 ^ (31 - i))).fmod 2) = 0 ∨ ((x.fdiv (2 ^ (31 - i))).fmod 2) = 1 := by
    rw [Int.fmod_eq_emod_of_nonneg _ (by decide : (0:Int) ≤ 2)]; omega
  rcases h0 with h | h <;> simp [h]
theorem c_bit (w mean mg mb) (x : Int) (i : Nat) (t1 t2 : Tok) (news : Ledger) (hi : i < 32) :
    Fn w mean mg mb 436 3 20 [.int x t1, .int (i : Int) t2] news (fun r n' => (∃ t, r = .int (if bitAt x i then 1 else 0) t) ∧ n' = news) := by
  have := c_bit_at w mean mg mb x i t1 t2 news (by omega) (by omega)
  rw [bit_val x i hi] at this
  exact this
theorem bit_val2 {p : Int} (hp : 0 ≤ p) : ((p.toNat : Nat) : Int) = p := Int.toNat_of_nonneg hp
theorem c_child' (w mean mg mb) (T : Tr) (p : List Bool) (d : Nd) (bt : Bool) (v : Value) (t : Tok) (news : Ledger) (I : TrIn w.params T news) (hp : T p = some d) (hv : T.val (p ++ [bt]) = v) :
    Fn w mean mg mb 401 3 20 [.ref d.b, .int (if bt then 1 else 0) t] news (fun r n' => r = v ∧ n' = news) := by
  have D := I.nd p d hp
  have h : ∀ b, handedIn (T.val (p ++ [b])) = true := fun b => by unfold Tr.val; split <;> rfl
  have := c_child w mean mg mb d.b d.bd d.k0 d.k1 d.k2 _ _ _ (if bt then 1 else 0) t news D.hb D.hd (h _) (h _)
  cases bt <;> simpa [hv] using this
theorem c_set' (w mean mg mb) (T : Tr) (p : List Bool) (d : Nd) (bt : Bool) (v : Value) (t : Tok) (news : Ledger) (I : TrIn w.params T news) (hp : T p = some d) (hb : d.b ≠ d.bd) :
    Fn w mean mg mb 408 3 20 [.ref d.b, .int (if bt then 1 else 0) t, v] news (fun r n' => r = .none ∧ n' = put d.bd (brObj w.params d.k0 d.k1 d.k2 (if bt then T.val (p ++ [false]) else v) (if bt then v else T.val (p ++ [true])) (.ref d.rl)) news) := by
  have D := I.nd p d hp
  have := c_set_child w mean mg mb d.b d.bd d.k0 d.k1 d.k2 (T.val (p ++ [false])) (T.val (p ++ [true])) (.ref d.rl) v (if bt then 1 else 0) t news D.hb D.hd hb
  cases bt <;> simpa using this

-- F_C4
/-- how the tree T' has grown out of T: new bare branches on the way of x's first i bits; l is the ledger ahead of it -/
structure Grow (l : Ledger) (T T' : Tr) (x : Int) (i : Nat) : Prop where
  old : ∀ q e, T q = some e → T' q = some e
  new : ∀ q e, T' q = some e → T q = some e ∨ (e.rs = [] ∧ e.n = 0 ∧ Off l e.bd ∧ Off l e.rl ∧ ∃ j, j ≤ i ∧ q = bits x j)
theorem Grow.refl (l : Ledger) (T : Tr) (x : Int) (i : Nat) : Grow l T T x i := ⟨fun _ _ h => h, fun _ _ h => .inl h⟩
theorem Grow.step {l : Ledger} {T T' : Tr} {x : Int} {i : Nat} (G : Grow l T T' x i) : Grow l T T' x (i + 1) :=
  ⟨G.old, fun q e h => (G.new q e h).imp id fun ⟨a, b, c, d, j, hj, hq⟩ => ⟨a, b, c, d, j, Nat.le_succ_of_le hj, hq⟩⟩
theorem Grow.add {l : Ledger} {T T' : Tr} {x : Int} {i : Nat} {e : Nd} (G : Grow l T T' x i) (hn : T' (bits x (i + 1)) = none) (h1 : e.rs = []) (h2 : e.n = 0) (h3 : Off l e.bd) (h4 : Off l e.rl) : Grow l T (T'.add (bits x (i + 1)) e) x (i + 1) := by
  refine ⟨fun q e' h => ?_, fun q e' h => ?_⟩
  · unfold Tr.add
    rw [if_neg (fun hq => by have := G.old q e' h; rw [hq, hn] at this; cases this)]
    exact G.old q e' h
  · unfold Tr.add at h
    split at h
    · rename_i hq
      obtain rfl := Option.some.inj h
      exact .inr ⟨h1, h2, h3, h4, i + 1, Nat.le_refl _, hq⟩
    · exact G.step.new q e' h
/-- a is none of the tree's turned places -/
noncomputable def Tr.Off (T : Tr) (a : Addr) : Prop := ∀ q e, T q = some e → a ≠ e.bd ∧ a ≠ e.rl
theorem off_mem {l : Ledger} {a b : Addr} {o : Obj} (h : Off l a) (hm : (b, o) ∈ l) : b ≠ a := h _ hm
theorem tr_grow {P : Params} {T : Tr} {l l' : Ledger} (I : TrIn P T l) (h : ∀ x ∈ l, x ∈ l') : TrIn P T l' :=
  ⟨fun p d hp => let D := I.nd p d hp; ⟨h _ D.hb, h _ D.hd, h _ D.hr, fun o ho => ⟨h _ (D.ho o ho).1, h _ (D.ho o ho).2⟩⟩, I.apart, I.root, I.closed⟩
/-- a list of the ledger that is none of the tree's is turned -/
theorem tr_putList {P : Params} {T : Tr} {l : Ledger} {a : Addr} {vs : Array Value} {n : Nat} {o' : Obj} (I : TrIn P T l) (U : One l) (ha : (a, listOf vs n) ∈ l) (ho : T.Off a) : TrIn P T (put a o' l) := by
  refine ⟨fun p d hp => ?_, I.apart, I.root, I.closed⟩
  have D := I.nd p d hp
  exact ⟨mem_put_ne D.hb (U.ne D.hb ha inst_ne_list), mem_put_ne D.hd (fun h => (ho _ _ hp).1 h.symm), mem_put_ne D.hr (fun h => (ho _ _ hp).2 h.symm),
    fun o h => ⟨mem_put_ne (D.ho o h).1 (U.ne (D.ho o h).1 ha inst_ne_list), mem_put_ne (D.ho o h).2 (U.ne (D.ho o h).2 ha ro_ne_list)⟩⟩
theorem cls_inst_ne {io : Obj} {C d : Addr} {T : String} (h : io.cls = .type T) : instObj C d ≠ io := fun e => by
  rw [← e] at h; cases h
theorem cls_ne {io o : Obj} {T T' : String} (h : io.cls = .type T) (h' : o.cls = .type T') (n : T' ≠ T) : o ≠ io := fun e => by
  rw [← e, h'] at h; injection h with h; exact n h
/-- the tree's own objects stand apart from any other kind of object -/
theorem tr_wo {P : Params} {T : Tr} {l : Ledger} {a : Addr} {io : Obj} {S : String} (I : TrIn P T l) (U : One l) (ha : (a, io) ∈ l) (hc : io.cls = .type S) (h1 : "dict" ≠ S) (h2 : "list" ≠ S) : TrIn P T (wo a l) := by
  refine ⟨fun p d hp => ?_, I.apart, I.root, I.closed⟩
  have D := I.nd p d hp
  have k : ∀ {b : Addr} {o : Obj}, (b, o) ∈ l → o ≠ io → (b, o) ∈ wo a l := fun h n => mem_wo.mpr ⟨h, U.ne h ha n⟩
  exact ⟨k D.hb (cls_inst_ne hc), k D.hd (cls_ne hc rfl h1), k D.hr (cls_ne hc rfl h2), fun o h => ⟨k (D.ho o h).1 (cls_inst_ne hc), k (D.ho o h).2 (cls_ne hc rfl h1)⟩⟩
theorem Tr.Off.add {T : Tr} {a : Addr} {p : List Bool} {d : Nd} (h : T.Off a) (h1 : a ≠ d.bd) (h2 : a ≠ d.rl) : (T.add p d).Off a := fun q e hq => by
  unfold Tr.add at hq
  split at hq
  · rw [← Option.some.inj hq]; exact ⟨h1, h2⟩
  · exact h q e hq
theorem off_back {P : Params} {l nx : Ledger} {Z Z' : Tr} {x : Int} {i : Nat} {a : Addr} (G : Grow l Z Z' x i) (I : TrIn P Z' nx) (hfr : ∀ p ∈ l, (∀ q e, Z q = some e → p.1 ≠ e.bd) → p ∈ nx) (h : Off nx a) : Off l a := fun p hp => by
  by_cases hq : ∀ q e, Z q = some e → p.1 ≠ e.bd
  · exact h p (hfr p hp hq)
  · simp only [Classical.not_forall, Decidable.not_not] at hq
    obtain ⟨q, e, hz, he⟩ := hq
    rw [he]
    exact h _ (I.nd q e (G.old q e hz)).hd

inductive PJ1 (P : Params) (fl : Addr) (x : Int) (t1 : Tok) (Z : Tr) (news : Ledger) (i : Nat) (m : Str → Option Value) (nx : Ledger) : Prop
  | mk (Z' : Tr) (d : Nd) (vs : List Value) (n : Nat) (hfd : m "found" = some (.ref fl)) (hnt : m "net" = some (.int x t1)) (hmk : m "makes" = some (.bool true)) (hfl : (fl, listOf (vs ++ [Value.ref d.b]).toArray n) ∈ nx) (hlen : vs.length = i) (hZ : Z' (bits x i) = some d) (hI : TrIn P Z' nx) (hG : Grow news Z Z' x i)
    (hof : Z'.Off fl) (hfr : ∀ p ∈ news, (∀ q e, Z q = some e → p.1 ≠ e.bd) → p ∈ nx) : PJ1 P fl x t1 Z news i m nx
theorem c_path (w mean mg mb) (wy wd : Addr) (rt : Nd) (k0 k1 t : Tok) (many : Int) (Z : Tr) (x : Int) (pre : Nat) (t1 t2 : Tok) (news : Ledger) (h1 : (wy, instObj 509 wd) ∈ news) (h2 : (wd, rsObj w.params k0 k1 t rt.b many) ∈ news) (hr : Z [] = some rt)
    (I : TrIn w.params Z news) (hp : pre ≤ 32) :
    Fn w mean mg mb 464 9 90 [.ref wy, .int x t1, .int (pre : Int) t2, .bool true] news (fun r n' => ∃ Z' d fl vs n, r = .ref fl ∧ (fl, listOf (vs ++ [Value.ref d.b]).toArray n) ∈ n' ∧ Off news fl ∧ Z' (bits x pre) = some d ∧ TrIn w.params Z' n' ∧ Grow news Z Z' x pre ∧
      (∀ p ∈ news, (∀ q e, Z q = some e → p.1 ≠ e.bd) → p ∈ n')) := by
  unfold Fn; k_fill; intro dp un gd cn cs a ccd cl outer A₀ base h₀ L m s Q E B F X N T hk hdp hun hret
  refine wpAny_call ?_; ktr_enter; repeat' ((fail_if_success (with_reducible show wpAny _ _ (exec (Stmt.For _ _ _ _ _) _) _ _ _)); (fail_if_success (with_reducible show wpAny _ _ (pyIter _) _ _ _)); (fail_if_success (with_reducible show wpAny _ _ (exec (Stmt.Raise _ _ _) _) _ _ _)); (fail_if_success (with_reducible show wpAny _ _ (exec (Stmt.While _ _ _ _) _) _ _ _)); first | (k_unfold; (try dsimp only)) | walk1 | (dsimp only; walk1) | (leave1; (try dsimp only)))
  (rename Fr _ _ _ _ => lF); with_unfolding_all refine' For_invVF lF ?k1 ?k2 ?_; (case k1 => exact rfl); (case k2 => exact rfl)
  walk_at "w"
  (rename IsRange _ _ _ _ _ _ _ _ => hRg)
  (rename Fr _ _ _ _ => F1)
  (rename (∀ p ∈ news, p.1 < _) => lf)
  (rename News _ _ _ _ => N1)
  obtain ⟨fl, rfl, lf⟩ := bound_name lf
  have U1 : One ((fl, listOf #[Value.ref rt.b] 0) :: news) := one_of N1
  have I1 : TrIn w.params Z ((fl, listOf #[Value.ref rt.b] 0) :: news) := tr_grow I fun _ h => .tail _ h
  have o1 : Z.Off fl := fun q e h => ⟨fun h2 => absurd h2.symm (off_lt lf (Nat.le_refl _) _ (I.nd q e h).hd), fun h2 => absurd h2.symm (off_lt lf (Nat.le_refl _) _ (I.nd q e h).hr)⟩
  refine it_upto (PJ1 w.params fl x t1 Z news) hRg rfl (by omega) F1 N1 ⟨Z, rt, [], 0, rfl, rfl, rfl, .head _, rfl, hr, I1, Grow.refl .., o1, fun p h _ => .tail _ h⟩ ?_ ?_
  · rintro i ti m₁ nx h tk Ia io hi ⟨Z', d, vs, n, hfd, hnt, hmk, hfl, hlen, hZ, hI, hG, hof, hfr⟩ hoff hio F2 N2
    clear F1 N1 hRg U1 I1
    refine letFr (fr_knowL [("found", .ref fl), ("net", .int x t1), ("makes", .bool true)] F2 (And.intro hfd (And.intro hnt (And.intro hmk trivial)))) ?_
    clear F2
    intro mF F2
    have D := hI.nd _ _ hZ
    have Db := D.hb
    have Dd := D.hd
    repeat' ((fail_if_success (with_reducible show wpAny _ _ (call (Value.ref 436) _) _ _ _)); walk_at "wc")
    refine fn_useX (c_bit w mean mg mb x i _ _ _ (by omega)) (by k_asm) (by k_asm) (by k_asm) (by k_asm) (by k_asm) (by first | exact rfl | assumption) (by ktr_room) (by walk_at "un") ?_
    intro tb h' tk' F3 N3
    rcases hc : Z' (bits x i ++ [bitAt x i]) with _ | e
    · repeat' ((fail_if_success (with_reducible show wpAny _ _ (call (Value.ref 401) _) _ _ _)); walk_at "wc")
      refine fn_useW (c_child' w mean mg mb Z' (bits x i) d (bitAt x i) .none _ _ (tr_grow hI fun _ h => .tail _ h) hZ (Tr.val_none hc)) (by k_asm) (by k_asm) (by k_asm) (by k_asm) (by k_asm) (by first | exact rfl | assumption) (by ktr_room) (by walk_at "un") ?_
      intro h' tk' F4 N4
      repeat' ((fail_if_success (with_reducible show wpAny _ _ (call (Value.ref 425) _) _ _ _)); walk_at "wc")
      refine fn_useE_6_7 (c_branch w mean mg mb _) (by k_asm) (by k_asm) (by k_asm) (by k_asm) (by k_asm) (by first | exact rfl | assumption) (by ktr_room) (by walk_at "un") ?_
      intro b bd rl q0 q1 q2 n4 h' tk' F5 N5 hs eb ed er o1 o2 o3
      have U5 : One n4 := one_of N5
      have hI4 : TrIn w.params Z' n4 := tr_grow hI fun _ h => hs _ (.tail _ h)
      have Db4 := hs _ (.tail _ Db)
      have Dd4 := hs _ (.tail _ Dd)
      have hfl4 := hs _ (.tail _ hfl)
      repeat' ((fail_if_success (with_reducible show wpAny _ _ (call (Value.ref 408) _) _ _ _)); walk_at "wc")
      refine fn_use (c_set' w mean mg mb Z' (bits x i) d (bitAt x i) (.ref b) _ n4 hI4 hZ (U5.ne Db4 Dd4 inst_ne_br)) (by k_asm) (by k_asm) (by k_asm) (by k_asm) (by k_asm) (by first | exact rfl | assumption) (by ktr_room) (by walk_at "un") ?_
      rintro _ _ h' tk' F6 N6 ⟨rfl, rfl⟩
      have tr5 := tr_add (e := ⟨b, bd, rl, q0, q1, q2, [], 0⟩) hI U5 hZ hc (fun y hy => hs _ (.tail _ hy)) ⟨rfl, rfl⟩ eb ed er (fun p hp => o2 p (.tail _ hp)) (fun p hp => o3 p (.tail _ hp))
      have hfl5 := mem_put_ne (o := brObj w.params d.k0 d.k1 d.k2 (if bitAt x i then Z'.val (bits x i ++ [false]) else .ref b) (if bitAt x i then .ref b else Z'.val (bits x i ++ [true])) (.ref d.rl)) hfl4 (hof _ _ hZ).1
      have hof5 : (Z'.add (bits x i ++ [bitAt x i]) ⟨b, bd, rl, q0, q1, q2, [], 0⟩).Off fl := hof.add (o2 _ (.tail _ hfl)) (o3 _ (.tail _ hfl))
      walk_at "w"
      rename News _ _ _ _ => N7
      have tr7 := tr_putList (o' := listOf ((vs ++ [Value.ref d.b]).toArray.push (Value.ref b)) (n + 1)) tr5 (one_put U5 _ _) hfl5 hof5
      have hIa := mem_put_ne (o := listOf ((vs ++ [Value.ref d.b]).toArray.push (Value.ref b)) (n + 1)) (mem_put_ne (o := brObj w.params d.k0 d.k1 d.k2 (if bitAt x i then Z'.val (bits x i ++ [false]) else .ref b) (if bitAt x i then .ref b else Z'.val (bits x i ++ [true])) (.ref d.rl)) (hs _ (.head _)) (fun h => hoff _ Dd h.symm)) (fun h => hoff _ hfl h.symm)
      refine turn_end' (by k_asm) N7 hIa ⟨_, ⟨b, bd, rl, q0, q1, q2, [], 0⟩, vs ++ [Value.ref d.b], n + 1, ?_, ?_, ?_, ?_, ?_, ?_, tr_wo tr7 (one_of N7) hIa hio (by decide) (by decide), ?_, hof5, ?_⟩
      · rfl
      · rfl
      · rfl
      · rw [show (vs ++ [Value.ref d.b] ++ [Value.ref b]).toArray = (vs ++ [Value.ref d.b]).toArray.push (Value.ref b) from by simp]
        exact mem_wo.mpr ⟨mem_put, fun h => hoff _ hfl h⟩
      · simp [hlen]
      · rw [bits_succ]; unfold Tr.add; rw [if_pos rfl]
      · rw [← bits_succ] at hc ⊢
        exact hG.add hc rfl rfl (off_back hG hI hfr fun p hp => o2 p (.tail _ hp)) (off_back hG hI hfr fun p hp => o3 p (.tail _ hp))
      · intro p hp hq
        refine mem_wo.mpr ⟨mem_put_ne (mem_put_ne (hs _ (.tail _ (hfr p hp hq))) ?_) (Nat.ne_of_lt (lf p hp)), hoff _ (hfr p hp hq)⟩
        rcases hG.new _ _ hZ with h | ⟨_, _, h, _⟩
        · exact hq _ _ h
        · exact h p hp
    · repeat' ((fail_if_success (with_reducible show wpAny _ _ (call (Value.ref 401) _) _ _ _)); walk_at "wc")
      refine fn_useW (c_child' w mean mg mb Z' (bits x i) d (bitAt x i) (.ref e.b) _ _ (tr_grow hI fun _ h => .tail _ h) hZ (Tr.val_some hc)) (by k_asm) (by k_asm) (by k_asm) (by k_asm) (by k_asm) (by first | exact rfl | assumption) (by ktr_room) (by walk_at "un") ?_
      intro h' tk' F4 N4
      walk_at "w"
      rename News _ _ _ _ => N7
      have tr7 := tr_putList (o' := listOf ((vs ++ [Value.ref d.b]).toArray.push (Value.ref e.b)) (n + 1)) hI (one_of (news_sub N2 fun _ h => .tail _ h)) hfl hof
      have hoff' : ∀ p ∈ put fl (listOf ((vs ++ [Value.ref d.b]).toArray.push (Value.ref e.b)) (n + 1)) nx, p.1 ≠ Ia := fun p hp => by
        rcases List.mem_cons.mp hp with rfl | hp
        · exact fun h => hoff _ hfl h
        · exact hoff _ (wo_sub _ hp)
      refine turn_end (put fl (listOf ((vs ++ [Value.ref d.b]).toArray.push (Value.ref e.b)) (n + 1)) nx) (by k_asm) (news_sub N7 fun p hp => ?_) hoff' ⟨Z', e, vs ++ [Value.ref d.b], n + 1, rfl, rfl, rfl, ?_, by simp [hlen], ?_, tr7, hG.step, hof, fun p hp hq => mem_put_ne (hfr p hp hq) (Nat.ne_of_lt (lf p hp))⟩
      · rcases List.mem_cons.mp hp with rfl | hp
        · exact mem_put_ne (.head _) (fun h => hoff _ hfl h.symm)
        · rcases List.mem_cons.mp hp with rfl | hp
          · exact mem_put
          · exact mem_put_ne (.tail _ (wo_sub _ hp)) (wo_ne _ hp)
      · rw [show (vs ++ [Value.ref d.b] ++ [Value.ref e.b]).toArray = (vs ++ [Value.ref d.b]).toArray.push (Value.ref e.b) from by simp]
        exact mem_put
      · rw [bits_succ]; exact hc
  · rintro m₁ nx h tk ⟨Z', d, vs, n, hfd, hnt, hmk, hfl, hlen, hZ, hI, hG, hof, hfr⟩ F2 N2
    replace F2 := fr_know F2 hfd
    k_steps
    exact hret _ _ _ _ (by k_asm) (by k_asm) ⟨Z', d, fl, vs, n, rfl, hfl, off_lt lf (Nat.le_refl _), hZ, hI, hG, hfr⟩

-- F_C5
theorem c_mask (w mean mg mb) (pre : Nat) (t : Tok) (news : Ledger) (hp : pre ≤ 32) :
    Fn w mean mg mb 323 3 20 [.int (pre : Int) t] news (fun r n' => (∃ t, r = .int (4294967295 - (2 ^ (32 - pre) - 1)) t) ∧ n' = news) := by
  unfold Fn; k_fill; intro dp un gd cn cs a ccd cl outer A₀ base h₀ L m s Q E B F X N T hk hdp hun hret
  (refine wpAny_call ?_; ktr_enter; k_steps)
  exact hret _ _ _ _ (by k_asm) (by k_asm) ⟨⟨_, by rw [show (32 - (pre : Int)).toNat = 32 - pre from Int.toNat_sub 32 pre]⟩, rfl⟩
theorem c_net (w mean mg mb) (x : Int) (pre : Nat) (t t2 : Tok) (news : Ledger) (hp : pre ≤ 32) :
    Fn w mean mg mb 330 5 40 [.int x t, .int (pre : Int) t2] news (fun r n' => (∃ t, r = .int (Builtin.bitAnd x (4294967295 - (2 ^ (32 - pre) - 1))) t) ∧ n' = news) := by
  unfold Fn; k_fill; intro dp un gd cn cs a ccd cl outer A₀ base h₀ L m s Q E B F X N T hk hdp hun hret
  refine wpAny_call ?_; ktr_enter
  repeat' ((fail_if_success (with_reducible show wpAny _ _ (call (Value.ref 323) _) _ _ _)); walk_at "wc")
  refine fn_useX (c_mask w mean mg mb pre _ _ hp) (by k_asm) (by k_asm) (by k_asm) (by k_asm) (by k_asm) (by first | exact rfl | assumption) (by ktr_room) (by walk_at "un") ?_
  intro tb h' tk' F6 N6
  k_steps
  exact hret _ _ _ _ (by k_asm) (by k_asm) ⟨⟨_, rfl⟩, rfl⟩
theorem net_self {x : Int} {pre : Nat} (hp : pre ≤ 32) (h0 : 0 ≤ x) (h1 : x < 4294967296) (hd : x % 2 ^ (32 - pre) = 0) : Builtin.bitAnd x (4294967295 - (2 ^ (32 - pre) - 1)) = x := by
  obtain ⟨n, rfl⟩ : ∃ n : Nat, x = n := ⟨x.toNat, by omega⟩
  have hpow : (2 : Nat) ^ (32 - pre) * 2 ^ pre = 2 ^ 32 := by rw [← Nat.pow_add]; congr 1; omega
  have hle : (2 : Nat) ^ (32 - pre) ≤ 2 ^ 32 := Nat.pow_le_pow_right (by decide) (by omega)
  have hmask : (4294967295 - (2 ^ (32 - pre) - 1) : Int) = ((2 ^ (32 - pre) * (2 ^ pre - 1) : Nat) : Int) := by
    rw [Nat.mul_sub, hpow, Nat.mul_one]
    have : ((2 ^ (32 - pre) : Nat) : Int) = (2 : Int) ^ (32 - pre) := by simp
    rw [Int.ofNat_sub hle, this]
    omega
  rw [hmask, bitAnd_pp (by omega) (by omega)]
  congr 1
  simp only [Int.toNat_natCast]
  have hn : n < 2 ^ 32 := by omega
  have hdv : n % 2 ^ (32 - pre) = 0 := by
    have h := hd
    rw [show (2 : Int) ^ (32 - pre) = ((2 ^ (32 - pre) : Nat) : Int) from by simp] at h
    exact_mod_cast h
  obtain ⟨q, rfl⟩ : ∃ q, n = 2 ^ (32 - pre) * q := ⟨n / 2 ^ (32 - pre), by
    have := Nat.div_add_mod n (2 ^ (32 - pre)); omega⟩
  have hq : q < 2 ^ pre := by
    rw [← hpow] at hn
    exact Nat.lt_of_mul_lt_mul_left hn
  apply Nat.eq_of_testBit_eq
  intro i
  rw [Nat.testBit_and, Nat.testBit_two_pow_mul, Nat.testBit_two_pow_mul, Nat.testBit_two_pow_sub_one]
  by_cases hi : i - (32 - pre) < pre
  · simp [hi]; intro h _; exact h
  · rw [Nat.testBit_lt_two_pow (Nat.lt_of_lt_of_le hq (Nat.pow_le_pow_right (by decide) (Nat.le_of_not_lt hi)))]
    simp

-- F_C6
theorem c_route (w mean mg mb) (r : Rt) (t1 t2 t3 t4 t5 : Tok) (news : Ledger) :
    Fn w mean mg mb 376 4 30 [.int r.net t1, .int r.pre t2, .int r.gw t3, .int r.face t4, .int r.met t5] news (fun v n' => ∃ o : Ro, v = .ref o.a ∧ o.r = r ∧ (∀ p ∈ news, p ∈ n') ∧ o.In w.params n' ∧ Off news o.a ∧ Off news o.d) := by
  unfold Fn; k_fill; intro dp un gd cn cs a ccd cl outer A₀ base h₀ L m s Q E B F X N T hk hdp hun hret
  k_steps
  rename (∀ p ∈ news, p.1 < _) => l1
  rename @LT.lt Addr _ _ _ => l2
  exact hret _ _ _ _ (by k_asm) (by k_asm) ⟨⟨_, _, r, _, _, _, _, _, _, _, _, _, _⟩, rfl, rfl, fun p hp => .tail _ (.tail _ hp), ⟨.head _, .tail _ (.head _)⟩, off_lt l1 (Nat.le_of_lt l2), off_lt l1 (Nat.le_refl _)⟩
noncomputable abbrev tupObj (vs : List Value) : Obj := { cls := .type "tuple", data := .seq vs.toArray }
-- F_C7
/-- where a route of the same gateway and face stands it is told anew; else it stands last -/
noncomputable def upd : List Ro → Ro → List Ro
  | [], o => [o]
  | x :: l, o => if x.r.gw = o.r.gw ∧ x.r.face = o.r.face then o :: l else x :: upd l o
theorem upd_set : ∀ {l : List Ro} {o x : Ro} {i : Nat}, l[i]? = some x → (∀ (j : Nat) (y : Ro), j < i → l[j]? = some y → ¬ (y.r.gw = o.r.gw ∧ y.r.face = o.r.face)) → x.r.gw = o.r.gw ∧ x.r.face = o.r.face → upd l o = l.set i o
  | [], _, _, _, h, _, _ => by cases h
  | y :: l, o, x, 0, h, _, hx => by
    obtain rfl := Option.some.inj h
    unfold upd; rw [if_pos hx]; rfl
  | y :: l, o, x, i + 1, h, hn, hx => by
    unfold upd
    rw [if_neg (hn 0 y (Nat.succ_pos _) rfl)]
    show _ = y :: l.set i o
    rw [upd_set (i := i) (by simpa using h) (fun j z hj hz => hn (j + 1) z (Nat.succ_lt_succ hj) (by simpa using hz)) hx]
theorem upd_app : ∀ {l : List Ro} {o : Ro}, (∀ (j : Nat) (y : Ro), l[j]? = some y → ¬ (y.r.gw = o.r.gw ∧ y.r.face = o.r.face)) → upd l o = l ++ [o]
  | [], _, _ => rfl
  | y :: l, o, h => by
    unfold upd
    rw [if_neg (h 0 y rfl), upd_app fun j z hz => h (j + 1) z (by simpa using hz)]; rfl
theorem upd_len : ∀ (l : List Ro) (o : Ro), (upd l o).length ≤ l.length + 1
  | [], _ => Nat.le_refl _
  | y :: l, o => by
    unfold upd
    split
    · simp
    · simp only [List.length_cons]; exact Nat.succ_le_succ (upd_len l o)
theorem upd_mem : ∀ {l : List Ro} {o x : Ro}, x ∈ upd l o → x ∈ l ∨ x = o
  | [], _, _, h => .inr (List.mem_singleton.mp h)
  | y :: l, o, x, h => by
    unfold upd at h
    split at h
    · rcases List.mem_cons.mp h with rfl | h
      · exact .inr rfl
      · exact .inl (.tail _ h)
    · rcases List.mem_cons.mp h with rfl | h
      · exact .inl (.head _)
      · exact (upd_mem h).imp (.tail _) id
theorem rs_ne_br {P : Params} {q0 q1 t : Tok} {rt : Addr} {many : Int} {k0 k1 k2 : Tok} {z o r : Value} : rsObj P q0 q1 t rt many ≠ brObj P k0 k1 k2 z o r := fun e => by
  have h := congrArg Obj.data e
  simp only [rsObj, brObj, dictOf] at h
  injection h with h1
  have := congrArg Array.size h1
  simp at this
theorem rs_ne_ro {P : Params} {q0 q1 t : Tok} {rt : Addr} {many : Int} {q : Ro} : rsObj P q0 q1 t rt many ≠ q.obj P := fun e => by
  have h := congrArg Obj.data e
  simp only [rsObj, Ro.obj, dictOf] at h
  injection h with h1
  have := congrArg Array.size h1
  simp at this
theorem rs_ne_list {P : Params} {q0 q1 t : Tok} {rt : Addr} {many : Int} {vs : Array Value} {n : Nat} : rsObj P q0 q1 t rt many ≠ listOf vs n := fun e => by
  have := congrArg Obj.cls e; injection this with h; exact absurd h (by decide)
theorem inst_ne_rs {P : Params} {q0 q1 t : Tok} {rt : Addr} {many : Int} {C d : Addr} : instObj C d ≠ rsObj P q0 q1 t rt many := fun e => by
  have := congrArg Obj.cls e; cases this
/-- the routes at a place -/
noncomputable def Tr.rs (T : Tr) (q : List Bool) : List Ro := match T q with
  | none => []
  | some d => d.rs
theorem tr_rs_some {T : Tr} {q : List Bool} {d : Nd} (h : T q = some d) : T.rs q = d.rs := by unfold Tr.rs; rw [h]
theorem tr_rs_none {T : Tr} {q : List Bool} (h : T q = none) : T.rs q = [] := by unfold Tr.rs; rw [h]
/-- a Routes object with its tree in the ledger -/
structure Ways (P : Params) (wy wd : Addr) (k0 k1 : Tok) (Z : Tr) (many : Int) (l : Ledger) : Prop where
  inst : (wy, instObj 509 wd) ∈ l
  dict : ∃ rt t, Z [] = some rt ∧ (wd, rsObj P k0 k1 t rt.b many) ∈ l
  tree : TrIn P Z l
/-- the tree with a route more -/
structure Added (l : Ledger) (Z Z' : Tr) (o : Ro) (x : Int) (pre : Nat) : Prop where
  rs : ∀ q, Z'.rs q = if q = bits x pre then upd (Z.rs q) o else Z.rs q
  ex : ∀ q, (∃ d, Z' q = some d) ↔ (∃ d, Z q = some d) ∨ ∃ j, j ≤ pre ∧ q = bits x j
  own : ∀ q e, Z' q = some e → (∃ e₀, Z q = some e₀ ∧ e₀.bd = e.bd ∧ e₀.rl = e.rl) ∨ (Off l e.bd ∧ Off l e.rl)
theorem closed_bits {P : Params} {Z : Tr} {l : Ledger} (I : TrIn P Z l) {x : Int} {n : Nat} (h : ∃ d, Z (bits x n) = some d) : ∀ {j : Nat}, j ≤ n → ∃ d, Z (bits x j) = some d := by
  have key : ∀ k, k ≤ n → ∃ d, Z (bits x (n - k)) = some d := fun k => by
    induction k with
    | zero => exact fun _ => h
    | succ k ih =>
      intro hk
      obtain ⟨d, hd⟩ := ih (Nat.le_of_succ_le hk)
      have e : n - k = (n - (k + 1)) + 1 := by omega
      rw [e, bits_succ] at hd
      exact I.closed _ _ _ hd
  intro j hj
  have := key (n - j) (Nat.sub_le _ _)
  rwa [show n - (n - j) = j from by omega] at this
/-- a path made, then the list at its end turned -/
theorem added_of {P : Params} {l l₁ : Ledger} {Z Z₁ : Tr} {o : Ro} {x : Int} {pre n : Nat} {d : Nd} (I : TrIn P Z l) (G : Grow l Z Z₁ x pre) (I₁ : TrIn P Z₁ l₁) (hd : Z₁ (bits x pre) = some d) :
    Added l Z (Z₁.add (bits x pre) (d.with (upd d.rs o) n)) o x pre := by
  have back : ∀ q e, Z₁ q = some e → Z.rs q = e.rs := fun q e h => by
    rcases G.new q e h with h | ⟨h1, _, _, _, _⟩
    · exact tr_rs_some h
    · cases hz : Z q with
      | none => rw [tr_rs_none hz, h1]
      | some e' =>
        have := G.old q e' hz
        rw [h] at this
        rw [tr_rs_some hz, Option.some.inj this]
  refine ⟨fun q => ?_, fun q => ⟨?_, ?_⟩, fun q e h => ?_⟩
  · by_cases hq : q = bits x pre
    · subst hq
      rw [if_pos rfl, back _ _ hd]
      have e : (Z₁.add (bits x pre) (d.with (upd d.rs o) n)) (bits x pre) = some (d.with (upd d.rs o) n) := by unfold Tr.add; rw [if_pos rfl]
      exact tr_rs_some e
    · rw [if_neg hq]
      have e : (Z₁.add (bits x pre) (d.with (upd d.rs o) n)) q = Z₁ q := by unfold Tr.add; rw [if_neg hq]
      unfold Tr.rs
      rw [e]
      cases h1 : Z₁ q with
      | none =>
        cases h : Z q with
        | none => rfl
        | some e' => have := G.old q e' h; rw [h1] at this; cases this
      | some e' => exact (back q e' h1).symm
  · rintro ⟨e, he⟩
    have : ∃ e, Z₁ q = some e := by
      unfold Tr.add at he
      split at he
      · rename_i h; rw [h]; exact ⟨_, hd⟩
      · exact ⟨_, he⟩
    obtain ⟨e, he⟩ := this
    rcases G.new q e he with h | ⟨_, _, _, _, h⟩
    · exact .inl ⟨_, h⟩
    · exact .inr h
  · intro h
    have : ∃ e, Z₁ q = some e := by
      rcases h with ⟨e, he⟩ | ⟨j, hj, rfl⟩
      · exact ⟨_, G.old _ _ he⟩
      · exact closed_bits I₁ ⟨_, hd⟩ hj
    obtain ⟨e, he⟩ := this
    unfold Tr.add
    split
    · exact ⟨_, rfl⟩
    · exact ⟨_, he⟩
  · have : ∃ e₁, Z₁ q = some e₁ ∧ e₁.bd = e.bd ∧ e₁.rl = e.rl := by
      unfold Tr.add at h
      split at h
      · rename_i hq
        obtain rfl := Option.some.inj h
        exact ⟨d, by rw [hq]; exact hd, rfl, rfl⟩
      · exact ⟨e, h, rfl, rfl⟩
    obtain ⟨e₁, h1, h2, h3⟩ := this
    rcases G.new _ _ h1 with h | ⟨_, _, h4, h5, _⟩
    · exact .inl ⟨_, h, h2, h3⟩
    · exact .inr ⟨h2 ▸ h4, h3 ▸ h5⟩

theorem add_end {P : Params} {wy wd : Addr} {k0 k1 tm : Tok} {Z Z1 : Tr} {many : Int} {o : Ro} {x : Int} {pre k : Nat} {d rt : Nd} {news n1 : Ledger} (W : Ways P wy wd k0 k1 Z many news) (UN : One news) (U1 : One n1) (hrt : Z [] = some rt)
    (G1 : Grow news Z Z1 x pre) (I1 : TrIn P Z1 n1) (hZ1 : Z1 (bits x pre) = some d) (p1 : (o.a, instObj 376 o.d) ∈ n1) (p2 : (o.d, o.obj P) ∈ n1) (q1 : (wy, instObj 509 wd) ∈ n1) (q2 : (wd, rsObj P k0 k1 tm rt.b many) ∈ n1)
    (fr1 : ∀ p ∈ news, (∀ q e, Z q = some e → p.1 ≠ e.bd) → p ∈ n1) :
    Ways P wy wd k0 k1 (Z1.add (bits x pre) (d.with (upd d.rs o) k)) many (put d.rl (listOf ((upd d.rs o).map fun o => Value.ref o.a).toArray k) n1) ∧
      Added news Z (Z1.add (bits x pre) (d.with (upd d.rs o) k)) o x pre ∧ (∀ p ∈ news, Z.Off p.1 → p ∈ put d.rl (listOf ((upd d.rs o).map fun o => Value.ref o.a).toArray k) n1) := by
  have D := I1.nd _ _ hZ1
  have root : ∃ rt', (Z1.add (bits x pre) (d.with (upd d.rs o) k)) [] = some rt' ∧ rt'.b = rt.b := by
    have h1 := G1.old _ _ hrt
    unfold Tr.add
    by_cases h : [] = bits x pre
    · rw [if_pos h]
      rw [← h, h1] at hZ1
      exact ⟨_, rfl, by rw [Option.some.inj hZ1]; rfl⟩
    · rw [if_neg h]; exact ⟨rt, h1, rfl⟩
  obtain ⟨rt', hr1, hr2⟩ := root
  refine ⟨⟨mem_put_ne q1 (U1.ne q1 D.hr inst_ne_list), ⟨rt', tm, hr1, by rw [hr2]; exact mem_put_ne q2 (U1.ne q2 D.hr rs_ne_list)⟩, tr_list I1 U1 hZ1 fun y hy => ?_⟩, added_of W.tree G1 I1 hZ1, fun p hp ho => mem_put_ne (fr1 p hp fun q e h => (ho q e h).1) ?_⟩
  · rcases upd_mem hy with h | rfl
    · exact D.ho _ h
    · exact ⟨p1, p2⟩
  · rcases G1.new _ _ hZ1 with h | ⟨_, _, _, h, _⟩
    · exact (ho _ _ h).2
    · exact h p hp
theorem tr_putRs {P : Params} {T : Tr} {l : Ledger} {a : Addr} {q0 q1 t : Tok} {r : Addr} {many : Int} {o' : Obj} (I : TrIn P T l) (U : One l) (ha : (a, rsObj P q0 q1 t r many) ∈ l) : TrIn P T (put a o' l) := by
  refine ⟨fun p d hp => ?_, I.apart, I.root, I.closed⟩
  have D := I.nd p d hp
  exact ⟨mem_put_ne D.hb (U.ne D.hb ha inst_ne_rs), mem_put_ne D.hd (U.ne D.hd ha fun h => rs_ne_br h.symm), mem_put_ne D.hr (U.ne D.hr ha fun h => rs_ne_list h.symm),
    fun o h => ⟨mem_put_ne (D.ho o h).1 (U.ne (D.ho o h).1 ha inst_ne_rs), mem_put_ne (D.ho o h).2 (U.ne (D.ho o h).2 ha fun h => rs_ne_ro h.symm)⟩⟩
theorem ways_many {P : Params} {wy wd : Addr} {k0 k1 t' : Tok} {Z : Tr} {many many' : Int} {l : Ledger} (W : Ways P wy wd k0 k1 Z many l) (U : One l) {rt : Nd} (hrt : Z [] = some rt) : Ways P wy wd k0 k1 Z many' (put wd (rsObj P k0 k1 t' rt.b many') l) := by
  obtain ⟨rt', t, h1, h2⟩ := W.dict
  exact ⟨mem_put_ne W.inst (U.ne W.inst h2 inst_ne_rs), ⟨rt, t', hrt, mem_put⟩, tr_putRs W.tree U h2⟩
theorem put_mono {a : Addr} {o : Obj} {l l' : Ledger} (h : ∀ p ∈ l, p ∈ l') : ∀ p ∈ put a o l, p ∈ put a o l' := fun p hp => by
  rcases List.mem_cons.mp hp with rfl | hp
  · exact mem_put
  · exact mem_put_ne (h p (wo_sub _ hp)) (wo_ne p hp)

-- F_C8
section
local macro_rules | `(tactic| walk_at "setAttr ref") => `(tactic| (k_here; k_dflt (refine' set_dict_P ?k1 ?k2 ?k3 ?k4 ?k5 ?k12 ?k6 ?k7 ?k8 ?k9 ?k10 ?k11 ?k13 ?_; (case k1 => k_asm); (case k2 => k_asm); (case k3 => k_asm); (case k4 => k_inst); (case k5 => exact rfl); (case k6 => k_is); (case k7 => k_is); (case k8 => k_is); (case k9 => k_is); (case k10 => k_get); (case k11 => k_put); (case k12 => k_mem); (case k13 => exact Nat.le_of_ble_eq_true rfl); k_whole; intro h' F' N')))
theorem c_net' (w mean mg mb) (x : Int) (pre : Nat) (t t2 : Tok) (news : Ledger) (hp : pre ≤ 32) (h0 : 0 ≤ x) (h1 : x < 4294967296) (hd : x % 2 ^ (32 - pre) = 0) :
    Fn w mean mg mb 330 5 40 [.int x t, .int (pre : Int) t2] news (fun r n' => (∃ t, r = .int x t) ∧ n' = news) := by
  have := c_net w mean mg mb x pre t t2 news hp
  rwa [net_self hp h0 h1 hd] at this
theorem c_add (w mean mg mb) (wy wd : Addr) (k0 k1 : Tok) (Z : Tr) (many : Int) (o : Ro) (pre : Nat) (news : Ledger) (W : Ways w.params wy wd k0 k1 Z many news) (ho : o.In w.params news) (hpre : o.r.pre = (pre : Int)) (hp : pre ≤ 32)
    (h0 : 0 ≤ o.r.net) (h1 : o.r.net < 4294967296) (hd : o.r.net % 2 ^ (32 - pre) = 0) (g0 : 0 ≤ o.r.gw) (g1 : o.r.gw < 4294967296) (hlen : ∀ q, (Z.rs q).length < 1000) :
    Fn w mean mg mb 471 12 150 [.ref wy, .ref o.a] news (fun r n' => r = .none ∧ ∃ Z' many', Ways w.params wy wd k0 k1 Z' many' n' ∧ Added news Z Z' o o.r.net pre ∧ (∀ p ∈ news, p.1 ≠ wd → Z.Off p.1 → p ∈ n')) := by
  unfold Fn; k_fill; intro dp un gd cn cs a ccd cl outer A₀ base h₀ L m s Q E B F X N T hk hdp hun hret
  obtain ⟨o1, o2⟩ := ho
  obtain ⟨rt, tm, hrt, hw2⟩ := W.dict
  have hw1 := W.inst
  refine wpAny_call ?_; ktr_enter
  repeat' ((fail_if_success (with_reducible show wpAny _ _ (call (Value.ref 330) _) _ _ _)); walk_at "wc")
  rw [hpre]
  refine fn_useX (c_net' w mean mg mb o.r.net pre _ _ _ hp h0 h1 hd) (by k_asm) (by k_asm) (by k_asm) (by k_asm) (by k_asm) (by first | exact rfl | assumption) (by ktr_room) (by walk_at "un") ?_
  intro tb h' tk' F6 N6
  repeat' ((fail_if_success (with_reducible show wpAny _ _ (call (Value.ref 464) _) _ _ _)); walk_at "wc")
  · rename (o.r.net ≠ o.r.net) => hx
    exact absurd rfl hx
  rw [hpre]
  refine fn_useE_5_6 (c_path w mean mg mb wy wd rt k0 k1 tm many Z o.r.net pre _ _ news hw1 hw2 hrt W.tree hp) (by k_asm) (by k_asm) (by k_asm) (by k_asm) (by k_asm) (by first | exact rfl | assumption) (by ktr_room) (by walk_at "un") ?_
  intro Z1 d fl vs n n1 h' tk' F7 N7 hfl hfo hZ1 I1 G1 fr1
  have UN := one_of N
  have p1 : (o.a, instObj 376 o.d) ∈ n1 := fr1 _ o1 fun q e hq => UN.ne o1 (W.tree.nd _ _ hq).hd inst_ne_br
  have p2 : (o.d, o.obj w.params) ∈ n1 := fr1 _ o2 fun q e hq => UN.ne o2 (W.tree.nd _ _ hq).hd ro_ne_br
  have q1 : (wy, instObj 509 wd) ∈ n1 := fr1 _ hw1 fun q e hq => UN.ne hw1 (W.tree.nd _ _ hq).hd inst_ne_br
  have q2 : (wd, rsObj w.params k0 k1 tm rt.b many) ∈ n1 := fr1 _ hw2 fun q e hq => UN.ne hw2 (W.tree.nd _ _ hq).hd rs_ne_br
  have D := I1.nd _ _ hZ1
  have Db := D.hb
  have Dd := D.hd
  have Dr := D.hr
  have hdl : d.rs.length < 1000 := by
    rcases G1.new _ _ hZ1 with h | ⟨h, _⟩
    · have := hlen (bits o.r.net pre)
      rwa [tr_rs_some h] at this
    · rw [h]; decide
  walk_at "w"
  (rename Fr _ _ _ _ => lF); with_unfolding_all refine' For_invVF lF ?k1 ?k2 ?_; (case k1 => exact rfl); (case k2 => exact rfl)
  walk_at "w"
  (rename IsRange _ _ _ _ _ _ _ _ => hRg)
  (rename Fr _ _ _ _ => F1)
  (rename News _ _ _ _ => N1)
  refine it_upto (fun i m nx => nx = n1 ∧ m "branch" = some (.ref d.b) ∧ m "route" = some (.ref o.a) ∧ m "self" = some (.ref wy) ∧ ∀ (j : Nat) (y : Ro), j < i → d.rs[j]? = some y → ¬ (y.r.gw = o.r.gw ∧ y.r.face = o.r.face)) hRg rfl (by omega) F1 N1 ⟨rfl, rfl, rfl, rfl, fun _ _ h => absurd h (Nat.not_lt_zero _)⟩ ?_ ?_
  · rintro i ti m₁ nx h tk Ia io hi ⟨rfl, hb, hr, hs, hno⟩ hoff hio F2 N2
    clear F1 N1 hRg
    refine letFr (fr_knowL [("branch", .ref d.b), ("route", .ref o.a), ("self", .ref wy)] F2 (And.intro hb (And.intro hr (And.intro hs trivial)))) ?_
    clear F2
    intro mF F2
    obtain ⟨y, hy⟩ : ∃ y, d.rs[i]? = some y := ⟨d.rs[i], by simp [hi]⟩
    have hyv : (d.rs.map fun o => Value.ref o.a)[i]? = some (.ref y.a) := by rw [List.getElem?_map, hy]; rfl
    obtain ⟨y1, y2⟩ := D.ho y (List.mem_of_getElem? hy)
    walk_at "w"
    · dsimp only
      k_steps
      dsimp only [TurnEnd]
      k_steps
      rename (y.r.gw = o.r.gw) => e1
      rename (y.r.face = o.r.face) => e2
      have eu := upd_set hy hno ⟨e1, e2⟩
      have el : ((d.rs.map fun o => Value.ref o.a).set (i : Int).toNat (Value.ref o.a)).toArray = ((upd d.rs o).map fun o => Value.ref o.a).toArray := by
        rw [eu, Int.toNat_natCast, List.map_set]
      obtain ⟨w1, w2, w3⟩ := add_end (k := d.n) W UN (one_of (news_sub N2 fun _ h => .tail _ h)) hrt G1 I1 hZ1 p1 p2 q1 q2 fr1
      rename News h₀ _ _ _ => kN
      rw [el] at kN
      exact hret _ _ _ _ (by k_asm) (news_sub kN (put_mono fun _ h => .tail _ h)) ⟨rfl, _, _, w1, w2, fun p hp _ => w3 p hp⟩
    · refine turn_end nx (by k_asm) (by k_asm) hoff ⟨rfl, rfl, rfl, rfl, fun j z hj hz => ?_⟩
      rename (y.r.gw = o.r.gw) => e1
      rename (y.r.face ≠ o.r.face) => e2
      rcases Nat.lt_succ_iff_lt_or_eq.mp hj with hj | rfl
      · exact hno j z hj hz
      · rw [hy] at hz
        rw [← Option.some.inj hz]
        exact fun h => e2 h.2
    · refine turn_end nx (by k_asm) (by k_asm) hoff ⟨rfl, rfl, rfl, rfl, fun j z hj hz => ?_⟩
      rename (y.r.gw ≠ o.r.gw) => e1
      rcases Nat.lt_succ_iff_lt_or_eq.mp hj with hj | rfl
      · exact hno j z hj hz
      · rw [hy] at hz
        rw [← Option.some.inj hz]
        exact fun h => e1 h.1
  · rintro m₁ nx h tk ⟨rfl, hb, hr, hs, hno⟩ F2 N2
    refine letFr (fr_knowL [("branch", .ref d.b), ("route", .ref o.a), ("self", .ref wy)] F2 (And.intro hb (And.intro hr (And.intro hs trivial)))) ?_
    clear F2
    intro mF F2
    clear F1 N1 hRg
    have q1' := mem_put_ne (o := listOf ((d.rs.map fun o => Value.ref o.a).toArray.push (.ref o.a)) (d.n + 1)) q1 ((one_of N2).ne q1 Dr inst_ne_list)
    have q2' := mem_put_ne (o := listOf ((d.rs.map fun o => Value.ref o.a).toArray.push (.ref o.a)) (d.n + 1)) q2 ((one_of N2).ne q2 Dr rs_ne_list)
    walk_at "w"
    have eu : upd d.rs o = d.rs ++ [o] := upd_app fun j y hy => hno j y (by
      rcases Nat.lt_or_ge j d.rs.length with h | h
      · exact h
      · rw [List.getElem?_eq_none h] at hy; cases hy) hy
    have el : (d.rs.map fun o => Value.ref o.a).toArray.push (Value.ref o.a) = ((upd d.rs o).map fun o => Value.ref o.a).toArray := by
      rw [eu]; simp
    rename News h₀ _ _ _ => kN
    rw [el] at kN q1' q2'
    obtain ⟨w1, w2, w3⟩ := add_end (k := d.n + 1) W UN (one_of N2) hrt G1 I1 hZ1 p1 p2 q1 q2 fr1
    have U2 : One (put d.rl (listOf ((upd d.rs o).map fun o => Value.ref o.a).toArray (d.n + 1)) nx) := one_put (one_of N2) _ _
    obtain ⟨rt', tm', hr', hd'⟩ := w1.dict
    have eb : rt'.b = rt.b := by
      have h := U2 _ _ _ hd' q2'
      have h := congrArg Obj.data h
      simp only [rsObj, dictOf] at h
      injection h with h1
      simp at h1
      exact h1.1
    rw [← eb] at kN
    exact hret _ _ _ _ (by k_asm) kN ⟨rfl, _, _, ways_many w1 U2 hr', w2, fun p hp hw ho => mem_put_ne (w3 p hp ho) hw⟩

-- F_C9
/-- the best route of the longest net among x's first i bits -/
noncomputable def lookT (Z : Tr) (x : Int) : Nat → Option Ro
  | 0 => best? (Z.rs [])
  | i + 1 => if Z.rs (bits x (i + 1)) = [] then lookT Z x i else best? (Z.rs (bits x (i + 1)))
theorem look_stop {P : Params} {Z : Tr} {l : Ledger} (I : TrIn P Z l) {x : Int} {i : Nat} (h : Z (bits x i) = none) : ∀ j, i ≤ j → lookT Z x j = lookT Z x i := by
  intro j hj
  induction j with
  | zero => rw [Nat.le_zero.mp hj]
  | succ j ih =>
    rcases Nat.lt_or_ge j i with h1 | h1
    · rw [show j + 1 = i from by omega]
    · have hn : Z (bits x (j + 1)) = none := by
        cases hz : Z (bits x (j + 1)) with
        | none => rfl
        | some d =>
          obtain ⟨e, he⟩ := closed_bits I (x := x) (n := j + 1) ⟨d, hz⟩ hj
          rw [h] at he; cases he
      have e : lookT Z x (j + 1) = lookT Z x j := by
        rw [lookT, tr_rs_none hn, if_pos rfl]
      rw [e]
      exact ih h1
theorem look_skip {Z : Tr} {x : Int} {i : Nat} (h : Z.rs (bits x (i + 1)) = []) : lookT Z x (i + 1) = lookT Z x i := by rw [lookT, if_pos h]
theorem look_take {Z : Tr} {x : Int} {i : Nat} (h : Z.rs (bits x (i + 1)) ≠ []) : lookT Z x (i + 1) = best? (Z.rs (bits x (i + 1))) := by rw [lookT, if_neg h]
theorem look_mem {Z : Tr} {x : Int} {o : Ro} : ∀ {n : Nat}, lookT Z x n = some o → ∃ q, o ∈ Z.rs q
  | 0, h => ⟨_, best_mem h⟩
  | n + 1, h => by
    unfold lookT at h
    split at h
    · exact look_mem h
    · exact ⟨_, best_mem h⟩
theorem rs_in {P : Params} {Z : Tr} {l : Ledger} (I : TrIn P Z l) {q : List Bool} {o : Ro} (h : o ∈ Z.rs q) : o.In P l := by
  unfold Tr.rs at h
  split at h
  · cases h
  · rename_i d hd; exact (I.nd _ _ hd).ho o h

theorem c_best' (w mean mg mb) (Z : Tr) (p : List Bool) (d : Nd) (news : Ledger) (I : TrIn w.params Z news) (hp : Z p = some d) :
    Fn w mean mg mb 422 3 20 [.ref d.b] news (fun r n' => r = refO (best? (Z.rs p)) ∧ n' = news) := by
  have D := I.nd p d hp
  have := c_best w mean mg mb d.b d.bd d.rl d.k0 d.k1 d.k2 _ _ d.rs d.n news D.hb D.hd D.hr D.ho
  rwa [tr_rs_some hp]
theorem c_find (w mean mg mb) (wy wd : Addr) (k0 k1 : Tok) (Z : Tr) (many : Int) (x : Int) (t : Tok) (news : Ledger) (W : Ways w.params wy wd k0 k1 Z many news) (hlen : ∀ q, (Z.rs q).length < 1000) :
    Fn w mean mg mb 499 9 100 [.ref wy, .int x t] news (fun r n' => r = refO (lookT Z x 32) ∧ n' = news) := by
  unfold Fn; k_fill; intro dp un gd cn cs a ccd cl outer A₀ base h₀ L m s Q E B F X N T hk hdp hun hret
  obtain ⟨rt, tm, hrt, hw2⟩ := W.dict
  have hw1 := W.inst
  have I := W.tree
  have D := I.nd _ _ hrt
  have Db := D.hb
  have Dd := D.hd
  refine wpAny_call ?_; ktr_enter
  repeat' ((fail_if_success (with_reducible show wpAny _ _ (call (Value.ref 422) _) _ _ _)); walk_at "wc")
  refine fn_useW (c_best' w mean mg mb Z [] rt _ I hrt) (by k_asm) (by k_asm) (by k_asm) (by k_asm) (by k_asm) (by first | exact rfl | assumption) (by ktr_room) (by walk_at "un") ?_
  intro h' tk' F6 N6
  walk_at "w"
  (rename Fr _ _ _ _ => F1)
  (rename News _ _ _ _ => N1)
  refine While_inv2 (n₀ := 32) (fun n m nx => nx = news ∧ ∃ i tp, n + i = 32 ∧ m "branch" = some (Z.val (bits x i)) ∧ m "found" = some (refO (lookT Z x i)) ∧ m "place" = some (.int (i : Int) tp) ∧ m "address" = some (.int x t)) F1 N1 ⟨rfl, 0, _, rfl, by rw [bits_zero, Tr.val_some hrt]; rfl, rfl, rfl, rfl⟩ ?_
  rintro n m₁ nx h tk F2 N2 ⟨rfl, i, tp, hi, hb, hf, hpl, hx⟩
  clear F1 N1
  refine letFr (fr_knowL [("found", refO (lookT Z x i)), ("place", .int (i : Int) tp), ("address", .int x t)] F2 (And.intro hf (And.intro hpl (And.intro hx trivial)))) ?_
  clear F2
  intro mF F2
  rcases hz : Z (bits x i) with _ | d
  · skip
    refine letFr (fr_knowL [("branch", .none)] F2 (And.intro ((hb.trans (congrArg some (Tr.val_none hz)))) trivial)) ?_
    clear F2
    intro mF F2
    walk_at "w"
    exact hret _ _ _ _ (by k_asm) (by k_asm) ⟨by rw [look_stop I hz 32 (by omega)], rfl⟩
  · skip
    refine letFr (fr_knowL [("branch", .ref d.b)] F2 (And.intro ((hb.trans (congrArg some (Tr.val_some hz)))) trivial)) ?_
    clear F2
    intro mF F2
    have D := I.nd _ _ hz
    have Db := D.hb
    have Dd := D.hd
    repeat' ((fail_if_success (with_reducible show wpAny _ _ (call (Value.ref 436) _) _ _ _)); walk_at "wc")
    · have hi32 : i < 32 := by omega
      refine fn_useX (c_bit w mean mg mb x i _ _ _ hi32) (by k_asm) (by k_asm) (by k_asm) (by k_asm) (by k_asm) (by first | exact rfl | assumption) (by ktr_room) (by walk_at "un") ?_
      intro tb h' tk' F3 N3
      rcases hc : Z (bits x i ++ [bitAt x i]) with _ | e
      · repeat' ((fail_if_success (with_reducible show wpAny _ _ (call (Value.ref 401) _) _ _ _)); walk_at "wc")
        refine fn_useW (c_child' w mean mg mb Z (bits x i) d (bitAt x i) .none _ _ I hz (Tr.val_none hc)) (by k_asm) (by k_asm) (by k_asm) (by k_asm) (by k_asm) (by first | exact rfl | assumption) (by ktr_room) (by walk_at "un") ?_
        intro h' tk' F4 N4
        walk_at "w"
        rw [← bits_succ] at hc
        refine ⟨_, _, _, nx, n - 1, rfl, by k_asm, by k_asm, by omega, rfl, i + 1, _, by omega, ?_, ?_, rfl, rfl⟩
        · rw [Tr.val_none hc]; rfl
        · rw [look_skip (tr_rs_none hc)]; rfl
      · have De := I.nd _ _ hc
        have eb := De.hb
        have ed := De.hd
        have er := De.hr
        repeat' ((fail_if_success (with_reducible show wpAny _ _ (call (Value.ref 401) _) _ _ _)); walk_at "wc")
        refine fn_useW (c_child' w mean mg mb Z (bits x i) d (bitAt x i) (.ref e.b) _ _ I hz (Tr.val_some hc)) (by k_asm) (by k_asm) (by k_asm) (by k_asm) (by k_asm) (by first | exact rfl | assumption) (by ktr_room) (by walk_at "un") ?_
        intro h' tk' F4 N4
        have hrs : (e.rs.map fun o => Value.ref o.a).isEmpty = e.rs.isEmpty := by cases e.rs <;> rfl
        rw [← bits_succ] at hc
        repeat' ((fail_if_success (with_reducible show wpAny _ _ (call (Value.ref 422) _) _ _ _)); walk_at "wc")
        · rename ((e.rs.map fun o => Value.ref o.a).isEmpty = true) => hm
          rw [hrs, List.isEmpty_iff] at hm
          rename News _ _ _ _ => N9
          refine ⟨_, _, _, nx, n - 1, rfl, by k_asm, news_sub N9 fun _ h => .tail _ h, by omega, rfl, i + 1, _, by omega, ?_, ?_, rfl, rfl⟩
          · rw [Tr.val_some hc]; rfl
          · rw [look_skip (by rw [tr_rs_some hc, hm])]; rfl
        · rename ((e.rs.map fun o => Value.ref o.a).isEmpty = false) => hm
          have hm : Z.rs (bits x (i + 1)) ≠ [] := by
            rw [tr_rs_some hc]
            intro h
            rw [h] at hm
            cases hm
          refine fn_useW (c_best' w mean mg mb Z (bits x (i + 1)) e _ (tr_grow I fun _ h => .tail _ h) hc) (by k_asm) (by k_asm) (by k_asm) (by k_asm) (by k_asm) (by first | exact rfl | assumption) (by ktr_room) (by walk_at "un") ?_
          intro h' tk' F5 N5
          walk_at "w"
          rename News _ _ _ _ => N9
          refine ⟨_, _, _, nx, n - 1, rfl, by k_asm, news_sub N9 fun _ h => .tail _ h, by omega, rfl, i + 1, _, by omega, ?_, ?_, rfl, rfl⟩
          · rw [Tr.val_some hc]; rfl
          · rw [look_take hm]; rfl
    · have hi32 : i = 32 := by omega
      subst hi32
      exact hret _ _ _ _ (by k_asm) (by k_asm) ⟨rfl, rfl⟩

-- F_C14
/-- a tree of a root alone -/
noncomputable def bare (e : Nd) : Tr := fun q => if q = [] then some e else none
theorem bare_val {e : Nd} {b : Bool} : (bare e).val [b] = .none := rfl
theorem bare_in {P : Params} {l : Ledger} {e : Nd} (h1 : (e.b, instObj 425 e.bd) ∈ l) (h2 : (e.bd, brObj P e.k0 e.k1 e.k2 .none .none (.ref e.rl)) ∈ l) (h3 : (e.rl, listOf #[] 0) ∈ l) (hr : e.rs = []) (hn : e.n = 0) : TrIn P (bare e) l := by
  refine ⟨fun p d hp => ?_, fun p q d f hp hq _ => ?_, ⟨e, rfl⟩, fun p b d hp => ?_⟩
  · unfold bare at hp
    split at hp
    · rename_i h; subst h
      obtain rfl := Option.some.inj hp
      exact ⟨h1, h2, by rw [hr, hn]; exact h3, fun o ho => by rw [hr] at ho; cases ho⟩
    · cases hp
  · unfold bare at hp hq
    split at hp <;> split at hq
    · simp [*]
    · cases hq
    · cases hp
    · cases hp
  · unfold bare at hp
    split at hp
    · rename_i h; simp at h
    · cases hp
/-- nothing of the tree stood in l -/
structure Fresh (l : Ledger) (wd : Addr) (Z : Tr) : Prop where
  wd : Off l wd
  own : ∀ q e, Z q = some e → Off l e.bd ∧ Off l e.rl

theorem c_routes (w mean mg mb) (news : Ledger) :
    Fn w mean mg mb 509 20 200 [] news (fun r n' => ∃ wy wd k0 k1 Z, r = .ref wy ∧ Ways w.params wy wd k0 k1 Z 0 n' ∧ (∀ q, Z.rs q = []) ∧ (∀ p ∈ news, p ∈ n') ∧ Fresh news wd Z) := by
  unfold Fn; k_fill; intro dp un gd cn cs a ccd cl outer A₀ base h₀ L m s Q E B F X N T hk hdp hun hret
  refine' call_cls ?k1 ?k2 ?k3 ?k4 ?k5 ?k6 ?_; (case k1 => k_asm); (case k2 => k_asm); (case k3 => k_asm); (case k4 => k_is); (case k5 => k_is); (case k6 => k_is); k_whole; intro wy wd h' F' N' l1 l2; k_enter
  repeat' ((fail_if_success (with_reducible show wpAny _ _ (call (Value.ref 425) _) _ _ _)); walk_at "wc")
  refine fn_useE_6_7 (c_branch w mean mg mb _) (by k_asm) (by k_asm) (by k_asm) (by k_asm) (by k_asm) (by first | exact rfl | assumption) (by ktr_room) (by walk_at "un") ?_
  intro b bd rl q0 q1 q2 n4 h' tk' F5 N5 hs eb ed er o1 o2 o3
  have U5 := one_of N5
  have hy := hs _ (.head _)
  have hd := hs _ (.tail _ (.head _))
  have hne : wy ≠ wd := Nat.ne_of_gt l2
  have ob : bd ≠ wd := fun h => o2 _ (.tail _ (.head _)) h.symm
  have ol : rl ≠ wd := fun h => o3 _ (.tail _ (.head _)) h.symm
  have obb : b ≠ wd := fun h => o1 _ (.tail _ (.head _)) h.symm
  walk_at "w"
  rename News _ _ _ _ => N7
  have hy7 := news_put_mem N7 hy hne
  walk_at "w"
  rename News h₀ _ _ _ => kN
  have keep : ∀ p ∈ n4, p.1 ≠ wd → p ∈ _ := fun p hp hn => news_put_mem kN (mem_put_ne hp hn) hn
  refine hret _ _ _ _ (by k_asm) kN ⟨wy, wd, _, _, bare ⟨b, bd, rl, q0, q1, q2, [], 0⟩, rfl, ⟨keep _ hy hne, ⟨_, _, rfl, mem_put⟩, bare_in (keep _ eb obb) (keep _ ed ob) (keep _ er ol) rfl rfl⟩, fun q => ?_, fun p hp => keep _ (hs _ (.tail _ (.tail _ hp))) (Nat.ne_of_lt (l1 p hp)), ⟨off_lt l1 (Nat.le_refl _), fun q e hq => ?_⟩⟩
  · unfold Tr.rs bare
    split
    · rfl
    · rename_i h
      split at h
      · rw [← Option.some.inj h]
      · cases h
  · unfold bare at hq
    split at hq
    · rw [← Option.some.inj hq]
      exact ⟨fun p hp => o2 p (.tail _ (.tail _ hp)), fun p hp => o3 p (.tail _ (.tail _ hp))⟩
    · cases hq
end

-- F_X1
open PySem.Calls PySem.Builtin PySem.Builtin.ObjectAttr
section
variable {M : Model} {A : Around} {E : Value → Shared → Prop} {h : Heap} {g : Array GenState} {d : Drawn} {t : Nat} {os : OsState}
variable {nm q : Str} {C N : Addr} {bs bm bmB : List Value} {hdct : Bool} {sn : List Str} {sub : List Value} {ab : Bool} {col : Option Bool} {dd : Option Addr} {k0 k1 k2 k3 k5 : Option Value} {B newId initId : String}
theorem x_check_new (F : ExcBaseFacts B newId initId bmB) (cB : bm.contains (.type B) = true) {rest : List Value} {Q : Unit → Shared → Prop} (hC : h.get? C = some (excClassObj nm q C N bs bm hdct sn sub ab col dd k0 k1 k2 k3 k5 newId))
    (hq : Q () ⟨h, g, d, t, os⟩) : wpAny M A (checkBuiltinCall newId ⟨.ref C :: rest, []⟩) Q E ⟨h, g, d, t, os⟩ := by
  have hc : (Value.ref C :: bm).contains (.type B) = true := by rw [List.contains_cons, cB, Bool.or_true]
  have hs := F.noStar
  simp only [checkBuiltinCall, F.newKind, F.newSplit, F.newRow]
  repeat (first | refine wpAny_loadPart_at hC ?_ | (refine wpAny_isSubtype_exc hC ?_; rw [hc]) | refine wpAny_staticBase_exc hC ?_ | refine wpAny_madeBy_exc hC ?_ | simp only [bne_self_eq_false, Bool.false_eq_true, if_false] | wp_step)
  exact hq
end
section
variable {prog : Program} {w : World} {A : Around} {R : Result → Shared → Prop} {h : Heap} {g : Array GenState} {d : Drawn} {t : Nat} {os : OsState}
variable {nm q : Str} {C N : Addr} {bs bm bmB : List Value} {hdct : Bool} {sn : List Str} {sub : List Value} {ab : Bool} {col : Option Bool} {dd : Option Addr} {k0 k1 k2 k3 k5 : Option Value} {B newId initId : String}
theorem x_new (F : ExcBaseFacts B newId initId bmB) (cB : bm.contains (.type B) = true) (cA : bm.contains (.type "AttributeError") = false) (cN : bm.contains (.type "NameError") = false) {rest : List Value}
    (hC : h.get? C = some (excClassObj nm q C N bs bm hdct sn sub ab col dd k0 k1 k2 k3 k5 newId))
    (hq : R (.ok (.ret (.ref (h.objs.size + 1)))) ⟨(h.push { cls := .type "tuple", data := .seq rest.toArray }).push
      { cls := .ref C, data := .fields #[.ref h.objs.size, .none, .none, .none, .bool false, .none] }, g, d, t, os⟩) (hrest : rest.length ≤ sizeLine := by size_fits) :
    codeAny (model prog w) A (.builtin newId ⟨.ref C :: rest, []⟩) R ⟨h, g, d, t, os⟩ := by
  have he := F.ends
  have hcB : (Value.ref C :: bm).contains (.type B) = true := by rw [List.contains_cons, cB, Bool.or_true]
  have hcA : (Value.ref C :: bm).contains (.type "AttributeError") = false := by rw [List.contains_cons, cA]; rfl
  have hcN : (Value.ref C :: bm).contains (.type "NameError") = false := by rw [List.contains_cons, cN]; rfl
  refine codeAny_builtinAt F.entry ?_
  unfold Builtin.«BaseException.__new__»
  refine PySem.wpAt_bind ?_
  show PySem.wpAt _ _ _ (stack >>= _) _ _ _
  refine PySem.wpAt_bind (PySem.wpAt_stack fun p below => PySem.wpAt_of_wpAny ?_)
  wp_walk
  refine PySem.wpAt_of_wpAny ?_
  rw [F.owner]
  repeat (first | with_reducible refine wpAny_madeHere_exc F.canon hC ?_ | with_reducible refine wpAny_loadPart_at hC ?_ | (with_reducible refine wpAny_isSubtype_exc hC ?_; first | rw [hcB] | rw [hcA] | rw [hcN]) | wp_step)
  show R _ _
  rw [Heap.size_push]
  exact hq
noncomputable abbrev exObj (C : Addr) (dd : Option Addr) (t : Addr) : Obj := { cls := .ref C, dict := dd, data := .fields #[.ref t, .none, .none, .none, .bool false, .none] }
noncomputable abbrev tupOf (rest : List Value) : Obj := { cls := .type "tuple", data := .seq rest.toArray }
theorem x_core {K : Frag} {fI : Addr} {rest : List Value} {Q : Value → Shared → Prop} {E : Value → Shared → Prop} (X : K.In h) (F : ExcBaseFacts B newId initId bmB) (cB : bm.contains (.type B) = true) (cA : bm.contains (.type "AttributeError") = false) (cN : bm.contains (.type "NameError") = false)
    (hC : h.get? C = some (excClassObj nm q C N bs bm hdct sn sub ab col dd k0 k1 k2 k3 k5 newId)) (hi : findIn K (.ref C) "__init__" = some (some (.ref fI))) (hf : typeIn K (.ref fI) = some (.type "function"))
    (hrest : rest.length ≤ sizeLine)
    (hq : codeAny (model prog w) (A.under (.builtin "type.__call__" ⟨.ref C :: rest, []⟩)) (.call (.ref fI) ⟨.ref (h.objs.size + 1) :: rest, []⟩)
      (InitBack (h.objs.size + 1) fun r s' => match r with | .ok (.ret v) => Q v s' | .ok _ => False | .error e => E e s') ⟨(h.push (tupOf rest)).push (exObj C none h.objs.size), g, d, t, os⟩) :
    wpAny (model prog w) A (call (.ref C) rest) Q E ⟨h, g, d, t, os⟩ := by
  have f1 := tc_lookup
  have f2 := tc_bind (.ref C)
  have hT : (⟨h, g, d, t, os⟩ : Shared).TypeIs (.ref C) "type" := ⟨_, hC, rfl⟩
  refine wpAny_call (codeAny_of_tree ?_)
  show wpAny _ _ (callAny (.ref C) _) _ _ _
  repeat (any_goals (first | assumption | with_reducible refine wpAny_loadPart_at hC ?_ | wp_step))
  refine ⟨rfl, ?_⟩
  refine codeAny_call_builtin_at (Code.quiet_builtin _ (by decide +kernel)) entry_typeCall (wpAny_check_type_call_sub hC ?_)
  repeat (first | with_reducible refine wpAny_loadPart_at hC ?_ | with_reducible refine wpAny_madeBy_exc hC ?_ | wp_step)
  refine codeAny_call_builtin_code (Code.quiet_builtin _ F.quiet) (x_check_new F cB hC ?_)
  refine x_new F cB cA cN hC ?_ hrest
  show wpAny _ _ _ _ _ (⟨(h.push (tupOf rest)).push (exObj C none h.objs.size), g, d, t, os⟩ : Shared)
  have k : ∀ b o, h.get? b = some o → ((h.push (tupOf rest)).push (exObj C none h.objs.size)).get? b = some o := fun b o e => Heap.get?_push_of_some _ (Heap.get?_push_of_some _ e)
  have hC₁ := k _ _ hC
  have hget : ((h.push (tupOf rest)).push (exObj C none h.objs.size)).get? (h.objs.size + 1) = some (exObj C none h.objs.size) := by heap_get
  have hcC : (Value.ref C :: bm).contains (.ref C) = true := by simp
  have i1 : Looks (model prog w) ((h.push (tupOf rest)).push (exObj C none h.objs.size)) (typeLookup (.ref C) "__init__") (some (.ref fI)) := (looks_findIn X hi).keeps k
  have b1 : Looks (model prog w) ((h.push (tupOf rest)).push (exObj C none h.objs.size)) (bindSpecial (.ref fI) (.ref (h.objs.size + 1))) (.ref fI, [.ref (h.objs.size + 1)]) := (bind_fn X _ hf).keeps k
  unfold isInstance
  repeat (first | with_reducible refine wpAny_loadPart_at hget ?_ | wp_step)
  show wpAny _ _ (isSubtype (.ref C) (.ref C)) _ _ _
  refine wpAny_isSubtype_exc hC₁ ?_
  rw [hcC]
  have t1 : Looks (model prog w) ((h.push (tupOf rest)).push (exObj C none h.objs.size)) (typeOf (.ref (h.objs.size + 1))) (.ref C) := (Looks.ld hget).andThen .now
  unfold callSpecial? specialOf
  repeat (first | with_reducible refine wpAny_call ?_ | lk)
  refine codeAny_mono hq fun r s' z => ?_
  rcases r with e | (v | _ | _ | _) <;> first | exact z | exact z.elim | skip
  obtain ⟨rfl, z⟩ := z
  exact wpAny_pure (wpAny_pure z)
end
section
variable {prog : Program} {w : World} {A : Around} {E : Value → Shared → Prop} {s : Shared} {K : Frag} {h₀ : Heap} {L C e t : Addr} {m : Str → Option Value} {news : Ledger}
theorem x_set {cd : ClassData} {name : Str} {v : Value} {Q : Unit → Shared → Prop} (F : Fr h₀ L s.heap m) (N : News h₀ L s.heap ((e, exObj C none t) :: news)) (ho : ∀ p ∈ news, p.1 ≠ e) (X₀ : K.In h₀)
    (hs : findIn K (.ref C) "__setattr__" = some (some (.builtin "object.__setattr__"))) (hn : findIn K (.ref C) name = some none) (hc : clsIn K C = some cd) (hm : cd.mro.contains (.type "object") = true) (hne : cd.mro.isEmpty = false) (hd : cd.hasDict = true)
    (hp : ∀ self, refuseLoop self "__setattr__" cd.mro = pure ())
    (h : ∀ h' d tk, Fr h₀ L h' m → News h₀ L h' ((e, exObj C (some d) t) :: news) → Q () { s with heap := h', toks := tk }) :
    wpAny (model prog w) A (setAttr (.ref e) name v) Q E s := by
  have X := X₀.keeps F.keep
  have hx := (N _ (.head _)).1
  obtain ⟨hh, g, dr, tk, os⟩ := s
  dsimp only at F N X hx h ⊢
  have I : InstAt hh e (exObj C none t) C none := ⟨hx, rfl, rfl, trivial⟩
  refine set_plain X I hs ?_
  have SF := PySem.F.store_object
  have sub : Looks (model prog w) hh (isInstance (.ref e) (.type "object")) true := I.type.andThen (looks_mroIn X (by unfold mroIn; rw [hc, Option.bind_some, if_neg (by rw [hne]; decide), hm]))
  refine codeAny_call_builtin SF.slot.plain SF.entry (@check_slot (model prog w) _ _ ⟨hh, g, dr, tk + 1, os⟩ "object.__setattr__" "object" "__setattr__" (.ref e) [.str name tk, v] [] _ SF.kind SF.split sub (SF.args (.ref e) (.str name tk) v) ?_)
  have hmr : Looks (model prog w) hh (mroOf (.ref C)) cd.mro := (looks_clsIn X hc).andThen .now
  rw [osa_eq, refuse_eq]
  refine wpAny_bind (wpAny_bind (I.type.at (wpAny_bind (hmr.at ?_))))
  rw [hp]
  refine wpAny_pure (wpAny_bind (I.type.at (wpAny_bind ((looks_findIn X hn).at (wpAny_bind (wpAny_pure ?_))))))
  show wpAny _ _ (storeInOwnDict (.ref e) (.ref C) (.str name tk) name v false) _ _ _
  unfold storeInOwnDict ownStreamTells ownDictForStores instanceDict
  refine wpAny_bind (wpAny_pure (wpAny_bind (wpAny_bind (wpAny_loadPart hx (wpAny_bind ((looks_clsIn X hc).at ?_))))))
  rw [hd]
  have hx₁ : (hh.push { cls := .type "dict", data := .dict #[] }).get? e = some (exObj C none t) := Heap.get?_push_of_some _ hx
  have hxs : e ≠ hh.objs.size := Nat.ne_of_lt (Heap.lt_size hx)
  show wpAny _ _ (alloc { cls := .type "dict", data := .dict #[] } >>= fun d => (update e fun o => { cls := o.cls, dict := some d, data := o.data, slots := o.slots }) >>= fun _ => dictMade (.ref C) e d) _ _ _
  refine wpAny_bind (wpAny_alloc' (wpAny_bind (wpAny_update' hx₁ (wpAny_pure ?_))))
  have hgd : ((hh.push { cls := .type "dict", data := .dict #[] }).update e fun o => { cls := o.cls, dict := some hh.objs.size, data := o.data, slots := o.slots }).get? hh.objs.size
      = some { cls := .type "dict", data := .dict #[] } := (Heap.get?_update_ne _ _ _ _ hxs.symm).trans (Heap.get?_push_at rfl rfl)
  have hnd : ((hh.push { cls := .type "dict", data := .dict #[] }).update e fun o => { cls := o.cls, dict := some hh.objs.size, data := o.data, slots := o.slots }).Ns hh.objs.size (fun _ => none) :=
    ⟨_, #[], _, hgd, rfl, fun e he => absurd he (by simp), fun _ => rfl⟩
  show wpAny _ _ (storeInDict hh.objs.size (.str name tk) name v) _ _ _
  unfold storeInDict newKeyGuard
  refine wpAny_bind (wpAny_pure (wpAny_bind (wpAny_nsSet1 (Heap.Ns1.of_empty hnd) fun h' hn' hs => ?_)))
  obtain ⟨oD, esD, epD, hoD, hdD, hcD⟩ := hn'.count (Within.cons name v Within.nil)
  refine wpAny_bind (wpAny_lookBehind hoD (by rw [hdD]; exact pastItsLine_dict (Nat.le_trans hcD (by rw [List.length_cons, List.length_nil, sizeLine_eq]; omega))) ?_)
  have keep : ∀ b o, b ≠ e → hh.get? b = some o → h'.get? b = some o := fun b o hbe hb =>
    (hs.2 b (Nat.ne_of_lt (Heap.lt_size hb))).trans ((Heap.get?_update_ne _ _ _ _ hbe).trans (Heap.get?_push_of_some _ hb))
  have he' : h'.get? e = some (exObj C (some hh.objs.size) t) := (hs.2 e hxs).trans (Heap.get?_update_self _ hx₁ rfl)
  refine wpAny_pure (h h' hh.objs.size _ ?_ ?_)
  · obtain ⟨oL, es, ep, hL, r⟩ := F.ns
    exact ⟨⟨oL, es, ep, keep _ _ (fun q => (N _ (.head _)).2.1 q.symm) hL, r⟩, fun b o hb => keep b o (fun q => by have := (N _ (.head _)).2.2; dsimp only at this; rw [← q, hb] at this; cases this) (F.keep b o hb), F.above⟩
  · intro p hp
    rcases List.mem_cons.mp hp with rfl | hp
    · exact ⟨he', (N _ (.head _)).2⟩
    · exact ⟨keep _ _ (ho p hp) (N _ (.tail _ hp)).1, (N _ (.tail _ hp)).2⟩
end
section
variable {M : Model} {A : Around} {E : Value → Shared → Prop} {env : Env}
variable {nm q : Str} {C N : Addr} {bs bm : List Value} {hdct : Bool} {sn : List Str} {sub : List Value} {ab : Bool} {col : Option Bool} {dd : Option Addr} {k0 k1 k2 k3 k5 : Option Value} {newId : String}
theorem x_raise {s : Shared} {ex : PySem.Expr} {pos : Pos} {Q : Flow → Shared → Prop} (hbase : bm.contains (.type "BaseException") = true) (hh : A.handled = none)
    (h : wpAny M A (eval ex env) (fun v s₁ => ∃ a d t, v = .ref a ∧ s₁.heap.get? C = some (excClassObj nm q C N bs bm hdct sn sub ab col dd k0 k1 k2 k3 k5 newId) ∧
      s₁.heap.get? a = some (exObj C d t) ∧ E (.ref a) s₁) E s) :
    wpAny M A (exec (.Raise (some ex) none pos) env) Q E s := by
  have hcB : (Value.ref C :: bm).contains (.type "BaseException") = true := by rw [List.contains_cons, hbase, Bool.or_true]
  show wpAny M A (do standAt pos; raiseStmt env (some (do let v ← eval ex env; standAt pos; pure v)) none) Q E s
  refine wpAny_bind (wpAny_standAt ?_)
  unfold raiseStmt
  dsimp only
  refine wpAny_bind (wpAny_bind (wpAny_mono h (fun v s₁ h₁ => wpAny_bind (wpAny_standAt (wpAny_pure ?_))) fun _ _ x => x))
  obtain ⟨e, d', t, rfl, hC, he, hE⟩ := h₁
  obtain ⟨hp, g, d, tk, os⟩ := s₁
  repeat (first | with_reducible refine wpAny_loadPart_at he ?_ | with_reducible refine wpAny_loadPart_at hC ?_ | (with_reducible refine wpAny_isSubtype_exc hC ?_; rw [hcB]) | wp_step)
  exact wpAny_raiseNew_none hh hE
end
section
variable {M : Model} {A : Around} {s' : Shared} {base g : Heap} {outer : List Env} {L a C : Addr} {m : Str → Option Value} {name : Str} {scope : Scope} {cd : Value} {news : Ledger} {E : Value → Shared → Prop}
theorem x_leave {e t : Addr} {d : Option Addr} {vs : List Value} {news' : Ledger} {Q : Unit → Shared → Prop} (K : Below A base outer g) (F : Fr g L s'.heap m) (N : News g L s'.heap news) (he : (e, exObj C d t) ∈ news) (ht : (t, tupOf vs) ∈ news)
    (hn : ∀ p ∈ news', p ∈ news ∧ p.1 ≠ e ∧ p.1 ≠ t)
    (hQ : ∀ h', RaisedS base g outer e (.ref C) t vs news' h' → g.UpToSlots h' → Q () { s' with heap := h' }) (hk : scope.kind = .function := by rfl) :
    wpAny M (A.deeper (envOf name scope L a cd)) (leaving (envOf name scope L a cd) (.ref e)) Q E s' := by
  have K' := K.push (name := name) (a := a) (cd := cd) F hk
  generalize hFL : (envOf name scope L a cd :: outer).filterMap (·.frame) = FL
  have hin : ∀ env ∈ (envOf name scope L a cd :: outer), ∀ b, env.frame = some b → b ∈ e :: t :: FL := fun env he b hb => .tail _ (.tail _ (by rw [← hFL]; exact List.mem_filterMap.mpr ⟨env, he, hb⟩))
  have ne : base.get? e = none := fresh_of_stays K.stays (N _ he).2.2
  have nt : base.get? t = none := fresh_of_stays K.stays (N _ ht).2.2
  have st : base.StaysIn (hideAll s'.heap (e :: t :: FL)) := fun b o q => hideAll_get _ (K'.stays b o q) fun hm => by
    rcases List.mem_cons.mp hm with rfl | hm
    · rw [ne] at q; cases q
    · rcases List.mem_cons.mp hm with rfl | hm
      · rw [nt] at q; cases q
      · rw [← hFL] at hm
        rw [(K'.frames.mem hm).1] at q; cases q
  have sg : ∀ b o, g.get? b = some o → b ∉ outer.filterMap (·.frame) → (hideAll s'.heap (e :: t :: FL)).get? b = some o := fun b o q nm => hideAll_get _ (F.keep b o q) fun hm => by
    rcases List.mem_cons.mp hm with rfl | hm
    · have := (N _ he).2.2; dsimp only at this; rw [q] at this; cases this
    · rcases List.mem_cons.mp hm with rfl | hm
      · have := (N _ ht).2.2; dsimp only at this; rw [q] at this; cases this
      · rw [← hFL] at hm
        rcases kts_mem hm with z | z
        · rw [z, kts_self F] at q
          cases q
        · exact nm z
  have hl : ∀ q ∈ news', (hideAll s'.heap (e :: t :: FL)).get? q.1 = some q.2 ∧ g.get? q.1 = none ∧ base.get? q.1 = none := fun q hq => by
    obtain ⟨h1, h2, h3⟩ := hn q hq
    refine ⟨hideAll_get _ (N q h1).1 fun hm => ?_, (N q h1).2.2, fresh_of_stays K.stays (N q h1).2.2⟩
    rcases List.mem_cons.mp hm with h | hm
    · exact h2 h
    · rcases List.mem_cons.mp hm with h | hm
      · exact h3 h
      · rw [← hFL] at hm
        obtain ⟨env, he, hf⟩ := List.mem_filterMap.mp hm
        rcases List.mem_cons.mp he with rfl | he
        · exact (N q h1).2.1 (Option.some.inj hf).symm
        · obtain ⟨o, ho, _⟩ := (K.frames.mem (List.mem_filterMap.mpr ⟨env, he, hf⟩)).2
          rw [(N q h1).2.2] at ho; cases ho
  refine wpAny_leaving_firstW (base := hideAll s'.heap (e :: t :: FL)) (a0 := .ref t) K'.stack (funFrames_hide K'.frames hin) rfl (N _ he).1 (fun b o q => of_hideAll _ q) (hideAll_none _ (.head _)) rfl rfl rfl fun h' hL => ?_
  obtain ⟨k1, ⟨_, _, k2⟩, k3, k4⟩ := hL
  exact hQ h' ⟨⟨_, st, sg, hl, ⟨k1, hideAll_none _ (.head _), k2, k3⟩, hideAll_none _ (.tail _ (.head _))⟩, Heap.TupAt.of_slots ⟨_, _, (N _ ht).1, rfl, rfl⟩ k4⟩ ((Heap.UpToSlots.of_keeps F.keep).trans k4)
end
section
variable {prog : Program} {w : World} {A₀ A : Around} {s : Shared} {base h₀ : Heap} {env : Env} {L : Addr} {m : Str → Option Value} {news : Ledger} {K : Frag} {p : Program} {loose : List Str} {mean : ExcName → Option Value} {mg mb : Str → Option Value}
    {R : Result → Shared → Prop} {name qual : Str} {params : Arguments} {body : List Stmt} {scope : Scope} {dV kV doc pm cdv ct oc : Value} {an od : Option Addr} {osl : Array (Option Value)} {f : Addr} {args : Args} {binds : List (Str × Value)}
theorem x_def0 (B : Below A₀ base [] h₀) (F : Fr h₀ L s.heap m) (X₀ : K.In h₀) (N : News h₀ L s.heap news) (T : Top p loose mean mg mb h₀) (hA : A.frames = some [env]) (hf : env.frame = some L) (hke : env.scope.kind = .function)
    (ho : K.lookup f = some ⟨oc, od, .func (fnOf name qual params body scope dV kV doc pm an cdv ct), osl⟩) (hcd : codeIn K cdv qual = true) (hroom : A.depth < recursionLimit)
    (hbind : BindsTo s (fnOf name qual params body scope dV kV doc pm an cdv ct) args binds) (hloc : ∀ y ∈ binds, scope.names.lookup y.1 = some .local)
    (h : ∀ g L' h₁, Fr h₀ L g m → Fr g L' h₁ (fun y => binds.reverse.lookup y) → News g L' h₁ news → Below A base [env] g → K.In g → Top p loose mean mg mb g → KtsDicts ([env].filterMap (·.frame)) g →
      wpAny (model prog w) (A.deeper (envOf qual scope L' f cdv)) (execs body (envOf qual scope L' f cdv))
        (fun fl s' => LeaveS0 ([env].filterMap (·.frame)) h₀ L m g R (match fl with | .ret v => v | _ => .none) s')
        (fun e s' => wpAny (model prog w) (A.deeper (envOf qual scope L' f cdv)) (leaving (envOf qual scope L' f cdv) e) (fun _ s'' => R (.error e) s'') (fun e' s'' => R (.error e') s'') s')
        { s with heap := h₁, toks := s.toks + binds.length })
    (hco : scope.isCoroutine = false) (hgen : scope.isGenerator = false) (hk : scope.kind = .function)
    (hcell : ∀ x ∈ scope.names, x.2 ≠ .cell) : codeAny (model prog w) A (.call (.ref f) args) R s := by
  have X := X₀.keeps F.keep
  obtain ⟨FG, BG, st, _⟩ := groundX (R := R) B F N hA hf hke
  have FG' := FG
  obtain ⟨⟨oL, es, ep, hLg, hLd, hLk, hLf⟩, _, _⟩ := FG'
  have fm : [env].filterMap (·.frame) = [L] := by simp [hf]
  refine codeAny_call_def (fd := fnOf name qual params body scope dV kV doc pm an cdv ct) (body := body) (binds := binds) hroom (X _ _ ho) rfl (T.nolimit.keeps F.keep) (codeRec_of X hcd) rfl hbind hcell hloc (fun h₁ hns hk₁ => ?_) hco hgen hk
  refine wpAny_mono (h _ s.heap.objs.size h₁ FG ⟨hns, fun b o e => hk₁ b o (of_hideAll _ e), Nat.le_of_eq (hideAll_size _ _)⟩
    (fun p hp => ⟨hk₁ _ _ (N p hp).1, Nat.ne_of_lt (Heap.lt_size (N p hp).1), hideAll_none _ (List.mem_map_of_mem hp)⟩) BG (X₀.keeps st) (T.keeps st) (fun b hb => by
      rw [fm] at hb
      rw [List.mem_singleton.mp hb]
      exact ⟨oL, es, ep, hLg, hLd⟩)) (fun fl s' hl => ?_) fun _ _ y => y
  obtain ⟨g', L', m', news', T', F', N', k⟩ := hl
  have nL₀ : h₀.get? L = none := kts_self F
  obtain ⟨sl, hs⟩ := T'.up hLg
  refine k ⟨⟨_, es, ep, F'.keep _ _ hs, hLd, hLk, hLf⟩, fun b o e => F'.keep b o (T'.other b o (st b o e) (fun q => by
    rw [fm] at q
    rw [List.mem_singleton.mp q, nL₀] at e
    cases e)), F.above⟩ fun p hp => ⟨(N' p hp).1, fun q => ?_, ?_⟩
  · have := (N' p hp).2.2; rw [q, hs] at this; cases this
  · cases q : h₀.get? p.1 with
    | none => rfl
    | some o =>
      obtain ⟨sl', hs'⟩ := T'.up (st _ _ q)
      have := (N' p hp).2.2
      rw [hs'] at this
      cases this
end
inductive xIn (K : Frag) (C : Addr) : Prop
  | mk (nm qn : Str) (N : Addr) (bs bm : List Value) (hdct : Bool) (sn : List Str) (sub : List Value) (ab : Bool) (col : Option Bool) (dd : Option Addr) (k0 k1 k2 k3 k5 : Option Value)
    (hC : K.lookup C = some (excClassObj nm qn C N bs bm hdct sn sub ab col dd k0 k1 k2 k3 k5 "Exception.__new__")) (hb : bm.contains (.type "BaseException") = true) (hE : bm.contains (.type "Exception") = true) (hA : bm.contains (.type "AttributeError") = false) (hN : bm.contains (.type "NameError") = false) : xIn K C
section
variable {prog : Program} {w : World} {A : Around} {E : Value → Shared → Prop} {s : Shared} {K : Frag} {C L : Addr} {h₀ : Heap} {m : Str → Option Value} {news : Ledger}
theorem x_call {rest : List Value} {fI : Addr} {Q : Value → Shared → Prop} (F : Fr h₀ L s.heap m) (X₀ : K.In h₀) (N : News h₀ L s.heap news) (q : xIn K C) (hi : findIn K (.ref C) "__init__" = some (some (.ref fI))) (hf : typeIn K (.ref fI) = some (.type "function"))
    (hrest : rest.length ≤ sizeLine)
    (h : ∀ e t h', Fr h₀ L h' m → News h₀ L h' ((e, exObj C none t) :: (t, tupOf rest) :: news) → (∀ p ∈ news, p.1 < t) → t < e →
      codeAny (model prog w) (A.under (.builtin "type.__call__" ⟨.ref C :: rest, []⟩)) (.call (.ref fI) ⟨.ref e :: rest, []⟩) (InitBack e fun r s' => match r with | .ok (.ret v) => Q v s' | .ok _ => False | .error e => E e s') { s with heap := h' }) :
    wpAny (model prog w) A (call (.ref C) rest) Q E s := by
  obtain ⟨hh, g, d, tk, os⟩ := s
  have X := X₀.keeps F.keep
  obtain ⟨nm, qn, NS, bs, bm, hdct, sn, sub, ab, col, dd, k0, k1, k2, k3, k5, hC, hb, hE, hA, hN⟩ := q
  have N' := (N.push F (tupOf rest)).push (F.push _) (exObj C none hh.objs.size)
  rw [Heap.size_push] at N'
  exact x_core X PySem.F.excBase_Exception hE hA hN (X _ _ hC) hi hf hrest (h _ hh.objs.size _ ((F.push _).push _) N' (fun p hp => Heap.lt_size (N p hp).1) (Nat.lt_succ_self _))
noncomputable def XRaised (K : Frag) (C : Addr) (E : Value → Shared → Prop) (v : Value) (s₁ : Shared) : Prop := ∃ a d t L₁ m₁ g, v = .ref a ∧ Fr g L₁ s₁.heap m₁ ∧ K.In g ∧ s₁.heap.get? a = some (exObj C d t) ∧ E (.ref a) s₁
theorem x_raised {a L₁ t : Addr} {d : Option Addr} {m₁ : Str → Option Value} {g : Heap} {s₁ : Shared} {news : Ledger} (F : Fr g L₁ s₁.heap m₁) (X : K.In g) (N : News g L₁ s₁.heap news) (hm : (a, exObj C d t) ∈ news) (h : E (.ref a) s₁) : XRaised K C E (.ref a) s₁ :=
  ⟨a, d, t, L₁, m₁, g, rfl, F, X, (N _ hm).1, h⟩
theorem x_raiseK {env : Env} {ex : PySem.Expr} {pos : Pos} {Q : Flow → Shared → Prop} (F : Fr h₀ L s.heap m) (X₀ : K.In h₀) (q : xIn K C) (hh : A.handled = none)
    (h : wpAny (model prog w) A (eval ex env) (XRaised K C E) E s) :
    wpAny (model prog w) A (exec (.Raise (some ex) none pos) env) Q E s := by
  obtain ⟨nm, qn, NS, bs, bm, hdct, sn, sub, ab, col, dd, k0, k1, k2, k3, k5, hC, hb, hE, hA, hN⟩ := q
  refine x_raise (C := C) (nm := nm) (q := qn) (N := NS) (bs := bs) (bm := bm) (hdct := hdct) (sn := sn) (sub := sub) (ab := ab) (col := col) (dd := dd) (k0 := k0) (k1 := k1) (k2 := k2) (k3 := k3) (k5 := k5) (newId := "Exception.__new__") hb hh (wpAny_mono h (fun v s₁ h₁ => ?_) fun _ _ x => x)
  obtain ⟨a, d, t, L₁, m₁, g, rfl, F₁, X₁, he, hE'⟩ := h₁
  exact ⟨a, d, t, rfl, X₁.keeps F₁.keep _ _ hC, he, hE'⟩
end

-- F_C10b
noncomputable def Fn0 (w : World) (mean : ExcName → Option Value) (mg mb : Str → Option Value) (f : Addr) (d u : Nat) (args : List Value) (news : Ledger) (post : Value → Ledger → Prop) : Prop :=
  ∀ (dp un : Nat) (gd : Option (List Code)) (cn : Str) (cs : Scope) (a : Addr) (ccd : Value) (cl : List (Str × Addr)) (A₀ : Around) (base h₀ : Heap) (L : Addr) (m : Str → Option Value) (s : Shared)
    (Q E : Value → Shared → Prop),
    Below A₀ base [] h₀ → (hd.heap_39 w.params).In base → Top VW LS mean mg mb base → Fr h₀ L s.heap m → (hd.heap_39 w.params).In h₀ → News h₀ L s.heap news → Top VW LS mean mg mb h₀ → cs.kind = .function → dp + d < recursionLimit → un + u < cLine →
    (∀ r news' h' tk', Fr h₀ L h' m → News h₀ L h' news' → post r news' → Q r { s with heap := h', toks := tk' }) →
    wpAny (model PySem.Challenge.rw_xw0341_02.row.prog w) (ktrTop dp un gd cn cs L a ccd cl []) (call (.ref f) args) Q E s
section
variable {w : World} {mean : ExcName → Option Value} {mg mb : Str → Option Value} {f : Addr} {d u : Nat} {args : List Value} {news : Ledger} {post : Value → Ledger → Prop}
theorem fn0_use {dp un : Nat} {gd : Option (List Code)} {cn : Str} {cs : Scope} {a : Addr} {ccd : Value} {cl : List (Str × Addr)} {A₀ : Around} {base h₀ : Heap} {L : Addr} {m : Str → Option Value} {s : Shared}
    {Q E : Value → Shared → Prop} (C : Fn0 w mean mg mb f d u args news post)
    (B : Below A₀ base [] h₀) (XB : (hd.heap_39 w.params).In base) (TB : Top VW LS mean mg mb base) (F : Fr h₀ L s.heap m) (X : (hd.heap_39 w.params).In h₀) (N : News h₀ L s.heap news) (T : Top VW LS mean mg mb h₀) (hk : cs.kind = .function) (hd : dp + d < recursionLimit) (hu : un + u < cLine)
    (ret : ∀ r news' h' tk', Fr h₀ L h' m → News h₀ L h' news' → post r news' → Q r { s with heap := h', toks := tk' }) :
    wpAny (model PySem.Challenge.rw_xw0341_02.row.prog w) (ktrTop dp un gd cn cs L a ccd cl []) (call (.ref f) args) Q E s := C _ _ _ _ _ _ _ _ _ _ _ _ _ _ _ _ B XB TB F X N T hk hd hu ret
end
noncomputable abbrev lyObj (P : Params) (k0 k1 k2 k3 k4 t : Tok) (fa wy re : Addr) : Obj := dictOf [ent P "faces" k0 (.ref fa), ent P "routes" k1 (.ref wy), ent P "reassembly" k2 (.ref re), ent P "forwards" k3 (.bool false), ent P "last_ident" k4 (.int 0 t)] 5

-- F_C11
noncomputable abbrev srcObj (x1 x2 : Int) (t1 t2 : Tok) (n : Nat) : Obj := listOf [Value.int x1 t1, Value.int x2 t2].toArray n
theorem c_take (w mean mg mb) (D : Addr) (x1 x2 : Int) (t1 t2 t : Tok) (n : Nat) (top : Int) (news : Ledger) (hD : (D, srcObj x1 x2 t1 t2 n) ∈ news) (h0 : 0 ≤ x1) (h1 : 0 ≤ x2) (h2 : x2 < 2147483647) (ht : 0 < top) (ht' : top ≤ 65536) :
    Fn w mean mg mb 869 3 30 [.ref D, .int top t] news (fun r n' => ∃ v y1 y2 tv u1 u2, r = .int v tv ∧ 0 ≤ v ∧ v < top ∧ 0 ≤ y1 ∧ 0 ≤ y2 ∧ y2 < 2147483647 ∧ n' = put D (srcObj y1 y2 u1 u2 n) news) := by
  unfold Fn; k_fill; intro dp un gd cn cs a ccd cl outer A₀ base h₀ L m s Q E B F X N T hk hdp hun hret
  refine wpAny_call ?_; ktr_enter
  walk_at "w"
  · rename (0 < x1) => ha
    refine hret _ _ _ _ (by k_asm) (by k_asm) ⟨x1.fmod top, x1.fdiv top, x2, _, _, _, rfl, ?_, ?_, ?_, h1, h2, rfl⟩
    · rw [Int.fmod_eq_emod_of_nonneg _ (by omega)]; exact Int.emod_nonneg _ (by omega)
    · rw [Int.fmod_eq_emod_of_nonneg _ (by omega)]; exact Int.emod_lt_of_pos _ (by omega)
    · rw [Int.fdiv_eq_ediv_of_nonneg _ (by omega)]; exact Int.ediv_nonneg h0 (by omega)
  · refine hret _ _ _ _ (by k_asm) (by k_asm) ⟨((((x2 * 39373 + 7).fmod 2147483647 * (x2 * 39373 + 7).fmod 2147483647).fmod 2147483629).fdiv 32).fmod top, x1, (x2 * 39373 + 7).fmod 2147483647, _, _, _, rfl, ?_, ?_, h0, ?_, ?_, rfl⟩
    · rw [Int.fmod_eq_emod_of_nonneg _ (by omega)]; exact Int.emod_nonneg _ (by omega)
    · rw [Int.fmod_eq_emod_of_nonneg _ (by omega)]; exact Int.emod_lt_of_pos _ (by omega)
    · rw [Int.fmod_eq_emod_of_nonneg _ (by omega)]; exact Int.emod_nonneg _ (by omega)
    · rw [Int.fmod_eq_emod_of_nonneg _ (by omega)]; exact Int.emod_lt_of_pos _ (by omega)
/-- one of a list of ints is drawn -/
theorem c_one (w mean mg mb) (D G : Addr) (x1 x2 : Int) (t1 t2 : Tok) (n k : Nat) (vs : List Value) (news : Ledger) (hD : (D, srcObj x1 x2 t1 t2 n) ∈ news) (hG : (G, listOf vs.toArray k) ∈ news) (hne : G ≠ D) (h0 : 0 ≤ x1) (h1 : 0 ≤ x2) (h2 : x2 < 2147483647) (hv : 0 < vs.length) (hv' : vs.length ≤ 1000) :
    Fn w mean mg mb 876 5 50 [.ref D, .ref G] news (fun r n' => ∃ (i : Nat) (y1 y2 : Int) (u1 u2 : Tok), vs[i]? = some r ∧ 0 ≤ y1 ∧ 0 ≤ y2 ∧ y2 < 2147483647 ∧ n' = put D (srcObj y1 y2 u1 u2 n) news) := by
  unfold Fn; k_fill; intro dp un gd cn cs a ccd cl outer A₀ base h₀ L m s Q E B F X N T hk hdp hun hret
  refine wpAny_call ?_; ktr_enter
  repeat' ((fail_if_success (with_reducible show wpAny _ _ (call (Value.ref 869) _) _ _ _)); walk_at "wc")
  refine fn_use (c_take w mean mg mb D x1 x2 t1 t2 _ n (vs.length : Int) news hD h0 h1 h2 (by omega) (by omega)) (by k_asm) (by k_asm) (by k_asm) (by k_asm) (by k_asm) (by first | exact rfl | assumption) (by ktr_room) (by walk_at "un") ?_
  rintro _ _ h' tk' F6 N6 ⟨v, y1, y2, tv, u1, u2, rfl, hv0, hv1, hy1, hy2, hy3, rfl⟩
  have hG' := mem_put_ne (o := srcObj y1 y2 u1 u2 n) hG hne
  obtain ⟨r, hr⟩ : ∃ r, vs[v.toNat]? = some r := ⟨vs[v.toNat]'(by omega), by simp⟩
  walk_at "w"
  exact hret _ _ _ _ (by k_asm) (by k_asm) ⟨_, y1, y2, u1, u2, hr, hy1, hy2, hy3, rfl⟩

-- F_C15
/-- the pool of draws from the script's first cell -/
noncomputable def FnL (w : World) (mean : ExcName → Option Value) (mg mb : Str → Option Value) (f : Addr) (d u : Nat) (args : List Value) (l : Addr) (vs : List Value) (news : Ledger) (post : Value → Ledger → Prop) : Prop :=
  ∀ (dp un : Nat) (gd : Option (List Code)) (cn : Str) (cs : Scope) (a : Addr) (ccd : Value) (cl : List (Str × Addr)) (outer : List Env) (A₀ : Around) (base h₀ : Heap) (L : Addr) (m : Str → Option Value) (s : Shared)
    (Q E : Value → Shared → Prop),
    Below A₀ base outer h₀ → h₀.IsList l vs.toArray → Fr h₀ L s.heap m → (hd.heap_39 w.params).In h₀ → News h₀ L s.heap news → Top VW LS mean mg mb h₀ → cs.kind = .function → dp + d < recursionLimit → un + u < cLine →
    (∀ r news' h' tk', Fr h₀ L h' m → News h₀ L h' news' → post r news' → Q r { s with heap := h', toks := tk' }) →
    wpAny (model PySem.Challenge.rw_xw0341_02.row.prog w) (ktrTop dp un gd cn cs L a ccd cl outer) (call (.ref f) args) Q E s
theorem c_pool (w mean mg mb) (l : Addr) (vs : List Value) (ns : List Int) (t : Tok) (news : Ledger) (hi : IntsAre vs ns) (hlen : ns.length ≤ 63) :
    FnL w mean mg mb 862 5 50 [.ref l, .int 0 t] l vs news (fun r n' => ∃ D x1 x2 t1 t2, r = .ref D ∧ n' = (D, srcObj x1 x2 t1 t2 0) :: news ∧ (∀ p ∈ news, p.1 < D) ∧ 0 ≤ x1 ∧ 0 ≤ x2 ∧ x2 < 2147483647) := by
  unfold FnL; k_fill; intro dp un gd cn cs a ccd cl outer A₀ base h₀ L m s Q E B hl F X N T hk hdp hun hret
  refine wpAny_call ?_; ktr_enter
  rename Fr h₀ _ _ _ => FG
  have hl2 := hl.at (fun o e => FG.keep l o e)
  clear hl
  walk_at "w"
  all_goals (
    rename (∀ p ∈ news, p.1 < _) => l1
    refine hret _ _ _ _ (by k_asm) (by k_asm) ⟨_, _, _, _, _, rfl, rfl, l1, ?_, ?_, ?_⟩
    · exact Int.mul_nonneg (by split <;> omega) (by split <;> omega)
    · rw [Int.fmod_eq_emod_of_nonneg _ (by omega)]; exact Int.emod_nonneg _ (by omega)
    · rw [Int.fmod_eq_emod_of_nonneg _ (by omega)]; exact Int.emod_lt_of_pos _ (by omega))

-- O1
noncomputable def be16 (x : Int) : List UInt8 := [(x / 256 % 256).toNat.toUInt8, (x % 256).toNat.toUInt8]
theorem c_put16 (w mean mg mb) (x : Int) (t : Tok) (h0 : 0 ≤ x) (news : Ledger) :
    Fn w mean mg mb 84 3 30 [.int x t] news (fun r n' => n' = news ∧ ∃ t', r = .bytes (be16 x).toArray t') := by
  unfold Fn; k_fill; intro dp un gd cn cs a ccd cl outer A₀ base h₀ L m s Q E B F X N T hk hdp hun hret
  refine wpAny_call ?_; ktr_enter
  walk_at "w"
  rename News _ _ _ _ => N9
  refine bytes_K (ns := [x / 256 % 256, x % 256]) (by k_asm) N9 ⟨_, (N9 _ (.head _)).1, rfl, 0, rfl⟩ ?hi ?hr (Nat.le_of_ble_eq_true rfl) (by with_unfolding_all rfl) ?_
  case hi =>
    have e1 : Builtin.bitAnd (x.fdiv (2 ^ Int.toNat 8)) 255 = x / 256 % 256 := by
      rw [bitAnd_m8, show (2 : Int) ^ Int.toNat 8 = 256 from rfl, Int.fdiv_eq_ediv_of_nonneg _ (by decide)]
    have e2 : Builtin.bitAnd x 255 = x % 256 := bitAnd_m8 x
    rw [e1, e2]
    repeat (first | exact .nil | refine .cons _ _ ?_)
  case hr => intro n hn; simp at hn; omega
  intro h' t' k F9 N9 _
  k_whole
  walk_at "w"
  rename News _ _ _ _ => N10
  exact hret _ news _ _ (by k_asm) (fun p hp => N10 p (by first | exact hp | exact .tail _ hp)) ⟨rfl, _, rfl⟩
noncomputable def be32 (x : Int) : List UInt8 := be16 (x / 65536) ++ be16 x
theorem c_put32 (w mean mg mb) (x : Int) (t : Tok) (h0 : 0 ≤ x) (news : Ledger) :
    Fn w mean mg mb 91 5 60 [.int x t] news (fun r n' => n' = news ∧ ∃ t', r = .bytes (be32 x).toArray t') := by
  unfold Fn; k_fill; intro dp un gd cn cs a ccd cl outer A₀ base h₀ L m s Q E B F X N T hk hdp hun hret
  refine wpAny_call ?_; ktr_enter
  repeat' ((fail_if_success (with_reducible show wpAny _ _ (call (Value.ref 84) _) _ _ _)); walk_at "wc")
  have e1 : x.fdiv (2 ^ Int.toNat 16) = x / 65536 := by rw [show (2 : Int) ^ Int.toNat 16 = 65536 from rfl, Int.fdiv_eq_ediv_of_nonneg _ (by decide)]
  refine fn_useT (c_put16 _ _ _ _ _ _ (by rw [e1]; omega) news) (by k_asm) (by k_asm) (by k_asm) (by k_asm) (by k_asm) (by first | exact rfl | assumption) (by ktr_room) (by walk_at "un") ?_
  intro t1 h1 tk1 F1 N1
  repeat' ((fail_if_success (with_reducible show wpAny _ _ (call (Value.ref 84) _) _ _ _)); walk_at "wc")
  refine fn_useT (c_put16 _ _ _ _ _ _ h0 _) (by k_asm) (by k_asm) (by k_asm) (by k_asm) (by k_asm) (by first | exact rfl | assumption) (by ktr_room) (by walk_at "un") ?_
  intro t2 h2 tk2 F2 N2
  rw [e1]
  refine bytes_add_K (by show 2 + 2 ≤ 16777216; decide) rfl ?_
  intro t3 k3
  k_whole
  walk_at "w"
  rename News _ _ _ _ => N10
  exact hret _ _ _ _ (by k_asm) N10 ⟨rfl, _, rfl⟩

-- O2
theorem c_need (w mean mg mb) (b : List UInt8) (tb : Tok) (i n : Nat) (ta tn : Tok) (hn : i + n ≤ b.length) (hb : b.length ≤ 100000) (news : Ledger) :
    Fn w mean mg mb 98 3 30 [.bytes b.toArray tb, .int (i : Int) ta, .int (n : Int) tn] news (fun r n' => n' = news ∧ r = .none) := by
  unfold Fn; k_fill; intro dp un gd cn cs a ccd cl outer A₀ base h₀ L m s Q E B F X N T hk hdp hun hret
  refine wpAny_call ?_; ktr_enter
  walk_at "w"
  exact hret _ _ _ _ (by k_asm) (by k_asm) ⟨rfl, rfl⟩
theorem or_pow (k h l : Nat) (hl : l < 2 ^ k) : Builtin.bitOr ((h * 2 ^ k : Nat) : Int) (l : Int) = ((h * 2 ^ k : Nat) : Int) + l := by
  have e : Builtin.bitAnd ((h * 2 ^ k : Nat) : Int) (l : Int) = 0 := by
    rw [bitAnd_pp (Int.natCast_nonneg _) (Int.natCast_nonneg _), Int.toNat_natCast, Int.toNat_natCast]
    have : h * 2 ^ k &&& l = 0 := by
      apply Nat.eq_of_testBit_eq
      intro i
      rw [Nat.testBit_and, Nat.zero_testBit, Nat.mul_comm, Nat.testBit_two_pow_mul]
      by_cases hi : i < k
      · simp [Nat.not_le.mpr hi]
      · rw [Nat.testBit_lt_two_pow (Nat.lt_of_lt_of_le hl (Nat.pow_le_pow_right (by decide) (Nat.le_of_not_lt hi)))]; simp
    rw [this]; rfl
  rw [bitOr_and, e, Int.sub_zero]
theorem or256 (h l : Nat) (hl : l < 256) : Builtin.bitOr ((h : Int) * 256) (l : Int) = (h : Int) * 256 + l := or_pow 8 h l hl
/-- two octets as a number -/
noncomputable def rd16 (b : List UInt8) (a : Nat) : Int := (((b.getD a 0).toNat : Nat) : Int) * 256 + (((b.getD (a + 1) 0).toNat : Nat) : Int)
theorem c_get16 (w mean mg mb) (b : List UInt8) (tb : Tok) (i : Nat) (ta : Tok) (hn : i + 2 ≤ b.length) (hb : b.length ≤ 100000) (news : Ledger) :
    Fn w mean mg mb 105 5 60 [.bytes b.toArray tb, .int (i : Int) ta] news (fun r n' => n' = news ∧ ∃ t, r = .int (rd16 b i) t) := by
  unfold Fn; k_fill; intro dp un gd cn cs a ccd cl outer A₀ base h₀ L m s Q E B F X N T hk hdp hun hret
  refine wpAny_call ?_; ktr_enter
  repeat' ((fail_if_success (with_reducible show wpAny _ _ (call (Value.ref 98) _) _ _ _)); walk_at "wc")
  refine fn_useV (c_need _ _ _ _ b _ i 2 _ _ hn hb _) (by k_asm) (by k_asm) (by k_asm) (by k_asm) (by k_asm) (by first | exact rfl | assumption) (by ktr_room) (by walk_at "un") ?_
  intro h1 tk1 F1 N1
  have o1 : (((b.getD ((i : Int)).toNat 0).toNat : Nat) : Int) < 256 := by have := (b.getD ((i : Int)).toNat 0).toNat_lt; omega
  have o2 : (b.getD ((i : Int) + 1).toNat 0).toNat < 256 := (b.getD ((i : Int) + 1).toNat 0).toNat_lt
  walk_at "w"
  exact hret _ _ _ _ (by k_asm) (by k_asm) ⟨rfl, _, by
    rw [show (2 : Int) ^ Int.toNat 8 = 256 from rfl, or256 _ _ o2, show ((i : Int) + 1).toNat = i + 1 by omega, Int.toNat_natCast]; rfl⟩
noncomputable def rd32 (b : List UInt8) (i : Nat) : Int := rd16 b i * 65536 + rd16 b (i + 2)
theorem rd16_lt (b : List UInt8) (i : Nat) : 0 ≤ rd16 b i ∧ rd16 b i < 65536 := by
  have h1 := (b.getD i 0).toNat_lt
  have h2 := (b.getD (i + 1) 0).toNat_lt
  unfold rd16
  constructor <;> omega
theorem or65536 (h l : Nat) (hl : l < 65536) : Builtin.bitOr ((h : Int) * 65536) (l : Int) = (h : Int) * 65536 + l := or_pow 16 h l hl
theorem c_get32 (w mean mg mb) (b : List UInt8) (tb : Tok) (i : Nat) (ta : Tok) (hn : i + 4 ≤ b.length) (hb : b.length ≤ 100000) (news : Ledger) :
    Fn w mean mg mb 112 7 90 [.bytes b.toArray tb, .int (i : Int) ta] news (fun r n' => n' = news ∧ ∃ t, r = .int (rd32 b i) t) := by
  unfold Fn; k_fill; intro dp un gd cn cs a ccd cl outer A₀ base h₀ L m s Q E B F X N T hk hdp hun hret
  refine wpAny_call ?_; ktr_enter
  repeat' ((fail_if_success (with_reducible show wpAny _ _ (call (Value.ref 98) _) _ _ _)); walk_at "wc")
  refine fn_useV (c_need _ _ _ _ b _ i 4 _ _ hn hb _) (by k_asm) (by k_asm) (by k_asm) (by k_asm) (by k_asm) (by first | exact rfl | assumption) (by ktr_room) (by walk_at "un") ?_
  intro h1 tk1 F1 N1
  repeat' ((fail_if_success (with_reducible show wpAny _ _ (call (Value.ref 105) _) _ _ _)); walk_at "wc")
  refine fn_useT (c_get16 _ _ _ _ b _ i _ (by omega) hb _) (by k_asm) (by k_asm) (by k_asm) (by k_asm) (by k_asm) (by first | exact rfl | assumption) (by ktr_room) (by walk_at "un") ?_
  intro t2 h2 tk2 F2 N2
  obtain ⟨r0, r1⟩ := rd16_lt b i
  obtain ⟨q0, q1⟩ := rd16_lt b (i + 2)
  repeat' ((fail_if_success (with_reducible show wpAny _ _ (call (Value.ref 105) _) _ _ _)); walk_at "wc")
  rw [show (i : Int) + 2 = ((i + 2 : Nat) : Int) by omega]
  refine fn_useT (c_get16 _ _ _ _ b _ (i + 2) _ (by omega) hb _) (by k_asm) (by k_asm) (by k_asm) (by k_asm) (by k_asm) (by first | exact rfl | assumption) (by ktr_room) (by walk_at "un") ?_
  intro t3 h3 tk3 F3 N3
  obtain ⟨x, hx⟩ : ∃ x : Nat, rd16 b i = (x : Int) := ⟨(rd16 b i).toNat, by omega⟩
  obtain ⟨y, hy⟩ : ∃ y : Nat, rd16 b (i + 2) = (y : Int) := ⟨(rd16 b (i + 2)).toNat, by omega⟩
  walk_at "w"
  exact hret _ _ _ _ (by k_asm) (by k_asm) ⟨rfl, _, by
    rw [show (2 : Int) ^ Int.toNat 16 = 65536 from rfl, hx, hy, or65536 _ _ (by omega), ← hx, ← hy]; rfl⟩

-- O3
section
variable {prog : Program} {w : World} {A : Around} {E : Value → Shared → Prop} {s : Shared} {env : Env} {h₀ : Heap} {x : Str} {body : List Stmt} {Q : Flow → Shared → Prop}
theorem it_tup {l : Addr} {vs : List Value} {nn : Nat} {m₀ : Str → Option Value} {news : Ledger} (J : Nat → (Str → Option Value) → Ledger → Prop)
    (hh : A.handled = none) (hl : (l, ({ cls := .type "tuple", data := .seq vs.toArray nn } : Obj)) ∈ news) (F : Fr h₀ env.locals s.heap m₀) (N : News h₀ env.locals s.heap news) (hj : J 0 m₀ news)
    (turn : ∀ i v m₁ news₁ h tk I io, vs[i]? = some v → J i m₁ news₁ → (l, ({ cls := .type "tuple", data := .seq vs.toArray nn } : Obj)) ∈ news₁ → (∀ p ∈ news₁, p.1 ≠ I) → io.cls = .type "tuple_iterator" →
      Fr h₀ env.locals h (fun y => if y = x then some v else m₁ y) → News h₀ env.locals h ((I, io) :: news₁) →
      wpAny (model prog w) A (execs body env) (TurnEnd h₀ env.locals I io (fun m' nx => (l, ({ cls := .type "tuple", data := .seq vs.toArray nn } : Obj)) ∈ nx ∧ J (i + 1) m' nx) { s with heap := h, toks := tk } Q) E { s with heap := h, toks := tk })
    (done : ∀ m₁ news₁ h tk, J vs.length m₁ news₁ → Fr h₀ env.locals h m₁ → News h₀ env.locals h news₁ → Q .next { s with heap := h, toks := tk }) :
    wpAny (model prog w) A (pyIter (.ref l)) (fun it s₂ => LoopAtV prog w A h₀ env x body Q E it s₂) E s := by
  have hol : s.heap.get? l = some (({ cls := .type "tuple", data := .seq vs.toArray nn } : Obj)) := (N _ hl).1
  have hls : s.heap.IsTuple l vs.toArray := ⟨_, hol, rfl, nn, rfl⟩
  have hne : l ≠ s.heap.objs.size := Nat.ne_of_lt (Heap.lt_size hol)
  refine wpAny_pyIter_tuple hls ?_
  have W := Walks.tuple (prog := prog) (w := w) hh s.heap.objs.size l hne vs.toArray
  have hlen : vs.toArray.size = vs.length := by simp
  rw [hlen] at W
  refine ⟨s.heap.objs.size, _, _, vs.length, _, _, m₀, news, (fun i m nx => (l, ({ cls := .type "tuple", data := .seq vs.toArray nn } : Obj)) ∈ nx ∧ J i m nx), rfl, W, ?_, ?_, ?_, ⟨⟨_, Heap.get?_push_size _ rfl, rfl, rfl⟩, hls.at fun o e => Heap.get?_push_of_some _ e⟩, F.push _, (fun p hp => ⟨Heap.get?_push_of_some _ (N p hp).1, (N p hp).2⟩), ⟨hl, hj⟩, ?_, ?_⟩
  · intro hm
    rcases List.mem_cons.mp hm with e | hm
    · exact absurd F.ns.lt (e ▸ Nat.lt_irrefl _)
    · exact (N _ hl).2.1 ((List.mem_singleton.mp hm).symm)
  · intro b hb
    rw [List.mem_singleton.mp hb]
    exact next_is_new F
  · intro p hp hI
    exact absurd (Heap.lt_size (N p hp).1) ((List.mem_singleton.mp hI) ▸ Nat.lt_irrefl _)
  · rintro i v m₁ news₁ s₁ own ⟨hh', tk', rfl⟩ hin hP ⟨hl₁, hJ⟩ hoff hown hget hfp hst F₁ N₁
    have hlt' : i < vs.length := hin
    have hP' : vs[i]? = some v := by simpa using hP
    obtain ⟨⟨io, hio, hic, hid⟩, _⟩ := hst
    have hIo : (s.heap.objs.size, io) ∈ own := hfp _ (.head _) (next_is_new F) io hio
    have hlo : hh'.get? l = some (({ cls := .type "tuple", data := .seq vs.toArray nn } : Obj)) := (N₁ _ (List.mem_append.mpr (.inr hl₁))).1
    have hoffI : ∀ p ∈ news₁, p.1 ≠ s.heap.objs.size := fun p hp e => hoff p hp (by rw [e]; exact .head _)
    have N₂ : News h₀ env.locals hh' ((s.heap.objs.size, io) :: news₁) := fun p hp => by
      rcases List.mem_cons.mp hp with rfl | hp
      · exact N₁ _ (List.mem_append.mpr (.inl hIo))
      · exact N₁ _ (List.mem_append.mpr (.inr hp))
    refine wpAny_mono (turn i v m₁ news₁ hh' tk' _ io hP' hJ hl₁ hoffI hic F₁ N₂) (fun f s₂ p => ?_) fun _ _ e => e
    have fin : (∃ h' tk m' nx, s₂ = { { s with heap := hh', toks := tk' } with heap := h', toks := tk } ∧ Fr h₀ env.locals h' m' ∧ News h₀ env.locals h' ((s.heap.objs.size, io) :: nx) ∧ (∀ p ∈ nx, p.1 ≠ s.heap.objs.size) ∧ ((l, ({ cls := .type "tuple", data := .seq vs.toArray nn } : Obj)) ∈ nx ∧ J (i + 1) m' nx)) →
        LoopStepU h₀ env.locals [s.heap.objs.size] own (fun m nx => (l, ({ cls := .type "tuple", data := .seq vs.toArray nn } : Obj)) ∈ nx ∧ J (i + 1) m nx) { s with heap := hh', toks := tk' } .next s₂ := by
      rintro ⟨h', tk, m', nx, e, F', N', hI, hl2, hm⟩
      refine ⟨rfl, h', tk, m', nx, e, F', fun p hp => ?_, fun p hp hq => ?_, hl2, hm⟩
      · rcases List.mem_append.mp hp with h | h
        · rcases List.mem_cons.mp (hown p h) with h2 | h2
          · have h3 : hh'.get? p.1 = some p.2 := hget p h
            rw [h2, hio] at h3
            have h4 : p = (s.heap.objs.size, io) := Prod.ext h2 (Option.some.inj h3).symm
            rw [h4]; exact N' _ (.head _)
          · have h1 := List.mem_singleton.mp h2
            have h3 : hh'.get? p.1 = some p.2 := hget p h
            rw [h1, hlo] at h3
            have h4 : p = (l, ({ cls := .type "tuple", data := .seq vs.toArray nn } : Obj)) := Prod.ext h1 (Option.some.inj h3).symm
            rw [h4]; exact N' _ (.tail _ hl2)
        · exact N' p (.tail _ h)
      · exact hI p hp (List.mem_singleton.mp hq)
    cases f with
    | ret v => exact .ret p
    | brk => exact .brk p
    | next => exact .next (fin p)
    | cont => exact .cont (fin p)
  · rintro h' tk m' news' F' N' _ ⟨hl', hJ⟩
    exact done m' news' h' tk hJ F' N'
end

theorem c_fold (w mean mg mb) (x : Int) (t : Tok) (h0 : 0 ≤ x) (h1 : x < 4294967296) (news : Ledger) :
    Fn w mean mg mb 119 3 30 [.int x t] news (fun r n' => n' = news ∧ ∃ y t', r = .int y t' ∧ 0 ≤ y ∧ y ≤ 65535 ∧ y % 65535 = x % 65535 ∧ (0 < x → 0 < y)) := by
  unfold Fn; k_fill; intro dp un gd cn cs a ccd cl outer A₀ base h₀ L m s Q E B F X N T hk hdp hun hret
  refine wpAny_call ?_; ktr_enter
  walk_at "w"
  (rename Fr _ _ _ _ => F1)
  (rename News _ _ _ _ => N1)
  refine While_inv2 (n₀ := x.toNat) (fun n m nx => nx = news ∧ ∃ y t, m "total" = some (.int y t) ∧ y = (n : Int) ∧ y < 4294967296 ∧ y % 65535 = x % 65535 ∧ (0 < x → 0 < y)) F1 N1 ⟨rfl, x, _, rfl, by omega, h1, rfl, id⟩ ?_
  rintro n m₁ nx h tk F2 N2 ⟨rfl, y, ty, hy, rfl, hy1, hy2, hy3⟩
  clear F1 N1
  replace F2 := fr_know F2 hy
  walk_at "w"
  · refine ⟨_, _, _, nx, n % 65536 + n / 65536, rfl, by k_asm, by k_asm, by omega, rfl, _, _, rfl, ?_, ?_, ?_, ?_⟩
    · rw [bitAnd_m16, show (2 : Int) ^ Int.toNat 16 = 65536 from rfl, Int.fdiv_eq_ediv_of_nonneg _ (by decide)]; omega
    · rw [bitAnd_m16, show (2 : Int) ^ Int.toNat 16 = 65536 from rfl, Int.fdiv_eq_ediv_of_nonneg _ (by decide)]; omega
    · rw [bitAnd_m16, show (2 : Int) ^ Int.toNat 16 = 65536 from rfl, Int.fdiv_eq_ediv_of_nonneg _ (by decide)]; omega
    · rw [bitAnd_m16, show (2 : Int) ^ Int.toNat 16 = 65536 from rfl, Int.fdiv_eq_ediv_of_nonneg _ (by decide)]; omega
  · exact hret _ _ _ _ (by k_asm) (by k_asm) ⟨rfl, _, _, rfl, by omega, by omega, hy2, hy3⟩
/-- the sum of the first i words of two octets -/
noncomputable def wsum (b : List UInt8) : Nat → Int
  | 0 => 0
  | i + 1 => wsum b i + rd16 b (2 * i)
theorem wsum_in (b : List UInt8) : ∀ i, 0 ≤ wsum b i ∧ wsum b i ≤ 65535 * (i : Int)
  | 0 => ⟨Int.le_refl _, Int.le_refl _⟩
  | i + 1 => by
    have h1 := wsum_in b i
    have h2 := rd16_lt b (2 * i)
    unfold wsum
    omega
theorem size_two (n : Nat) : Builtin.Range.rangeSize 0 (2 * (n : Int)) 2 = (n : Int) := by
  unfold Builtin.Range.rangeSize
  simp only [show (2 : Int) > 0 by decide, if_true]
  split <;> omega
theorem small_two {n : Nat} (hn : n ≤ 1000) : Builtin.Range.small 0 (2 * (n : Int)) 2 = true := by
  unfold Builtin.Range.small
  rw [size_two]
  rw [if_pos (by decide)]
  simp only [Builtin.Range.rangeFitsLong, Bool.and_eq_true, Bool.or_eq_true, decide_eq_true_eq, beq_iff_eq]
  omega
theorem c_ones (w mean mg mb) (b : List UInt8) (tb t0 : Tok) (n : Nat) (hb : b.length = 2 * n) (hn : n ≤ 1000) (news : Ledger) :
    Fn w mean mg mb 127 5 60 [.bytes b.toArray tb, .int 0 t0] news (fun r n' => n' = news ∧ ∃ y t', r = .int y t' ∧ 0 ≤ y ∧ y ≤ 65535 ∧ y % 65535 = wsum b n % 65535 ∧ (0 < wsum b n → 0 < y)) := by
  unfold Fn; k_fill; intro dp un gd cn cs a ccd cl outer A₀ base h₀ L m s Q E B F X N T hk hdp hun hret
  refine wpAny_call ?_; k_enter
  walk_at "w"
  have e2 : ((b.toArray.size : Int) - (b.toArray.size : Int).fmod 2) = 2 * (n : Int) := by
    rw [Int.fmod_eq_emod_of_nonneg _ (by decide)]; simp [hb]
  (rename Fr _ _ _ _ => lF); with_unfolding_all refine' For_invVF lF ?k1 ?k2 ?_; (case k1 => exact rfl); (case k2 => exact rfl)
  walk_at "w"
  (rename IsRange _ _ _ _ _ _ _ _ => hRg)
  (rename Fr _ _ _ _ => F1)
  (rename News _ _ _ _ => N1)
  rw [e2] at hRg
  refine it_rangeS (n := n) (fun i m nx => nx = news ∧ ∃ tt te, m "octets" = some (.bytes b.toArray tb) ∧ m "total" = some (.int (wsum b i) tt) ∧ m "even" = some (.int (2 * (n : Int)) te)) rfl hRg (small_two hn) (size_two n) F1 N1 ⟨rfl, _, _, rfl, rfl, (by rw [← e2]; rfl)⟩ ?_ ?_
  · rintro i ti m₁ nx h tk Ia io hi ⟨rfl, tt, te, ho, hto, hev⟩ hoff hio F2 N2
    clear F1 N1 hRg
    rw [show (0 : Int) + (i : Int) * 2 = ((2 * i : Nat) : Int) by omega] at F2
    refine letFr (fr_knowL [("octets", .bytes b.toArray tb), ("total", .int (wsum b i) tt), ("even", .int (2 * (n : Int)) te)] F2 (And.intro ho (And.intro hto (And.intro hev trivial)))) ?_
    clear F2
    intro mF F2
    have o1 : (((b.getD (((2 * i : Nat) : Int)).toNat 0).toNat : Nat) : Int) < 256 := by have := (b.getD (((2 * i : Nat) : Int)).toNat 0).toNat_lt; omega
    have o2 : (b.getD (((2 * i : Nat) : Int) + 1).toNat 0).toNat < 256 := (b.getD (((2 * i : Nat) : Int) + 1).toNat 0).toNat_lt
    have w1 := wsum_in b i
    have e5 : wsum b i + Builtin.bitOr ((((b.getD (((2 * i : Nat) : Int)).toNat 0).toNat : Nat) : Int) * 2 ^ Int.toNat 8) (((b.getD (((2 * i : Nat) : Int) + 1).toNat 0).toNat : Nat) : Int) = wsum b (i + 1) := by
      rw [show (2 : Int) ^ Int.toNat 8 = 256 from rfl, or256 _ _ o2, show (((2 * i : Nat) : Int) + 1).toNat = 2 * i + 1 by omega, Int.toNat_natCast]
      rfl
    walk_at "w"
    rename Fr _ _ _ _ => F9
    exact turn_end nx F9 (by k_asm) hoff ⟨rfl, _, _, rfl, (by rw [← e5]; rfl), rfl⟩
  · rintro m₁ nx h tk ⟨rfl, tt, te, ho, hto, hev⟩ F2 N2
    clear F1 N1 hRg
    refine letFr (fr_knowL [("octets", .bytes b.toArray tb), ("total", .int (wsum b n) tt), ("even", .int (2 * (n : Int)) te)] F2 (And.intro ho (And.intro hto (And.intro hev trivial)))) ?_
    clear F2
    intro mF F2
    have w1 := wsum_in b n
    repeat' ((fail_if_success (with_reducible show wpAny _ _ (call (Value.ref 119) _) _ _ _)); walk_at "wc")
    refine fn_use (c_fold _ _ _ _ (wsum b n) _ w1.1 (by omega) _) (by k_asm) (by k_asm) (by k_asm) (by k_asm) (by k_asm) (by first | exact rfl | assumption) (by ktr_room) (by walk_at "un") ?_
    rintro _ _ h3 tk3 F3 N3 ⟨rfl, y, ty, rfl, y0, y1, y2, y3⟩
    walk_at "w"
    exact hret _ _ _ _ (by k_asm) (by k_asm) ⟨rfl, y, _, rfl, y0, y1, y2, y3⟩
theorem c_check (w mean mg mb) (b : List UInt8) (tb : Tok) (n : Nat) (hb : b.length = 2 * n) (hn : n ≤ 1000) (news : Ledger) :
    Fn w mean mg mb 135 7 90 [.bytes b.toArray tb] news (fun r n' => n' = news ∧ ∃ y t', r = .int (65535 - y) t' ∧ 0 ≤ y ∧ y ≤ 65535 ∧ y % 65535 = wsum b n % 65535 ∧ (0 < wsum b n → 0 < y)) := by
  unfold Fn; k_fill; intro dp un gd cn cs a ccd cl outer A₀ base h₀ L m s Q E B F X N T hk hdp hun hret
  refine wpAny_call ?_; k_enter
  repeat' ((fail_if_success (with_reducible show wpAny _ _ (call (Value.ref 127) _) _ _ _)); walk_at "wc")
  refine fn_use (c_ones _ _ _ _ b _ _ n hb hn _) (by k_asm) (by k_asm) (by k_asm) (by k_asm) (by k_asm) (by first | exact rfl | assumption) (by ktr_room) (by walk_at "un") ?_
  rintro _ _ h3 tk3 F3 N3 ⟨rfl, y, ty, rfl, y0, y1, y2, y3⟩
  walk_at "w"
  exact hret _ _ _ _ (by k_asm) (by k_asm) ⟨rfl, y, _, rfl, y0, y1, y2, y3⟩

-- O4
/-- a header's data -/
structure Hd where
  src : Int
  tgt : Int
  proto : Int
  ident : Int
  ttl : Int
  tos : Int
  dont : Bool
  more : Bool
  off : Int
noncomputable abbrev Hd.part (h : Hd) (o : Int) (mo : Bool) : Hd := { h with off := o, more := mo }
noncomputable abbrev Hd.like (h : Hd) (x y : Int) : Hd := { h with src := x, ttl := y }
noncomputable abbrev Hd.obj (P : Params) (k t : Nat → Tok) (h : Hd) : Obj := dictOf [ent P "source" (k 0) (.int h.src (t 0)), ent P "target" (k 1) (.int h.tgt (t 1)), ent P "protocol" (k 2) (.int h.proto (t 2)), ent P "ident" (k 3) (.int h.ident (t 3)), ent P "ttl" (k 4) (.int h.ttl (t 4)), ent P "tos" (k 5) (.int h.tos (t 5)), ent P "dont" (k 6) (.bool h.dont), ent P "more" (k 7) (.bool h.more), ent P "offset" (k 8) (.int h.off (t 8)), ent P "options" (k 9) (.bytes #[] (t 9))] 10
/-- the header stands in the ledger -/
inductive Hd.In (P : Params) (a : Addr) (h : Hd) (l : Ledger) : Prop
  | mk (d : Addr) (k t : Nat → Tok) (h1 : (a, instObj 188 d) ∈ l) (h2 : (d, h.obj P k t) ∈ l) : Hd.In P a h l
theorem Hd.In.mono {P : Params} {a : Addr} {h : Hd} {l l' : Ledger} (x : h.In P a l) (hs : ∀ p ∈ l, p ∈ l') : h.In P a l' := by
  obtain ⟨d, k, t, h1, h2⟩ := x
  exact ⟨d, k, t, hs _ h1, hs _ h2⟩
noncomputable def tokOf (l : List Tok) (n : Nat) : Tok := l.getD n 0
theorem hd_mk {P : Params} {a d : Addr} {h : Hd} {l : Ledger} {k0 k1 k2 k3 k4 k5 k6 k7 k8 k9 t0 t1 t2 t3 t4 t5 t8 t9 : Tok} (h1 : (a, instObj 188 d) ∈ l)
    (h2 : (d, dictOf [ent P "source" k0 (.int h.src t0), ent P "target" k1 (.int h.tgt t1), ent P "protocol" k2 (.int h.proto t2), ent P "ident" k3 (.int h.ident t3), ent P "ttl" k4 (.int h.ttl t4), ent P "tos" k5 (.int h.tos t5), ent P "dont" k6 (.bool h.dont), ent P "more" k7 (.bool h.more), ent P "offset" k8 (.int h.off t8), ent P "options" k9 (.bytes #[] t9)] 10) ∈ l) : h.In P a l :=
  ⟨d, tokOf [k0, k1, k2, k3, k4, k5, k6, k7, k8, k9], tokOf [t0, t1, t2, t3, t4, t5, t5, t5, t8, t9], h1, h2⟩

theorem c_header (w mean mg mb) (h : Hd) (t0 t1 t2 t3 t4 t5 t8 t9 : Tok) (news : Ledger) :
    Fn w mean mg mb 188 3 30 [.int h.src t0, .int h.tgt t1, .int h.proto t2, .int h.ident t3, .int h.ttl t4, .int h.tos t5, .bool h.dont, .bool h.more, .int h.off t8, .bytes #[] t9] news
      (fun r n' => ∃ a, r = .ref a ∧ h.In w.params a n' ∧ (∀ p ∈ news, p ∈ n') ∧ Off news a) := by
  unfold Fn; k_fill; intro dp un gd cn cs a ccd cl outer A₀ base h₀ L m s Q E B F X N T hk hdp hun hret
  k_steps
  rename (∀ p ∈ news, p.1 < _) => l1
  rename @LT.lt Addr _ _ _ => l2
  exact hret _ _ _ _ (by k_asm) (by k_asm) ⟨_, rfl, hd_mk (.head _) (.tail _ (.head _)), fun p hp => .tail _ (.tail _ hp), off_lt l1 (Nat.le_of_lt l2)⟩
theorem c_size (w mean mg mb) (h : Hd) (a : Addr) (news : Ledger) (hh : h.In w.params a news) :
    Fn w mean mg mb 157 3 30 [.ref a] news (fun r n' => n' = news ∧ ∃ t, r = .int 20 t) := by
  obtain ⟨d, k, t, h1, h2⟩ := hh
  unfold Fn; k_fill; intro dp un gd cn cs a' ccd cl outer A₀ base h₀ L m s Q E B F X N T hk hdp hun hret
  refine wpAny_call ?_; ktr_enter; repeat' ((fail_if_success (with_reducible show wpAny _ _ (exec (Stmt.For _ _ _ _ _) _) _ _ _)); (fail_if_success (with_reducible show wpAny _ _ (pyIter _) _ _ _)); (fail_if_success (with_reducible show wpAny _ _ (exec (Stmt.Raise _ _ _) _) _ _ _)); (fail_if_success (with_reducible show wpAny _ _ (exec (Stmt.While _ _ _ _) _) _ _ _)); first | (k_unfold; (try dsimp only)) | walk1 | (dsimp only; walk1) | (leave1; (try dsimp only)))
  exact hret _ _ _ _ (by k_asm) (by k_asm) ⟨rfl, _, rfl⟩
/-- a header's row -/
noncomputable def Hd.row (h : Hd) : List Dat := [.int h.src, .int h.tgt, .int h.proto, .int h.ident, .int h.ttl, .int h.tos, .bool h.dont, .bool h.more, .int h.off, .bytes #[]]
theorem c_part (w mean mg mb) (h : Hd) (a : Addr) (o : Int) (mo : Bool) (to t9 : Tok) (news : Ledger) (hh : h.In w.params a news) :
    Fn w mean mg mb 302 5 60 [.ref a, .int o to, .bool mo, .bytes #[] t9] news (fun r n' => ∃ b, r = .ref b ∧ (h.part o mo).In w.params b n' ∧ (∀ p ∈ news, p ∈ n') ∧ Off news b) := by
  obtain ⟨d, k, t, h1, h2⟩ := hh
  unfold Fn; k_fill; intro dp un gd cn cs a' ccd cl outer A₀ base h₀ L m s Q E B F X N T hk hdp hun hret
  refine wpAny_call ?_; k_enter
  repeat' ((fail_if_success (with_reducible show wpAny _ _ (call (Value.ref 188) _) _ _ _)); walk_at "wc")
  refine fn_useE_1_3 (c_header _ _ _ _ (h.part o mo) _ _ _ _ _ _ _ _ _) (by k_asm) (by k_asm) (by k_asm) (by k_asm) (by k_asm) (by first | exact rfl | assumption) (by ktr_room) (by walk_at "un") ?_
  intro b n1 h3 tk3 F3 N3 hb hs ho
  walk_at "w"
  exact hret _ _ _ _ (by k_asm) (by k_asm) ⟨b, rfl, hb, hs, ho⟩
theorem c_like (w mean mg mb) (h : Hd) (a : Addr) (x y : Int) (tx ty : Tok) (news : Ledger) (hh : h.In w.params a news) :
    Fn w mean mg mb 541 5 60 [.ref a, .int x tx, .int y ty] news (fun r n' => ∃ b, r = .ref b ∧ (h.like x y).In w.params b n' ∧ (∀ p ∈ news, p ∈ n') ∧ Off news b) := by
  obtain ⟨d, k, t, h1, h2⟩ := hh
  unfold Fn; k_fill; intro dp un gd cn cs a' ccd cl outer A₀ base h₀ L m s Q E B F X N T hk hdp hun hret
  refine wpAny_call ?_; k_enter
  repeat' ((fail_if_success (with_reducible show wpAny _ _ (call (Value.ref 188) _) _ _ _)); walk_at "wc")
  refine fn_useE_1_3 (c_header _ _ _ _ (h.like x y) _ _ _ _ _ _ _ _ _) (by k_asm) (by k_asm) (by k_asm) (by k_asm) (by k_asm) (by first | exact rfl | assumption) (by ktr_room) (by walk_at "un") ?_
  intro b n1 h3 tk3 F3 N3 hb hs ho
  walk_at "w"
  exact hret _ _ _ _ (by k_asm) (by k_asm) ⟨b, rfl, hb, hs, ho⟩

-- O5
/-- a header that can be told -/
structure Hd.Ok (h : Hd) : Prop where
  s0 : 0 ≤ h.src
  s1 : h.src < 4294967296
  g0 : 0 ≤ h.tgt
  g1 : h.tgt < 4294967296
  p0 : 0 ≤ h.proto
  p1 : h.proto < 256
  i0 : 0 ≤ h.ident
  i1 : h.ident < 65536
  t0 : 0 ≤ h.ttl
  t1 : h.ttl < 256
  o0 : 0 ≤ h.tos
  o1 : h.tos < 256
  f0 : 0 ≤ h.off
  f1 : h.off % 8 = 0
  f2 : h.off < 65536
theorem c_within (w mean mg mb) (x : Int) (n : Nat) (t tn : Tok) (hn : n ≤ 32) (h0 : 0 ≤ x) (h1 : x < 2 ^ n) (news : Ledger) :
    Fn w mean mg mb 199 3 30 [.int x t, .int (n : Int) tn] news (fun r n' => n' = news ∧ r = .bool true) := by
  unfold Fn; k_fill; intro dp un gd cn cs a ccd cl outer A₀ base h₀ L m s Q E B F X N T hk hdp hun hret
  refine wpAny_call ?_; k_enter
  k_steps
  exact hret _ _ _ _ (by k_asm) (by k_asm) ⟨rfl, by rw [Int.toNat_natCast, decide_eq_true h1]⟩
theorem c_fields (w mean mg mb) (h : Hd) (a : Addr) (news : Ledger) (hh : h.In w.params a news) (ok : h.Ok) :
    Fn w mean mg mb 206 5 60 [.ref a] news (fun r n' => n' = news ∧ r = .none) := by
  obtain ⟨d, k, t, h1, h2⟩ := hh
  obtain ⟨s0, s1, g0, g1, p0, p1, i0, i1, t0, t1, o0, o1, f0, f1, f2⟩ := ok
  have fm : h.off.fmod 8 = 0 := by rw [Int.fmod_eq_emod_of_nonneg _ (by decide)]; exact f1
  have fd : h.off.fdiv 8 = h.off / 8 := Int.fdiv_eq_ediv_of_nonneg _ (by decide)
  unfold Fn; k_fill; intro dp un gd cn cs a' ccd cl outer A₀ base h₀ L m s Q E B F X N T hk hdp hun hret
  refine wpAny_call ?_; k_enter
  walk_at "w"
  (rename Fr _ _ _ _ => lF); with_unfolding_all refine' For_invVF lF ?k1 ?k2 ?_; (case k1 => exact rfl); (case k2 => exact rfl)
  walk_at "w"
  (rename Fr _ _ _ _ => F1)
  (rename News _ _ _ _ => N1)
  refine it_tup (vs := [.int h.src (t 0), .int h.tgt (t 1)]) (fun i m nx => nx = _ ∧ m "header" = some (.ref a)) rfl (.head _) F1 N1 ⟨rfl, rfl⟩ ?_ ?_
  · rintro i v m₁ nx hp tk I io hv ⟨rfl, hf⟩ hl hI hio F2 N2
    clear F1 N1
    obtain ⟨x, tx, rfl, x0, x1⟩ : ∃ x tx, v = .int x tx ∧ 0 ≤ x ∧ x < 4294967296 := by
      have hm := List.mem_of_getElem? hv
      simp only [List.mem_cons, List.not_mem_nil, or_false] at hm
      rcases hm with rfl | rfl
      all_goals exact ⟨_, _, rfl, by assumption, by assumption⟩
    replace F2 := fr_know F2 (y0 := "header") (v0 := .ref a) (by rw [if_neg (by decide)]; exact hf)
    repeat' ((fail_if_success (with_reducible show wpAny _ _ (call (Value.ref 199) _) _ _ _)); walk_at "wc")
    refine fn_useV (c_within _ _ _ _ x 32 _ _ (by decide) x0 x1 _) (by k_asm) (by k_asm) (by k_asm) (by k_asm) (by k_asm) (by first | exact rfl | assumption) (by ktr_room) (by walk_at "un") ?_
    intro h3 tk3 F3 N3
    walk_at "w"
    exact turn_end _ (by k_asm) (by k_asm) hI ⟨hl, rfl, rfl⟩
  rintro m₁ nx hp tk ⟨rfl, hf⟩ F2 N2
  clear F1 N1
  replace F2 := fr_know F2 hf
  replace N2 := news_sub N2 (fun _ h => List.Mem.tail _ h)
  walk_at "w"
  (rename Fr _ _ _ _ => lF); with_unfolding_all refine' For_invVF lF ?k1 ?k2 ?_; (case k1 => exact rfl); (case k2 => exact rfl)
  walk_at "w"
  (rename Fr _ _ _ _ => F1)
  (rename News _ _ _ _ => N1)
  refine it_tup (vs := [.int h.proto (t 2), .int h.ttl (t 4), .int h.tos (t 5)]) (fun i m nx => nx = _ ∧ m "header" = some (.ref a)) rfl (.head _) F1 N1 ⟨rfl, rfl⟩ ?_ ?_
  · rintro i v m₁ nx hp tk I io hv ⟨rfl, hf⟩ hl hI hio F2 N2
    clear F1 N1
    obtain ⟨x, tx, rfl, x0, x1⟩ : ∃ x tx, v = .int x tx ∧ 0 ≤ x ∧ x < 256 := by
      have hm := List.mem_of_getElem? hv
      simp only [List.mem_cons, List.not_mem_nil, or_false] at hm
      rcases hm with rfl | rfl | rfl
      all_goals exact ⟨_, _, rfl, by assumption, by assumption⟩
    replace F2 := fr_know F2 (y0 := "header") (v0 := .ref a) (by rw [if_neg (by decide)]; exact hf)
    repeat' ((fail_if_success (with_reducible show wpAny _ _ (call (Value.ref 199) _) _ _ _)); walk_at "wc")
    refine fn_useV (c_within _ _ _ _ x 8 _ _ (by decide) x0 x1 _) (by k_asm) (by k_asm) (by k_asm) (by k_asm) (by k_asm) (by first | exact rfl | assumption) (by ktr_room) (by walk_at "un") ?_
    intro h3 tk3 F3 N3
    walk_at "w"
    exact turn_end _ (by k_asm) (by k_asm) hI ⟨hl, rfl, rfl⟩
  rintro m₁ nx hp tk ⟨rfl, hf⟩ F2 N2
  clear F1 N1
  replace F2 := fr_know F2 hf
  replace N2 := news_sub N2 (fun _ h => List.Mem.tail _ h)
  repeat' ((fail_if_success (with_reducible show wpAny _ _ (call (Value.ref 199) _) _ _ _)); walk_at "wc")
  refine fn_useV (c_within _ _ _ _ h.ident 16 _ _ (by decide) i0 i1 _) (by k_asm) (by k_asm) (by k_asm) (by k_asm) (by k_asm) (by first | exact rfl | assumption) (by ktr_room) (by walk_at "un") ?_
  intro h3 tk3 F3 N3
  repeat' ((fail_if_success (with_reducible show wpAny _ _ (call (Value.ref 199) _) _ _ _)); walk_at "wc")
  · exact absurd fm (by assumption)
  refine fn_useV (c_within _ _ _ _ (h.off.fdiv 8) 13 _ _ (by decide) (by rw [fd]; omega) (by rw [fd]; omega) _) (by k_asm) (by k_asm) (by k_asm) (by k_asm) (by k_asm) (by first | exact rfl | assumption) (by ktr_room) (by walk_at "un") ?_
  intro h3 tk3 F3 N3
  walk_at "w"
  exact hret _ _ _ _ (by k_asm) (by k_asm) ⟨rfl, rfl⟩
theorem c_csize (w mean mg mb) (h : Hd) (a : Addr) (b : List UInt8) (tb : Tok) (news : Ledger) (hh : h.In w.params a news) (hb : b.length ≤ 1000) :
    Fn w mean mg mb 213 5 60 [.ref a, .bytes b.toArray tb] news (fun r n' => n' = news ∧ r = .none) := by
  have H := hh
  obtain ⟨d, k, t, h1, h2⟩ := hh
  unfold Fn; k_fill; intro dp un gd cn cs a' ccd cl outer A₀ base h₀ L m s Q E B F X N T hk hdp hun hret
  refine wpAny_call ?_; k_enter
  repeat' ((fail_if_success (with_reducible show wpAny _ _ (call (Value.ref 157) _) _ _ _)); walk_at "wc")
  refine fn_useT (c_size _ _ _ _ h a _ H) (by k_asm) (by k_asm) (by k_asm) (by k_asm) (by k_asm) (by first | exact rfl | assumption) (by ktr_room) (by walk_at "un") ?_
  intro t3 h3 tk3 F3 N3
  repeat' ((fail_if_success (with_reducible show wpAny _ _ (call (Value.ref 157) _) _ _ _)); walk_at "wc")
  refine fn_useT (c_size _ _ _ _ h a _ H) (by k_asm) (by k_asm) (by k_asm) (by k_asm) (by k_asm) (by first | exact rfl | assumption) (by ktr_room) (by walk_at "un") ?_
  intro t4 h4 tk4 F4 N4
  walk_at "w"
  exact hret _ _ _ _ (by k_asm) (by k_asm) ⟨rfl, rfl⟩
theorem c_flags (w mean mg mb) (h : Hd) (a : Addr) (news : Ledger) (hh : h.In w.params a news) (ok : h.Ok) :
    Fn w mean mg mb 220 5 60 [.ref a] news (fun r n' => n' = news ∧ ∃ t, r = .int (h.off / 8 + (if h.dont then 16384 else 0) + (if h.more then 8192 else 0)) t) := by
  obtain ⟨d, k, t, h1, h2⟩ := hh
  obtain ⟨s0, s1, g0, g1, p0, p1, i0, i1, t0, t1, o0, o1, f0, f1, f2⟩ := ok
  have fm : h.off.fmod 8 = 0 := by rw [Int.fmod_eq_emod_of_nonneg _ (by decide)]; exact f1
  have fd : h.off.fdiv 8 = h.off / 8 := Int.fdiv_eq_ediv_of_nonneg _ (by decide)
  unfold Fn; k_fill; intro dp un gd cn cs a' ccd cl outer A₀ base h₀ L m s Q E B F X N T hk hdp hun hret
  refine wpAny_call ?_; k_enter
  k_steps
  all_goals exact hret _ _ _ _ (by k_asm) (by k_asm) ⟨rfl, _, by simp only [fd, *, if_true, Bool.false_eq_true, if_false, Int.add_zero]; rfl⟩

-- P6
/-- the flags' word of a header -/
noncomputable def Hd.flags (h : Hd) : Int := h.off / 8 + (if h.dont then 16384 else 0) + (if h.more then 8192 else 0)
noncomputable def by8 (x : Int) : UInt8 := x.toNat.toUInt8
/-- a head's twenty octets, their whole size and sum told -/
noncomputable def hdOct (h : Hd) (n c : Int) : List UInt8 := [69, by8 h.tos] ++ (be16 n ++ be16 h.ident ++ be16 h.flags) ++ [by8 h.ttl, by8 h.proto] ++ be16 c ++ (be32 h.src ++ be32 h.tgt ++ [])
theorem be16_len (x : Int) : (be16 x).length = 2 := rfl
theorem be32_len (x : Int) : (be32 x).length = 4 := rfl
theorem hdOct_len (h : Hd) (n c : Int) : (hdOct h n c).length = 20 := rfl
theorem by8_nat {x : Int} (h0 : 0 ≤ x) (h1 : x < 256) : (((by8 x).toNat : Nat) : Int) = x := byte_back h0 h1
theorem flag_sum {y a b : Int} (h0 : 0 ≤ y) (h1 : y < 8192) (a0 : 0 ≤ a) (a1 : a ≤ 16384) (b0 : 0 ≤ b) (b1 : b ≤ 8192) : 0 ≤ y + a + b ∧ y + a + b < 65536 := by omega
theorem flags_in {h : Hd} (ok : h.Ok) : 0 ≤ h.flags ∧ h.flags < 65536 :=
  flag_sum (Int.ediv_nonneg ok.f0 (by decide)) (Int.ediv_lt_of_lt_mul (by decide) (show h.off < 8192 * 8 from ok.f2)) (by cases h.dont <;> decide) (by cases h.dont <;> decide) (by cases h.more <;> decide) (by cases h.more <;> decide)
theorem lo8 (x : Int) : (((x / 256 % 256).toNat.toUInt8.toNat : Nat) : Int) * 256 + (((x % 256).toNat.toUInt8.toNat : Nat) : Int) = x % 65536 := by
  rw [byte_back (by omega) (by omega), byte_back (by omega) (by omega)]; omega
theorem two8 {x : Int} (h0 : 0 ≤ x) (h1 : x < 65536) : (((x / 256 % 256).toNat.toUInt8.toNat : Nat) : Int) * 256 + (((x % 256).toNat.toUInt8.toNat : Nat) : Int) = x := (lo8 x).trans (Int.emod_eq_of_lt h0 h1)
theorem oct0 (h : Hd) (n c : Int) (p : List UInt8) : (hdOct h n c ++ p).getD 0 0 = 69 := rfl
theorem oct1 (h : Hd) (n c : Int) (p : List UInt8) : (hdOct h n c ++ p).getD 1 0 = by8 h.tos := rfl
theorem oct8 (h : Hd) (n c : Int) (p : List UInt8) : (hdOct h n c ++ p).getD 8 0 = by8 h.ttl := rfl
theorem oct9 (h : Hd) (n c : Int) (p : List UInt8) : (hdOct h n c ++ p).getD 9 0 = by8 h.proto := rfl
theorem w2 (h : Hd) {n : Int} (c : Int) (p : List UInt8) (h0 : 0 ≤ n) (h1 : n < 65536) : rd16 (hdOct h n c ++ p) 2 = n := two8 h0 h1
theorem w4 {h : Hd} (n c : Int) (p : List UInt8) (ok : h.Ok) : rd16 (hdOct h n c ++ p) 4 = h.ident := two8 ok.i0 ok.i1
theorem w6 {h : Hd} (n c : Int) (p : List UInt8) (ok : h.Ok) : rd16 (hdOct h n c ++ p) 6 = h.flags := two8 (flags_in ok).1 (flags_in ok).2
theorem w10 (h : Hd) (n : Int) {c : Int} (p : List UInt8) (h0 : 0 ≤ c) (h1 : c < 65536) : rd16 (hdOct h n c ++ p) 10 = c := two8 h0 h1
theorem hi8 {x : Int} (h0 : 0 ≤ x) (h1 : x < 4294967296) : (((x / 65536 / 256 % 256).toNat.toUInt8.toNat : Nat) : Int) * 256 + (((x / 65536 % 256).toNat.toUInt8.toNat : Nat) : Int) = x / 65536 := two8 (by omega) (by omega)
theorem w12 {h : Hd} (n c : Int) (p : List UInt8) (ok : h.Ok) : rd32 (hdOct h n c ++ p) 12 = h.src := by
  have e1 : rd16 (hdOct h n c ++ p) 12 = h.src / 65536 := hi8 ok.s0 ok.s1
  have e2 : rd16 (hdOct h n c ++ p) (12 + 2) = h.src % 65536 := lo8 h.src
  unfold rd32
  rw [e1, e2]; omega
theorem w16 {h : Hd} (n c : Int) (p : List UInt8) (ok : h.Ok) : rd32 (hdOct h n c ++ p) 16 = h.tgt := by
  have e1 : rd16 (hdOct h n c ++ p) 16 = h.tgt / 65536 := hi8 ok.g0 ok.g1
  have e2 : rd16 (hdOct h n c ++ p) (16 + 2) = h.tgt % 65536 := lo8 h.tgt
  unfold rd32
  rw [e1, e2]; omega
theorem take20 (h : Hd) (n c : Int) (p : List UInt8) : (hdOct h n c ++ p).take 20 = hdOct h n c := List.take_left' (hdOct_len h n c)
theorem drop20 (h : Hd) (n c : Int) (p : List UInt8) : (hdOct h n c ++ p).drop 20 = p := List.drop_left' (hdOct_len h n c)
/-- the sum of the words, with a sum in its place -/
theorem wsum_c (h : Hd) (n : Int) {c : Int} (h0 : 0 ≤ c) (h1 : c < 65536) : wsum (hdOct h n c) 10 = wsum (hdOct h n 0) 10 + c := by
  have e : ∀ i, i ≠ 5 → i < 10 → rd16 (hdOct h n c) (2 * i) = rd16 (hdOct h n 0) (2 * i) := by
    intro i hi hj
    rcases i with _ | _ | _ | _ | _ | _ | _ | _ | _ | _ | i
    · rfl
    · rfl
    · rfl
    · rfl
    · rfl
    · exact absurd rfl hi
    · rfl
    · rfl
    · rfl
    · rfl
    · exact absurd hj (Nat.not_lt.mpr (Nat.le_add_left 10 i))
  have e5 := w10 h n [] h0 h1
  rw [List.append_nil] at e5
  have e6 := w10 h n (c := 0) [] (by decide) (by decide)
  rw [List.append_nil] at e6
  have f0 := e 0 (by decide) (by decide)
  have f1 := e 1 (by decide) (by decide)
  have f2 := e 2 (by decide) (by decide)
  have f3 := e 3 (by decide) (by decide)
  have f4 := e 4 (by decide) (by decide)
  have f6 := e 6 (by decide) (by decide)
  have f7 := e 7 (by decide) (by decide)
  have f8 := e 8 (by decide) (by decide)
  have f9 := e 9 (by decide) (by decide)
  simp only [wsum, Nat.mul_zero, Nat.reduceMul] at f0 f1 f2 f3 f4 f6 f7 f8 f9 ⊢
  rw [f0, f1, f2, f3, f4, f6, f7, f8, f9, e5, e6]; omega
theorem wsum_pos (h : Hd) (n c : Int) : 0 < wsum (hdOct h n c) 10 := by
  have a1 := rd16_lt (hdOct h n c) 2
  have a2 := rd16_lt (hdOct h n c) 4
  have a3 := rd16_lt (hdOct h n c) 6
  have a4 := rd16_lt (hdOct h n c) 8
  have a5 := rd16_lt (hdOct h n c) 10
  have a6 := rd16_lt (hdOct h n c) 12
  have a7 := rd16_lt (hdOct h n c) 14
  have a8 := rd16_lt (hdOct h n c) 16
  have a9 := rd16_lt (hdOct h n c) 18
  have a0 : rd16 (hdOct h n c) 0 = 69 * 256 + (((by8 h.tos).toNat : Nat) : Int) := rfl
  simp only [wsum, Nat.mul_zero, Nat.reduceMul]
  omega
/-- a packet that says the head and the payload -/
noncomputable def Packed (h : Hd) (p o : List UInt8) : Prop := ∃ c, 0 ≤ c ∧ c < 65536 ∧ o = hdOct h (20 + (p.length : Int)) c ++ p ∧ wsum (hdOct h (20 + (p.length : Int)) c) 10 % 65535 = 0
theorem packed_of {h : Hd} {p : List UInt8} {y : Int} (y0 : 0 ≤ y) (y1 : y ≤ 65535) (y2 : y % 65535 = wsum (hdOct h (20 + (p.length : Int)) 0) 10 % 65535) :
    Packed h p (hdOct h (20 + (p.length : Int)) (65535 - y) ++ p) := by
  refine ⟨65535 - y, by omega, by omega, rfl, ?_⟩
  rw [wsum_c h _ (by omega) (by omega)]; omega
theorem and_pow (y i : Nat) : y &&& 2 ^ i = if y.testBit i then 2 ^ i else 0 := by
  apply Nat.eq_of_testBit_eq
  intro j
  rw [Nat.testBit_and, Nat.testBit_two_pow]
  by_cases hj : i = j
  · subst hj
    cases h : y.testBit i <;> simp [Nat.testBit_two_pow]
  · cases h : y.testBit i <;> simp [hj, Nat.testBit_two_pow]
theorem and_bits (x : Nat) (hx : x < 8192) (d m : Bool) : ((x + (if d then 16384 else 0) + (if m then 8192 else 0)) &&& 8191 = x) ∧ (((x + (if d then 16384 else 0) + (if m then 8192 else 0)) &&& 16384 = 0) ↔ d = false) ∧ (((x + (if d then 16384 else 0) + (if m then 8192 else 0)) &&& 8192 = 0) ↔ m = false) := by
  have e1 : ∀ y : Nat, y &&& 8191 = y % 8192 := fun y => Nat.and_two_pow_sub_one_eq_mod y 13
  have e2 : ∀ y : Nat, y &&& 16384 = 0 ↔ y / 16384 % 2 ≠ 1 := fun y => by
    rw [show (16384 : Nat) = 2 ^ 14 from rfl, and_pow, Nat.testBit_eq_decide_div_mod_eq]
    split <;> simp_all
  have e3 : ∀ y : Nat, y &&& 8192 = 0 ↔ y / 8192 % 2 ≠ 1 := fun y => by
    rw [show (8192 : Nat) = 2 ^ 13 from rfl, and_pow, Nat.testBit_eq_decide_div_mod_eq]
    split <;> simp_all
  have key : ∀ k : Nat, (x + 8192 * k) % 8192 = x ∧ (x + 8192 * k) / 16384 = k / 2 ∧ (x + 8192 * k) / 8192 = k := fun k => by
    have h1 : (x + 8192 * k) / 8192 = k := by rw [Nat.add_mul_div_left _ _ (by decide), Nat.div_eq_of_lt hx, Nat.zero_add]
    refine ⟨by rw [Nat.add_mul_mod_self_left, Nat.mod_eq_of_lt hx], ?_, h1⟩
    rw [show (16384 : Nat) = 8192 * 2 from rfl, ← Nat.div_div_eq_div_mul, h1]
  obtain ⟨k, hk, k1, k2⟩ : ∃ k, (x + (if d then 16384 else 0) + (if m then 8192 else 0)) = x + 8192 * k ∧ (k / 2 % 2 ≠ 1 ↔ d = false) ∧ (k % 2 ≠ 1 ↔ m = false) := by
    cases d <;> cases m
    · exact ⟨0, rfl, by decide, by decide⟩
    · exact ⟨1, rfl, by decide, by decide⟩
    · exact ⟨2, rfl, by decide, by decide⟩
    · exact ⟨3, by rw [Nat.add_assoc]; rfl, by decide, by decide⟩
  rw [e1, e2, e3, hk]
  obtain ⟨q1, q2, q3⟩ := key k
  rw [q1, q2, q3]
  exact ⟨rfl, k1, k2⟩

-- O6
theorem add_P {prog : Program} {w : World} {A : Around} {E : Value → Shared → Prop} {s : Shared} {b c : List UInt8} {t u : Tok} {Q : Value → Shared → Prop} (hz : b.length + c.length ≤ 100000) (h : ∀ t' k, Q (.bytes (b ++ c).toArray t') { s with toks := k }) :
    wpAny (model prog w) A (binaryOp .Add (.bytes b.toArray t) (.bytes c.toArray u)) Q E s := bytes_add_K (by simp; omega) rfl h
local macro_rules | `(tactic| walk_at "binaryOp Add bytes bytes") => `(tactic| (k_here; refine' add_P ?z ?_; (case z => (simp only [hdOct_len, be16_len, be32_len, List.length_append, List.length_map, List.length_cons, List.length_nil]; omega)); intro _ _))
theorem c_pack (w mean mg mb) (h : Hd) (a : Addr) (p : List UInt8) (tp : Tok) (news : Ledger) (hh : h.In w.params a news) (ok : h.Ok) (hp : p.length ≤ 1000) :
    Fn w mean mg mb 227 12 150 [.ref a, .bytes p.toArray tp] news (fun r n' => n' = news ∧ ∃ o t, r = .bytes (List.toArray o) t ∧ Packed h p o) := by
  have H := hh
  obtain ⟨d, k, t, h1, h2⟩ := hh
  have hps : (p.toArray.size : Int) = (p.length : Int) := by simp
  unfold Fn; k_fill; intro dp un gd cn cs a' ccd cl outer A₀ base h₀ L m s Q E B F X N T hk hdp hun hret
  refine wpAny_call ?_; k_enter
  repeat' ((fail_if_success (with_reducible show wpAny _ _ (call (Value.ref 206) _) _ _ _)); walk_at "wc")
  refine fn_useV (c_fields _ _ _ _ h a _ H ok) (by k_asm) (by k_asm) (by k_asm) (by k_asm) (by k_asm) (by first | exact rfl | assumption) (by ktr_room) (by walk_at "un") ?_
  intro h3 tk3 F3 N3
  repeat' ((fail_if_success (with_reducible show wpAny _ _ (call (Value.ref 213) _) _ _ _)); walk_at "wc")
  refine fn_useV (c_csize _ _ _ _ h a p _ _ H hp) (by k_asm) (by k_asm) (by k_asm) (by k_asm) (by k_asm) (by first | exact rfl | assumption) (by ktr_room) (by walk_at "un") ?_
  intro h4 tk4 F4 N4
  repeat' ((fail_if_success (with_reducible show wpAny _ _ (call (Value.ref 157) _) _ _ _)); walk_at "wc")
  refine fn_useT (c_size _ _ _ _ h a _ H) (by k_asm) (by k_asm) (by k_asm) (by k_asm) (by k_asm) (by first | exact rfl | assumption) (by ktr_room) (by walk_at "un") ?_
  intro t5 h5 tk5 F5 N5
  walk_at "w"
  rename News _ _ _ _ => N9
  refine bytes_K (ns := [69, h.tos]) (by k_asm) N9 ⟨_, (N9 _ (.head _)).1, rfl, 0, rfl⟩ ?hi ?hr (Nat.le_of_ble_eq_true rfl) (by with_unfolding_all rfl) ?_
  case hi => exact .cons _ _ (.cons _ _ .nil)
  case hr =>
    have := ok.o0; have := ok.o1
    intro n hn; simp at hn; omega
  intro h' t' k' F10 N10 _
  replace N10 := news_sub N10 (fun _ h => List.Mem.tail _ h)
  clear N9
  rw [show (List.map (fun n : Int => n.toNat.toUInt8) [69, h.tos]) = [69, by8 h.tos] from rfl]
  k_whole
  repeat' ((fail_if_success (with_reducible show wpAny _ _ (call (Value.ref 157) _) _ _ _)); (fail_if_success (with_reducible show wpAny _ _ (call (Value.ref 84) _) _ _ _)); walk_at "wc")
  refine fn_useT (c_size _ _ _ _ h a _ H) (by k_asm) (by k_asm) (by k_asm) (by k_asm) (by k_asm) (by first | exact rfl | assumption) (by ktr_room) (by walk_at "un") ?_
  intro t5 h5 tk5 F5 N5
  repeat' ((fail_if_success (with_reducible show wpAny _ _ (call (Value.ref 157) _) _ _ _)); (fail_if_success (with_reducible show wpAny _ _ (call (Value.ref 84) _) _ _ _)); walk_at "wc")
  rw [hps]
  refine fn_useT (c_put16 _ _ _ _ (20 + (p.length : Int)) _ (by omega) _) (by k_asm) (by k_asm) (by k_asm) (by k_asm) (by k_asm) (by first | exact rfl | assumption) (by ktr_room) (by walk_at "un") ?_
  intro t6 h6 tk6 F6 N6
  repeat' ((fail_if_success (with_reducible show wpAny _ _ (call (Value.ref 84) _) _ _ _)); walk_at "wc")
  refine fn_useT (c_put16 _ _ _ _ h.ident _ ok.i0 _) (by k_asm) (by k_asm) (by k_asm) (by k_asm) (by k_asm) (by first | exact rfl | assumption) (by ktr_room) (by walk_at "un") ?_
  intro t7 h7 tk7 F7 N7
  repeat' ((fail_if_success (with_reducible show wpAny _ _ (call (Value.ref 220) _) _ _ _)); walk_at "wc")
  refine fn_useT (c_flags _ _ _ _ h a _ H ok) (by k_asm) (by k_asm) (by k_asm) (by k_asm) (by k_asm) (by first | exact rfl | assumption) (by ktr_room) (by walk_at "un") ?_
  intro t8 h8 tk8 F8 N8
  repeat' ((fail_if_success (with_reducible show wpAny _ _ (call (Value.ref 84) _) _ _ _)); walk_at "wc")
  refine fn_useT (c_put16 _ _ _ _ h.flags _ (flags_in ok).1 _) (by k_asm) (by k_asm) (by k_asm) (by k_asm) (by k_asm) (by first | exact rfl | assumption) (by ktr_room) (by walk_at "un") ?_
  intro t9 h9 tk9 F9 N9
  walk_at "w"
  rename News _ _ _ _ => N12
  refine bytes_K (ns := [h.ttl, h.proto]) (by k_asm) N12 ⟨_, (N12 _ (.head _)).1, rfl, 0, rfl⟩ ?hi ?hr (Nat.le_of_ble_eq_true rfl) (by with_unfolding_all rfl) ?_
  case hi => exact .cons _ _ (.cons _ _ .nil)
  case hr =>
    have := ok.t0; have := ok.t1; have := ok.p0; have := ok.p1
    intro n hn; simp at hn; omega
  intro h13 t13 k13 F13 N13 _
  replace N13 := news_sub N13 (fun _ h => List.Mem.tail _ h)
  clear N12
  rw [show (List.map (fun n : Int => n.toNat.toUInt8) [h.ttl, h.proto]) = [by8 h.ttl, by8 h.proto] from rfl]
  k_whole
  repeat' ((fail_if_success (with_reducible show wpAny _ _ (call (Value.ref 91) _) _ _ _)); walk_at "wc")
  refine fn_useT (c_put32 _ _ _ _ h.src _ ok.s0 _) (by k_asm) (by k_asm) (by k_asm) (by k_asm) (by k_asm) (by first | exact rfl | assumption) (by ktr_room) (by walk_at "un") ?_
  intro t14 h14 tk14 F14 N14
  repeat' ((fail_if_success (with_reducible show wpAny _ _ (call (Value.ref 91) _) _ _ _)); walk_at "wc")
  refine fn_useT (c_put32 _ _ _ _ h.tgt _ ok.g0 _) (by k_asm) (by k_asm) (by k_asm) (by k_asm) (by k_asm) (by first | exact rfl | assumption) (by ktr_room) (by walk_at "un") ?_
  intro t15 h15 tk15 F15 N15
  repeat' ((fail_if_success (with_reducible show wpAny _ _ (call (Value.ref 84) _) _ _ _)); walk_at "wc")
  refine fn_useT (c_put16 _ _ _ _ 0 _ (by decide) _) (by k_asm) (by k_asm) (by k_asm) (by k_asm) (by k_asm) (by first | exact rfl | assumption) (by ktr_room) (by walk_at "un") ?_
  intro t16 h16 tk16 F16 N16
  repeat' ((fail_if_success (with_reducible show wpAny _ _ (call (Value.ref 135) _) _ _ _)); walk_at "wc")
  refine fn_use (c_check _ _ _ _ (hdOct h (20 + (p.length : Int)) 0) _ 10 rfl (by decide) _) (by k_asm) (by k_asm) (by k_asm) (by k_asm) (by k_asm) (by first | exact rfl | assumption) (by ktr_room) (by walk_at "un") ?_
  rintro _ news h17 tk17 F17 N17 ⟨rfl, y, t17, rfl, y0, y1, y2, y3⟩
  repeat' ((fail_if_success (with_reducible show wpAny _ _ (call (Value.ref 84) _) _ _ _)); walk_at "wc")
  refine fn_useT (c_put16 _ _ _ _ (65535 - y) _ (by omega) _) (by k_asm) (by k_asm) (by k_asm) (by k_asm) (by k_asm) (by first | exact rfl | assumption) (by ktr_room) (by walk_at "un") ?_
  intro t18 h18 tk18 F18 N18
  walk_at "w"
  exact hret _ _ _ _ (by k_asm) (by k_asm) ⟨rfl, _, _, rfl, packed_of y0 y1 y2⟩

-- BY
section
variable {prog : Program} {w : World} {A : Around} {E : Value → Shared → Prop} {s : Shared}
theorem by_has : typeLookup (.type "bytes") "__bytes__" = pure (some (.builtin "bytes.__bytes__")) := by rw [typeLookup_type, builtinLookup_eq_fast]; kernel_rfl
theorem by_not : typeLookup (.type "int") "__bytes__" = pure none := by rw [typeLookup_type, builtinLookup_eq_fast]; kernel_rfl
theorem by_idx : typeLookup (.type "int") "__index__" = pure (some (.builtin "int.__index__")) := by rw [typeLookup_type, builtinLookup_eq_fast]; kernel_rfl
theorem by_same {b : Array UInt8} {t : Tok} {Q : Value → Shared → Prop} (hQ : Q (.bytes b t) s) :
    codeAny (model prog w) A (.call (.builtin "bytes.__new__") ⟨[.type "bytes", .bytes b t], []⟩) (wants Q E) s := by
  refine codeAny_of_tree ?_
  show wpAny _ A.in1 (do checkBuiltinCall "bytes.__new__" ⟨[.type "bytes", .bytes b t], []⟩; again (.builtin "bytes.__new__" ⟨[.type "bytes", .bytes b t], []⟩)) _ _ s
  refine wpAny_bind (wpAny_of_eq (F.bm_newCall _) (wpAny_pure ⟨plainId_quiet F.bm_plain _, codeAny_builtin F.bm_entry ?_⟩))
  rw [Around.under_plainId F.bm_plain _]
  unfold Builtin.«bytes.__new__»
  refine wpAny_bind (wpAny_of_eq (a := true) rfl ?_)
  refine bm_if_false rfl ?_
  refine wpAny_bind (wpAny_of_eq F.bm_sub ?_)
  refine bm_if_false rfl ?_
  refine wpAny_bind (wpAny_of_eq (F.bm_bind _) ?_)
  refine wpAny_bind (wpAny_of_eq (a := ()) rfl ?_)
  refine wpAny_bind (wpAny_of_eq (a := ()) rfl ?_)
  refine bm_if_false rfl ?_
  refine wpAny_bind (wpAny_of_eq (KBy.special_eq by_has) ?_)
  show wpAny _ _ _ _ _ _
  refine wpAny_bind (wpAny_rule ?_)
  refine wpAny_bind (wpAny_of_eq (a := Value.type "bytes") rfl ?_)
  refine bm_if_true (by decide) ?_
  exact wpAny_pure hQ
theorem by_zero {t : Tok} {Q : Value → Shared → Prop} (hQ : ∀ t' k, Q (.bytes #[] t') { s with toks := k }) :
    codeAny (model prog w) A (.call (.builtin "bytes.__new__") ⟨[.type "bytes", .int 0 t], []⟩) (wants Q E) s := by
  refine codeAny_of_tree ?_
  show wpAny _ A.in1 (do checkBuiltinCall "bytes.__new__" ⟨[.type "bytes", .int 0 t], []⟩; again (.builtin "bytes.__new__" ⟨[.type "bytes", .int 0 t], []⟩)) _ _ s
  refine wpAny_bind (wpAny_of_eq (F.bm_newCall _) (wpAny_pure ⟨plainId_quiet F.bm_plain _, codeAny_builtin F.bm_entry ?_⟩))
  rw [Around.under_plainId F.bm_plain _]
  unfold Builtin.«bytes.__new__»
  refine wpAny_bind (wpAny_of_eq (a := true) rfl ?_)
  refine bm_if_false rfl ?_
  refine wpAny_bind (wpAny_of_eq F.bm_sub ?_)
  refine bm_if_false rfl ?_
  refine wpAny_bind (wpAny_of_eq (F.bm_bind _) ?_)
  refine wpAny_bind (wpAny_of_eq (a := ()) rfl ?_)
  refine wpAny_bind (wpAny_of_eq (a := ()) rfl ?_)
  refine bm_if_false rfl ?_
  have hT : s.TypeIs (.int 0 t) "int" := rfl
  refine wpAny_bind (wpAny_specialOf hT by_not ?_)
  refine wpAny_bind ?_
  refine wpAny_of_eq (a := false) rfl ?_
  refine bm_if_false rfl ?_
  refine wpAny_bind (wpAny_specialOf hT by_idx ?_)
  refine bm_if_false rfl ?_
  refine wpAny_bind (wpAny_attempt ?_)
  refine wpAny_of_eq (a := (0 : Int)) rfl ?_
  refine bm_if_false (by decide) ?_
  dsimp only
  wp_walk
  exact hQ _ _
theorem bytes_same_K {b : Array UInt8} {t : Tok} {Q : Value → Shared → Prop} (hQ : Q (.bytes b t) s) : wpAny (model prog w) A (call (.type "bytes") [.bytes b t]) Q E s := by
  refine callType_codes (Q₁ := fun obj s₁ => s₁.TypeIs obj "bytes" ∧ Q obj s₁) F.bm_called (F.bm_typeCall _) F.entry_object_init
    (by_same ⟨PySem.W.typeIs_bytes _ _ _, hQ⟩) fun obj s₁ h₁ => ?_
  exact ⟨h₁.1, F.args_object_init_2 obj _, object_init_meets F.bm_called.init.lookup F.bm_called.made (by decide) prog w A.in1 _ s₁ ⟨h₁.1, rfl, h₁.2⟩⟩
theorem bytes_zero_K {t : Tok} {Q : Value → Shared → Prop} (hQ : ∀ t' k, Q (.bytes #[] t') { s with toks := k }) : wpAny (model prog w) A (call (.type "bytes") [.int 0 t]) Q E s := by
  refine callType_codes (Q₁ := fun obj s₁ => s₁.TypeIs obj "bytes" ∧ Q obj s₁) F.bm_called (F.bm_typeCall _) F.entry_object_init
    (by_zero fun t' k => ⟨PySem.W.typeIs_bytes _ _ _, hQ t' k⟩) fun obj s₁ h₁ => ?_
  exact ⟨h₁.1, F.args_object_init_2 obj _, object_init_meets F.bm_called.init.lookup F.bm_called.made (by decide) prog w A.in1 _ s₁ ⟨h₁.1, rfl, h₁.2⟩⟩
end
/-- the data's depth is n at most, and it holds no list -/
noncomputable def deepOk : Nat → Dat → Bool
  | _, .none => true
  | _, .int _ => true
  | _, .bool _ => true
  | _, .str _ => true
  | _, .bytes _ => true
  | n + 1, .tuple ds => ds.all (deepOk n)
  | n + 1, .list ds => ds.all (deepOk n)
  | _, _ => false
section
variable {s : Shared} {h₀ : Heap} {L : Addr} {news : List (Addr × Obj)}
theorem eqAt_bytes {A : Around} (b : Array UInt8) (t u : Tok) : PySem.SeqAt.EqAt A s (.bytes b t) (.bytes b u) true := fun prog w E Q h => by
  unfold eqBool
  show wpAny _ _ (if (Value.bytes b t == Value.bytes b u) = true then _ else _) Q E s
  by_cases hab : (Value.bytes b t == Value.bytes b u) = true
  · rw [if_pos hab]
    exact wpAny_bind (wpAny_rule (wpAny_pure h))
  · rw [if_neg hab]
    refine wpAny_bind (richCompare_gives (op := .Eq) (T := "bytes") rfl rfl FB.slot_bytes_eq FB.entry_bytes_eq (FB.args_bytes_eq_2 _ _) (gives_bytes_eq b b t u) (fun x => nomatch x) (wpAny_truthy_bool ?_))
    rw [beq_self_eq_true]; exact h
theorem datAll_get {vs : List Value} : ∀ {ds : List Dat}, DatAll news vs ds → ∀ (j : Nat) (h : j < vs.length), ∃ d, ds[j]? = some d ∧ DatIn news vs[j] d := by
  induction vs with
  | nil => intro ds _ j h; exact absurd h (Nat.not_lt_zero _)
  | cons v vs ih =>
    intro ds h j hj
    cases h with
    | cons hd r =>
      cases j with
      | zero => exact ⟨_, rfl, hd⟩
      | succ j => exact ih r j (Nat.lt_of_succ_lt_succ hj)
theorem eqAt_dat (N : News h₀ L s.heap news) (n : Nat) : ∀ (A : Around) (v v' : Value) (d : Dat), DatIn news v d → DatIn news v' d → deepOk n d = true → A.units + n < cLine → PySem.SeqAt.EqAt A s v v' true := by
  induction n with
  | zero =>
    intro A v v' d h1 h2 hk hu
    cases h1 with
    | none => cases h2; exact .same _
    | bool b => cases h2; exact .same _
    | int i t => cases h2 with | int _ u => simpa using PySem.SeqAt.EqAt.int_int (s := s) i t i u
    | str i t => cases h2 with | str _ u => simpa using PySem.SeqAt.EqAt.str_str (s := s) i t i u
    | bytes b t => cases h2 with | bytes _ u => exact eqAt_bytes b t u
    | tuple => simp [deepOk] at hk
    | list => simp [deepOk] at hk
  | succ n ih =>
    intro A v v' d h1 h2 hk hu
    cases h1 with
    | none => cases h2; exact .same _
    | bool b => cases h2; exact .same _
    | int i t => cases h2 with | int _ u => simpa using PySem.SeqAt.EqAt.int_int (s := s) i t i u
    | str i t => cases h2 with | str _ u => simpa using PySem.SeqAt.EqAt.str_str (s := s) i t i u
    | bytes b t => cases h2 with | bytes _ u => exact eqAt_bytes b t u
    | @tuple a vs _ ds hm r => cases h2 with | @tuple b ws _ _ hm' r' =>
        by_cases hab : a = b
        · subst hab; exact .same _
        · have l1 : s.heap.IsTuple a vs.toArray := ⟨_, (N _ hm).1, rfl, _, rfl⟩
          have l2 : s.heap.IsTuple b ws.toArray := ⟨_, (N _ hm').1, rfl, _, rfl⟩
          have e1 := r.length
          have e2 := r'.length
          have key := PySem.SeqAt.RcAt.tuples (A := A) (e := fun _ => true) l1 l2 (by omega) (fun j g1 g2 => by
            have g1' : j < vs.length := by simpa using g1
            have g2' : j < ws.length := by simpa using g2
            obtain ⟨d, hd, p⟩ := datAll_get r j g1'
            obtain ⟨d', hd', p'⟩ := datAll_get r' j g2'
            rw [hd] at hd'
            cases hd'
            have hk2 : deepOk n d = true := by
              simp only [deepOk, List.all_eq_true] at hk
              exact hk _ (List.mem_of_getElem? hd)
            simpa using ih A.in1 _ _ d p p' hk2 (by rw [units_in1]; omega))
          have e3 : ((List.range (min vs.toArray.size ws.toArray.size)).all (fun _ => true) && vs.toArray.size == ws.toArray.size) = true := by simp [e1, e2]
          rw [e3] at key
          exact .of_refs hab key
    | @list a vs _ ds hm r => cases h2 with | @list b ws _ _ hm' r' =>
        by_cases hab : a = b
        · subst hab; exact .same _
        · have l1 : s.heap.IsList a vs.toArray := ⟨_, (N _ hm).1, rfl, _, rfl⟩
          have l2 : s.heap.IsList b ws.toArray := ⟨_, (N _ hm').1, rfl, _, rfl⟩
          have e1 := r.length
          have e2 := r'.length
          have key := PySem.SeqAt.RcAt.lists (A := A) (e := fun _ => true) l1 l2 (by simp [e1, e2]) (by omega) (fun j g1 g2 => by
            have g1' : j < vs.length := by simpa using g1
            have g2' : j < ws.length := by simpa using g2
            obtain ⟨d, hd, p⟩ := datAll_get r j g1'
            obtain ⟨d', hd', p'⟩ := datAll_get r' j g2'
            rw [hd] at hd'
            cases hd'
            have hk2 : deepOk n d = true := by
              simp only [deepOk, List.all_eq_true] at hk
              exact hk _ (List.mem_of_getElem? hd)
            simpa using ih A.in1 _ _ d p p' hk2 (by rw [units_in1]; omega))
          have e3 : ((List.range vs.toArray.size).all (fun _ => true)) = true := by simp
          rw [e3] at key
          exact .of_refs hab key
/-- two things that bear the same data are equal -/
theorem eq_dat {prog : Program} {w : World} {A : Around} {E : Value → Shared → Prop} {Q : Value → Shared → Prop} {a b : Addr} {d : Dat} (n : Nat) (N : News h₀ L s.heap news) (h1 : DatIn news (.ref a) d) (h2 : DatIn news (.ref b) d) (hk : deepOk (n + 1) d = true) (hu : A.units + (n + 1) < cLine) (h : Q (.bool true) s) :
    wpAny (model prog w) A (compareOp .Eq (.ref a) (.ref b)) Q E s := by
  refine cmp_ofEq ?_
  cases h1 with
  | @tuple _ vs _ ds hm r =>
    cases h2 with
    | @tuple _ ws _ _ hm' r' =>
      have l1 : s.heap.IsTuple a vs.toArray := ⟨_, (N _ hm).1, rfl, _, rfl⟩
      have l2 : s.heap.IsTuple b ws.toArray := ⟨_, (N _ hm').1, rfl, _, rfl⟩
      have e1 := r.length
      have e2 := r'.length
      have key := PySem.SeqAt.RcAt.tuples (A := A) (e := fun _ => true) l1 l2 (by omega) (fun j g1 g2 => by
        have g1' : j < vs.length := by simpa using g1
        have g2' : j < ws.length := by simpa using g2
        obtain ⟨d, hd, p⟩ := datAll_get r j g1'
        obtain ⟨d', hd', p'⟩ := datAll_get r' j g2'
        rw [hd] at hd'
        cases hd'
        have hk : deepOk n d = true := by
          simp only [deepOk, List.all_eq_true] at hk
          exact hk _ (List.mem_of_getElem? hd)
        simpa using eqAt_dat N n A.in1 _ _ d p p' hk (by rw [units_in1]; omega))
      have e3 : ((List.range (min vs.toArray.size ws.toArray.size)).all (fun _ => true) && vs.toArray.size == ws.toArray.size) = true := by simp [e1, e2]
      rw [e3] at key
      exact key _ _ _ _ h
  | @list _ vs _ ds hm r =>
    cases h2 with
    | @list _ ws _ _ hm' r' =>
      have l1 : s.heap.IsList a vs.toArray := ⟨_, (N _ hm).1, rfl, _, rfl⟩
      have l2 : s.heap.IsList b ws.toArray := ⟨_, (N _ hm').1, rfl, _, rfl⟩
      have e1 := r.length
      have e2 := r'.length
      have key := PySem.SeqAt.RcAt.lists (A := A) (e := fun _ => true) l1 l2 (by simp [e1, e2]) (by omega) (fun j g1 g2 => by
        have g1' : j < vs.length := by simpa using g1
        have g2' : j < ws.length := by simpa using g2
        obtain ⟨d, hd, p⟩ := datAll_get r j g1'
        obtain ⟨d', hd', p'⟩ := datAll_get r' j g2'
        rw [hd] at hd'
        cases hd'
        have hk : deepOk n d = true := by
          simp only [deepOk, List.all_eq_true] at hk
          exact hk _ (List.mem_of_getElem? hd)
        simpa using eqAt_dat N n A.in1 _ _ d p p' hk (by rw [units_in1]; omega))
      have e3 : ((List.range vs.toArray.size).all (fun _ => true)) = true := by simp
      rw [e3] at key
      exact key _ _ _ _ h
end

-- O7
local macro_rules | `(tactic| walk_at "call type:bytes") => `(tactic| (k_here; (with_reducible show wpAny _ _ (call (Value.type _) [Value.bytes _ _]) _ _ _); (refine bytes_same_K ?_)))
theorem slice_P {prog : Program} {w : World} {A : Around} {E : Value → Shared → Prop} {s : Shared} {value slice : PySem.Expr} {b d : List UInt8} {t : Tok} {h₀ : Heap} {L : Addr} {m : PySem.Str → Option Value} {news : Ledger} {l u : Value} {lo hi : Option Int} {Q : Value → Shared → Prop}
    (hF : Fr h₀ L s.heap m) (hN : News h₀ L s.heap news) (hl : IsPart l lo) (hu : IsPart u hi) (hz : b.length ≤ 100000) (e : (b.drop (lo.elim 0 (clipAt b.length))).take (hi.elim b.length (clipAt b.length) - lo.elim 0 (clipAt b.length)) = d)
    (h : ∀ h' t' k, Fr h₀ L h' m → News h₀ L h' news → Q (.bytes d.toArray t') { s with heap := h', toks := k })
    (hs : subscripted slice false (.bytes b.toArray t) (.ref s.heap.objs.size) = operate [.ref s.heap.objs.size, .bytes b.toArray t] (getItem (.bytes b.toArray t) (.ref s.heap.objs.size)) := by with_unfolding_all rfl)
    (ht : ∀ r, letTemporaryGo value (.bytes b.toArray t) r = pure () := by intro _; with_unfolding_all rfl) :
    wpAny (model prog w) A (subscriptTail value slice (.bytes b.toArray t) (.ref s.heap.objs.size)) Q E { s with heap := s.heap.push { cls := .type "slice", data := .fields #[l, u, .none] } } := by
  refine KBc.slice_K (ks := KBw.bInts b.toArray) hF hN rfl hl hu (by rw [KBw.ints_length]; simp; omega) (fun h' t' k F N _ => ?_) hs ht
  have e2 : KBy.picked b.toArray lo hi = d.toArray := by
    rw [KBc.picked_eq, ← e]
    simp
  rw [e2]
  exact h h' t' k F N
theorem clip_in {n : Nat} {x : Int} (h0 : 0 ≤ x) : clipAt n x = min x.toNat n := by
  have := clipAt_nat n x.toNat
  rwa [show ((x.toNat : Nat) : Int) = x by omega] at this
theorem cut_to {b : List UInt8} {y : Int} (h0 : 0 ≤ y) : (b.drop ((none : Option Int).elim 0 (clipAt b.length))).take ((some y).elim b.length (clipAt b.length) - (none : Option Int).elim 0 (clipAt b.length)) = b.take y.toNat := by
  simp only [Option.elim, clip_in h0, List.drop_zero, Nat.sub_zero]
  rw [List.take_eq_take_iff, Nat.min_assoc, Nat.min_self]
theorem cut_mid {b : List UInt8} {x y : Int} (h0 : 0 ≤ x) (h1 : 0 ≤ y) : (b.drop ((some x).elim 0 (clipAt b.length))).take ((some y).elim b.length (clipAt b.length) - (some x).elim 0 (clipAt b.length)) = (b.drop x.toNat).take (y.toNat - x.toNat) := by
  simp only [Option.elim, clip_in h0, clip_in h1]
  by_cases hx : x.toNat ≤ b.length
  · rw [Nat.min_eq_left hx, List.take_eq_take_iff, List.length_drop, Nat.sub_min_sub_right, Nat.sub_min_sub_right, Nat.min_assoc, Nat.min_self]
  · rw [Nat.min_eq_right (Nat.le_of_not_le hx), List.drop_eq_nil_of_le (Nat.le_refl _), List.drop_eq_nil_of_le (by omega)]; simp
theorem cut_from {b : List UInt8} {x : Int} (h0 : 0 ≤ x) : (b.drop ((some x).elim 0 (clipAt b.length))).take ((none : Option Int).elim b.length (clipAt b.length) - (some x).elim 0 (clipAt b.length)) = b.drop x.toNat := by
  simp only [Option.elim, clip_in h0]
  by_cases hx : x.toNat ≤ b.length
  · rw [Nat.min_eq_left hx, List.take_of_length_le (by rw [List.length_drop]; omega)]
  · rw [Nat.min_eq_right (Nat.le_of_not_le hx), List.drop_eq_nil_of_le (Nat.le_refl _), List.drop_eq_nil_of_le (by omega)]; simp

theorem c_hsize (w mean mg mb) (o : List UInt8) (tp : Tok) (news : Ledger) (h0 : o.getD 0 0 = 69) (hl : 20 ≤ o.length) (hl' : o.length ≤ 100000) :
    Fn w mean mg mb 234 5 60 [.bytes o.toArray tp] news (fun r n' => n' = news ∧ ∃ t, r = .int 20 t) := by
  have e0 : (((o.getD (Int.toNat 0) 0).toNat : Nat) : Int) = 69 := by rw [show Int.toNat 0 = 0 from rfl, h0]; rfl
  unfold Fn; k_fill; intro dp un gd cn cs a ccd cl outer A₀ base h₀ L m s Q E B F X N T hk hdp hun hret
  refine wpAny_call ?_; k_enter
  walk_at "w"
  · exact absurd (by assumption) (show ¬ _ ≠ _ by rw [e0]; decide)
  exact hret _ _ _ _ (by k_asm) (by k_asm) ⟨rfl, _, by rw [e0]; rfl⟩
theorem flags_back {h : Hd} (ok : h.Ok) : (Builtin.bitAnd h.flags 16384 != 0) = h.dont ∧ (Builtin.bitAnd h.flags 8192 != 0) = h.more ∧ Builtin.bitAnd h.flags 8191 * 8 = h.off := by
  obtain ⟨f0, f1⟩ := flags_in ok
  have o0 := ok.f0
  have o1 := ok.f1
  have o2 := ok.f2
  obtain ⟨x, hx⟩ : ∃ x : Nat, h.off / 8 = (x : Int) := ⟨(h.off / 8).toNat, (Int.toNat_of_nonneg (Int.ediv_nonneg o0 (by decide))).symm⟩
  have e : h.flags.toNat = x + (if h.dont then 16384 else 0) + (if h.more then 8192 else 0) := by
    unfold Hd.flags
    rw [hx]
    cases h.dont <;> cases h.more <;> rfl
  obtain ⟨b1, b2, b3⟩ := and_bits x (by omega) h.dont h.more
  rw [bitAnd_pp f0 (by decide), bitAnd_pp f0 (by decide), bitAnd_pp f0 (by decide), e]
  simp only [Int.reduceToNat]
  refine ⟨?_, ?_, ?_⟩
  · cases hd : h.dont with
    | false => rw [hd] at b2; rw [b2.mpr rfl]; rfl
    | true =>
      rw [hd] at b2
      have : ¬ (x + (if true = true then 16384 else 0) + (if h.more = true then 8192 else 0)) &&& 16384 = 0 := fun q => Bool.noConfusion (b2.mp q)
      rw [bne_iff_ne]
      exact fun q => this (by exact_mod_cast q)
  · cases hd : h.more with
    | false => rw [hd] at b3; rw [b3.mpr rfl]; rfl
    | true =>
      rw [hd] at b3
      have : ¬ (x + (if h.dont = true then 16384 else 0) + (if true = true then 8192 else 0)) &&& 8192 = 0 := fun q => Bool.noConfusion (b3.mp q)
      rw [bne_iff_ne]
      exact fun q => this (by exact_mod_cast q)
  · rw [b1]; omega
theorem c_unpack (w mean mg mb) (h : Hd) (p o : List UInt8) (tp : Tok) (news : Ledger) (ok : h.Ok) (hp : p.length ≤ 1000) (hk : Packed h p o) :
    Fn w mean mg mb 241 12 150 [.bytes o.toArray tp] news (fun r n' => ∃ T H t, r = .ref T ∧ (T, ({ cls := .type "tuple", data := .seq #[.ref H, .bytes p.toArray t] } : Obj)) ∈ n' ∧ h.In w.params H n' ∧ (∀ p ∈ news, p ∈ n')) := by
  obtain ⟨c, c0, c1, ho, c2⟩ := hk
  have q0 : o.getD 0 0 = 69 := by rw [ho]; rfl
  have q1 : (((o.getD (Int.toNat 1) 0).toNat : Nat) : Int) = h.tos := by rw [ho]; exact by8_nat ok.o0 ok.o1
  have q8 : (((o.getD (Int.toNat 8) 0).toNat : Nat) : Int) = h.ttl := by rw [ho]; exact by8_nat ok.t0 ok.t1
  have q9 : (((o.getD (Int.toNat 9) 0).toNat : Nat) : Int) = h.proto := by rw [ho]; exact by8_nat ok.p0 ok.p1
  have r2 : rd16 o 2 = 20 + (p.length : Int) := by rw [ho]; exact w2 _ _ _ (by omega) (by omega)
  have r4 : rd16 o 4 = h.ident := by rw [ho]; exact w4 _ _ _ ok
  have r6 : rd16 o 6 = h.flags := by rw [ho]; exact w6 _ _ _ ok
  have r12 : rd32 o 12 = h.src := by rw [ho]; exact w12 _ _ _ ok
  have r16 : rd32 o 16 = h.tgt := by rw [ho]; exact w16 _ _ _ ok
  have hl : o.length = 20 + p.length := by rw [ho]; simp [hdOct_len]
  have hl1 : 20 ≤ o.length := by rw [hl]; exact Nat.le_add_right _ _
  have hl2 : o.length ≤ 1020 := by rw [hl]; exact Nat.add_le_add_left hp 20
  have hl3 : (20 : Int) ≤ (o.length : Int) := Int.ofNat_le.mpr hl1
  have hl4 : (0 : Int) ≤ 20 + (p.length : Int) := Int.add_nonneg (by decide) (Int.natCast_nonneg _)
  have ht : o.take 20 = hdOct h (20 + (p.length : Int)) c := by rw [ho]; exact take20 _ _ _ _
  have hd : o.drop 20 = p := by rw [ho]; exact drop20 _ _ _ _
  unfold Fn; k_fill; intro dp un gd cn cs a ccd cl outer A₀ base h₀ L m s Q E B F X N T hk hdp hun hret
  refine wpAny_call ?_; k_enter
  repeat' ((fail_if_success (with_reducible show wpAny _ _ (call (Value.ref 234) _) _ _ _)); walk_at "wc")
  refine fn_useT (c_hsize _ _ _ _ o _ _ q0 (by omega) (by omega)) (by k_asm) (by k_asm) (by k_asm) (by k_asm) (by k_asm) (by first | exact rfl | assumption) (by ktr_room) (by walk_at "un") ?_
  intro t3 h3 tk3 F3 N3
  repeat' ((fail_if_success (with_reducible show wpAny _ _ (call (Value.ref 105) _) _ _ _)); walk_at "wc")
  refine fn_useT (c_get16 _ _ _ _ o _ 2 _ (by omega) (by omega) _) (by k_asm) (by k_asm) (by k_asm) (by k_asm) (by k_asm) (by first | exact rfl | assumption) (by ktr_room) (by walk_at "un") ?_
  intro t4 h4 tk4 F4 N4
  rw [r2]
  repeat' ((fail_if_success (with_reducible show wpAny _ _ (subscriptTail _ (PySem.Expr.Slice _ _ none _) (Value.bytes _ _) (Value.ref _)) _ _ _)); walk_at "wc")
  rename Fr _ _ _ _ => F5
  rename News _ _ _ _ => N5
  refine slice_P (s := ⟨_, _, _, _, _⟩) (b := o) (d := hdOct h (20 + (p.length : Int)) c) F5 N5 (by constructor) (by constructor) (by omega) ((cut_to (y := 20) (by decide)).trans ht) ?_
  intro h6 t6 k6 F6 N6
  k_whole
  repeat' ((fail_if_success (with_reducible show wpAny _ _ (call (Value.ref 135) _) _ _ _)); walk_at "wc")
  refine fn_use (c_check _ _ _ _ (hdOct h (20 + (p.length : Int)) c) _ 10 rfl (by decide) _) (by k_asm) (by k_asm) (by k_asm) (by k_asm) (by k_asm) (by first | exact rfl | assumption) (by ktr_room) (by walk_at "un") ?_
  rintro _ news h7 tk7 F7 N7 ⟨rfl, y, t7, rfl, y0, y1, y2, y3⟩
  have y4 : y = 65535 := by
    have := y3 (wsum_pos _ _ _)
    omega
  subst y4
  repeat' ((fail_if_success (with_reducible show wpAny _ _ (call (Value.ref 105) _) _ _ _)); walk_at "wc")
  refine fn_useT (c_get16 _ _ _ _ o _ 6 _ (by omega) (by omega) _) (by k_asm) (by k_asm) (by k_asm) (by k_asm) (by k_asm) (by first | exact rfl | assumption) (by ktr_room) (by walk_at "un") ?_
  intro t8 h8 tk8 F8 N8
  rw [r6]
  repeat' ((fail_if_success (with_reducible show wpAny _ _ (subscriptTail _ (PySem.Expr.Slice _ _ none _) (Value.bytes _ _) (Value.ref _)) _ _ _)); walk_at "wc")
  rename Fr _ _ _ _ => F9
  rename News _ _ _ _ => N9
  refine slice_P (s := ⟨_, _, _, _, _⟩) (b := o) (d := []) F9 N9 (by constructor) (by constructor) (by omega) ((cut_mid (x := 20) (y := 20) (by decide) (by decide)).trans rfl) ?_
  intro h10 t10 k10 F10 N10
  k_whole
  repeat' ((fail_if_success (with_reducible show wpAny _ _ (call (Value.ref 112) _) _ _ _)); walk_at "wc")
  refine fn_useT (c_get32 _ _ _ _ o _ 12 _ (by omega) (by omega) _) (by k_asm) (by k_asm) (by k_asm) (by k_asm) (by k_asm) (by first | exact rfl | assumption) (by ktr_room) (by walk_at "un") ?_
  intro t11 h11 tk11 F11 N11
  rw [r12]
  repeat' ((fail_if_success (with_reducible show wpAny _ _ (call (Value.ref 112) _) _ _ _)); walk_at "wc")
  refine fn_useT (c_get32 _ _ _ _ o _ 16 _ (by omega) (by omega) _) (by k_asm) (by k_asm) (by k_asm) (by k_asm) (by k_asm) (by first | exact rfl | assumption) (by ktr_room) (by walk_at "un") ?_
  intro t12 h12 tk12 F12 N12
  rw [r16]
  repeat' ((fail_if_success (with_reducible show wpAny _ _ (call (Value.ref 105) _) _ _ _)); walk_at "wc")
  rw [q9]
  refine fn_useT (c_get16 _ _ _ _ o _ 4 _ (by omega) (by omega) _) (by k_asm) (by k_asm) (by k_asm) (by k_asm) (by k_asm) (by first | exact rfl | assumption) (by ktr_room) (by walk_at "un") ?_
  intro t13 h13 tk13 F13 N13
  rw [r4]
  repeat' ((fail_if_success (with_reducible show wpAny _ _ (call (Value.ref 188) _) _ _ _)); walk_at "wc")
  obtain ⟨fl1, fl2, fl3⟩ := flags_back ok
  rw [q8, q1, fl1, fl2, fl3]
  refine fn_useE_1_3 (c_header _ _ _ _ h _ _ _ _ _ _ _ _ _) (by k_asm) (by k_asm) (by k_asm) (by k_asm) (by k_asm) (by first | exact rfl | assumption) (by ktr_room) (by walk_at "un") ?_
  intro b n14 h14 tk14 F14 N14 hb hs hof
  repeat' ((fail_if_success (with_reducible show wpAny _ _ (subscriptTail _ (PySem.Expr.Slice _ _ none _) (Value.bytes _ _) (Value.ref _)) _ _ _)); walk_at "wc")
  rename Fr _ _ _ _ => F15
  rename News _ _ _ n14 => N15
  refine slice_P (s := ⟨_, _, _, _, _⟩) (b := o) (d := p) F15 N15 (by constructor) (by constructor) (by omega) ((cut_mid (x := 20) (y := 20 + (p.length : Int)) (by decide) (by omega)).trans (by rw [show Int.toNat 20 = 20 from rfl, hd]; exact List.take_of_length_le (by rw [show (20 + (p.length : Int)).toNat = 20 + p.length from rfl, Nat.add_sub_cancel_left]; exact Nat.le_refl _))) ?_
  intro h16 t16 k16 F16 N16
  k_whole
  walk_at "w"
  exact hret _ _ _ _ (by k_asm) (by k_asm) ⟨_, b, _, rfl, .head _, hb.mono (fun _ h => .tail _ h), fun p hp => .tail _ (hs p hp)⟩

-- O8
section
variable {prog : Program} {w : World} {A : Around} {E : Value → Shared → Prop} {s : Shared} {env : Env} {h₀ : Heap} {body : List Stmt} {Q : Flow → Shared → Prop}
theorem it_listT {target : PySem.Expr} {l : Addr} {vs : List Value} {nn : Nat} {m₀ : Str → Option Value} {news : Ledger} (J : Nat → (Str → Option Value) → Ledger → Prop)
    (hh : A.handled = none) (hl : (l, listOf vs.toArray nn) ∈ news) (F : Fr h₀ env.locals s.heap m₀) (N : News h₀ env.locals s.heap news) (hj : J 0 m₀ news)
    (turn : ∀ i v m₁ news₁ h tk I io, vs[i]? = some v → J i m₁ news₁ → (l, listOf vs.toArray nn) ∈ news₁ → (∀ p ∈ news₁, p.1 ≠ I) → io.cls = .type "list_iterator" →
      Fr h₀ env.locals h m₁ → News h₀ env.locals h ((I, io) :: news₁) →
      wpAny (model prog w) A (assign target env v) (fun _ s₃ => wpAny (model prog w) A (execs body env) (TurnEnd h₀ env.locals I io (fun m' nx => (l, listOf vs.toArray nn) ∈ nx ∧ J (i + 1) m' nx) { s with heap := h, toks := tk } Q) E s₃) E { s with heap := h, toks := tk })
    (done : ∀ m₁ news₁ h tk, J vs.length m₁ news₁ → Fr h₀ env.locals h m₁ → News h₀ env.locals h news₁ → Q .next { s with heap := h, toks := tk }) :
    wpAny (model prog w) A (pyIter (.ref l)) (fun it s₂ => TurnsAt prog w A h₀ env target body Q E it s₂) E s := by
  have hol : s.heap.get? l = some (listOf vs.toArray nn) := (N _ hl).1
  have hls : s.heap.IsList l vs.toArray := ⟨_, hol, rfl, nn, rfl⟩
  have hne : l ≠ s.heap.objs.size := Nat.ne_of_lt (Heap.lt_size hol)
  refine wpAny_pyIter_list hls ?_
  have W := Walks.list (prog := prog) (w := w) hh s.heap.objs.size l hne vs.toArray
  have hlen : vs.toArray.size = vs.length := by simp
  rw [hlen] at W
  refine ⟨s.heap.objs.size, _, _, vs.length, _, _, _, m₀, news, (fun i m nx => (l, listOf vs.toArray nn) ∈ nx ∧ J i m nx), rfl, KTurns.ofWalks W (fun i v s Q E st q => letGo_listiter st.1 q), ?_, ?_, ?_, ⟨⟨_, Heap.get?_push_size _ rfl, rfl, rfl⟩, hls.at fun o e => Heap.get?_push_of_some _ e⟩, F.push _, (fun p hp => ⟨Heap.get?_push_of_some _ (N p hp).1, (N p hp).2⟩), ⟨hl, hj⟩, ?_, ?_⟩
  · intro hm
    rcases List.mem_cons.mp hm with e | hm
    · exact absurd F.ns.lt (e ▸ Nat.lt_irrefl _)
    · exact (N _ hl).2.1 ((List.mem_singleton.mp hm).symm)
  · intro b hb
    rw [List.mem_singleton.mp hb]
    exact next_is_new F
  · intro p hp hI
    exact absurd (Heap.lt_size (N p hp).1) ((List.mem_singleton.mp hI) ▸ Nat.lt_irrefl _)
  · rintro i v m₁ news₁ hh' tk' own hin hP ⟨hl₁, hJ⟩ hoff hown hget hfp hst F₁ N₁
    have hlt' : i < vs.length := hin
    have hP' : vs[i]? = some v := by simpa using hP
    obtain ⟨⟨io, hio, hic, hid⟩, _⟩ := hst
    have hIo : (s.heap.objs.size, io) ∈ own := hfp _ (.head _) (next_is_new F) io hio
    have hlo : hh'.get? l = some (listOf vs.toArray nn) := (N₁ _ (List.mem_append.mpr (.inr hl₁))).1
    have hoffI : ∀ p ∈ news₁, p.1 ≠ s.heap.objs.size := fun p hp e => hoff p hp (by rw [e]; exact .head _)
    have N₂ : News h₀ env.locals hh' ((s.heap.objs.size, io) :: news₁) := fun p hp => by
      rcases List.mem_cons.mp hp with rfl | hp
      · exact N₁ _ (List.mem_append.mpr (.inl hIo))
      · exact N₁ _ (List.mem_append.mpr (.inr hp))
    refine wpAny_mono (turn i v m₁ news₁ hh' tk' _ io hP' hJ hl₁ hoffI hic F₁ N₂) (fun _ s₄ p4 => wpAny_mono p4 (fun f s₂ p => ?_) fun _ _ e => e) fun _ _ e => e
    have fin : (∃ h' tk m' nx, s₂ = { { s with heap := hh', toks := tk' } with heap := h', toks := tk } ∧ Fr h₀ env.locals h' m' ∧ News h₀ env.locals h' ((s.heap.objs.size, io) :: nx) ∧ (∀ p ∈ nx, p.1 ≠ s.heap.objs.size) ∧ ((l, listOf vs.toArray nn) ∈ nx ∧ J (i + 1) m' nx)) →
        LoopStepU h₀ env.locals [s.heap.objs.size] own (fun m nx => (l, listOf vs.toArray nn) ∈ nx ∧ J (i + 1) m nx) { s with heap := hh', toks := tk' } .next s₂ := by
      rintro ⟨h', tk, m', nx, e, F', N', hI, hl2, hm⟩
      refine ⟨rfl, h', tk, m', nx, e, F', fun p hp => ?_, fun p hp hq => ?_, hl2, hm⟩
      · rcases List.mem_append.mp hp with h | h
        · rcases List.mem_cons.mp (hown p h) with h2 | h2
          · have h3 : hh'.get? p.1 = some p.2 := hget p h
            rw [h2, hio] at h3
            have h4 : p = (s.heap.objs.size, io) := Prod.ext h2 (Option.some.inj h3).symm
            rw [h4]; exact N' _ (.head _)
          · have h1 := List.mem_singleton.mp h2
            have h3 : hh'.get? p.1 = some p.2 := hget p h
            rw [h1, hlo] at h3
            have h4 : p = (l, listOf vs.toArray nn) := Prod.ext h1 (Option.some.inj h3).symm
            rw [h4]; exact N' _ (.tail _ hl2)
        · exact N' p (.tail _ h)
      · exact hI p hp (List.mem_singleton.mp hq)
    cases f with
    | ret v => exact .ret p
    | brk => exact .brk p
    | next => exact .next (fin p)
    | cont => exact .cont (fin p)
  · rintro h' tk m' news' F' N' _ ⟨hl', hJ⟩
    exact done m' news' h' tk hJ F' N'
end

section
open PySem.Calls PySem.Spec PyProof.V PyProof.Rows.LCg
variable {prog : Program} {w : World} {A : Around} {E : Value → Shared → Prop} {s : Shared} {h₀ : Heap} {L : Addr} {m : Str → Option Value} {env : Env}
theorem block_nil {ct elt iter target : PySem.Expr} {scope : Scope} {cl : List (Str × Addr)} {pos : Pos} {s₂ : Shared} {I : Addr} {fp : List Addr} {P : Nat → Value → Prop} {St : Nat → Heap → Prop} {news : Ledger} {RR : Value → Addr → Result → Shared → Prop}
    (W : Walks prog w A I fp [I] 0 P St) (hcell : ∀ y ∈ scope.names, y.2 ≠ .cell) (hkind : scope.kind = .function) (hst : St 0 s₂.heap) (hfp : ∀ b ∈ fp, b < s₂.heap.objs.size)
    (F : Fr h₀ L s₂.heap m) (N : News h₀ L s₂.heap news) (hIL : L ≠ I) (hI₀ : h₀.get? I = none) (off : ∀ p ∈ news, p.1 ≠ I)
    (hRR : ∀ D C h tk m', Fr h₀ L h m → News h₀ L h ((D, lst []) :: news) → Off1 D news → h.Ns C m' → h₀.get? C = none → h₀.get? D = none → C ≠ L → D ≠ L → C ≠ D → (∀ p ∈ news, p.1 ≠ C) → RR (.ref D) C (.ok .next) { s₂ with heap := h, toks := tk }) :
    wpAny (model prog w) A (newList []) (fun acc s₃ => wpAny (model prog w) A (newFunctionEnv scope env.globals cl [] env.qual none .none (some env)) (fun cenv s₄ =>
      codeAny (model prog w) A (.compStart (.ListComp elt [⟨target, iter, [ct], 0⟩] scope pos) 0 (.ref I) acc { cenv with scope := relabel scope env }) (RR acc cenv.locals) s₄) E s₃) E s₂ := by
  refine wpAny_newObj_type (wpAny_newFunctionEnv hcell (by intro y hy; simp at hy) (fun h₁ hns₁ hsb₁ => ?_) hkind)
  dsimp only at hns₁ hsb₁ ⊢
  generalize hH2 : s₂.heap.push { cls := .type "list", dict := none, data := .seq ([] : List Value).toArray } = H2 at hns₁ hsb₁ ⊢
  have hC : H2.objs.size = s₂.heap.objs.size + 1 := by rw [← hH2, Heap.size_push]
  have hDC : s₂.heap.objs.size ≠ H2.objs.size := by rw [hC]; exact Nat.ne_of_lt (Nat.lt_succ_self _)
  have below : ∀ b, b < s₂.heap.objs.size → b ≠ H2.objs.size ∧ b ≠ s₂.heap.objs.size := fun b hb => ⟨by rw [hC]; exact Nat.ne_of_lt (Nat.lt_succ_of_lt hb), Nat.ne_of_lt hb⟩
  have hIlt : I < s₂.heap.objs.size := hfp I (W.sub I (List.mem_singleton.mpr rfl))
  have old : ∀ b o, s₂.heap.get? b = some o → h₁.get? b = some o := fun b o e => hsb₁.extBut b o (below b (Heap.lt_size e)).1 (Heap.get?_push_of_some _ (hH2 ▸ Heap.get?_push_of_some _ e))
  have hacc : h₁.get? s₂.heap.objs.size = some (lst []) := hsb₁.extBut _ _ hDC (Heap.get?_push_of_some _ (hH2 ▸ Heap.get?_push_size _ rfl))
  have hst₁ : St 0 h₁ := W.frame _ _ _ hst fun b _ o e => old b o e
  have new₀ : ∀ a, s₂.heap.objs.size ≤ a → h₀.get? a = none := fun a ha => by
    cases e : h₀.get? a with
    | none => rfl
    | some o => exact absurd (Heap.lt_size (F.keep a o e)) (Nat.not_lt.mpr ha)
  have hD₀ : h₀.get? s₂.heap.objs.size = none := new₀ _ (Nat.le_refl _)
  have hC₀ : h₀.get? H2.objs.size = none := new₀ _ (by rw [hC]; exact Nat.le_succ _)
  have hLlt : L < s₂.heap.objs.size := F.ns.lt
  have hDL : s₂.heap.objs.size ≠ L := Ne.symm (below L hLlt).2
  have hCL : H2.objs.size ≠ L := Ne.symm (below L hLlt).1
  have hCI : I ≠ H2.objs.size := (below I hIlt).1
  have hDI : I ≠ s₂.heap.objs.size := (below I hIlt).2
  have off₀ : Off3 I H2.objs.size s₂.heap.objs.size news := Off3.of fun p hp => ⟨off p hp, (below _ (Heap.lt_size (N p hp).1)).1, (below _ (Heap.lt_size (N p hp).1)).2⟩
  have N₁ : News h₀ L h₁ ((s₂.heap.objs.size, lst []) :: news) := fun p hp => by
    rcases List.mem_cons.mp hp with rfl | hp
    · exact ⟨hacc, hDL, hD₀⟩
    · exact ⟨old _ _ (N p hp).1, (N p hp).2⟩
  have loop : ∀ s₃ : Shared, s₃ = { s₂ with heap := h₁, toks := s₂.toks + ([] : List (Str × Value)).length } →
      codeAny (model prog w) A (.compLoop (.ListComp elt [⟨target, iter, [ct], 0⟩] scope pos) 0 (.ref I) (.ref s₂.heap.objs.size) (compEnvC scope cl H2.objs.size env))
        (RR (.ref s₂.heap.objs.size) H2.objs.size) s₃ := by
    intro s₃ e₃
    refine PySem.W.kct_loop (fun _ s' => s' = s₃) ?_ 0 rfl
    rintro k s' rfl
    subst e₃
    refine W.done _ _ _ hst₁ fun h₂ tk₂ hk₂ => ?_
    have off3 := off₀.mem
    exact hRR _ _ h₂ tk₂ _ (fr_but (F.keeps old) hk₂ hIL hI₀) (news_but N₁ hk₂ fun p hp => by
          rcases List.mem_cons.mp hp with rfl | hp
          · exact Ne.symm hDI
          · exact (off3 p hp).1) off₀.one (hns₁.at' fun o e => hk₂ _ o (by simpa using Ne.symm hCI) e) hC₀ hD₀ hCL hDL (Ne.symm hDC) (fun p hp => (off3 p hp).2.1)
  exact codeAny_compStart_list (loop _ rfl) (W.self 0 _ _ _ hst₁ (loop _ rfl))
/-- a comprehension with a test over an empty list -/
theorem ListComp_nil {ct elt iter target : PySem.Expr} {scope : Scope} {cl : List (Str × Addr)} {pos : Pos} {Q : Value → Shared → Prop} (F₀ : Fr h₀ L s.heap m)
    (hclos : closureFor scope env = pure cl) (hcell : ∀ y ∈ scope.names, y.2 ≠ .cell) (hkind : scope.kind = .function)
    (hnames : ∀ y ∈ scope.names, y.2 = .local → scope.names.lookup y.1 = some .local)
    (h : wpAny (model prog w) A (eval iter env) (fun xv s₁ => ∃ ax news, xv = .ref ax ∧ A.handled = none ∧ Fr h₀ L s₁.heap m ∧ News h₀ L s₁.heap news ∧ SrcAt h₀ ax #[] news ∧ ∀ g, FinE h₀ L m { s₁ with heap := g } Q [] news) E s)
    (hs : ∀ x, foldedSetIterable iter env x = pure x := by intro _; rfl) :
    wpAny (model prog w) A (eval (.ListComp elt [⟨target, iter, [ct], 0⟩] scope pos) env) Q E s := by
  rw [eval_ListComp]
  refine wpAny_comprehension_free (use := none) rfl hs hclos hkind hnames (wpAny_mono h (fun xv s₁ h₁ => ?_) fun _ _ e => e)
  obtain ⟨ax, news, rfl, hh, F, N, S, fin⟩ := h₁
  have hl := S.list F.keep N
  have hlt : ax < s₁.heap.objs.size := by obtain ⟨_, e, _⟩ := hl; exact Heap.lt_size e
  refine wpAny_pyIter_list hl ?_
  have up : ∀ b o, s₁.heap.get? b = some o → (s₁.heap.push { cls := .type "list_iterator", data := .fields #[.ref ax, .int 0 0] }).get? b = some o := fun b o e => Heap.get?_push_of_some _ e
  have W := Walks.list (prog := prog) (w := w) hh s₁.heap.objs.size ax (Nat.ne_of_lt hlt) #[]
  have st0 : (fun (i : Nat) (hp : Heap) => hp.IsListIter s₁.heap.objs.size ax i ∧ hp.IsList ax #[]) 0 (s₁.heap.push { cls := .type "list_iterator", data := .fields #[.ref ax, .int 0 0] }) := ⟨⟨_, Heap.get?_push_size _ rfl, rfl, rfl⟩, hl.push _⟩
  refine block_nil W hcell hkind st0 (fun b hb => ?_) (F.keeps up) (N.grown up) (Nat.ne_of_lt F.ns.lt) (next_is_new F) (fun p hp => Nat.ne_of_lt (Heap.lt_size (N p hp).1)) ?_
  · show b < (s₁.heap.push _).objs.size
    rw [Heap.size_push]
    rcases List.mem_cons.mp hb with rfl | hb
    · exact Nat.lt_succ_self _
    · rw [List.mem_singleton.mp hb]; exact Nat.lt_succ_of_lt hlt
  · intro D C h tk m' F' N' o1 hn hC₀ hD₀ hCL hDL hCD offC
    refine ⟨m', hn, fun h'' hs'' => fin s₁.heap D h'' tk (F'.change hs'' hCL hC₀) (fun p hp => ?_) o1⟩
    refine ⟨hs''.extBut _ _ ?_ (N' p hp).1, (N' p hp).2⟩
    rcases List.mem_cons.mp hp with rfl | hp
    · exact Ne.symm hCD
    · exact offC p hp
end

theorem c_read (w mean mg mb) (tp : Tok) (news : Ledger) :
    Fn w mean mg mb 255 5 60 [.bytes #[] tp] news (fun r n' => ∃ l, r = .ref l ∧ (l, listOf #[] 0) ∈ n' ∧ (∀ p ∈ news, p ∈ n')) := by
  unfold Fn; k_fill; intro dp un gd cn cs a ccd cl outer A₀ base h₀ L m s Q E B F X N T hk hdp hun hret
  refine wpAny_call ?_; k_enter
  k_steps
  exact hret _ _ _ _ (by k_asm) (by k_asm) ⟨_, rfl, .head _, fun p hp => .tail _ hp⟩
theorem c_copied (w mean mg mb) (l : Addr) (n : Nat) (news : Ledger) (hl : (l, listOf #[] n) ∈ news) :
    Fn w mean mg mb 288 5 60 [.ref l] news (fun r n' => ∃ l, r = .ref l ∧ (l, listOf #[] 0) ∈ n' ∧ (∀ p ∈ news, p ∈ n')) := by
  unfold Fn; k_fill; intro dp un gd cn cs a ccd cl outer A₀ base h₀ L m s Q E B F X N T hk hdp hun hret
  refine wpAny_call ?_; k_enter
  walk1
  walk1
  rename Fr _ _ _ _ => F1
  rename News _ _ _ _ => N1
  refine ListComp_nil (cl := []) F1 (by rfl) (by decide) rfl (by decide) ?_
  walk1
  refine ⟨l, news, rfl, rfl, F1, N1, .inr ⟨_, hl, rfl, _, rfl⟩, fun g => ?_⟩
  intro D h3 tk3 F3 N3 o3
  k_whole
  walk_at "w"
  exact hret _ _ _ _ (by k_asm) (by k_asm) ⟨D, rfl, .head _, fun p hp => .tail _ hp⟩
theorem c_write (w mean mg mb) (l : Addr) (n : Nat) (news : Ledger) (hl : (l, listOf #[] n) ∈ news) :
    Fn w mean mg mb 269 5 60 [.ref l] news (fun r n' => ∃ t, r = .bytes #[] t ∧ n' = news) := by
  unfold Fn; k_fill; intro dp un gd cn cs a ccd cl outer A₀ base h₀ L m s Q E B F X N T hk hdp hun hret
  refine wpAny_call ?_; k_enter
  walk_at "w"
  (rename Fr _ _ _ _ => lF); with_unfolding_all refine' For_turns lF ?_
  walk_at "w"
  (rename Fr _ _ _ _ => F1)
  (rename News _ _ _ _ => N1)
  refine it_listT (vs := []) (nn := n) (fun i m nx => nx = news ∧ ∃ t, m "found" = some (.bytes #[] t)) rfl hl F1 N1 ⟨rfl, _, rfl⟩ ?_ ?_
  · rintro i v m₁ nx hp tk I io hv
    cases hv
  rintro m₁ nx hp tk ⟨rfl, tt, hf⟩ F2 N2
  clear F1 N1
  replace F2 := fr_know F2 hf
  walk_at "w"
  rw [show ((4 - ((#[] : Array UInt8).size : Int).fmod 4).fmod 4) = 0 from rfl]
  refine bytes_zero_K ?_
  intro t3 k3
  k_whole
  walk_at "w"
  exact hret _ _ _ _ (by k_asm) (by k_asm) ⟨_, rfl, rfl⟩
theorem c_room (w mean mg mb) (x y : Int) (tx ty : Tok) (news : Ledger) (hr : 8 ≤ (x - y) / 8 * 8) :
    Fn w mean mg mb 309 5 60 [.int x tx, .int y ty] news (fun r n' => n' = news ∧ ∃ t, r = .int ((x - y) / 8 * 8) t) := by
  have e : (x - y).fdiv 8 = (x - y) / 8 := Int.fdiv_eq_ediv_of_nonneg _ (by decide)
  unfold Fn; k_fill; intro dp un gd cn cs a ccd cl outer A₀ base h₀ L m s Q E B F X N T hk hdp hun hret
  refine wpAny_call ?_; k_enter
  walk_at "w"
  exact hret _ _ _ _ (by k_asm) (by k_asm) ⟨rfl, _, by rw [e]⟩
theorem c_later (w mean mg mb) (tp : Tok) (news : Ledger) :
    Fn w mean mg mb 295 12 150 [.bytes #[] tp] news (fun r n' => ∃ t, r = .bytes #[] t ∧ n' = news) := by
  unfold Fn; k_fill; intro dp un gd cn cs a ccd cl outer A₀ base h₀ L m s Q E B F X N T hk hdp hun hret
  refine wpAny_call ?_; k_enter
  repeat' ((fail_if_success (with_reducible show wpAny _ _ (call (Value.ref 255) _) _ _ _)); walk_at "wc")
  refine fn_useE_1_2 (c_read _ _ _ _ _ _) (by k_asm) (by k_asm) (by k_asm) (by k_asm) (by k_asm) (by first | exact rfl | assumption) (by ktr_room) (by walk_at "un") ?_
  intro l1 n1 h1 tk1 F1 N1 hl1 hs1
  repeat' ((fail_if_success (with_reducible show wpAny _ _ (call (Value.ref 288) _) _ _ _)); walk_at "wc")
  refine fn_useE_1_2 (c_copied _ _ _ _ l1 0 _ hl1) (by k_asm) (by k_asm) (by k_asm) (by k_asm) (by k_asm) (by first | exact rfl | assumption) (by ktr_room) (by walk_at "un") ?_
  intro l2 n2 h2 tk2 F2 N2 hl2 hs2
  repeat' ((fail_if_success (with_reducible show wpAny _ _ (call (Value.ref 269) _) _ _ _)); walk_at "wc")
  refine fn_useU (c_write _ _ _ _ l2 0 _ hl2) (by k_asm) (by k_asm) (by k_asm) (by k_asm) (by k_asm) (by first | exact rfl | assumption) (by ktr_room) (by walk_at "un") ?_
  intro t3 h3 tk3 F3 N3
  walk_at "w"
  rename News h₀ _ _ _ => kN
  exact hret _ news _ _ (by k_asm) (news_sub kN fun p hp => hs2 _ (hs1 _ hp)) ⟨t3, rfl, rfl⟩

-- P9
theorem news_head {hz hx : Heap} {Lf : Addr} {p : Addr × Obj} {l : Ledger} (_ : News hz Lf hx (p :: l)) : p ∈ p :: l := .head _
theorem news_up1 {hz hx : Heap} {Lf : Addr} {a p : Addr × Obj} {l : Ledger} (_ : News hz Lf hx (a :: l)) (h : p ∈ l) : p ∈ a :: l := .tail _ h
noncomputable abbrev tupO (vs : List Value) : Obj := { cls := .type "tuple", data := .seq vs.toArray }
theorem tup_list {vs : List Value} {a : Array Value} {n : Nat} : (tupO vs).cls ≠ (listOf a n).cls := by
  show Value.type "tuple" ≠ Value.type "list"; decide
theorem snoc_found {hz hx : Heap} {Lf fl : Addr} {vs : List Value} {v : Value} {c : Nat} {l : Ledger} (_ : News hz Lf hx (put fl (listOf (vs.toArray.push v) c) l)) : (fl, listOf (vs ++ [v]).toArray c) ∈ put fl (listOf (vs.toArray.push v) c) l := by
  rw [← List.push_toArray]; exact mem_put
theorem put_keep {l : Ledger} (U : One l) {fl b : Addr} {lo o o' : Obj} (hf : (fl, lo) ∈ l) (hb : (b, o) ∈ l) (hc : o.cls ≠ lo.cls) : (b, o) ∈ put fl o' l := mem_put_ne hb (U.ne hb hf fun e => hc (by rw [e]))
theorem wo_keep {l : Ledger} (U : One l) {fl b : Addr} {lo o : Obj} (hf : (fl, lo) ∈ l) (hb : (b, o) ∈ l) (hc : o.cls ≠ lo.cls) : (b, o) ∈ wo fl l := mem_wo.mpr ⟨hb, U.ne hb hf fun e => hc (by rw [e])⟩
theorem cls_inst {C d : Addr} {c : String} : (instObj C d).cls ≠ .type c := fun e => nomatch e
theorem Hd.In.put {P : Params} {a fl : Addr} {h : Hd} {l : Ledger} {lo o' : Obj} (x : h.In P a l) (U : One l) (hf : (fl, lo) ∈ l) (hc : lo.cls = .type "list") : h.In P a (put fl o' l) := by
  obtain ⟨d, k, t, h1, h2⟩ := x
  exact ⟨d, k, t, put_keep U hf h1 (by rw [hc]; exact cls_inst), put_keep U hf h2 (by rw [hc]; show Value.type "dict" ≠ Value.type "list"; decide)⟩
theorem Hd.In.wo {P : Params} {a fl : Addr} {h : Hd} {l : Ledger} {lo : Obj} {c : String} (x : h.In P a l) (U : One l) (hf : (fl, lo) ∈ l) (hc : lo.cls = .type c) (hd : c ≠ "dict") : h.In P a (wo fl l) := by
  obtain ⟨d, k, t, h1, h2⟩ := x
  exact ⟨d, k, t, wo_keep U hf h1 (by rw [hc]; exact cls_inst), wo_keep U hf h2 (by rw [hc]; exact fun e => hd (by injection e with e; exact e.symm))⟩
/-- a pair of a header and octets -/
inductive PartIn (P : Params) (l : Ledger) (v : Value) (x : Hd × List UInt8) : Prop
  | mk (T H : Addr) (t : Tok) (e : v = .ref T) (h1 : (T, tupO [.ref H, .bytes x.2.toArray t]) ∈ l) (h2 : x.1.In P H l) : PartIn P l v x
noncomputable def PartsIn (P : Params) (l : Ledger) (vs : List Value) (xs : List (Hd × List UInt8)) : Prop := vs.length = xs.length ∧ ∀ (i : Nat) (v : Value) (x : Hd × List UInt8), vs[i]? = some v → xs[i]? = some x → PartIn P l v x
theorem PartIn.mono {P : Params} {l l' : Ledger} {v : Value} {x : Hd × List UInt8} (h : PartIn P l v x) (hs : ∀ p ∈ l, p ∈ l') : PartIn P l' v x := by
  obtain ⟨T, H, t, e, h1, h2⟩ := h
  exact ⟨T, H, t, e, hs _ h1, h2.mono hs⟩
theorem PartIn.put {P : Params} {l : Ledger} {v : Value} {x : Hd × List UInt8} {fl : Addr} {lo o' : Obj} (h : PartIn P l v x) (U : One l) (hf : (fl, lo) ∈ l) (hc : lo.cls = .type "list") : PartIn P (put fl o' l) v x := by
  obtain ⟨T, H, t, e, h1, h2⟩ := h
  exact ⟨T, H, t, e, put_keep U hf h1 (by rw [hc]; show Value.type "tuple" ≠ _; decide), h2.put U hf hc⟩
theorem PartsIn.mono {P : Params} {l l' : Ledger} {vs : List Value} {xs : List (Hd × List UInt8)} (h : PartsIn P l vs xs) (hs : ∀ p ∈ l, p ∈ l') : PartsIn P l' vs xs := ⟨h.1, fun i v x h1 h2 => (h.2 i v x h1 h2).mono hs⟩
theorem PartsIn.put {P : Params} {l : Ledger} {vs : List Value} {xs : List (Hd × List UInt8)} {fl : Addr} {lo o' : Obj} (h : PartsIn P l vs xs) (U : One l) (hf : (fl, lo) ∈ l) (hc : lo.cls = .type "list") : PartsIn P (put fl o' l) vs xs :=
  ⟨h.1, fun i v x h1 h2 => (h.2 i v x h1 h2).put U hf hc⟩
theorem PartsIn.nil {P : Params} {l : Ledger} : PartsIn P l [] [] := ⟨rfl, fun i v x h => by cases h⟩
theorem snoc2 {α : Type} {R : Value → α → Prop} {vs : List Value} {xs : List α} {v : Value} {x : α} (h : vs.length = xs.length ∧ ∀ (i : Nat) (v : Value) (x : α), vs[i]? = some v → xs[i]? = some x → R v x) (hv : R v x) :
    (vs ++ [v]).length = (xs ++ [x]).length ∧ ∀ (i : Nat) (u : Value) (y : α), (vs ++ [v])[i]? = some u → (xs ++ [x])[i]? = some y → R u y := by
  have e := h.1
  refine ⟨by rw [List.length_append, List.length_append, e]; rfl, fun i u y h1 h2 => ?_⟩
  rcases Nat.lt_trichotomy i vs.length with hi | rfl | hi
  · rw [List.getElem?_append_left hi] at h1
    rw [List.getElem?_append_left (e ▸ hi)] at h2
    exact h.2 i u y h1 h2
  · rw [List.getElem?_append_right (Nat.le_refl _), Nat.sub_self] at h1
    rw [e, List.getElem?_append_right (Nat.le_refl _), Nat.sub_self] at h2
    cases h1; cases h2
    exact hv
  · rw [List.getElem?_eq_none (by rw [List.length_append]; exact hi)] at h1; cases h1
theorem PartsIn.snoc {P : Params} {l : Ledger} {vs : List Value} {xs : List (Hd × List UInt8)} {v : Value} {x : Hd × List UInt8} (h : PartsIn P l vs xs) (hv : PartIn P l v x) : PartsIn P l (vs ++ [v]) (xs ++ [x]) := snoc2 h hv
/-- the parts ahead of the last one -/
noncomputable def ahead (h : Hd) (p : List UInt8) (s k : Nat) : List (Hd × List UInt8) := (List.range k).map fun i => (h.part (h.off + ((i * s : Nat) : Int)) true, (p.drop (i * s)).take s)
/-- all parts -/
noncomputable def parts (h : Hd) (p : List UInt8) (s k : Nat) : List (Hd × List UInt8) := ahead h p s k ++ [(h.part (h.off + ((k * s : Nat) : Int)) h.more, p.drop (k * s))]
theorem ahead_succ (h : Hd) (p : List UInt8) (s k : Nat) : ahead h p s (k + 1) = ahead h p s k ++ [(h.part (h.off + ((k * s : Nat) : Int)) true, (p.drop (k * s)).take s)] := by
  unfold ahead
  rw [List.range_succ, List.map_append]; rfl
theorem ahead_len (h : Hd) (p : List UInt8) (s k : Nat) : (ahead h p s k).length = k := by simp [ahead]
/-- after k cuts the rest has room, and not before -/
noncomputable def Cuts (n : Nat) (m : Int) (s k : Nat) : Prop := (∀ j, j < k → m < 20 + ((n : Int) - ((j * s : Nat) : Int))) ∧ 20 + ((n : Int) - ((k * s : Nat) : Int)) ≤ m
theorem parts_zero (h : Hd) (p : List UInt8) (s : Nat) : parts h p s 0 = [(h, p)] := by
  unfold parts ahead
  simp only [List.range_zero, List.map_nil, List.nil_append, Nat.zero_mul, List.drop_zero]
  rw [show h.off + ((0 : Nat) : Int) = h.off by omega]
theorem parts_len {h : Hd} {p : List UInt8} {s k : Nat} : ∀ x ∈ parts h p s k, x.2.length ≤ p.length := by
  intro x hx
  rcases List.mem_append.mp hx with hx | hx
  · obtain ⟨i, _, rfl⟩ := List.mem_map.mp hx
    show ((p.drop (i * s)).take s).length ≤ _
    rw [List.length_take, List.length_drop]; exact Nat.le_trans (Nat.min_le_right _ _) (Nat.sub_le _ _)
  · obtain rfl := List.mem_singleton.mp hx
    show (p.drop (k * s)).length ≤ _
    rw [List.length_drop]; exact Nat.sub_le _ _
theorem parts_length (h : Hd) (p : List UInt8) (s k : Nat) : (parts h p s k).length = k + 1 := by simp [parts, ahead_len]
theorem step_nat {room : Int} (h : ¬ (room - 20) / 8 * 8 < 8) : (room - 20) / 8 * 8 = (((room - 20) / 8 * 8).toNat : Int) ∧ 8 ≤ ((room - 20) / 8 * 8).toNat := by omega
/-- more is left than the room bears: not all is told yet -/
theorem room_more {room : Int} {st q n : Nat} (h1 : (room - 20) / 8 * 8 = (st : Int)) (h8 : 8 ≤ st) (h : ¬ 20 + ((n : Int) - (q : Int)) ≤ room) : q + st ≤ n := by omega
theorem at_step (q st : Nat) : ((q : Int) + (st : Int)).toNat - q = st := by
  rw [show (q : Int) + (st : Int) = ((q + st : Nat) : Int) from rfl, Int.toNat_natCast, Nat.add_sub_cancel_left]
theorem cuts_le {n : Nat} {m : Int} {s k : Nat} (hc : Cuts n m s k) (h : 20 + (n : Int) ≤ m ∨ ((m - 20) / 8 * 8 = (s : Int) ∧ 8 ≤ s)) : k ≤ n := by
  cases k with
  | zero => exact Nat.zero_le _
  | succ j =>
    have h1 := hc.1 j (Nat.lt_succ_self _)
    rcases h with h | ⟨h2, h3⟩
    · omega
    · have : j ≤ j * s := Nat.le_mul_of_pos_right j (by omega)
      omega
theorem take_next {α : Type} {l : List α} {x : α} {i : Nat} (h : l[i]? = some x) : l.take (i + 1) = l.take i ++ [x] := by rw [List.take_add_one, h]; rfl
theorem cuts_one {n : Nat} {m : Int} {s j k : Nat} (h1 : Cuts n m s j) (h2 : Cuts n m s k) : j = k := by
  rcases Nat.lt_trichotomy j k with h | h | h
  · have := h2.1 j h; have := h1.2; omega
  · exact h
  · have := h1.1 k h; have := h2.2; omega

-- O9
theorem c_cut0 (w mean mg mb) (h : Hd) (a : Addr) (p : List UInt8) (tp tm : Tok) (mt : Int) (news : Ledger) (hh : h.In w.params a news) (hp : p.length ≤ 1000) (hm : 20 + (p.length : Int) ≤ mt) :
    Fn w mean mg mb 316 14 200 [.ref a, .bytes p.toArray tp, .int mt tm] news (fun r n' => ∃ l vs n, r = .ref l ∧ (l, listOf (List.toArray vs) n) ∈ n' ∧ PartsIn w.params n' vs [(h, p)] ∧ (∀ p ∈ news, p ∈ n') ∧ Off news l) := by
  have H := hh
  obtain ⟨d, k, t, h1, h2⟩ := hh
  unfold Fn; k_fill; intro dp un gd cn cs a' ccd cl outer A₀ base h₀ L m s Q E B F X N T hk hdp hun hret
  refine wpAny_call ?_; k_enter
  repeat' ((fail_if_success (with_reducible show wpAny _ _ (call (Value.ref 157) _) _ _ _)); walk_at "wc")
  refine fn_useT (c_size _ _ _ _ h a _ H) (by k_asm) (by k_asm) (by k_asm) (by k_asm) (by k_asm) (by first | exact rfl | assumption) (by ktr_room) (by walk_at "un") ?_
  intro t5 h5 tk5 F5 N5
  have hps : (p.toArray.size : Int) = (p.length : Int) := by simp
  walk_at "w"
  rename News h₀ _ _ _ => kN
  rename (_ ∧ AllLt _ news) => lz
  refine hret _ _ _ _ (by k_asm) kN ⟨_, [_], _, rfl, .head _, PartsIn.nil.snoc ⟨_, a, _, rfl, .tail _ (.head _), H.mono fun p hp => .tail _ (.tail _ hp)⟩, fun p hp => .tail _ (.tail _ hp), off_lt (allLt_out lz.2) (Nat.le_refl _)⟩
inductive CJ1 (P : Params) (h : Hd) (a : Addr) (p : List UInt8) (tp tm : Tok) (mt : Int) (st : Nat) (news : Ledger) (fl : Addr) (n : Nat) (m : Str → Option Value) (nx : Ledger) : Prop
  | mk (i q : Nat) (vs : List Value) (c : Nat) (ta to tl : Tok) (hqi : q = i * st) (hnq : n + q = p.length) (mh : m "header" = some (.ref a)) (mp : m "payload" = some (.bytes p.toArray tp)) (mm : m "mtu" = some (.int mt tm)) (mf : m "found" = some (.ref fl)) (ma : m "at" = some (.int (q : Int) ta)) (mo : m "options" = some (.bytes #[] to)) (ml : m "later" = some (.bytes #[] tl))
    (hfl : (fl, listOf (List.toArray vs) c) ∈ nx) (hpi : PartsIn P nx vs (ahead h p st i)) (hji : ∀ j, j < i → mt < 20 + ((p.length : Int) - ((j * st : Nat) : Int))) (hsub : ∀ p ∈ news, p ∈ nx) : CJ1 P h a p tp tm mt st news fl n m nx
theorem c_cut1 (w mean mg mb) (h : Hd) (a : Addr) (p : List UInt8) (tp tm : Tok) (mt : Int) (st : Nat) (news : Ledger) (hh : h.In w.params a news) (hp : p.length ≤ 1000) (hm : mt < 20 + (p.length : Int)) (hd : h.dont = false) (hs : (mt - 20) / 8 * 8 = (st : Int)) (hs8 : 8 ≤ st) :
    Fn w mean mg mb 316 14 200 [.ref a, .bytes p.toArray tp, .int mt tm] news (fun r n' => ∃ l vs n k, r = .ref l ∧ (l, listOf (List.toArray vs) n) ∈ n' ∧ PartsIn w.params n' vs (parts h p st k) ∧ Cuts p.length mt st k ∧ (∀ p ∈ news, p ∈ n') ∧ Off news l) := by
  have H := hh
  obtain ⟨d, k, t, h1, h2⟩ := hh
  unfold Fn; k_fill; intro dp un gd cn cs a' ccd cl outer A₀ base h₀ L m s Q E B F X N T hk hdp hun hret
  refine wpAny_call ?_; k_enter
  repeat' ((fail_if_success (with_reducible show wpAny _ _ (call (Value.ref 157) _) _ _ _)); walk_at "wc")
  refine fn_useT (c_size _ _ _ _ h a _ H) (by k_asm) (by k_asm) (by k_asm) (by k_asm) (by k_asm) (by first | exact rfl | assumption) (by ktr_room) (by walk_at "un") ?_
  intro t5 h5 tk5 F5 N5
  have hps : (p.toArray.size : Int) = (p.length : Int) := by simp
  repeat' ((fail_if_success (with_reducible show wpAny _ _ (call (Value.ref 295) _) _ _ _)); walk_at "wc")
  refine fn_useU (c_later _ _ _ _ _ _) (by k_asm) (by k_asm) (by k_asm) (by k_asm) (by k_asm) (by first | exact rfl | assumption) (by ktr_room) (by walk_at "un") ?_
  intro t6 h6 tk6 F6 N6
  walk_at "w"
  (rename Fr _ _ _ _ => F1)
  (rename (∀ p ∈ news, p.1 < _) => lf)
  (rename News _ _ _ ((_, _) :: _) => N1)
  obtain ⟨fl, rfl, lf⟩ := bound_name lf
  refine While_inv2 (n₀ := p.length) (CJ1 w.params h a p tp tm mt st news fl) F1 N1
    ⟨0, 0, [], 0, _, _, _, by omega, by omega, rfl, rfl, rfl, rfl, rfl, rfl, rfl, .head _, PartsIn.nil, fun j hj => by omega, fun p hp => .tail _ hp⟩ ?_
  rintro n m₁ nx hq tk F2 N2 ⟨i, q, vs, c, ta, to, tl, hqi, hnq, mh, mp, mm, mf, ma, mo, ml, hfl, hpi, hji, hsub⟩
  clear F1 N1
  refine letFr (fr_knowL [("header", .ref a), ("payload", .bytes p.toArray tp), ("mtu", .int mt tm), ("found", .ref fl), ("at", .int (q : Int) ta), ("options", .bytes #[] to), ("later", .bytes #[] tl)] F2 (And.intro mh (And.intro mp (And.intro mm (And.intro mf (And.intro ma (And.intro mo (And.intro ml trivial)))))))) ?_
  clear F2
  intro mF F2
  have H1 := H.mono hsub
  have h11 := hsub _ h1
  have h21 := hsub _ h2
  repeat' ((fail_if_success (with_reducible show wpAny _ _ (call (Value.ref 302) _) _ _ _)); walk_at "wc")
  refine fn_useE_1_3 (c_part _ _ _ _ h a _ _ _ _ _ H1) (by k_asm) (by k_asm) (by k_asm) (by k_asm) (by k_asm) (by first | exact rfl | assumption) (by ktr_room) (by walk_at "un") ?_
  intro b n1 h7 tk7 F7 N7 hb hs1 ob
  have H2 := H1.mono hs1
  have h12 := hs1 _ h11
  have h22 := hs1 _ h21
  have hfl2 := hs1 _ hfl
  have HB := hb
  obtain ⟨bd, bk, bt, b1, b2⟩ := hb
  repeat' ((fail_if_success (with_reducible show wpAny _ _ (call (Value.ref 157) _) _ _ _)); walk_at "wc")
  refine fn_useT (c_size _ _ _ _ _ b _ HB) (by k_asm) (by k_asm) (by k_asm) (by k_asm) (by k_asm) (by first | exact rfl | assumption) (by ktr_room) (by walk_at "un") ?_
  intro t8 h8 tk8 F8 N8
  repeat' ((fail_if_success (with_reducible show wpAny _ _ (call (Value.ref 302) _) _ _ _)); (fail_if_success (with_reducible show wpAny _ _ (call (Value.ref 157) _) _ _ _)); walk_at "wc")
  · rename (_ ≤ mt) => hfin
    refine fn_useE_1_3 (c_part _ _ _ _ h a _ _ _ _ _ H2) (by k_asm) (by k_asm) (by k_asm) (by k_asm) (by k_asm) (by first | exact rfl | assumption) (by ktr_room) (by walk_at "un") ?_
    intro b9 n2 h9 tk9 F9 N9 hb9 hs9 ob9
    repeat' ((fail_if_success (with_reducible show wpAny _ _ (subscriptTail _ (PySem.Expr.Slice _ _ none _) (Value.bytes _ _) (Value.ref _)) _ _ _)); walk_at "wc")
    rename Fr _ _ _ _ => F10
    rename News _ _ _ n2 => N10
    refine slice_P (s := ⟨_, _, _, _, _⟩) (b := p) (d := p.drop q) F10 N10 (by constructor) (by constructor) (by omega) ((cut_from (x := (q : Int)) (by omega)).trans (by rw [Int.toNat_natCast])) ?_
    intro h11' t11 k11 F11 N11
    have hfl3 := hs9 _ hfl2
    k_whole
    walk_at "w"
    rename News _ _ _ (_ :: n2) => N12
    have UN := one_of N12
    have hf2 := news_up1 N12 hfl3
    have hT := news_head N12
    have hil : i ≤ i * st := Nat.le_mul_of_pos_right i (Nat.lt_of_lt_of_le (by decide) hs8)
    have hvl : vs.length ≤ 1000 := by rw [hpi.1, ahead_len]; exact Nat.le_trans hil (Nat.le_trans (Nat.le_of_eq hqi.symm) (Nat.le_trans (hnq ▸ Nat.le_add_left q n) hp))
    walk_at "w"
    subst hqi
    dsimp only
    unfold WhileStep2
    dsimp only
    walk_at "w"
    rename News h₀ _ _ (put _ _ _) => kN
    refine hret _ _ _ _ (by k_asm) kN ⟨fl, vs ++ [.ref _], c + 1, i, rfl, ?_, ((hpi.mono fun p hp => .tail _ (hs9 _ (hs1 _ hp))).put UN hf2 rfl).snoc ⟨_, b9, _, rfl, put_keep UN hf2 hT tup_list, (hb9.mono fun p hp => .tail _ hp).put UN hf2 rfl⟩, ⟨hji, ?_⟩, fun p hp => mem_put_ne (.tail _ (hs9 _ (hs1 _ (hsub p hp)))) (Nat.ne_of_lt (lf p hp)), off_lt lf (Nat.le_refl _)⟩
    · rw [← List.push_toArray]; exact mem_put
    · rw [← hps]; omega
  · rename (¬ _ ≤ mt) => hgo
    have hgo2 := hgo
    rw [hps] at hgo2
    have hqs := room_more hs hs8 hgo2
    have hst0 : 0 < st := Nat.lt_of_lt_of_le (by decide) hs8
    refine fn_useT (c_size _ _ _ _ _ b _ HB) (by k_asm) (by k_asm) (by k_asm) (by k_asm) (by k_asm) (by first | exact rfl | assumption) (by ktr_room) (by walk_at "un") ?_
    intro t9 h9 tk9 F9 N9
    repeat' ((fail_if_success (with_reducible show wpAny _ _ (call (Value.ref 309) _) _ _ _)); walk_at "wc")
    refine fn_useT (c_room _ _ _ _ mt 20 _ _ _ (by omega)) (by k_asm) (by k_asm) (by k_asm) (by k_asm) (by k_asm) (by first | exact rfl | assumption) (by ktr_room) (by walk_at "un") ?_
    intro t9' h9' tk9' F9' N9'
    rw [hs]
    repeat' ((fail_if_success (with_reducible show wpAny _ _ (subscriptTail _ (PySem.Expr.Slice _ _ none _) (Value.bytes _ _) (Value.ref _)) _ _ _)); walk_at "wc")
    rename Fr _ _ _ _ => F10
    rename News _ _ _ n1 => N10
    refine slice_P (s := ⟨_, _, _, _, _⟩) (b := p) (d := (p.drop q).take st) F10 N10 (by constructor) (by constructor) (by omega) ((cut_mid (x := (q : Int)) (y := (q : Int) + (st : Int)) (by omega) (by omega)).trans (by rw [Int.toNat_natCast]; congr 1; exact at_step q st)) ?_
    intro h11' t11 k11 F11 N11
    k_whole
    walk_at "w"
    rename News _ _ _ (_ :: n1) => N12
    have UN := one_of N12
    have hf2 := news_up1 N12 hfl2
    have hT := news_head N12
    have hil : i ≤ i * st := Nat.le_mul_of_pos_right i (Nat.lt_of_lt_of_le (by decide) hs8)
    have hvl : vs.length ≤ 1000 := by rw [hpi.1, ahead_len]; exact Nat.le_trans hil (Nat.le_trans (Nat.le_of_eq hqi.symm) (Nat.le_trans (hnq ▸ Nat.le_add_left q n) hp))
    walk_at "w"
    rename News _ _ _ (put _ _ _) => N13
    have hm13 := snoc_found N13
    refine ⟨_, _, _, _, n - st, rfl, by k_asm, N13, Nat.sub_lt (Nat.lt_of_lt_of_le hst0 (Nat.le_of_add_le_add_left (by rw [Nat.add_comm q n, hnq]; exact hqs))) hst0, i + 1, q + st, _, c + 1, _, _, _, by rw [Nat.succ_mul, hqi], (by rw [Nat.add_comm q st, ← Nat.add_assoc, Nat.sub_add_cancel (Nat.le_of_add_le_add_left (a := q) (by rw [Nat.add_comm q n, hnq]; exact hqs)), hnq]), rfl, rfl, rfl, rfl, rfl, rfl, rfl, hm13, ?_, ?_, fun p hp => mem_put_ne (.tail _ (hs1 _ (hsub p hp))) (Nat.ne_of_lt (lf p hp))⟩
    · rw [ahead_succ, ← hqi]
      exact ((hpi.mono fun p hp => .tail _ (hs1 _ hp)).put UN hf2 rfl).snoc ⟨_, b, _, rfl, put_keep UN hf2 hT tup_list, (HB.mono fun p hp => .tail _ hp).put UN hf2 rfl⟩
    · intro j hj
      by_cases hji2 : j < i
      · exact hji j hji2
      · obtain rfl : j = i := Nat.le_antisymm (Nat.le_of_lt_succ hj) (Nat.le_of_not_lt hji2)
        rw [← hqi]; exact Int.not_le.mp hgo2

-- O10
theorem c_cut (w mean mg mb) (h : Hd) (a : Addr) (p : List UInt8) (tp tm : Tok) (mt : Int) (st : Nat) (news : Ledger) (hh : h.In w.params a news) (hp : p.length ≤ 1000) (hc : 20 + (p.length : Int) ≤ mt ∨ (h.dont = false ∧ (mt - 20) / 8 * 8 = (st : Int) ∧ 8 ≤ st)) :
    Fn w mean mg mb 316 14 200 [.ref a, .bytes p.toArray tp, .int mt tm] news (fun r n' => ∃ l vs n k, r = .ref l ∧ (l, listOf (List.toArray vs) n) ∈ n' ∧ PartsIn w.params n' vs (parts h p st k) ∧ Cuts p.length mt st k ∧ (∀ p ∈ news, p ∈ n') ∧ Off news l) := by
  by_cases hm : 20 + (p.length : Int) ≤ mt
  · unfold Fn
    intro dp un gd cn cs a' ccd cl outer A₀ base h₀ L m s Q E B F X N T hk hdp hun hret
    refine fn_use (c_cut0 w mean mg mb h a p tp tm mt news hh hp hm) B F X N T hk hdp hun fun r n' h' tk' F' N' q => hret r n' h' tk' F' N' ?_
    obtain ⟨l, vs, n, e, h1, h2, h3⟩ := q
    refine ⟨l, vs, n, 0, e, h1, by rw [parts_zero]; exact h2, ⟨fun j hj => absurd hj (Nat.not_lt_zero _), ?_⟩, h3⟩
    omega
  · obtain ⟨h1, h2, h3⟩ := hc.resolve_left hm
    exact c_cut1 w mean mg mb h a p tp tm mt st news hh hp (by omega) h1 h2 h3
/-- the rows that go out -/
inductive OutIn (l : Ledger) (v : Value) (face addr : Int) (x : Hd × List UInt8) : Prop
  | mk (T : Addr) (o : List UInt8) (t0 t1 t2 t3 : Tok) (e : v = .ref T) (h1 : (T, tupO [.str "out" t0, .int face t1, .int addr t2, .bytes (List.toArray o) t3]) ∈ l) (h2 : Packed x.1 x.2 o) : OutIn l v face addr x
noncomputable def OutsIn (l : Ledger) (vs : List Value) (face addr : Int) (xs : List (Hd × List UInt8)) : Prop := vs.length = xs.length ∧ ∀ (i : Nat) (v : Value) (x : Hd × List UInt8), vs[i]? = some v → xs[i]? = some x → OutIn l v face addr x
theorem OutIn.mono {l l' : Ledger} {v : Value} {face addr : Int} {x : Hd × List UInt8} (h : OutIn l v face addr x) (hs : ∀ p ∈ l, p ∈ l') : OutIn l' v face addr x := by
  obtain ⟨T, o, t0, t1, t2, t3, e, h1, h2⟩ := h
  exact ⟨T, o, t0, t1, t2, t3, e, hs _ h1, h2⟩
theorem OutsIn.mono {l l' : Ledger} {vs : List Value} {face addr : Int} {xs : List (Hd × List UInt8)} (h : OutsIn l vs face addr xs) (hs : ∀ p ∈ l, p ∈ l') : OutsIn l' vs face addr xs := ⟨h.1, fun i v x h1 h2 => (h.2 i v x h1 h2).mono hs⟩
theorem OutsIn.put {l : Ledger} {vs : List Value} {face addr : Int} {xs : List (Hd × List UInt8)} {fl : Addr} {lo o' : Obj} (h : OutsIn l vs face addr xs) (U : One l) (hf : (fl, lo) ∈ l) (hc : lo.cls = .type "list") : OutsIn (put fl o' l) vs face addr xs :=
  ⟨h.1, fun i v x h1 h2 => by
    obtain ⟨T, o, t0, t1, t2, t3, e, h3, h4⟩ := h.2 i v x h1 h2
    exact ⟨T, o, t0, t1, t2, t3, e, put_keep U hf h3 (by rw [hc]; show Value.type "tuple" ≠ _; decide), h4⟩⟩
theorem OutsIn.wo {l : Ledger} {vs : List Value} {face addr : Int} {xs : List (Hd × List UInt8)} {fl : Addr} {lo : Obj} {c : String} (h : OutsIn l vs face addr xs) (U : One l) (hf : (fl, lo) ∈ l) (hc : lo.cls = .type c) (hd : c ≠ "tuple") : OutsIn (wo fl l) vs face addr xs :=
  ⟨h.1, fun i v x h1 h2 => by
    obtain ⟨T, o, t0, t1, t2, t3, e, h3, h4⟩ := h.2 i v x h1 h2
    exact ⟨T, o, t0, t1, t2, t3, e, wo_keep U hf h3 (by rw [hc]; exact fun e => hd (by injection e with e; exact e.symm)), h4⟩⟩
theorem PartsIn.wo {P : Params} {l : Ledger} {vs : List Value} {xs : List (Hd × List UInt8)} {fl : Addr} {lo : Obj} {c : String} (h : PartsIn P l vs xs) (U : One l) (hf : (fl, lo) ∈ l) (hc : lo.cls = .type c) (hd : c ≠ "dict") (ht : c ≠ "tuple") : PartsIn P (wo fl l) vs xs :=
  ⟨h.1, fun i v x h1 h2 => by
    obtain ⟨T, H, t, e, h3, h4⟩ := h.2 i v x h1 h2
    exact ⟨T, H, t, e, wo_keep U hf h3 (by rw [hc]; exact fun e => ht (by injection e with e; exact e.symm)), h4.wo U hf hc hd⟩⟩
theorem OutsIn.nil {l : Ledger} {face addr : Int} : OutsIn l [] face addr [] := ⟨rfl, fun i v x h => by cases h⟩
theorem OutsIn.snoc {l : Ledger} {face addr : Int} {vs : List Value} {xs : List (Hd × List UInt8)} {v : Value} {x : Hd × List UInt8} (h : OutsIn l vs face addr xs) (hv : OutIn l v face addr x) : OutsIn l (vs ++ [v]) face addr (xs ++ [x]) := snoc2 (R := fun v x => OutIn l v face addr x) h hv
noncomputable abbrev faceObj (P : Params) (k0 k1 k2 t0 t1 t2 : Tok) (ad pr mt : Int) : Obj := dictOf [ent P "address" k0 (.int ad t0), ent P "prefix" k1 (.int pr t1), ent P "mtu" k2 (.int mt t2)] 3
noncomputable abbrev layObj (P : Params) (k0 k1 k2 k3 k4 t : Tok) (fa wy re : Addr) : Obj := dictOf [ent P "faces" k0 (.ref fa), ent P "routes" k1 (.ref wy), ent P "reassembly" k2 (.ref re), ent P "forwards" k3 (.bool true), ent P "last_ident" k4 (.int 0 t)] 5
inductive OJ1 (P : Params) (fl : Addr) (o : Ro) (addr : Int) (news : Ledger) (vs : List Value) (xs : List (Hd × List UInt8)) (i : Nat) (m : Str → Option Value) (nx : Ledger) : Prop
  | mk (ws : List Value) (c : Nat) (ta : Tok) (hmf : m "found" = some (.ref fl)) (hmr : m "route" = some (.ref o.a)) (hma : m "address" = some (.int addr ta)) (hfl : (fl, listOf (List.toArray ws) c) ∈ nx) (hou : OutsIn nx ws o.r.face addr (xs.take i)) (hpi2 : PartsIn P nx vs xs) (hsub : ∀ p ∈ news, p ∈ nx) : OJ1 P fl o addr news vs xs i m nx
theorem c_packets (w mean mg mb) (h : Hd) (a ly ld fa f df wy re : Addr) (k0 k1 k2 k3 k4 kt c0 c1 c2 u0 u1 u2 : Tok) (fvs : List Value) (nf : Nat) (ad pr : Int) (o : Ro) (p : List UInt8) (tp : Tok) (mt addr : Int) (st : Nat) (news : Ledger)
    (hh : h.In w.params a news) (ho : o.In w.params news) (hl1 : (ly, instObj 665 ld) ∈ news) (hl2 : (ld, layObj w.params k0 k1 k2 k3 k4 kt fa wy re) ∈ news) (hfa : (fa, listOf fvs.toArray nf) ∈ news)
    (hf0 : 0 ≤ o.r.face) (hf1 : o.r.face < 100) (hfv : fvs[o.r.face.toNat]? = some (.ref f)) (hf : (f, instObj 530 df) ∈ news) (hdf : (df, faceObj w.params c0 c1 c2 u0 u1 u2 ad pr mt) ∈ news)
    (had : addr = if o.r.gw = 0 then h.tgt else o.r.gw) (htg : h.tgt ≠ 4294967295) (hok : ∀ k, Cuts p.length mt st k → ∀ x ∈ parts h p st k, x.1.Ok)
    (hp : p.length ≤ 1000) (hc : 20 + (p.length : Int) ≤ mt ∨ (h.dont = false ∧ (mt - 20) / 8 * 8 = (st : Int) ∧ 8 ≤ st)) :
    Fn w mean mg mb 619 20 300 [.ref ly, .ref a, .bytes p.toArray tp, .ref o.a] news (fun r n' => ∃ l vs n k, r = .ref l ∧ (l, listOf (List.toArray vs) n) ∈ n' ∧ OutsIn n' vs o.r.face addr (parts h p st k) ∧ Cuts p.length mt st k ∧ (∀ p ∈ news, p ∈ n')) := by
  have H := hh
  obtain ⟨d, k, t, h1, h2⟩ := hh
  obtain ⟨ho1, ho2⟩ := id ho
  unfold Fn; k_fill; intro dp un gd cn cs a' ccd cl outer A₀ base h₀ L m s Q E B F X N T hk hdp hun hret
  refine wpAny_call ?_; k_enter
  walk_at "w"
  all_goals try (exact absurd ‹o.r.gw = 0› ‹o.r.gw ≠ 0›)
  all_goals try (exact absurd ‹h.tgt = 4294967295› htg)
  all_goals (
    (rename Fr _ _ _ _ => lF); with_unfolding_all refine' For_turns lF ?_
    repeat' ((fail_if_success (with_reducible show wpAny _ _ (call (Value.ref 316) _) _ _ _)); walk_at "wc")
    refine fn_useE_4_5 (c_cut _ _ _ _ h a p _ _ mt st _ (H.mono fun p hp => .tail _ hp) hp hc) (by k_asm) (by k_asm) (by k_asm) (by k_asm) (by k_asm) (by first | exact rfl | assumption) (by ktr_room) (by walk_at "un") ?_
    intro l vs nl k' n1 h3 tk3 F3 N3 hl hpi hcu hs1 hol
    (rename (∀ p ∈ news, p.1 < _) => lf)
    obtain ⟨fl, rfl, lf⟩ := bound_name lf
    have hfl1 := hs1 _ (.head _)
    have hlne : fl ≠ l := hol _ (.head _)
    have hxl := parts_len (h := h) (p := p) (s := st) (k := k')
    have hxo := hok k' hcu
    obtain ⟨xs, hxs⟩ : ∃ xs, xs = parts h p st k' := ⟨_, rfl⟩
    have hlen : vs.length ≤ 1001 := by
      have := cuts_le hcu (hc.imp id fun h => h.2)
      rw [hpi.1, parts_length]; omega
    rw [← hxs] at hpi hxl hxo
    walk_at "w"
    (rename Fr _ _ _ _ => F1)
    (rename News _ _ _ n1 => N1)
    refine it_listT (vs := vs) (nn := nl) (OJ1 w.params fl o addr news vs xs) rfl hl F1 N1
      ⟨[], 0, _, rfl, rfl, (by first | (rw [had, if_pos ‹o.r.gw = 0›]; rfl) | (rw [had, if_neg ‹o.r.gw ≠ 0›]; rfl)), hfl1, OutsIn.nil, hpi, fun p hp => hs1 _ (.tail _ hp)⟩ ?_ ?_
    · rintro i v m₁ nx hq tk I io hv ⟨ws, c, ta, hmf, hmr, hma, hfl, hou, hpi2, hsub⟩ hl2 hI hio F2 N2
      obtain ⟨x, hx⟩ : ∃ x, xs[i]? = some x := by
        have : i < vs.length := by
          rcases Nat.lt_or_ge i vs.length with h | h
          · exact h
          · rw [List.getElem?_eq_none h] at hv; cases hv
        exact ⟨xs[i]'(by rw [← hpi2.1]; exact this), List.getElem?_eq_getElem _⟩
      have hxm := List.mem_of_getElem? hx
      obtain ⟨T', b, tb, rfl, hT, hb⟩ := hpi2.2 i v x hv hx
      clear F1 N1
      refine letFr (fr_knowL [("found", .ref fl), ("route", .ref o.a), ("address", .int addr ta)] F2 (And.intro hmf (And.intro hmr (And.intro hma trivial)))) ?_
      clear F2
      intro mF F2
      have ho11 := hsub _ ho1
      have ho21 := hsub _ ho2
      have UN := one_of N2
      repeat' ((fail_if_success (with_reducible show wpAny _ _ (call (Value.ref 227) _) _ _ _)); walk_at "wc")
      refine fn_use (c_pack _ _ _ _ x.1 b x.2 _ _ (hb.mono fun p hp => .tail _ hp) (hxo x hxm) (Nat.le_trans (hxl x hxm) hp)) (by k_asm) (by k_asm) (by k_asm) (by k_asm) (by k_asm) (by first | exact rfl | assumption) (by ktr_room) (by walk_at "un") ?_
      rintro _ n3 h4 tk4 F4 N4 ⟨rfl, o', to, rfl, hpk⟩
      walk_at "w"
      rename News _ _ _ (_ :: _ :: nx) => N5
      have UN5 := one_of N5
      have hfl5 := news_up1 N5 (.tail _ hfl)
      have hT5 := news_head N5
      have hwl : ws.length ≤ 1001 := by
        rw [hou.1, List.length_take, ← hpi2.1]; omega
      walk_at "w"
      rename News _ _ _ (put _ _ _) => N6
      have UN6 := one_of N6
      have hI6 := news_put_mem N6 (.tail _ (.head _)) (fun e => hI _ hfl e.symm)
      have hm6 := snoc_found N6
      have hIf : fl ≠ I := hI _ hfl
      refine turn_end' (by k_asm) N6 hI6 ⟨mem_wo.mpr ⟨mem_put_ne (.tail _ (.tail _ hl2)) (fun e => hlne e.symm), hI _ hl2⟩, _, c + 1, ta, rfl, rfl, rfl, mem_wo.mpr ⟨hm6, hIf⟩, ?_, ((hpi2.mono fun p hp => .tail _ (.tail _ hp)).put UN5 hfl5 rfl).wo UN6 hI6 hio (by decide) (by decide), fun p hp => mem_wo.mpr ⟨mem_put_ne (.tail _ (.tail _ (hsub p hp))) (Nat.ne_of_lt (lf p hp)), hI _ (hsub p hp)⟩⟩
      rw [take_next hx]
      exact OutsIn.wo (((hou.mono fun p hp => .tail _ (.tail _ hp)).put UN5 hfl5 rfl).snoc ⟨_, o', _, _, _, _, rfl, put_keep UN5 hfl5 hT5 tup_list, hpk⟩) UN6 hI6 hio (by decide)
    · rintro m₁ nx hq tk ⟨ws, c, ta, hmf, hmr, hma, hfl, hou, hpi2, hsub⟩ F2 N2
      clear F1 N1
      refine letFr (fr_knowL [("found", .ref fl)] F2 (And.intro hmf trivial)) ?_
      clear F2
      intro mF F2
      walk_at "w"
      refine hret _ _ _ _ (by k_asm) (by k_asm) ⟨fl, ws, c, k', rfl, hfl, ?_, hcu, hsub⟩
      rw [hpi2.1, List.take_length, hxs] at hou
      exact hou)

-- O11
noncomputable def FnR (w : World) (mean : ExcName → Option Value) (mg mb : Str → Option Value) (f : Addr) (d u : Nat) (args : List Value) (news : Ledger) : Prop :=
  ∀ (dp un : Nat) (gd : Option (List Code)) (cn : Str) (cs : Scope) (a : Addr) (ccd : Value) (outer : List Env) (A₀ : Around) (base h₀ : Heap) (L : Addr) (m : Str → Option Value) (s : Shared)
    (Q E : Value → Shared → Prop),
    Below A₀ base outer h₀ → (hd.heap_39 w.params).In base → Top VW LS mean mg mb base → Fr h₀ L s.heap m → (hd.heap_39 w.params).In h₀ → News h₀ L s.heap news → Top VW LS mean mg mb h₀ → cs.kind = .function → dp + d < recursionLimit → un + u < cLine →
    (∀ g₂ e t vs h' tk', Fr h₀ L g₂ m → RaisedS base g₂ (envOf cn cs L a ccd :: outer) e (.ref 63) t vs news h' → g₂.UpToSlots h' → E (.ref e) { s with heap := h', toks := tk' }) →
    wpAny (model PySem.Challenge.rw_xw0341_02.row.prog w) (ktrTop dp un gd cn cs L a ccd [] outer) (call (.ref f) args) Q E s
section
variable {w : World} {mean : ExcName → Option Value} {mg mb : Str → Option Value} {f : Addr} {d u : Nat} {args : List Value} {news : Ledger}
theorem fnR_use {dp un : Nat} {gd : Option (List Code)} {cn : Str} {cs : Scope} {a : Addr} {ccd : Value} {outer : List Env} {A₀ : Around} {base h₀ : Heap} {L : Addr} {m : Str → Option Value} {s : Shared}
    {Q E : Value → Shared → Prop} (C : FnR w mean mg mb f d u args news)
    (B : Below A₀ base outer h₀) (XB : (hd.heap_39 w.params).In base) (TB : Top VW LS mean mg mb base) (F : Fr h₀ L s.heap m) (X : (hd.heap_39 w.params).In h₀) (N : News h₀ L s.heap news) (T : Top VW LS mean mg mb h₀) (hk : cs.kind = .function)  (hd : dp + d < recursionLimit) (hu : un + u < cLine)
    (hE : ∀ g₂ e t vs h' tk', Fr h₀ L g₂ m → RaisedS base g₂ (envOf cn cs L a ccd :: outer) e (.ref 63) t vs news h' → g₂.UpToSlots h' → E (.ref e) { s with heap := h', toks := tk' }) :
    wpAny (model PySem.Challenge.rw_xw0341_02.row.prog w) (ktrTop dp un gd cn cs L a ccd [] outer) (call (.ref f) args) Q E s := C _ _ _ _ _ _ _ _ _ _ _ _ _ _ _ _ B XB TB F X N T hk hd hu hE
theorem raised_sub {base G : Heap} {l : List Env} {e t : Addr} {c : Value} {vs : List Value} {n n' : Ledger} {h : Heap} (R : RaisedS base G l e c t vs n h) (hs : ∀ p ∈ n', p ∈ n) : RaisedS base G l e c t vs n' h := by
  obtain ⟨⟨B, h1, h2, h3, h4, h5⟩, h6⟩ := R
  exact ⟨⟨B, h1, h2, fun q hq => h3 q (hs q hq), h4, h5⟩, h6⟩
end

theorem x_own (P : Params) : xIn (hd.heap_39 P) 63 := ⟨_, _, _, _, _, _, _, _, _, _, _, _, _, _, _, _, rfl, rfl, rfl, rfl, rfl⟩
theorem r_room (w mean mg mb) (x y : Int) (tx ty : Tok) (news : Ledger) (hr : (x - y) / 8 * 8 < 8) : FnR w mean mg mb 309 9 100 [.int x tx, .int y ty] news := by
  have e : (x - y).fdiv 8 = (x - y) / 8 := Int.fdiv_eq_ediv_of_nonneg _ (by decide)
  unfold FnR; k_fill; intro dp un gd cn cs a' ccd outer A₀ base h₀ L m s Q E B XB TB F X N T hk hdp hun hE
  refine wpAny_call ?_; k_enter
  walk_at "w"
  (refine x_raiseK (C := 63) (by k_asm) (by k_asm) (x_own _) rfl ?_)
  repeat' ((fail_if_success (with_reducible show wpAny _ _ (exec (Stmt.For _ _ _ _ _) _) _ _ _)); (fail_if_success (with_reducible show wpAny _ _ (pyIter _) _ _ _)); (fail_if_success (with_reducible show wpAny _ _ (exec (Stmt.Raise _ _ _) _) _ _ _)); (fail_if_success (with_reducible show wpAny _ _ (exec (Stmt.While _ _ _ _) _) _ _ _)); (fail_if_success (with_reducible show wpAny _ _ (call (Value.ref 63) _) _ _ _)); first | (k_unfold; (try dsimp only)) | walk1 | (dsimp only; walk1) | (leave1; (try dsimp only)))
  refine' x_call ?k1 ?k2 ?k3 ?k4 ?k5 ?k6 ?k7 ?_
  case k1 => k_asm
  case k2 => k_asm
  case k3 => k_asm
  case k4 => exact x_own _
  case k5 => k_is
  case k6 => k_is
  case k7 => rw [sizeLine_eq]; exact Nat.le_of_ble_eq_true rfl
  intro e te h' F' N' le1 le2
  k_enter
  repeat' ((fail_if_success (with_reducible show wpAny _ _ (exec (Stmt.For _ _ _ _ _) _) _ _ _)); (fail_if_success (with_reducible show wpAny _ _ (pyIter _) _ _ _)); (fail_if_success (with_reducible show wpAny _ _ (exec (Stmt.Raise _ _ _) _) _ _ _)); (fail_if_success (with_reducible show wpAny _ _ (exec (Stmt.While _ _ _ _) _) _ _ _)); first | (k_unfold; (try dsimp only)) | walk1 | (dsimp only; walk1) | (leave1; (try dsimp only)))
  refine' x_set ?k1 ?k2 ?k3 ?k4 ?k5 ?k6 ?k7 ?k8 ?k9 ?k10 ?k11 ?_
  case k1 => k_asm
  case k2 => k_asm
  case k3 =>
    intro p hp
    rcases List.mem_cons.mp hp with rfl | hp
    · exact Nat.ne_of_lt le2
    · exact Nat.ne_of_lt (Nat.lt_trans (le1 p hp) le2)
  case k4 => k_asm
  case k5 => k_is
  case k6 => k_is
  case k7 => k_is
  case k8 => kernel_rfl
  case k9 => kernel_rfl
  case k10 => kernel_rfl
  case k11 => intro self; kernel_rfl
  k_whole
  intro h' de tk' F' N'
  repeat' ((fail_if_success (with_reducible show wpAny _ _ (exec (Stmt.For _ _ _ _ _) _) _ _ _)); (fail_if_success (with_reducible show wpAny _ _ (pyIter _) _ _ _)); (fail_if_success (with_reducible show wpAny _ _ (exec (Stmt.Raise _ _ _) _) _ _ _)); (fail_if_success (with_reducible show wpAny _ _ (exec (Stmt.While _ _ _ _) _) _ _ _)); first | (k_unfold; (try dsimp only)) | walk1 | (dsimp only; walk1) | (leave1; (try dsimp only)))
  refine x_raised (C := 63) (by k_asm) (by k_asm) (by k_asm) (.head _) ?_
  k_unfold
  refine x_leave (news' := news) (by k_asm) (by k_asm) (by k_asm) (.head _) (.tail _ (.head _)) (fun p hp => ⟨.tail _ (.tail _ hp), Nat.ne_of_lt (Nat.lt_trans (le1 p hp) le2), Nat.ne_of_lt (le1 p hp)⟩) (fun h' R9 hsm => ?_)

  refine hE _ _ _ _ _ _ ?_ R9 hsm
  assumption
theorem r_cut0 (w mean mg mb) (h : Hd) (a : Addr) (p : List UInt8) (tp tm : Tok) (mt : Int) (news : Ledger) (hh : h.In w.params a news) (hp : p.length ≤ 1000) (hm : mt < 20 + (p.length : Int)) (hd : h.dont = true) :
    FnR w mean mg mb 316 20 250 [.ref a, .bytes p.toArray tp, .int mt tm] news := by
  have H := hh
  obtain ⟨d, k, t, h1, h2⟩ := hh
  have hps : (p.toArray.size : Int) = (p.length : Int) := by simp
  unfold FnR; k_fill; intro dp un gd cn cs a' ccd outer A₀ base h₀ L m s Q E B XB TB F X N T hk hdp hun hE
  refine wpAny_call ?_; k_enter
  repeat' ((fail_if_success (with_reducible show wpAny _ _ (call (Value.ref 157) _) _ _ _)); walk_at "wc")
  refine fn_useT (c_size _ _ _ _ h a _ H) (by k_asm) (by k_asm) (by k_asm) (by k_asm) (by k_asm) (by first | exact rfl | assumption) (by ktr_room) (by walk_at "un") ?_
  intro t5 h5 tk5 F5 N5
  walk_at "w"
  (refine x_raiseK (C := 63) (by k_asm) (by k_asm) (x_own _) rfl ?_)
  repeat' ((fail_if_success (with_reducible show wpAny _ _ (exec (Stmt.For _ _ _ _ _) _) _ _ _)); (fail_if_success (with_reducible show wpAny _ _ (pyIter _) _ _ _)); (fail_if_success (with_reducible show wpAny _ _ (exec (Stmt.Raise _ _ _) _) _ _ _)); (fail_if_success (with_reducible show wpAny _ _ (exec (Stmt.While _ _ _ _) _) _ _ _)); (fail_if_success (with_reducible show wpAny _ _ (call (Value.ref 63) _) _ _ _)); first | (k_unfold; (try dsimp only)) | walk1 | (dsimp only; walk1) | (leave1; (try dsimp only)))
  refine' x_call ?k1 ?k2 ?k3 ?k4 ?k5 ?k6 ?k7 ?_
  case k1 => k_asm
  case k2 => k_asm
  case k3 => k_asm
  case k4 => exact x_own _
  case k5 => k_is
  case k6 => k_is
  case k7 => rw [sizeLine_eq]; exact Nat.le_of_ble_eq_true rfl
  intro e te h' F' N' le1 le2
  k_enter
  repeat' ((fail_if_success (with_reducible show wpAny _ _ (exec (Stmt.For _ _ _ _ _) _) _ _ _)); (fail_if_success (with_reducible show wpAny _ _ (pyIter _) _ _ _)); (fail_if_success (with_reducible show wpAny _ _ (exec (Stmt.Raise _ _ _) _) _ _ _)); (fail_if_success (with_reducible show wpAny _ _ (exec (Stmt.While _ _ _ _) _) _ _ _)); first | (k_unfold; (try dsimp only)) | walk1 | (dsimp only; walk1) | (leave1; (try dsimp only)))
  refine' x_set ?k1 ?k2 ?k3 ?k4 ?k5 ?k6 ?k7 ?k8 ?k9 ?k10 ?k11 ?_
  case k1 => k_asm
  case k2 => k_asm
  case k3 =>
    intro p hp
    rcases List.mem_cons.mp hp with rfl | hp
    · exact Nat.ne_of_lt le2
    · exact Nat.ne_of_lt (Nat.lt_trans (le1 p hp) le2)
  case k4 => k_asm
  case k5 => k_is
  case k6 => k_is
  case k7 => k_is
  case k8 => kernel_rfl
  case k9 => kernel_rfl
  case k10 => kernel_rfl
  case k11 => intro self; kernel_rfl
  k_whole
  intro h' de tk' F' N'
  repeat' ((fail_if_success (with_reducible show wpAny _ _ (exec (Stmt.For _ _ _ _ _) _) _ _ _)); (fail_if_success (with_reducible show wpAny _ _ (pyIter _) _ _ _)); (fail_if_success (with_reducible show wpAny _ _ (exec (Stmt.Raise _ _ _) _) _ _ _)); (fail_if_success (with_reducible show wpAny _ _ (exec (Stmt.While _ _ _ _) _) _ _ _)); first | (k_unfold; (try dsimp only)) | walk1 | (dsimp only; walk1) | (leave1; (try dsimp only)))
  refine x_raised (C := 63) (by k_asm) (by k_asm) (by k_asm) (.head _) ?_
  k_unfold
  refine x_leave (news' := news) (by k_asm) (by k_asm) (by k_asm) (.head _) (.tail _ (.head _)) (fun p hp => ⟨.tail _ (.tail _ hp), Nat.ne_of_lt (Nat.lt_trans (le1 p hp) le2), Nat.ne_of_lt (le1 p hp)⟩) (fun h' R9 hsm => ?_)

  refine hE _ _ _ _ _ _ ?_ R9 hsm
  assumption
inductive RJ1 (a : Addr) (p : List UInt8) (tp tm : Tok) (mt : Int) (news : Ledger) (n : Nat) (m : Str → Option Value) (nx : Ledger) : Prop
  | mk (hn : n = 0) (ta to : Tok) (mh : m "header" = some (.ref a)) (mp : m "payload" = some (.bytes p.toArray tp)) (mm : m "mtu" = some (.int mt tm)) (ma : m "at" = some (.int 0 ta)) (mo : m "options" = some (.bytes #[] to)) (hsub : ∀ p ∈ news, p ∈ nx) : RJ1 a p tp tm mt news n m nx
theorem r_cut1 (w mean mg mb) (h : Hd) (a : Addr) (p : List UInt8) (tp tm : Tok) (mt : Int) (news : Ledger) (hh : h.In w.params a news) (hp : p.length ≤ 1000) (hm : mt < 20 + (p.length : Int)) (hd : h.dont = false) (hs : (mt - 20) / 8 * 8 < 8) :
    FnR w mean mg mb 316 20 250 [.ref a, .bytes p.toArray tp, .int mt tm] news := by
  have H := hh
  obtain ⟨d, k, t, h1, h2⟩ := hh
  have hps : (p.toArray.size : Int) = (p.length : Int) := by simp
  unfold FnR; k_fill; intro dp un gd cn cs a' ccd outer A₀ base h₀ L m s Q E B XB TB F X N T hk hdp hun hE
  refine wpAny_call ?_; k_enter
  repeat' ((fail_if_success (with_reducible show wpAny _ _ (call (Value.ref 157) _) _ _ _)); walk_at "wc")
  refine fn_useT (c_size _ _ _ _ h a _ H) (by k_asm) (by k_asm) (by k_asm) (by k_asm) (by k_asm) (by first | exact rfl | assumption) (by ktr_room) (by walk_at "un") ?_
  intro t5 h5 tk5 F5 N5
  repeat' ((fail_if_success (with_reducible show wpAny _ _ (call (Value.ref 295) _) _ _ _)); walk_at "wc")
  refine fn_useU (c_later _ _ _ _ _ _) (by k_asm) (by k_asm) (by k_asm) (by k_asm) (by k_asm) (by first | exact rfl | assumption) (by ktr_room) (by walk_at "un") ?_
  intro t6 h6 tk6 F6 N6
  walk_at "w"
  (rename Fr _ _ _ _ => F1)
  (rename News _ _ _ ((_, _) :: _) => N1)
  refine While_inv2 (n₀ := 0) (RJ1 a p tp tm mt news) F1 N1
    ⟨rfl, _, _, rfl, rfl, rfl, rfl, rfl, fun p hp => .tail _ hp⟩ ?_
  rintro n m₁ nx hq tk F2 N2 ⟨rfl, ta, to, mh, mp, mm, ma, mo, hsub⟩
  clear F1 N1
  refine letFr (fr_knowL [("header", .ref a), ("payload", .bytes p.toArray tp), ("mtu", .int mt tm), ("at", .int 0 ta), ("options", .bytes #[] to)] F2 (And.intro mh (And.intro mp (And.intro mm (And.intro ma (And.intro mo trivial)))))) ?_
  clear F2
  intro mF F2
  have H1 := H.mono hsub
  have h11 := hsub _ h1
  have h21 := hsub _ h2
  repeat' ((fail_if_success (with_reducible show wpAny _ _ (call (Value.ref 302) _) _ _ _)); walk_at "wc")
  refine fn_useE_1_3 (c_part _ _ _ _ h a _ _ _ _ _ H1) (by k_asm) (by k_asm) (by k_asm) (by k_asm) (by k_asm) (by first | exact rfl | assumption) (by ktr_room) (by walk_at "un") ?_
  intro b n1 h7 tk7 F7 N7 hb hs1 ob
  have HB := hb
  obtain ⟨bd, bk, bt, b1, b2⟩ := hb
  repeat' ((fail_if_success (with_reducible show wpAny _ _ (call (Value.ref 157) _) _ _ _)); walk_at "wc")
  refine fn_useT (c_size _ _ _ _ _ b _ HB) (by k_asm) (by k_asm) (by k_asm) (by k_asm) (by k_asm) (by first | exact rfl | assumption) (by ktr_room) (by walk_at "un") ?_
  intro t8 h8 tk8 F8 N8
  repeat' ((fail_if_success (with_reducible show wpAny _ _ (call (Value.ref 302) _) _ _ _)); (fail_if_success (with_reducible show wpAny _ _ (call (Value.ref 157) _) _ _ _)); walk_at "wc")
  refine fn_useT (c_size _ _ _ _ _ b _ HB) (by k_asm) (by k_asm) (by k_asm) (by k_asm) (by k_asm) (by first | exact rfl | assumption) (by ktr_room) (by walk_at "un") ?_
  intro t9 h9 tk9 F9 N9
  repeat' ((fail_if_success (with_reducible show wpAny _ _ (call (Value.ref 309) _) _ _ _)); walk_at "wc")
  refine fnR_use (r_room _ _ _ _ mt 20 _ _ _ hs) (by k_asm) (by assumption) (by assumption) (by k_asm) (by k_asm) (by k_asm) (by k_asm) (by first | exact rfl | assumption) (by ktr_room) (by ktr_units) ?_
  intro g₂ e et vs h10 tk10 F10 R10 U10
  k_unfold
  refine leave_onS (by k_asm) F10 R10 U10 (fun h11' S' R' U' => ?_)
  refine hE _ _ _ _ _ _ ?_ (raised_sub S' fun p hp => hs1 _ (hsub p hp)) U'
  assumption
theorem r_cut (w mean mg mb) (h : Hd) (a : Addr) (p : List UInt8) (tp tm : Tok) (mt : Int) (news : Ledger) (hh : h.In w.params a news) (hp : p.length ≤ 1000) (hm : mt < 20 + (p.length : Int)) (hc : h.dont = true ∨ (mt - 20) / 8 * 8 < 8) :
    FnR w mean mg mb 316 20 250 [.ref a, .bytes p.toArray tp, .int mt tm] news := by
  cases hd : h.dont with
  | true => exact r_cut0 w mean mg mb h a p tp tm mt news hh hp hm hd
  | false => exact r_cut1 w mean mg mb h a p tp tm mt news hh hp hm hd (hc.resolve_left (by rw [hd]; decide))
theorem r_packets (w mean mg mb) (h : Hd) (a ly ld fa f df wy re : Addr) (k0 k1 k2 k3 k4 kt c0 c1 c2 u0 u1 u2 : Tok) (fvs : List Value) (nf : Nat) (ad pr : Int) (o : Ro) (p : List UInt8) (tp : Tok) (mt : Int) (news : Ledger)
    (hh : h.In w.params a news) (ho : o.In w.params news) (hl1 : (ly, instObj 665 ld) ∈ news) (hl2 : (ld, layObj w.params k0 k1 k2 k3 k4 kt fa wy re) ∈ news) (hfa : (fa, listOf fvs.toArray nf) ∈ news)
    (hf0 : 0 ≤ o.r.face) (hf1 : o.r.face < 100) (hfv : fvs[o.r.face.toNat]? = some (.ref f)) (hf : (f, instObj 530 df) ∈ news) (hdf : (df, faceObj w.params c0 c1 c2 u0 u1 u2 ad pr mt) ∈ news)
    (hp : p.length ≤ 1000) (hm : mt < 20 + (p.length : Int)) (hc : h.dont = true ∨ (mt - 20) / 8 * 8 < 8) :
    FnR w mean mg mb 619 25 350 [.ref ly, .ref a, .bytes p.toArray tp, .ref o.a] news := by
  have H := hh
  obtain ⟨d, k, t, h1, h2⟩ := hh
  obtain ⟨ho1, ho2⟩ := id ho
  unfold FnR; k_fill; intro dp un gd cn cs a' ccd outer A₀ base h₀ L m s Q E B XB TB F X N T hk hdp hun hE
  refine wpAny_call ?_; k_enter
  walk_at "w"
  all_goals (
    (rename Fr _ _ _ _ => lF); with_unfolding_all refine' For_turns lF ?_
    repeat' ((fail_if_success (with_reducible show wpAny _ _ (call (Value.ref 316) _) _ _ _)); walk_at "wc"))
  all_goals (
    refine fnR_use (r_cut _ _ _ _ h a p _ _ mt _ (H.mono fun p hp => .tail _ hp) hp hm hc) (by k_asm) (by assumption) (by assumption) (by k_asm) (by k_asm) (by k_asm) (by k_asm) (by first | exact rfl | assumption) (by ktr_room) (by ktr_units) ?_
    intro g₂ e et vs h10 tk10 F10 R10 U10
    k_unfold
    refine leave_onS (by k_asm) F10 R10 U10 (fun h11' S' R' U' => ?_)
    refine hE _ _ _ _ _ _ ?_ (raised_sub S' fun p hp => .tail _ hp) U'
    assumption)

-- P12
theorem ways_grow {P : Params} {wy wd : Addr} {k0 k1 : Tok} {Z : Tr} {many : Int} {l l' : Ledger} (W : Ways P wy wd k0 k1 Z many l) (h : ∀ p ∈ l, p ∈ l') : Ways P wy wd k0 k1 Z many l' :=
  let ⟨rt, t, h1, h2⟩ := W.dict
  ⟨h _ W.inst, ⟨rt, t, h1, h _ h2⟩, tr_grow W.tree h⟩

theorem ways_wo2 {P : Params} {wy wd a : Addr} {k0 k1 : Tok} {Z : Tr} {many : Int} {l : Ledger} {io : Obj} {c : String} (W : Ways P wy wd k0 k1 Z many l) (U : One l) (ha : (a, io) ∈ l) (hc : io.cls = .type c) (h1 : "dict" ≠ c) (h2 : "list" ≠ c) : Ways P wy wd k0 k1 Z many (wo a l) := by
  obtain ⟨rt, t, hrt, hw⟩ := W.dict
  exact ⟨wo_keep U ha W.inst (by rw [hc]; exact cls_inst), ⟨rt, t, hrt, wo_keep U ha hw (by rw [hc]; exact fun e => h1 (by injection e))⟩, tr_wo W.tree U ha hc h1 h2⟩
theorem bitAt_nat' {x : Int} (h0 : 0 ≤ x) {i : Nat} (hi : i < 8) : bitAt x i = (x.toNat / 16777216).testBit (7 - i) := by
  obtain ⟨n, rfl⟩ := Int.eq_ofNat_of_zero_le h0
  unfold bitAt
  rw [Int.fdiv_eq_ediv_of_nonneg _ (Int.le_of_lt (Int.pow_pos (by decide))), Int.fmod_eq_emod_of_nonneg _ (by decide)]
  have e : ((n : Int) / 2 ^ (31 - i)) % 2 = ((n / 2 ^ (31 - i) % 2 : Nat) : Int) := by
    rw [Int.natCast_emod, Int.natCast_ediv]; simp
  rw [e, Int.toNat_natCast, Nat.testBit_eq_decide_div_mod_eq, Nat.div_div_eq_div_mul, show 16777216 * 2 ^ (7 - i) = 2 ^ (31 - i) by
    rw [show (16777216 : Nat) = 2 ^ 24 from rfl, ← Nat.pow_add, show 24 + (7 - i) = 31 - i from (Nat.add_sub_assoc (Nat.le_of_lt_succ hi) 24).symm]]
  congr 1
  exact propext ⟨fun h => by omega, fun h => by omega⟩
theorem div_nat {x y : Int} (h0 : 0 ≤ x) (g0 : 0 ≤ y) : x.toNat / 16777216 = y.toNat / 16777216 ↔ x / 16777216 = y / 16777216 := by
  obtain ⟨a, rfl⟩ := Int.eq_ofNat_of_zero_le h0
  obtain ⟨b, rfl⟩ := Int.eq_ofNat_of_zero_le g0
  exact ⟨fun h => congrArg (Nat.cast : Nat → Int) h, fun h => Int.ofNat.inj h⟩
theorem small_top {x : Int} (h1 : x < 4294967296) : x.toNat / 16777216 < 2 ^ 8 :=
  Nat.div_lt_of_lt_mul (by omega)
theorem bits8 {x y : Int} (h0 : 0 ≤ x) (h1 : x < 4294967296) (g0 : 0 ≤ y) (g1 : y < 4294967296) : bits x 8 = bits y 8 ↔ x / 16777216 = y / 16777216 := by
  constructor
  · intro h
    have hb : ∀ i, i < 8 → bitAt x i = bitAt y i := fun i hi => by
      have e := congrArg (fun l => l[i]?) h
      simp only [bits, List.getElem?_map, List.getElem?_range hi, Option.map_some] at e
      exact Option.some.inj e
    have key : x.toNat / 16777216 = y.toNat / 16777216 := by
      apply Nat.eq_of_testBit_eq
      intro j
      by_cases hj : j < 8
      · have := hb (7 - j) (by omega)
        rw [bitAt_nat' h0 (by omega), bitAt_nat' g0 (by omega), Nat.sub_sub_self (Nat.le_of_lt_succ hj)] at this
        exact this
      · rw [Nat.testBit_lt_two_pow (Nat.lt_of_lt_of_le (small_top h1) (Nat.pow_le_pow_right (by decide) (by omega))), Nat.testBit_lt_two_pow (Nat.lt_of_lt_of_le (small_top g1) (Nat.pow_le_pow_right (by decide) (by omega)))]
    exact (div_nat h0 g0).mp key
  · intro h
    unfold bits
    refine List.map_congr_left fun i hi => ?_
    have hi := List.mem_range.mp hi
    rw [bitAt_nat' h0 hi, bitAt_nat' g0 hi, (div_nat h0 g0).mpr h]
/-- the three routes of the law's layer -/
noncomputable def rows3 : List Rt := [⟨167772160, 8, 0, 0, 0⟩, ⟨184549376, 8, 0, 1, 0⟩, ⟨201326592, 8, 184549385, 1, 0⟩]
/-- the tree holds just these routes, each at its net's eight bits -/
noncomputable def Holds8 (Z : Tr) (os : List Ro) : Prop := ∀ q, Z.rs q = os.filter fun o => decide (bits o.r.net 8 = q)
theorem holds8_nil {Z : Tr} (h : ∀ q, Z.rs q = []) : Holds8 Z [] := fun q => h q
theorem holds8_add {Z Z' : Tr} {os : List Ro} {o : Ro} {l : Ledger} (H : Holds8 Z os) (A : Added l Z Z' o o.r.net 8) (hn : ∀ y ∈ os, bits y.r.net 8 ≠ bits o.r.net 8) : Holds8 Z' (os ++ [o]) := by
  intro q
  rw [A.rs q, List.filter_append, H q]
  by_cases hq : q = bits o.r.net 8
  · rw [if_pos hq]
    have e : os.filter (fun y => decide (bits y.r.net 8 = q)) = [] := by
      rw [List.filter_eq_nil_iff]
      intro y hy
      have := hn y hy
      simp only [decide_eq_true_eq]
      rw [hq]; exact this
    rw [e]
    simp [upd, hq]
  · rw [if_neg hq]
    simp
    exact fun h => hq h.symm
theorem holds8_len {Z : Tr} {os : List Ro} (H : Holds8 Z os) (q : List Bool) : (Z.rs q).length ≤ os.length := by rw [H q]; exact List.length_filter_le _ _
/-- what find gives among them -/
theorem look8 {Z : Tr} {os : List Ro} (H : Holds8 Z os) (x : Int) (n : Nat) (hn : 8 ≤ n) : lookT Z x n = best? (os.filter fun o => decide (bits o.r.net 8 = bits x 8)) := by
  have skip : ∀ i, i ≠ 8 → Z.rs (bits x i) = [] := fun i hi => by
    rw [H, List.filter_eq_nil_iff]
    intro o _
    simp only [decide_eq_true_eq]
    intro e
    have := congrArg List.length e
    rw [bits_length, bits_length] at this
    omega
  have low : ∀ i, i < 8 → lookT Z x i = none := fun i => by
    induction i with
    | zero =>
      intro _
      show best? (Z.rs []) = none
      have := skip 0 (by decide)
      rw [bits_zero] at this
      rw [this]; rfl
    | succ i ih =>
      intro hi
      rw [look_skip (skip _ (by omega))]; exact ih (by omega)
  obtain ⟨j, rfl⟩ : ∃ j, n = 8 + j := ⟨n - 8, by omega⟩
  induction j with
  | zero =>
    by_cases h : Z.rs (bits x 8) = []
    · show lookT Z x (7 + 1) = _
      rw [look_skip h, low 7 (by decide), ← H, h]; rfl
    · show lookT Z x (7 + 1) = _
      rw [look_take h, H]
  | succ j ih =>
    rw [show 8 + (j + 1) = (8 + j) + 1 by omega, look_skip (skip _ (by omega))]
    exact ih (by omega)
theorem look83 {Z : Tr} {o1 o2 o3 : Ro} (H : Holds8 Z [o1, o2, o3]) (h1 : o1.r = ⟨167772160, 8, 0, 0, 0⟩) (h2 : o2.r = ⟨184549376, 8, 0, 1, 0⟩) (h3 : o3.r = ⟨201326592, 8, 184549385, 1, 0⟩) {x : Int} (h0 : 0 ≤ x) (hx : x < 4294967296) :
    lookT Z x 32 = if x / 16777216 = 10 then some o1 else if x / 16777216 = 11 then some o2 else if x / 16777216 = 12 then some o3 else none := by
  rw [look8 H x 32 (by decide)]
  have e1 : (bits o1.r.net 8 = bits x 8) ↔ x / 16777216 = 10 := by rw [h1]; show bits 167772160 8 = bits x 8 ↔ _; rw [bits8 (by decide) (by decide) h0 hx]; omega
  have e2 : (bits o2.r.net 8 = bits x 8) ↔ x / 16777216 = 11 := by rw [h2]; show bits 184549376 8 = bits x 8 ↔ _; rw [bits8 (by decide) (by decide) h0 hx]; omega
  have e3 : (bits o3.r.net 8 = bits x 8) ↔ x / 16777216 = 12 := by rw [h3]; show bits 201326592 8 = bits x 8 ↔ _; rw [bits8 (by decide) (by decide) h0 hx]; omega
  simp only [List.filter_cons, List.filter_nil, e1, e2, e3, decide_eq_true_eq]
  by_cases a1 : x / 16777216 = 10
  · rw [if_pos a1, if_pos a1, if_neg (by omega), if_neg (by omega)]; rfl
  · rw [if_neg a1, if_neg a1]
    by_cases a2 : x / 16777216 = 11
    · rw [if_pos a2, if_pos a2, if_neg (by omega)]; rfl
    · rw [if_neg a2, if_neg a2]
      by_cases a3 : x / 16777216 = 12
      · rw [if_pos a3, if_pos a3]; rfl
      · rw [if_neg a3, if_neg a3]; rfl
theorem rows3_ok : ∀ r ∈ rows3, r.pre = 8 ∧ r.met = 0 ∧ 0 ≤ r.net ∧ r.net < 4294967296 ∧ r.net % 2 ^ (32 - 8) = 0 ∧ 0 ≤ r.gw ∧ r.gw < 4294967296 := by
  intro r hr
  simp only [rows3, List.mem_cons, List.not_mem_nil, or_false] at hr
  rcases hr with rfl | rfl | rfl <;> decide
theorem rows3_new {i : Nat} {r : Rt} (h : rows3[i]? = some r) : ∀ y ∈ rows3.take i, bits y.net 8 ≠ bits r.net 8 := by
  have key : ∀ y ∈ rows3.take i, y.net / 16777216 ≠ r.net / 16777216 := by
    match i, h with
    | 0, h => intro y hy; cases hy
    | 1, h =>
      obtain rfl := Option.some.inj h
      intro y hy
      simp only [rows3, List.take_succ_cons, List.take_zero, List.mem_cons, List.not_mem_nil, or_false] at hy
      rcases hy with rfl <;> decide
    | 2, h =>
      obtain rfl := Option.some.inj h
      intro y hy
      simp only [rows3, List.take_succ_cons, List.take_zero, List.mem_cons, List.not_mem_nil, or_false] at hy
      rcases hy with rfl | rfl <;> decide
  intro y hy e
  obtain ⟨_, _, y0, y1, _⟩ := rows3_ok y (List.mem_of_mem_take hy)
  obtain ⟨_, _, r0, r1, _⟩ := rows3_ok r (List.mem_of_getElem? h)
  exact key y hy ((bits8 y0 y1 r0 r1).mp e)
/-- what stands beside the routes and is not theirs -/
noncomputable def Keep (base : Ledger) (wd : Addr) (Z : Tr) (l : Ledger) : Prop := ∀ p ∈ base, p ∈ l ∧ p.1 ≠ wd ∧ Z.Off p.1
theorem Keep.mem {base : Ledger} {wd : Addr} {Z : Tr} {l : Ledger} (k : Keep base wd Z l) {p : Addr × Obj} (h : p ∈ base) : p ∈ l := (k p h).1
theorem Keep.add {base : Ledger} {wd : Addr} {Z Z' : Tr} {l l1 n' : Ledger} {o : Ro} {x : Int} {pre : Nat} (k : Keep base wd Z l) (hs : ∀ p ∈ l, p ∈ l1) (A : Added l1 Z Z' o x pre) (hn : ∀ p ∈ l1, p.1 ≠ wd → Z.Off p.1 → p ∈ n') : Keep base wd Z' n' := fun p hp => by
  obtain ⟨h1, h2, h3⟩ := k p hp
  refine ⟨hn p (hs p h1) h2 h3, h2, fun q e he => ?_⟩
  rcases A.own q e he with ⟨e₀, h4, h5, h6⟩ | ⟨h4, h5⟩
  · rw [← h5, ← h6]; exact h3 q e₀ h4
  · exact ⟨h4 p (hs p h1), h5 p (hs p h1)⟩
theorem Keep.wo {base : Ledger} {wd I : Addr} {Z : Tr} {l : Ledger} (k : Keep base wd Z l) (h : ∀ p ∈ base, p.1 ≠ I) : Keep base wd Z (wo I l) := fun p hp => ⟨mem_wo.mpr ⟨(k p hp).1, h p hp⟩, (k p hp).2⟩
theorem keep_start {P : Params} {wy wd : Addr} {k0 k1 : Tok} {Z : Tr} {many : Int} {news n1 l : Ledger} {ex : Ledger} (W : Ways P wy wd k0 k1 Z many n1) (fr : Fresh news wd Z) (hn : ∀ p ∈ news, p ∈ l) (hex : ∀ p ∈ ex, p ∈ l) (ho : ∀ p ∈ ex, Off n1 p.1) : Keep (ex ++ news) wd Z l := fun p hp => by
  rcases List.mem_append.mp hp with h | h
  · obtain ⟨rt, t, _, hw⟩ := W.dict
    refine ⟨hex p h, fun e => ho p h _ hw e.symm, fun q e he => ?_⟩
    have D := W.tree.nd q e he
    exact ⟨fun q => ho p h _ D.hd q.symm, fun q => ho p h _ D.hr q.symm⟩
  · exact ⟨hn p h, fr.wd p h, fun q e he => ⟨(fr.own q e he).1 p h, (fr.own q e he).2 p h⟩⟩
theorem keep_start4 {P : Params} {wy wd Lf : Addr} {hz hx : Heap} {k0 k1 : Tok} {Z : Tr} {many : Int} {news n1 : Ledger} {e4 e3 e2 e1 : Addr × Obj} (_ : News hz Lf hx (e4 :: e3 :: e2 :: e1 :: n1)) (W : Ways P wy wd k0 k1 Z many n1) (fr : Fresh news wd Z) (hn : ∀ p ∈ news, p ∈ n1)
    (o4 : Off n1 e4.1) (o3 : Off n1 e3.1) (o2 : Off n1 e2.1) (o1 : Off n1 e1.1) : Keep ([e4, e3, e2, e1] ++ news) wd Z (e4 :: e3 :: e2 :: e1 :: n1) :=
  keep_start W fr (fun p hp => List.mem_append_right [e4, e3, e2, e1] (hn p hp)) (fun p hp => List.mem_append_left n1 hp) (fun p hp => by
    simp only [List.mem_cons, List.not_mem_nil, or_false] at hp
    rcases hp with rfl | rfl | rfl | rfl <;> assumption)
theorem cuts_mul {n : Nat} {m : Int} {s k : Nat} (hc : Cuts n m s k) (h : 20 + (n : Int) ≤ m ∨ ((m - 20) / 8 * 8 = (s : Int) ∧ 8 ≤ s)) : k = 0 ∨ (k * s < n ∧ s % 8 = 0) := by
  cases k with
  | zero => exact .inl rfl
  | succ j =>
    have h1 := hc.1 j (Nat.lt_succ_self _)
    rcases h with h | ⟨h2, h3⟩
    · omega
    · refine .inr ⟨?_, by omega⟩
      rw [Nat.succ_mul]; omega
theorem mul_mod8 {i s : Nat} (h : s % 8 = 0) : i * s % 8 = 0 := by rw [Nat.mul_mod, h]; simp
theorem parts_ok {h : Hd} {p : List UInt8} {m : Int} {s : Nat} (ok : h.Ok) (hn : h.off + (p.length : Int) < 65536) (hs : 20 + (p.length : Int) ≤ m ∨ ((m - 20) / 8 * 8 = (s : Int) ∧ 8 ≤ s)) :
    ∀ k, Cuts p.length m s k → ∀ x ∈ parts h p s k, x.1.Ok := by
  have key : ∀ (q : Nat) (mo : Bool), q ≤ p.length → q % 8 = 0 → (h.part (h.off + (q : Int)) mo).Ok := fun q mo hq h8 => by
    have q0 := Int.add_nonneg ok.f0 (Int.natCast_nonneg q)
    have q1 : (h.off + (q : Int)) % 8 = 0 := Int.emod_eq_zero_of_dvd (Int.dvd_add (Int.dvd_of_emod_eq_zero ok.f1) (Int.ofNat_dvd.mpr (Nat.dvd_of_mod_eq_zero h8)))
    exact ⟨ok.s0, ok.s1, ok.g0, ok.g1, ok.p0, ok.p1, ok.i0, ok.i1, ok.t0, ok.t1, ok.o0, ok.o1, q0, q1, Int.lt_of_le_of_lt (Int.add_le_add_left (Int.ofNat_le.mpr hq) h.off) hn⟩
  intro k hc x hx
  have hk : k * s ≤ p.length ∧ k * s % 8 = 0 ∧ ∀ i, i < k → i * s ≤ p.length ∧ i * s % 8 = 0 := by
    rcases cuts_mul hc hs with rfl | ⟨h1, h2⟩
    · exact ⟨by omega, by omega, fun i hi => absurd hi (Nat.not_lt_zero _)⟩
    · exact ⟨Nat.le_of_lt h1, mul_mod8 h2, fun i hi => ⟨Nat.le_trans (Nat.mul_le_mul_right s (Nat.le_of_lt hi)) (Nat.le_of_lt h1), mul_mod8 h2⟩⟩
  obtain ⟨h1, h2, h3⟩ := hk
  rcases List.mem_append.mp hx with hx | hx
  · obtain ⟨i, hi, rfl⟩ := List.mem_map.mp hx
    obtain ⟨h4, h5⟩ := h3 i (List.mem_range.mp hi)
    exact key _ _ h4 h5
  · obtain rfl := List.mem_singleton.mp hx
    exact key _ _ h1 h2

-- O12
/-- the law's layer, its faces and its routes -/
inductive LyIn (P : Params) (ly : Addr) (mt : Int) (l : Ledger) : Prop
  | of (ld fa wy re wd f0 f1 d0 d1 : Addr) (nf : Nat) (k0 k1 k2 k3 k4 kt q0 q1 c0 c1 c2 u0 u1 u2 e0 e1 e2 v0 v1 v2 : Tok) (Z : Tr) (many : Int) (o1 o2 o3 : Ro)
    (a1 : (ly, instObj 665 ld) ∈ l) (a2 : (ld, layObj P k0 k1 k2 k3 k4 kt fa wy re) ∈ l) (a3 : (fa, listOf [Value.ref f0, Value.ref f1].toArray nf) ∈ l) (a4 : (f0, instObj 530 d0) ∈ l) (a5 : (d0, faceObj P c0 c1 c2 u0 u1 u2 167772161 8 100) ∈ l)
    (a6 : (f1, instObj 530 d1) ∈ l) (a7 : (d1, faceObj P e0 e1 e2 v0 v1 v2 184549377 8 mt) ∈ l) (W : Ways P wy wd q0 q1 Z many l) (H : Holds8 Z [o1, o2, o3]) (r1 : o1.r = ⟨167772160, 8, 0, 0, 0⟩) (r2 : o2.r = ⟨184549376, 8, 0, 1, 0⟩) (r3 : o3.r = ⟨201326592, 8, 184549385, 1, 0⟩) : LyIn P ly mt l
inductive FaceIn (P : Params) (f : Addr) (x pre mt : Int) (l : Ledger) : Prop
  | mk (df : Addr) (c0 c1 c2 u0 u1 u2 : Tok) (h1 : (f, instObj 530 df) ∈ l) (h2 : (df, faceObj P c0 c1 c2 u0 u1 u2 x pre mt) ∈ l) : FaceIn P f x pre mt l
inductive LayIn (P : Params) (ly fa wy re : Addr) (l : Ledger) : Prop
  | mk (ld : Addr) (k0 k1 k2 k3 k4 kt : Tok) (a1 : (ly, instObj 665 ld) ∈ l) (a2 : (ld, layObj P k0 k1 k2 k3 k4 kt fa wy re) ∈ l) : LayIn P ly fa wy re l
theorem c_face (w mean mg mb) (x pre mt : Int) (t1 t2 t3 : Tok) (news : Ledger) :
    Fn w mean mg mb 530 20 200 [.int x t1, .int pre t2, .int mt t3] news (fun r n' => ∃ f, r = .ref f ∧ FaceIn w.params f x pre mt n' ∧ ∀ p ∈ news, p ∈ n') := by
  unfold Fn; k_fill; intro dp un gd cn cs a ccd cl outer A₀ base h₀ L m s Q E B F X N T hk hdp hun hret
  walk_at "w"
  rename News h₀ _ _ _ => kN
  exact hret _ _ _ _ (by k_asm) kN ⟨_, rfl, ⟨_, _, _, _, _, _, _, .head _, .tail _ (.head _)⟩, fun p hp => .tail _ (.tail _ hp)⟩
theorem c_reas (w mean mg mb) (t1 t2 : Tok) (news : Ledger) :
    Fn w mean mg mb 851 20 200 [.int 50 t1, .int 999 t2] news (fun r n' => ∃ re, r = .ref re ∧ ∀ p ∈ news, p ∈ n') := by
  unfold Fn; k_fill; intro dp un gd cn cs a ccd cl outer A₀ base h₀ L m s Q E B F X N T hk hdp hun hret
  walk_at "w"
  rename News h₀ _ _ _ => kN
  refine hret _ _ _ _ (by k_asm) kN ⟨_, rfl, fun p hp => ?_⟩
  repeat (first | exact hp | apply List.Mem.tail)
theorem c_iplayer (w mean mg mb) (fa wy re : Addr) (news : Ledger) :
    Fn w mean mg mb 665 20 200 [.ref fa, .ref wy, .ref re, .bool true] news (fun r n' => ∃ ly, r = .ref ly ∧ LayIn w.params ly fa wy re n' ∧ ∀ p ∈ news, p ∈ n') := by
  unfold Fn; k_fill; intro dp un gd cn cs a ccd cl outer A₀ base h₀ L m s Q E B F X N T hk hdp hun hret
  walk_at "w"
  rename News h₀ _ _ _ => kN
  exact hret _ _ _ _ (by k_asm) kN ⟨_, rfl, ⟨_, _, _, _, _, _, _, .head _, .tail _ (.head _)⟩, fun p hp => .tail _ (.tail _ hp)⟩
/-- the layer's own object alone -/
inductive LyOwn (P : Params) (ly : Addr) (l : Ledger) : Prop
  | of (ld fa wy re : Addr) (k0 k1 k2 k3 k4 kt : Tok) (a1 : (ly, instObj 665 ld) ∈ l) (a2 : (ld, layObj P k0 k1 k2 k3 k4 kt fa wy re) ∈ l) : LyOwn P ly l
theorem LyIn.own {P : Params} {ly : Addr} {mt : Int} {l : Ledger} (Y : LyIn P ly mt l) : LyOwn P ly l := by
  cases Y with
  | of => exact ⟨_, _, _, _, _, _, _, _, _, _, by assumption, by assumption⟩
inductive Rows3 (nx : Ledger) (v : Value) (i : Nat) : Prop
  | mk (r : Rt) (T : Addr) (t0 t1 t2 : Tok) (e : v = .ref T) (h : (T, tupO [.int r.net t0, .int r.gw t1, .int r.face t2]) ∈ nx) (hr : rows3[i]? = some r) : Rows3 nx v i
theorem three_rows {nx : Ledger} {v : Value} {T0 T1 T2 : Addr} {t0 t1 t2 u0 u1 u2 v0 v1 v2 : Tok} {i : Nat} (hv : ([.ref T0, .ref T1, .ref T2] : List Value)[i]? = some v)
    (h0 : (T0, tupO [.int 167772160 t0, .int 0 t1, .int 0 t2]) ∈ nx) (h1 : (T1, tupO [.int 184549376 u0, .int 0 u1, .int 1 u2]) ∈ nx) (h2 : (T2, tupO [.int 201326592 v0, .int 184549385 v1, .int 1 v2]) ∈ nx) : Rows3 nx v i := by
  rcases i with _ | _ | _ | i
  · exact ⟨_, _, _, _, _, (Option.some.inj hv).symm, h0, rfl⟩
  · exact ⟨_, _, _, _, _, (Option.some.inj hv).symm, h1, rfl⟩
  · exact ⟨_, _, _, _, _, (Option.some.inj hv).symm, h2, rfl⟩
  · cases hv
theorem len_three {os : List Ro} (h : (os.map (·.r)).length = (rows3.take 3).length) : ∃ o1 o2 o3, os = [o1, o2, o3] := by
  rw [List.length_map] at h
  rcases os with _ | ⟨a, _ | ⟨b, _ | ⟨c, _ | ⟨d, r⟩⟩⟩⟩
  · cases h
  · cases h
  · cases h
  · exact ⟨a, b, c, rfl⟩
  · cases h
inductive LJ1 (P : Params) (wy wd : Addr) (k0 k1 : Tok) (mt : Int) (tm : Tok) (n1 : Ledger) (i : Nat) (m : Str → Option Value) (nx : Ledger) : Prop
  | mk (Z' : Tr) (many : Int) (os : List Ro) (hmr : m "routes" = some (.ref wy)) (hmm : m "mtu" = some (.int mt tm)) (hW' : Ways P wy wd k0 k1 Z' many nx) (hH : Holds8 Z' os) (hos : os.map (·.r) = rows3.take i) (hk : Keep n1 wd Z' nx) : LJ1 P wy wd k0 k1 mt tm n1 i m nx
theorem c_lay (w mean mg mb) (mt : Int) (tm : Tok) (news : Ledger) :
    Fn w mean mg mb 883 40 600 [.int mt tm] news (fun r n' => ∃ ly, r = .ref ly ∧ LyIn w.params ly mt n' ∧ (∀ p ∈ news, p ∈ n')) := by
  unfold Fn; k_fill; intro dp un gd cn cs a ccd cl outer A₀ base h₀ L m s Q E B F X N T hk hdp hun hret
  refine wpAny_call ?_; k_enter
  repeat' ((fail_if_success (with_reducible show wpAny _ _ (call (Value.ref 509) _) _ _ _)); walk_at "wc")
  refine fn_useE_5_4 (c_routes _ _ _ _ _) (by k_asm) (by k_asm) (by k_asm) (by k_asm) (by k_asm) (by first | exact rfl | assumption) (by ktr_room) (by walk_at "un") ?_
  intro wy wd k0 k1 Z n1 h3 tk3 F3 N3 hW hZ hs1 hfr
  walk_at "w"
  (rename Fr _ _ _ _ => lF); with_unfolding_all refine' For_turns lF ?_
  walk_at "w"
  rename (∀ p ∈ n1, p.1 < _) => x1
  rename (_ < _ ∧ AllLt _ n1) => x2
  rename (_ < _ ∧ _ < _ ∧ AllLt _ n1) => x3
  rename (_ < _ ∧ _ < _ ∧ _ < _ ∧ AllLt _ n1) => x4
  (rename Fr _ _ _ _ => F1)
  (rename News _ _ _ _ => N1)
  have kp := keep_start4 N1 hW hfr hs1 (off_lt (allLt_out x4.2.2.2) (Nat.le_refl _)) (off_lt (allLt_out x3.2.2) (Nat.le_refl _)) (off_lt (allLt_out x2.2) (Nat.le_refl _)) (off_lt x1 (Nat.le_refl _))
  have hlst := news_head N1
  refine it_listT (vs := [_, _, _]) (nn := 0) (LJ1 w.params wy wd k0 k1 mt tm _) rfl hlst F1 N1
    ⟨Z, 0, [], rfl, rfl, ways_grow hW (fun p hp => List.mem_append_right [_, _, _, _] hp), holds8_nil hZ, rfl, kp⟩ ?_ ?_
  · rintro i v m₁ nx hq tk I io hv ⟨Z', many, os, hmr, hmm, hW', hH, hos, hk⟩ hl2 hI hio F2 N2
    obtain ⟨r, T', t0, t1, t2, rfl, hT, hr⟩ := three_rows hv (hk.mem (.tail _ (.tail _ (.tail _ (.head _))))) (hk.mem (.tail _ (.tail _ (.head _)))) (hk.mem (.tail _ (.head _)))
    clear F1 N1
    obtain ⟨r8, r9, r0, r1, r2, r3, r4⟩ := rows3_ok r (List.mem_of_getElem? hr)
    refine letFr (fr_knowL [("routes", .ref wy), ("mtu", .int mt tm)] F2 (And.intro hmr (And.intro hmm trivial))) ?_
    clear F2
    intro mF F2
    have hw1 := hW'.inst
    obtain ⟨rt, tmm, hrt, hw2⟩ := hW'.dict
    repeat' ((fail_if_success (with_reducible show wpAny _ _ (call (Value.ref 376) _) _ _ _)); walk_at "wc")
    refine fn_useE_1_5 (c_route _ _ _ _ ⟨r.net, 8, r.gw, r.face, 0⟩ _ _ _ _ _ _) (by k_asm) (by k_asm) (by k_asm) (by k_asm) (by k_asm) (by first | exact rfl | assumption) (by ktr_room) (by walk_at "un") ?_
    intro o n3 h4 tk4 F4 N4 hor hs3 hoin ho1 ho2
    have hor' : o.r = r := by rw [hor, ← r8, ← r9]
    have hlq : ∀ q, (Z'.rs q).length < 1000 := fun q => by
      have h1 := holds8_len hH q
      have h2 := congrArg List.length hos
      rw [List.length_map, List.length_take] at h2
      have h3 : rows3.length = 3 := rfl
      omega
    repeat' ((fail_if_success (with_reducible show wpAny _ _ (call (Value.ref 471) _) _ _ _)); walk_at "wc")
    refine fn_use (c_add _ _ _ _ wy wd k0 k1 Z' many o 8 _ (ways_grow hW' fun p hp => hs3 _ (.tail _ hp)) hoin (by rw [hor]; rfl) (by decide) (by rw [hor']; exact r0) (by rw [hor']; exact r1) (by rw [hor']; exact r2) (by rw [hor']; exact r3) (by rw [hor']; exact r4) hlq) (by k_asm) (by k_asm) (by k_asm) (by k_asm) (by k_asm) (by first | exact rfl | assumption) (by ktr_room) (by walk_at "un") ?_
    rintro _ n4 h5 tk5 F5 N5 ⟨rfl, Z2, many2, hW2, hA, hk2⟩
    have hI4 := hk2 _ (hs3 _ (.head _)) (fun e => hI _ hw2 e.symm) (fun q e he => ⟨fun q' => hI _ (hW'.tree.nd q e he).hd q'.symm, fun q' => hI _ (hW'.tree.nd q e he).hr q'.symm⟩)
    have hk4 := hk.add (fun p hp => hs3 _ (.tail _ hp)) hA hk2
    have U5 := one_of N5
    walk_at "w"
    refine turn_end' (by k_asm) (by k_asm) hI4 ⟨mem_wo.mpr ⟨hk4.mem (.head _), hI _ hl2⟩, Z2, many2, os ++ [o], rfl, rfl, ways_wo2 hW2 U5 hI4 hio (by decide) (by decide), holds8_add hH hA ?_, ?_, hk4.wo fun p hp => hI _ (hk.mem hp)⟩
    · intro y hy
      rw [hor']
      exact rows3_new hr _ (by rw [← hos]; exact List.mem_map_of_mem hy)
    · rw [List.map_append, hos, take_next hr, ← hor']; rfl
  · rintro m₁ nx hq tk ⟨Z', many, os, hmr, hmm, hW', hH, hos, hk⟩ F2 N2
    clear F1 N1
    refine letFr (fr_knowL [("routes", .ref wy), ("mtu", .int mt tm)] F2 (And.intro hmr (And.intro hmm trivial))) ?_
    clear F2
    intro mF F2
    have hsz := congrArg List.length hos
    obtain ⟨o1, o2, o3, rfl⟩ := len_three hsz
    have hos' : [o1.r, o2.r, o3.r] = rows3 := hos
    injection hos' with e1 hos'
    injection hos' with e2 hos'
    injection hos' with e3 hos'
    have hn1 : ∀ p ∈ news, p ∈ nx := fun p hp => by
      have hp := hk.mem (List.mem_append_right _ hp)
      repeat (first | exact hp | apply List.Mem.tail)
    clear hk
    repeat' ((fail_if_success (with_reducible show wpAny _ _ (call (Value.ref 530) _) _ _ _)); walk_at "wc")
    refine fn_useE_1_2 (c_face _ _ _ _ 167772161 8 100 _ _ _ _) (by k_asm) (by k_asm) (by k_asm) (by k_asm) (by k_asm) (by first | exact rfl | assumption) (by ktr_room) (by walk_at "un") ?_
    intro f0 n7 h7 tk7 F7 N7 hf0 hs7
    repeat' ((fail_if_success (with_reducible show wpAny _ _ (call (Value.ref 530) _) _ _ _)); walk_at "wc")
    refine fn_useE_1_2 (c_face _ _ _ _ 184549377 8 mt _ _ _ _) (by k_asm) (by k_asm) (by k_asm) (by k_asm) (by k_asm) (by first | exact rfl | assumption) (by ktr_room) (by walk_at "un") ?_
    intro f1 n8 h8 tk8 F8 N8 hf1 hs8
    repeat' ((fail_if_success (with_reducible show wpAny _ _ (call (Value.ref 851) _) _ _ _)); walk_at "wc")
    refine fn_useE_1_1 (c_reas _ _ _ _ _ _ _) (by k_asm) (by k_asm) (by k_asm) (by k_asm) (by k_asm) (by first | exact rfl | assumption) (by ktr_room) (by walk_at "un") ?_
    intro re n9 h9 tk9 F9 N9 hs9
    repeat' ((fail_if_success (with_reducible show wpAny _ _ (call (Value.ref 665) _) _ _ _)); walk_at "wc")
    refine fn_useE_1_2 (c_iplayer _ _ _ _ _ wy re _) (by k_asm) (by k_asm) (by k_asm) (by k_asm) (by k_asm) (by first | exact rfl | assumption) (by ktr_room) (by walk_at "un") ?_
    intro ly n10 h10 tk10 F10 N10 hly hs10
    walk_at "w"
    rename News h₀ _ _ _ => kN
    obtain ⟨d0, c0, c1, c2, u0, u1, u2, a4, a5⟩ := hf0
    obtain ⟨d1, e0, e1', e2', v0, v1, v2, a6, a7⟩ := hf1
    obtain ⟨ld, k0', k1', k2', k3', k4', kt', a1, a2⟩ := hly
    have up8 : ∀ p ∈ n8, p ∈ n10 := fun p hp => hs10 p (hs9 p (.tail _ hp))
    have up7 : ∀ p ∈ n7, p ∈ n10 := fun p hp => up8 p (hs8 p hp)
    refine hret _ _ _ _ (by k_asm) kN ⟨_, rfl, ⟨ld, _, wy, re, wd, f0, f1, d0, d1, _, _, _, _, _, _, _, k0, k1, _, _, _, _, _, _, _, _, _, _, _, _, Z', many, o1, o2, o3, a1, a2, hs10 _ (hs9 _ (.head _)), up7 _ a4, up7 _ a5, up8 _ a6, up8 _ a7, ways_grow hW' (fun p hp => up7 p (hs7 p hp)), hH, e1, e2, e3⟩, fun p hp => up7 p (hs7 p (hn1 p hp))⟩

-- O13
/-- targets of which nothing is told -/
noncomputable def Quiet (x : Int) : Prop := 14 ≤ x / 268435456 ∨ x / 16777216 = 127 ∨ x < 16777216
theorem quiet_not {x : Int} (h : ¬ Quiet x) : ¬ 14 ≤ x.fdiv (2 ^ Int.toNat 28) ∧ x.fdiv (2 ^ Int.toNat 24) ≠ 127 ∧ ¬ x < 16777216 := by
  rw [show (2 : Int) ^ Int.toNat 28 = 268435456 from rfl, show (2 : Int) ^ Int.toNat 24 = 16777216 from rfl, Int.fdiv_eq_ediv_of_nonneg _ (by decide), Int.fdiv_eq_ediv_of_nonneg _ (by decide)]
  unfold Quiet at h
  omega
/-- one row that tells -/
noncomputable def Tell (l : Ledger) (r : Value) (a : Addr) (p : List UInt8) (x y z : Int) : Prop := ∃ L n T t0 t1 t2 t3 t4, r = .ref L ∧ (L, listOf #[.ref T] n) ∈ l ∧ (T, tupO [.str "tell" t0, .int x t1, .int y t2, .int z t3, .ref a, .bytes p.toArray t4, .bool false]) ∈ l
inductive LyPick (P : Params) (f0 f1 : Addr) (Z : Tr) (mt x : Int) (l : Ledger) : Prop
  | of (o : Ro) (f df : Addr) (c0 c1 c2 u0 u1 u2 : Tok) (ad pr : Int) (hlk : lookT Z x 32 = some o) (yf : o.r.face = (if x / 16777216 = 10 then 0 else 1)) (yg : o.r.gw = (if x / 16777216 = 12 then 184549385 else 0))
    (yv : ([Value.ref f0, Value.ref f1] : List Value)[o.r.face.toNat]? = some (Value.ref f)) (y4 : (f, instObj 530 df) ∈ l) (y5 : (df, faceObj P c0 c1 c2 u0 u1 u2 ad pr (if x / 16777216 = 10 then 100 else mt)) ∈ l) : LyPick P f0 f1 Z mt x l
theorem ly_pick {P : Params} {mt x : Int} {l : Ledger} {f0 f1 d0 d1 : Addr} {c0 c1 c2 u0 u1 u2 e0 e1 e2 v0 v1 v2 : Tok} {Z : Tr} {o1 o2 o3 : Ro} (H : Holds8 Z [o1, o2, o3]) (r1 : o1.r = ⟨167772160, 8, 0, 0, 0⟩) (r2 : o2.r = ⟨184549376, 8, 0, 1, 0⟩) (r3 : o3.r = ⟨201326592, 8, 184549385, 1, 0⟩)
    (a4 : (f0, instObj 530 d0) ∈ l) (a5 : (d0, faceObj P c0 c1 c2 u0 u1 u2 167772161 8 100) ∈ l) (a6 : (f1, instObj 530 d1) ∈ l) (a7 : (d1, faceObj P e0 e1 e2 v0 v1 v2 184549377 8 mt) ∈ l) (h0 : 0 ≤ x) (h1 : x < 4294967296) (hn : x / 16777216 = 10 ∨ x / 16777216 = 11 ∨ x / 16777216 = 12) : LyPick P f0 f1 Z mt x l := by
  have hk := look83 H r1 r2 r3 h0 h1
  rcases hn with hn | hn | hn
  · rw [if_pos hn] at hk
    exact ⟨o1, f0, d0, c0, c1, c2, u0, u1, u2, _, _, hk, by rw [r1, if_pos hn], by rw [r1, hn]; rfl, by rw [r1]; rfl, a4, by rw [if_pos hn]; exact a5⟩
  · rw [hn] at hk
    exact ⟨o2, f1, d1, e0, e1, e2, v0, v1, v2, _, _, hk, by rw [r2, hn]; rfl, by rw [r2, hn]; rfl, by rw [r2]; rfl, a6, by rw [hn]; exact a7⟩
  · rw [hn] at hk
    exact ⟨o3, f1, d1, e0, e1, e2, v0, v1, v2, _, _, hk, by rw [r3, hn]; rfl, by rw [r3, hn]; rfl, by rw [r3]; rfl, a6, by rw [hn]; exact a7⟩
theorem ly_none {x : Int} {Z : Tr} {o1 o2 o3 : Ro} (H : Holds8 Z [o1, o2, o3]) (r1 : o1.r = ⟨167772160, 8, 0, 0, 0⟩) (r2 : o2.r = ⟨184549376, 8, 0, 1, 0⟩) (r3 : o3.r = ⟨201326592, 8, 184549385, 1, 0⟩) (h0 : 0 ≤ x) (h1 : x < 4294967296) (hn : ¬ (x / 16777216 = 10 ∨ x / 16777216 = 11 ∨ x / 16777216 = 12)) : lookT Z x 32 = none := by
  have hk := look83 H r1 r2 r3 h0 h1
  rwa [if_neg fun e => hn (.inl e), if_neg fun e => hn (.inr (.inl e)), if_neg fun e => hn (.inr (.inr e))] at hk

-- O14
/-- a contract of a function that catches: the caller's ground may be turned -/
noncomputable def FnS (w : World) (mean : ExcName → Option Value) (mg mb : Str → Option Value) (f : Addr) (d u : Nat) (args : List Value) (news : Ledger) (post : Value → Ledger → Prop) : Prop :=
  ∀ (dp un : Nat) (gd : Option (List Code)) (cn : Str) (cs : Scope) (a : Addr) (ccd : Value) (outer : List Env) (A₀ : Around) (base h₀ : Heap) (L : Addr) (m : Str → Option Value) (s : Shared)
    (Q E : Value → Shared → Prop),
    Below A₀ base outer h₀ → (hd.heap_39 w.params).In base → Top VW LS mean mg mb base → Fr h₀ L s.heap m → (hd.heap_39 w.params).In h₀ → News h₀ L s.heap news → Top VW LS mean mg mb h₀ → cs.kind = .function → KtsDicts (outer.filterMap (·.frame)) h₀ → dp + d < recursionLimit → un + u < cLine →
    (∀ r news' h' tk' h₀', KtsTurn (outer.filterMap (·.frame)) h₀ h₀' → Fr h₀' L h' m → News h₀' L h' news' → Below A₀ base outer h₀' → (hd.heap_39 w.params).In h₀' → Top VW LS mean mg mb h₀' → KtsDicts (outer.filterMap (·.frame)) h₀' → post r news' → Q r { s with heap := h', toks := tk' }) →
    wpAny (model PySem.Challenge.rw_xw0341_02.row.prog w) (ktrTop dp un gd cn cs L a ccd [] outer) (call (.ref f) args) Q E s

-- P13
section
variable {prog : Program} {w : World} {A : Around} {E : Value → Shared → Prop} {s : Shared} {h₀ : Heap} {L : Addr} {m : Str → Option Value} {news : List (Addr × Obj)}
theorem sliceApplied_t10_04 {sl : Addr} {u : Tok} {Q : Int × Int × Nat → Shared → Prop} (hs : s.heap.IsSliceOf sl .none (.int 4 u) .none) (h : Q (0, 1, 4) s) :
    wpAny (model prog w) A (Builtin.Slice.sliceApplied (.ref sl) (pure 10)) Q E s := by
  obtain ⟨os, hos, hcs, hds⟩ := id hs
  unfold Builtin.Slice.sliceApplied Builtin.Slice.sliceFields
  refine wpAny_bind (wpAny_bind (wpAny_field hos hds (x := .none) rfl (wpAny_bind (wpAny_field hos hds (x := (.int 4 u)) rfl (wpAny_bind (wpAny_field hos hds (x := .none) rfl (wpAny_pure ?_)))))))
  refine wpAny_bind (slicePart_none ?_)
  show wpAny _ _ (if ((1 : Int) == 0) = true then _ else _) _ _ s
  rw [if_neg (by decide)]
  refine wpAny_bind (slicePart_none (wpAny_bind (slicePart_int (wpAny_bind (wpAny_pure ?_)))))
  exact wpAny_pure h
theorem getItem_t10_04 {t sl : Addr} {x0 x1 x2 x3 x4 x5 x6 x7 x8 x9 : Value} {u : Tok} {Q : Value → Shared → Prop} (ht : IsTup s.heap t #[x0, x1, x2, x3, x4, x5, x6, x7, x8, x9]) (hs : s.heap.IsSliceOf sl .none (.int 4 u) .none)
    (h : Q (.ref s.heap.objs.size) { s with heap := s.heap.push (tupO [x0, x1, x2, x3]) }) : wpAny (model prog w) A (getItem (.ref t) (.ref sl)) Q E s := by
  have hdrop : sizeOk (.seq [x0, x1, x2, x3].toArray) := Nat.le_of_ble_eq_true rfl
  obtain ⟨os, hos, hcs, hds⟩ := id hs
  have hTs : s.TypeIs (.ref sl) "slice" := ⟨os, hos, hcs⟩
  unfold getItem
  try with_reducible refine wpAny_holding ?_
  first | refine wpAny_bind (wpAny_pure ?_) | skip
  refine wpAny_bind (wpAny_sequenceKey ht.typeIs (by decide) ?_)
  refine wpAny_bind (wpAny_callSpecial?_slot (name := Str.ofString "__getitem__") ht.typeIs slot_tuple_getitem
    (wpAny_call_entry slot_tuple_getitem ht.typeIs entry_tuple_getitem ?_ (args_tuple_getitem _ _)))
  show wpAny _ _ (Builtin.Tuple.tupleItemsOf (.ref t) >>= _) _ _ s
  refine wpAny_bind (tupleItemsOf_ ht ?_)
  refine wpAny_bind (wpAny_typeOf hTs ?_)
  rw [if_pos (by decide)]
  refine wpAny_bind (sliceApplied_t10_04 hs ?_)
  show wpAny _ _ (if ((0 : Int) == 0 && (1 : Int) == 1 && 4 == 10) = true then _ else _) _ _ s
  rw [if_neg (by decide)]
  first
    | exact wpAny_bind (m := Builtin.Tuple.tupleExact _) (wpAny_newObj_type (wpAny_pure ⟨_, rfl, wpAny_pure h⟩) hdrop)
    | exact wpAny_bind (m := Builtin.Tuple.tupleExact _) (wpAny_newObj_type (wpAny_bind (wpAny_pure (wpAny_pure ⟨_, rfl, wpAny_pure h⟩))) hdrop)
    | exact wpAny_bind (wpAny_bind (m := Builtin.Tuple.tupleExact _) (wpAny_newObj_type (wpAny_pure ⟨_, rfl, wpAny_pure h⟩) hdrop))
theorem slice_t10_04 {value slice : PySem.Expr} {t : Addr} {x0 x1 x2 x3 x4 x5 x6 x7 x8 x9 : Value} {u : Tok} {Q : Value → Shared → Prop}
    (F : Fr h₀ L s.heap m) (N : News h₀ L s.heap news) (hm : (t, tupO [x0, x1, x2, x3, x4, x5, x6, x7, x8, x9]) ∈ news)
    (h : ∀ D h', Fr h₀ L h' m → News h₀ L h' ((D, tupO [x0, x1, x2, x3]) :: news) → (∀ p ∈ news, p.1 < D) → Q (.ref D) { s with heap := h' })
    (hs : subscripted slice false (.ref t) (.ref s.heap.objs.size) = operate [.ref s.heap.objs.size, .ref t] (getItem (.ref t) (.ref s.heap.objs.size)) := by with_unfolding_all rfl)
    (hg : ∀ r, letTemporaryGo value (.ref t) r = pure () := by intro _; with_unfolding_all rfl) :
    wpAny (model prog w) A (subscriptTail value slice (.ref t) (.ref s.heap.objs.size)) Q E { s with heap := s.heap.push { cls := .type "slice", data := .fields #[.none, .int 4 u, .none] } } := by
  have ht : IsTup s.heap t #[x0, x1, x2, x3, x4, x5, x6, x7, x8, x9] := ⟨_, (N _ hm).1, rfl, 0, rfl⟩
  have ht' : IsTup (s.heap.push { cls := .type "slice", data := .fields #[.none, .int 4 u, .none] }) t #[x0, x1, x2, x3, x4, x5, x6, x7, x8, x9] := ht.keeps fun _ _ e => Heap.get?_push_of_some _ e
  refine subscriptTail_ops (s := { s with heap := s.heap.push { cls := .type "slice", data := .fields #[.none, .int 4 u, .none] } }) ht'.typeIs slot_tuple_getitem.lookup
    (getItem_t10_04 ht' (Heap.IsSliceOf.new ..) ?_) hs hg
  have N1 := News.push (F.push { cls := .type "slice", data := .fields #[.none, .int 4 u, .none] }) (N.grown fun _ _ e => Heap.get?_push_of_some _ e) (tupO [x0, x1, x2, x3])
  exact h _ _ ((F.push _).push _) N1 fun p hp => by rw [Heap.size_push]; exact Nat.lt_succ_of_lt (Heap.lt_size (N p hp).1)
theorem sliceApplied_t10_57 {sl : Addr} {u v : Tok} {Q : Int × Int × Nat → Shared → Prop} (hs : s.heap.IsSliceOf sl (.int 5 v) (.int 7 u) .none) (h : Q (5, 1, 2) s) :
    wpAny (model prog w) A (Builtin.Slice.sliceApplied (.ref sl) (pure 10)) Q E s := by
  obtain ⟨os, hos, hcs, hds⟩ := id hs
  unfold Builtin.Slice.sliceApplied Builtin.Slice.sliceFields
  refine wpAny_bind (wpAny_bind (wpAny_field hos hds (x := (.int 5 v)) rfl (wpAny_bind (wpAny_field hos hds (x := (.int 7 u)) rfl (wpAny_bind (wpAny_field hos hds (x := .none) rfl (wpAny_pure ?_)))))))
  refine wpAny_bind (slicePart_none ?_)
  show wpAny _ _ (if ((1 : Int) == 0) = true then _ else _) _ _ s
  rw [if_neg (by decide)]
  refine wpAny_bind (slicePart_int (wpAny_bind (slicePart_int (wpAny_bind (wpAny_pure ?_)))))
  exact wpAny_pure h
theorem getItem_t10_57 {t sl : Addr} {x0 x1 x2 x3 x4 x5 x6 x7 x8 x9 : Value} {u v : Tok} {Q : Value → Shared → Prop} (ht : IsTup s.heap t #[x0, x1, x2, x3, x4, x5, x6, x7, x8, x9]) (hs : s.heap.IsSliceOf sl (.int 5 v) (.int 7 u) .none)
    (h : Q (.ref s.heap.objs.size) { s with heap := s.heap.push (tupO [x5, x6]) }) : wpAny (model prog w) A (getItem (.ref t) (.ref sl)) Q E s := by
  have hdrop : sizeOk (.seq [x5, x6].toArray) := Nat.le_of_ble_eq_true rfl
  obtain ⟨os, hos, hcs, hds⟩ := id hs
  have hTs : s.TypeIs (.ref sl) "slice" := ⟨os, hos, hcs⟩
  unfold getItem
  try with_reducible refine wpAny_holding ?_
  first | refine wpAny_bind (wpAny_pure ?_) | skip
  refine wpAny_bind (wpAny_sequenceKey ht.typeIs (by decide) ?_)
  refine wpAny_bind (wpAny_callSpecial?_slot (name := Str.ofString "__getitem__") ht.typeIs slot_tuple_getitem
    (wpAny_call_entry slot_tuple_getitem ht.typeIs entry_tuple_getitem ?_ (args_tuple_getitem _ _)))
  show wpAny _ _ (Builtin.Tuple.tupleItemsOf (.ref t) >>= _) _ _ s
  refine wpAny_bind (tupleItemsOf_ ht ?_)
  refine wpAny_bind (wpAny_typeOf hTs ?_)
  rw [if_pos (by decide)]
  refine wpAny_bind (sliceApplied_t10_57 hs ?_)
  show wpAny _ _ (if ((5 : Int) == 0 && (1 : Int) == 1 && 2 == 10) = true then _ else _) _ _ s
  rw [if_neg (by decide)]
  first
    | exact wpAny_bind (m := Builtin.Tuple.tupleExact _) (wpAny_newObj_type (wpAny_pure ⟨_, rfl, wpAny_pure h⟩) hdrop)
    | exact wpAny_bind (m := Builtin.Tuple.tupleExact _) (wpAny_newObj_type (wpAny_bind (wpAny_pure (wpAny_pure ⟨_, rfl, wpAny_pure h⟩))) hdrop)
    | exact wpAny_bind (wpAny_bind (m := Builtin.Tuple.tupleExact _) (wpAny_newObj_type (wpAny_pure ⟨_, rfl, wpAny_pure h⟩) hdrop))
theorem slice_t10_57 {value slice : PySem.Expr} {t : Addr} {x0 x1 x2 x3 x4 x5 x6 x7 x8 x9 : Value} {u v : Tok} {Q : Value → Shared → Prop}
    (F : Fr h₀ L s.heap m) (N : News h₀ L s.heap news) (hm : (t, tupO [x0, x1, x2, x3, x4, x5, x6, x7, x8, x9]) ∈ news)
    (h : ∀ D h', Fr h₀ L h' m → News h₀ L h' ((D, tupO [x5, x6]) :: news) → (∀ p ∈ news, p.1 < D) → Q (.ref D) { s with heap := h' })
    (hs : subscripted slice false (.ref t) (.ref s.heap.objs.size) = operate [.ref s.heap.objs.size, .ref t] (getItem (.ref t) (.ref s.heap.objs.size)) := by with_unfolding_all rfl)
    (hg : ∀ r, letTemporaryGo value (.ref t) r = pure () := by intro _; with_unfolding_all rfl) :
    wpAny (model prog w) A (subscriptTail value slice (.ref t) (.ref s.heap.objs.size)) Q E { s with heap := s.heap.push { cls := .type "slice", data := .fields #[.int 5 v, .int 7 u, .none] } } := by
  have ht : IsTup s.heap t #[x0, x1, x2, x3, x4, x5, x6, x7, x8, x9] := ⟨_, (N _ hm).1, rfl, 0, rfl⟩
  have ht' : IsTup (s.heap.push { cls := .type "slice", data := .fields #[.int 5 v, .int 7 u, .none] }) t #[x0, x1, x2, x3, x4, x5, x6, x7, x8, x9] := ht.keeps fun _ _ e => Heap.get?_push_of_some _ e
  refine subscriptTail_ops (s := { s with heap := s.heap.push { cls := .type "slice", data := .fields #[.int 5 v, .int 7 u, .none] } }) ht'.typeIs slot_tuple_getitem.lookup
    (getItem_t10_57 ht' (Heap.IsSliceOf.new ..) ?_) hs hg
  have N1 := News.push (F.push { cls := .type "slice", data := .fields #[.int 5 v, .int 7 u, .none] }) (N.grown fun _ _ e => Heap.get?_push_of_some _ e) (tupO [x5, x6])
  exact h _ _ ((F.push _).push _) N1 fun p hp => by rw [Heap.size_push]; exact Nat.lt_succ_of_lt (Heap.lt_size (N p hp).1)
theorem sliceApplied_t7_04 {sl : Addr} {u : Tok} {Q : Int × Int × Nat → Shared → Prop} (hs : s.heap.IsSliceOf sl .none (.int 4 u) .none) (h : Q (0, 1, 4) s) :
    wpAny (model prog w) A (Builtin.Slice.sliceApplied (.ref sl) (pure 7)) Q E s := by
  obtain ⟨os, hos, hcs, hds⟩ := id hs
  unfold Builtin.Slice.sliceApplied Builtin.Slice.sliceFields
  refine wpAny_bind (wpAny_bind (wpAny_field hos hds (x := .none) rfl (wpAny_bind (wpAny_field hos hds (x := (.int 4 u)) rfl (wpAny_bind (wpAny_field hos hds (x := .none) rfl (wpAny_pure ?_)))))))
  refine wpAny_bind (slicePart_none ?_)
  show wpAny _ _ (if ((1 : Int) == 0) = true then _ else _) _ _ s
  rw [if_neg (by decide)]
  refine wpAny_bind (slicePart_none (wpAny_bind (slicePart_int (wpAny_bind (wpAny_pure ?_)))))
  exact wpAny_pure h
theorem getItem_t7_04 {t sl : Addr} {x0 x1 x2 x3 x4 x5 x6 : Value} {u : Tok} {Q : Value → Shared → Prop} (ht : IsTup s.heap t #[x0, x1, x2, x3, x4, x5, x6]) (hs : s.heap.IsSliceOf sl .none (.int 4 u) .none)
    (h : Q (.ref s.heap.objs.size) { s with heap := s.heap.push (tupO [x0, x1, x2, x3]) }) : wpAny (model prog w) A (getItem (.ref t) (.ref sl)) Q E s := by
  have hdrop : sizeOk (.seq [x0, x1, x2, x3].toArray) := Nat.le_of_ble_eq_true rfl
  obtain ⟨os, hos, hcs, hds⟩ := id hs
  have hTs : s.TypeIs (.ref sl) "slice" := ⟨os, hos, hcs⟩
  unfold getItem
  try with_reducible refine wpAny_holding ?_
  first | refine wpAny_bind (wpAny_pure ?_) | skip
  refine wpAny_bind (wpAny_sequenceKey ht.typeIs (by decide) ?_)
  refine wpAny_bind (wpAny_callSpecial?_slot (name := Str.ofString "__getitem__") ht.typeIs slot_tuple_getitem
    (wpAny_call_entry slot_tuple_getitem ht.typeIs entry_tuple_getitem ?_ (args_tuple_getitem _ _)))
  show wpAny _ _ (Builtin.Tuple.tupleItemsOf (.ref t) >>= _) _ _ s
  refine wpAny_bind (tupleItemsOf_ ht ?_)
  refine wpAny_bind (wpAny_typeOf hTs ?_)
  rw [if_pos (by decide)]
  refine wpAny_bind (sliceApplied_t7_04 hs ?_)
  show wpAny _ _ (if ((0 : Int) == 0 && (1 : Int) == 1 && 4 == 7) = true then _ else _) _ _ s
  rw [if_neg (by decide)]
  first
    | exact wpAny_bind (m := Builtin.Tuple.tupleExact _) (wpAny_newObj_type (wpAny_pure ⟨_, rfl, wpAny_pure h⟩) hdrop)
    | exact wpAny_bind (m := Builtin.Tuple.tupleExact _) (wpAny_newObj_type (wpAny_bind (wpAny_pure (wpAny_pure ⟨_, rfl, wpAny_pure h⟩))) hdrop)
    | exact wpAny_bind (wpAny_bind (m := Builtin.Tuple.tupleExact _) (wpAny_newObj_type (wpAny_pure ⟨_, rfl, wpAny_pure h⟩) hdrop))
theorem slice_t7_04 {value slice : PySem.Expr} {t : Addr} {x0 x1 x2 x3 x4 x5 x6 : Value} {u : Tok} {Q : Value → Shared → Prop}
    (F : Fr h₀ L s.heap m) (N : News h₀ L s.heap news) (hm : (t, tupO [x0, x1, x2, x3, x4, x5, x6]) ∈ news)
    (h : ∀ D h', Fr h₀ L h' m → News h₀ L h' ((D, tupO [x0, x1, x2, x3]) :: news) → (∀ p ∈ news, p.1 < D) → Q (.ref D) { s with heap := h' })
    (hs : subscripted slice false (.ref t) (.ref s.heap.objs.size) = operate [.ref s.heap.objs.size, .ref t] (getItem (.ref t) (.ref s.heap.objs.size)) := by with_unfolding_all rfl)
    (hg : ∀ r, letTemporaryGo value (.ref t) r = pure () := by intro _; with_unfolding_all rfl) :
    wpAny (model prog w) A (subscriptTail value slice (.ref t) (.ref s.heap.objs.size)) Q E { s with heap := s.heap.push { cls := .type "slice", data := .fields #[.none, .int 4 u, .none] } } := by
  have ht : IsTup s.heap t #[x0, x1, x2, x3, x4, x5, x6] := ⟨_, (N _ hm).1, rfl, 0, rfl⟩
  have ht' : IsTup (s.heap.push { cls := .type "slice", data := .fields #[.none, .int 4 u, .none] }) t #[x0, x1, x2, x3, x4, x5, x6] := ht.keeps fun _ _ e => Heap.get?_push_of_some _ e
  refine subscriptTail_ops (s := { s with heap := s.heap.push { cls := .type "slice", data := .fields #[.none, .int 4 u, .none] } }) ht'.typeIs slot_tuple_getitem.lookup
    (getItem_t7_04 ht' (Heap.IsSliceOf.new ..) ?_) hs hg
  have N1 := News.push (F.push { cls := .type "slice", data := .fields #[.none, .int 4 u, .none] }) (N.grown fun _ _ e => Heap.get?_push_of_some _ e) (tupO [x0, x1, x2, x3])
  exact h _ _ ((F.push _).push _) N1 fun p hp => by rw [Heap.size_push]; exact Nat.lt_succ_of_lt (Heap.lt_size (N p hp).1)
theorem sliceApplied_t7_5e {sl : Addr} {v : Tok} {Q : Int × Int × Nat → Shared → Prop} (hs : s.heap.IsSliceOf sl (.int 5 v) .none .none) (h : Q (5, 1, 2) s) :
    wpAny (model prog w) A (Builtin.Slice.sliceApplied (.ref sl) (pure 7)) Q E s := by
  obtain ⟨os, hos, hcs, hds⟩ := id hs
  unfold Builtin.Slice.sliceApplied Builtin.Slice.sliceFields
  refine wpAny_bind (wpAny_bind (wpAny_field hos hds (x := (.int 5 v)) rfl (wpAny_bind (wpAny_field hos hds (x := .none) rfl (wpAny_bind (wpAny_field hos hds (x := .none) rfl (wpAny_pure ?_)))))))
  refine wpAny_bind (slicePart_none ?_)
  show wpAny _ _ (if ((1 : Int) == 0) = true then _ else _) _ _ s
  rw [if_neg (by decide)]
  refine wpAny_bind (slicePart_int (wpAny_bind (slicePart_none (wpAny_bind (wpAny_pure ?_)))))
  exact wpAny_pure h
theorem getItem_t7_5e {t sl : Addr} {x0 x1 x2 x3 x4 x5 x6 : Value} {v : Tok} {Q : Value → Shared → Prop} (ht : IsTup s.heap t #[x0, x1, x2, x3, x4, x5, x6]) (hs : s.heap.IsSliceOf sl (.int 5 v) .none .none)
    (h : Q (.ref s.heap.objs.size) { s with heap := s.heap.push (tupO [x5, x6]) }) : wpAny (model prog w) A (getItem (.ref t) (.ref sl)) Q E s := by
  have hdrop : sizeOk (.seq [x5, x6].toArray) := Nat.le_of_ble_eq_true rfl
  obtain ⟨os, hos, hcs, hds⟩ := id hs
  have hTs : s.TypeIs (.ref sl) "slice" := ⟨os, hos, hcs⟩
  unfold getItem
  try with_reducible refine wpAny_holding ?_
  first | refine wpAny_bind (wpAny_pure ?_) | skip
  refine wpAny_bind (wpAny_sequenceKey ht.typeIs (by decide) ?_)
  refine wpAny_bind (wpAny_callSpecial?_slot (name := Str.ofString "__getitem__") ht.typeIs slot_tuple_getitem
    (wpAny_call_entry slot_tuple_getitem ht.typeIs entry_tuple_getitem ?_ (args_tuple_getitem _ _)))
  show wpAny _ _ (Builtin.Tuple.tupleItemsOf (.ref t) >>= _) _ _ s
  refine wpAny_bind (tupleItemsOf_ ht ?_)
  refine wpAny_bind (wpAny_typeOf hTs ?_)
  rw [if_pos (by decide)]
  refine wpAny_bind (sliceApplied_t7_5e hs ?_)
  show wpAny _ _ (if ((5 : Int) == 0 && (1 : Int) == 1 && 2 == 7) = true then _ else _) _ _ s
  rw [if_neg (by decide)]
  first
    | exact wpAny_bind (m := Builtin.Tuple.tupleExact _) (wpAny_newObj_type (wpAny_pure ⟨_, rfl, wpAny_pure h⟩) hdrop)
    | exact wpAny_bind (m := Builtin.Tuple.tupleExact _) (wpAny_newObj_type (wpAny_bind (wpAny_pure (wpAny_pure ⟨_, rfl, wpAny_pure h⟩))) hdrop)
    | exact wpAny_bind (wpAny_bind (m := Builtin.Tuple.tupleExact _) (wpAny_newObj_type (wpAny_pure ⟨_, rfl, wpAny_pure h⟩) hdrop))
theorem slice_t7_5e {value slice : PySem.Expr} {t : Addr} {x0 x1 x2 x3 x4 x5 x6 : Value} {v : Tok} {Q : Value → Shared → Prop}
    (F : Fr h₀ L s.heap m) (N : News h₀ L s.heap news) (hm : (t, tupO [x0, x1, x2, x3, x4, x5, x6]) ∈ news)
    (h : ∀ D h', Fr h₀ L h' m → News h₀ L h' ((D, tupO [x5, x6]) :: news) → (∀ p ∈ news, p.1 < D) → Q (.ref D) { s with heap := h' })
    (hs : subscripted slice false (.ref t) (.ref s.heap.objs.size) = operate [.ref s.heap.objs.size, .ref t] (getItem (.ref t) (.ref s.heap.objs.size)) := by with_unfolding_all rfl)
    (hg : ∀ r, letTemporaryGo value (.ref t) r = pure () := by intro _; with_unfolding_all rfl) :
    wpAny (model prog w) A (subscriptTail value slice (.ref t) (.ref s.heap.objs.size)) Q E { s with heap := s.heap.push { cls := .type "slice", data := .fields #[.int 5 v, .none, .none] } } := by
  have ht : IsTup s.heap t #[x0, x1, x2, x3, x4, x5, x6] := ⟨_, (N _ hm).1, rfl, 0, rfl⟩
  have ht' : IsTup (s.heap.push { cls := .type "slice", data := .fields #[.int 5 v, .none, .none] }) t #[x0, x1, x2, x3, x4, x5, x6] := ht.keeps fun _ _ e => Heap.get?_push_of_some _ e
  refine subscriptTail_ops (s := { s with heap := s.heap.push { cls := .type "slice", data := .fields #[.int 5 v, .none, .none] } }) ht'.typeIs slot_tuple_getitem.lookup
    (getItem_t7_5e ht' (Heap.IsSliceOf.new ..) ?_) hs hg
  have N1 := News.push (F.push { cls := .type "slice", data := .fields #[.int 5 v, .none, .none] }) (N.grown fun _ _ e => Heap.get?_push_of_some _ e) (tupO [x5, x6])
  exact h _ _ ((F.push _).push _) N1 fun p hp => by rw [Heap.size_push]; exact Nat.lt_succ_of_lt (Heap.lt_size (N p hp).1)
end

-- O15
local macro_rules | `(tactic| walk_at "subscriptTail") => `(tactic| (k_here; (with_reducible show wpAny _ _ (subscriptTail _ (PySem.Expr.Slice none _ none _) (Value.ref _) (Value.ref _)) _ _ _); k_dflt (refine' slice_t10_04 ?F ?N ?l ?_ ?s ?t; (case F => k_asm); (case N => k_asm); (case l => k_mem); (case s => with_unfolding_all rfl); (case t => kmk_pure)); intro D' h' F' N' l1))
local macro_rules | `(tactic| walk_at "subscriptTail") => `(tactic| (k_here; (with_reducible show wpAny _ _ (subscriptTail _ (PySem.Expr.Slice (some _) _ none _) (Value.ref _) (Value.ref _)) _ _ _); k_dflt (refine' slice_t10_57 ?F ?N ?l ?_ ?s ?t; (case F => k_asm); (case N => k_asm); (case l => k_mem); (case s => with_unfolding_all rfl); (case t => kmk_pure)); intro D' h' F' N' l1))

/-- a header's row as the law tells it -/
noncomputable abbrev Hd.vals (h : Hd) (t : Nat → Tok) : List Value := [.int h.src (t 0), .int h.tgt (t 1), .int h.proto (t 2), .int h.ident (t 3), .int h.ttl (t 4), .int h.tos (t 5), .bool h.dont, .bool h.more, .int h.off (t 8), .bytes #[] (t 9)]
/-- the tuple that tells -/
noncomputable def Told (l : Ledger) (r : Value) (x y z : Int) : Prop := ∃ T t0 t1 t2 t3, r = .ref T ∧ (T, tupO [.str "tell" t0, .int x t1, .int y t2, .int z t3]) ∈ l
theorem due_not {x : Int} (h : ¬ Quiet x) (h0 : 0 ≤ x) : ¬ 224 ≤ x.fdiv 16777216 ∧ ([0, 127].any fun y => y == x.fdiv 16777216) = false := by
  rw [Int.fdiv_eq_ediv_of_nonneg _ (by decide)]
  unfold Quiet at h
  refine ⟨by omega, ?_⟩
  rw [Bool.eq_false_iff]
  intro e
  simp only [List.any_cons, List.any_nil, Bool.or_false, Bool.or_eq_true, beq_iff_eq] at e
  omega
/-- in one of the three nets -/
noncomputable def Net3 (x : Int) : Prop := x / 16777216 = 10 ∨ x / 16777216 = 11 ∨ x / 16777216 = 12
noncomputable def roomOf (x mt : Int) : Int := if x / 16777216 = 10 then 100 else mt
noncomputable def faceOf (x : Int) : Int := if x / 16777216 = 10 then 0 else 1
noncomputable def wayTo (x : Int) : Int := if x / 16777216 = 12 then 184549385 else x
noncomputable def Great (n : Nat) (dont : Bool) (room : Int) : Prop := room < 20 + (n : Int) ∧ (dont = true ∨ (room - 20) / 8 * 8 < 8)
/-- what is asked of forward -/
inductive Wy where
  | quiet
  | tell (x y z : Int)
  | out
open Classical in
noncomputable def wayOf (h : Hd) (n : Nat) (mt : Int) : Wy :=
  if Quiet h.tgt then .quiet else if h.ttl ≤ 1 then .tell 11 0 0 else if Net3 h.tgt then (if Great n h.dont (roomOf h.tgt mt) then .tell 3 4 (roomOf h.tgt mt) else .out) else .tell 3 0 0
noncomputable def stepOf (x mt : Int) : Nat := ((roomOf x mt - 20) / 8 * 8).toNat
/-- the rows of what goes out -/
inductive RowIn (l : Ledger) (v : Value) (face addr : Int) (x : Hd × List UInt8) : Prop
  | mk (T H : Addr) (t0 t1 t3 : Tok) (tk : Nat → Tok) (e : v = .ref T) (h1 : (T, tupO [.int face t0, .int addr t1, .ref H, .bytes x.2.toArray t3]) ∈ l) (h2 : (H, tupO (x.1.vals tk)) ∈ l) : RowIn l v face addr x
noncomputable def RowsIn (l : Ledger) (vs : List Value) (face addr : Int) (xs : List (Hd × List UInt8)) : Prop := vs.length = xs.length ∧ ∀ (i : Nat) (v : Value) (x : Hd × List UInt8), vs[i]? = some v → xs[i]? = some x → RowIn l v face addr x
/-- ways meet behind a statement -/
noncomputable def JoinP (g : Heap) (L : Addr) (s : Shared) (P : (Str → Option Value) → Ledger → Prop) (f : Flow) (s' : Shared) : Prop := f = .next ∧ ∃ h' tk' m' nw, s' = { s with heap := h', toks := tk' } ∧ Fr g L h' m' ∧ News g L h' nw ∧ P m' nw
theorem join_stmt {M : Model} {A : Around} {E : Value → Shared → Prop} {s : Shared} {st : Stmt} {env : Env} {g : Heap} {L : Addr} {m : Str → Option Value} {Q : Flow → Shared → Prop} (_ : Fr g L s.heap m) (P : (Str → Option Value) → Ledger → Prop) (h1 : wpAny M A (exec st env) (JoinP g L s P) E s)
    (h2 : ∀ h' tk' m' nw, Fr g L h' m' → News g L h' nw → P m' nw → Q .next { s with heap := h', toks := tk' }) : wpAny M A (exec st env) Q E s :=
  wpAny_mono h1 (fun f s' h => by
    obtain ⟨rfl, h', tk', m', nw, rfl, F, N, hp⟩ := h
    exact h2 h' tk' m' nw F N hp) fun _ _ e => e
/-- the ends of the parts -/
noncomputable def cutsL (n st k : Nat) : List Int := (List.range k).map (fun j => (((j + 1) * st : Nat) : Int)) ++ [(n : Int)]
theorem intsAre_snoc {vs : List Value} {ns : List Int} {x : Int} {t : Tok} (h : IntsAre vs ns) : IntsAre (vs ++ [.int x t]) (ns ++ [x]) := by
  induction h with
  | nil => exact .cons _ _ .nil
  | cons n t _ ih => exact .cons n t ih
theorem range_snoc (k st : Nat) : (List.range (k + 1)).map (fun j => (((j + 1) * st : Nat) : Int)) = (List.range k).map (fun j => (((j + 1) * st : Nat) : Int)) ++ [(((k + 1) * st : Nat) : Int)] := by
  rw [List.range_succ, List.map_append]; rfl
theorem intsAre_get {vs : List Value} {ns : List Int} (h : IntsAre vs ns) {i : Nat} {v : Value} (hv : vs[i]? = some v) : ∃ n t, v = .int n t ∧ ns[i]? = some n := by
  have hi : i < ns.length := by rw [← h.length]; exact (List.getElem?_eq_some_iff.mp hv).1
  obtain ⟨t, ht⟩ := h.get i ns[i] (by simp [hi])
  rw [ht] at hv
  exact ⟨_, t, (Option.some.inj hv).symm, by simp [hi]⟩
theorem intsAre_last {ns : List Int} : ∀ {vs : List Value} {x : Int}, IntsAre vs (ns ++ [x]) → ∃ us t, vs = us ++ [.int x t] := by
  induction ns with
  | nil =>
    intro vs x h
    cases h with
    | cons n t r => cases r; exact ⟨[], _, rfl⟩
  | cons a ns ih =>
    intro vs x h
    cases h with
    | cons n t r =>
      obtain ⟨us, t', e⟩ := ih r
      exact ⟨_ :: us, t', by rw [e]; rfl⟩
theorem cutsL_get {n st k i : Nat} {e : Int} (h : (cutsL n st k)[i]? = some e) : (i < k ∧ e = (((i + 1) * st : Nat) : Int)) ∨ (i = k ∧ e = (n : Int)) := by
  unfold cutsL at h
  rcases Nat.lt_trichotomy i k with hi | hi | hi
  · rw [List.getElem?_append_left (by simpa using hi), List.getElem?_map, List.getElem?_range hi] at h
    exact .inl ⟨hi, (Option.some.inj h).symm⟩
  · rw [List.getElem?_append_right (by simp; omega)] at h
    rw [show i - ((List.range k).map (fun j => (((j + 1) * st : Nat) : Int))).length = 0 by simp; omega] at h
    exact .inr ⟨hi, (Option.some.inj h).symm⟩
  · rw [List.getElem?_eq_none (by simp; omega)] at h; cases h
theorem RowIn.mono {l l' : Ledger} {v : Value} {face addr : Int} {x : Hd × List UInt8} (h : RowIn l v face addr x) (hs : ∀ p ∈ l, p ∈ l') : RowIn l' v face addr x := by
  obtain ⟨T, H, t0, t1, t3, tk, e, h1, h2⟩ := h
  exact ⟨T, H, t0, t1, t3, tk, e, hs _ h1, hs _ h2⟩
theorem RowsIn.mono {l l' : Ledger} {vs : List Value} {face addr : Int} {xs : List (Hd × List UInt8)} (h : RowsIn l vs face addr xs) (hs : ∀ p ∈ l, p ∈ l') : RowsIn l' vs face addr xs := ⟨h.1, fun i v x h1 h2 => (h.2 i v x h1 h2).mono hs⟩
theorem RowIn.put {l : Ledger} {v : Value} {face addr : Int} {x : Hd × List UInt8} {fl : Addr} {lo o' : Obj} (h : RowIn l v face addr x) (U : One l) (hf : (fl, lo) ∈ l) (hc : lo.cls = .type "list") : RowIn (put fl o' l) v face addr x := by
  obtain ⟨T, H, t0, t1, t3, tk, e, h1, h2⟩ := h
  exact ⟨T, H, t0, t1, t3, tk, e, put_keep U hf h1 (by rw [hc]; show Value.type "tuple" ≠ _; decide), put_keep U hf h2 (by rw [hc]; show Value.type "tuple" ≠ _; decide)⟩
theorem RowsIn.put {l : Ledger} {vs : List Value} {face addr : Int} {xs : List (Hd × List UInt8)} {fl : Addr} {lo o' : Obj} (h : RowsIn l vs face addr xs) (U : One l) (hf : (fl, lo) ∈ l) (hc : lo.cls = .type "list") : RowsIn (put fl o' l) vs face addr xs := ⟨h.1, fun i v x h1 h2 => (h.2 i v x h1 h2).put U hf hc⟩
theorem RowsIn.wo {l : Ledger} {vs : List Value} {face addr : Int} {xs : List (Hd × List UInt8)} {fl : Addr} {lo : Obj} {c : String} (h : RowsIn l vs face addr xs) (U : One l) (hf : (fl, lo) ∈ l) (hc : lo.cls = .type c) (hd : c ≠ "tuple") : RowsIn (wo fl l) vs face addr xs :=
  ⟨h.1, fun i v x h1 h2 => by
    obtain ⟨T, H, t0, t1, t3, tk, e, h3, h4⟩ := h.2 i v x h1 h2
    exact ⟨T, H, t0, t1, t3, tk, e, wo_keep U hf h3 (by rw [hc]; exact fun e => hd (by injection e with e; exact e.symm)), wo_keep U hf h4 (by rw [hc]; exact fun e => hd (by injection e with e; exact e.symm))⟩⟩
theorem RowsIn.snoc {l : Ledger} {face addr : Int} {vs : List Value} {xs : List (Hd × List UInt8)} {v : Value} {x : Hd × List UInt8} (h : RowsIn l vs face addr xs) (hv : RowIn l v face addr x) : RowsIn l (vs ++ [v]) face addr (xs ++ [x]) := snoc2 (R := fun v x => RowIn l v face addr x) h hv
theorem parts_get {h : Hd} {p : List UInt8} {s k i : Nat} (hi : i < k) : (parts h p s k)[i]? = some (h.part (h.off + ((i * s : Nat) : Int)) true, (p.drop (i * s)).take s) := by
  unfold parts ahead
  rw [List.getElem?_append_left (by simpa using hi), List.getElem?_map, List.getElem?_range hi]; rfl
theorem parts_end {h : Hd} {p : List UInt8} {s k : Nat} : (parts h p s k)[k]? = some (h.part (h.off + ((k * s : Nat) : Int)) h.more, p.drop (k * s)) := by
  unfold parts
  rw [List.getElem?_append_right (by simp [ahead]), ahead_len, Nat.sub_self]; rfl
theorem news_snd {hz hx : Heap} {Lf : Addr} {a b : Addr × Obj} {l : Ledger} (_ : News hz Lf hx (a :: b :: l)) : b ∈ a :: b :: l := .tail _ (.head _)
theorem sub_of_news {hz hx : Heap} {Lf : Addr} {l l' : Ledger} (_ : News hz Lf hx l) (h : ∀ p ∈ l', p ∈ l) : ∀ p ∈ l', p ∈ l := h
theorem mem_of_news {hz hx : Heap} {Lf : Addr} {l : Ledger} {p : Addr × Obj} (_ : News hz Lf hx l) (h : p ∈ l) : p ∈ l := h

noncomputable def DuePost (h : Hd) (p : List UInt8) (mt : Int) (l : Ledger) (r : Value) : Prop := match wayOf h p.length mt with
  | .quiet => ∃ L, r = .ref L ∧ (L, listOf #[] 0) ∈ l
  | .tell x y z => Told l r x y z
  | .out => ∃ L vs n k, r = .ref L ∧ (L, listOf (List.toArray vs) n) ∈ l ∧ RowsIn l vs (faceOf h.tgt) (wayTo h.tgt) (parts (h.like h.src (h.ttl - 1)) p (stepOf h.tgt mt) k) ∧ Cuts p.length (roomOf h.tgt mt) (stepOf h.tgt mt) k
theorem due_quiet {h : Hd} {p : List UInt8} {mt : Int} {l : Ledger} {L : Addr} (hq : Quiet h.tgt) (hm : (L, listOf #[] 0) ∈ l) : DuePost h p mt l (.ref L) := by
  unfold DuePost wayOf; rw [if_pos hq]; exact ⟨L, rfl, hm⟩
theorem due_over {h : Hd} {p : List UInt8} {mt : Int} {l : Ledger} {r : Value} (hq : ¬ Quiet h.tgt) (ht : h.ttl < 2) (hm : Told l r 11 0 0) : DuePost h p mt l r := by
  unfold DuePost wayOf; rw [if_neg hq, if_pos (Int.le_of_lt_add_one ht)]; exact hm
theorem due_nonet {h : Hd} {p : List UInt8} {mt : Int} {l : Ledger} {r : Value} (hq : ¬ Quiet h.tgt) (ht : ¬ h.ttl < 2) (hn : ¬ Net3 h.tgt) (hm : Told l r 3 0 0) : DuePost h p mt l r := by
  unfold DuePost wayOf; rw [if_neg hq, if_neg fun e => ht (Int.lt_add_one_of_le e), if_neg hn]; exact hm
theorem due_great {h : Hd} {p : List UInt8} {mt : Int} {l : Ledger} {r : Value} (hq : ¬ Quiet h.tgt) (ht : ¬ h.ttl < 2) (hn : Net3 h.tgt) (hg : Great p.length h.dont (roomOf h.tgt mt)) (hm : Told l r 3 4 (roomOf h.tgt mt)) : DuePost h p mt l r := by
  unfold DuePost wayOf; rw [if_neg hq, if_neg fun e => ht (Int.lt_add_one_of_le e), if_pos hn, if_pos hg]; exact hm
inductive DJ1 (h : Hd) (p : List UInt8) (tp : Tok) (mt : Int) (R : Addr) (m' : Str → Option Value) : Prop
  | mk (ta tb tc t0 t3 : Tok) (mf : m' "face" = some (.int (faceOf h.tgt) ta)) (ma : m' "address" = some (.int (wayTo h.tgt) tb)) (mr : m' "room" = some (.int (roomOf h.tgt mt) tc))
    (mw : m' "row" = some (.ref R)) (mp : m' "payload" = some (.bytes p.toArray tp)) (mtt : m' "ttl" = some (.int h.ttl t0)) (md : m' "dont" = some (.bool h.dont)) (mm : m' "more" = some (.bool h.more)) (mo : m' "offset" = some (.int h.off t3)) : DJ1 h p tp mt R m'
inductive DJ2 (h : Hd) (p : List UInt8) (tp : Tok) (mt : Int) (R : Addr) (nw : Ledger) (st : Nat) (m' : Str → Option Value) (nx : Ledger) : Prop
  | mk (cu : Addr) (vs : List Value) (c k : Nat) (ta tb t0 t3 : Tok) (hcu : (cu, listOf (List.toArray vs) c) ∈ nx) (hvs : IntsAre vs (cutsL p.length st k)) (hck : Cuts p.length (roomOf h.tgt mt) st k) (hsub : ∀ p ∈ nw, p ∈ nx) (mc : m' "cuts" = some (.ref cu))
    (mf : m' "face" = some (.int (faceOf h.tgt) ta)) (ma : m' "address" = some (.int (wayTo h.tgt) tb)) (mw : m' "row" = some (.ref R)) (mp : m' "payload" = some (.bytes p.toArray tp)) (mtt : m' "ttl" = some (.int h.ttl t0)) (mm : m' "more" = some (.bool h.more)) (mo : m' "offset" = some (.int h.off t3)) : DJ2 h p tp mt R nw st m' nx
inductive DJ3 (h : Hd) (p : List UInt8) (tp : Tok) (mt : Int) (R : Addr) (nw : Ledger) (cu : Addr) (st : Nat) (n : Nat) (m : Str → Option Value) (nx : Ledger) : Prop
  | mk (i q : Nat) (vs : List Value) (c : Nat) (ts ta tb t0 t3 tc tl : Tok) (hqi : q = (i + 1) * st) (hnq : n = p.length - q) (mc : m "cuts" = some (.ref cu)) (mst : m "step" = some (.int (st : Int) ts)) (mr : m "room" = some (.int (roomOf h.tgt mt) tc))
    (mf : m "face" = some (.int (faceOf h.tgt) ta)) (ma : m "address" = some (.int (wayTo h.tgt) tb)) (mw : m "row" = some (.ref R)) (mp : m "payload" = some (.bytes p.toArray tp)) (mtt : m "ttl" = some (.int h.ttl t0)) (mm : m "more" = some (.bool h.more)) (mo : m "offset" = some (.int h.off t3))
    (hcl : (cu, listOf (vs ++ [Value.int (q : Int) tl]).toArray c) ∈ nx) (hvs : IntsAre vs ((List.range i).map fun j => (((j + 1) * st : Nat) : Int))) (hji : ∀ j, j < i + 1 → roomOf h.tgt mt < 20 + ((p.length : Int) - ((j * st : Nat) : Int))) (hil : i ≤ p.length) (hsub : ∀ p ∈ nw, p ∈ nx) : DJ3 h p tp mt R nw cu st n m nx
inductive DJ4 (h : Hd) (p : List UInt8) (tp : Tok) (R : Addr) (nw : Ledger) (cu fl : Addr) (st k : Nat) (i : Nat) (m : Str → Option Value) (nx2 : Ledger) : Prop
  | mk (ws : List Value) (c2 q : Nat) (tq ta tb t0 t3 : Tok) (mfo : m "found" = some (.ref fl)) (mbe : m "begin" = some (.int (q : Int) tq)) (hqi : i ≤ k → q = i * st)
    (mc : m "cuts" = some (.ref cu)) (mf : m "face" = some (.int (faceOf h.tgt) ta)) (ma : m "address" = some (.int (wayTo h.tgt) tb)) (mw : m "row" = some (.ref R)) (mp : m "payload" = some (.bytes p.toArray tp)) (mtt : m "ttl" = some (.int h.ttl t0)) (mm : m "more" = some (.bool h.more)) (mo : m "offset" = some (.int h.off t3))
    (hfl : (fl, listOf (List.toArray ws) c2) ∈ nx2) (hro : RowsIn nx2 ws (faceOf h.tgt) (wayTo h.tgt) ((parts (h.like h.src (h.ttl - 1)) p st k).take i)) (hs2 : ∀ p ∈ nw, p ∈ nx2) : DJ4 h p tp R nw cu fl st k i m nx2
theorem quiet_div {x : Int} (hq : Quiet x) (h0 : 0 ≤ x) (y1 : ¬ 224 ≤ x / 16777216) (y3 : ¬ (x / 16777216 = 0 ∨ x / 16777216 = 127)) : False := by
  rcases hq with q | q | q
  · exact y1 (by clear y1 y3; omega)
  · exact y3 (.inr q)
  · exact y3 (.inl (Int.ediv_eq_zero_of_lt h0 q))
/-- a turn's piece, both ways at once -/
theorem turn_piece {h : Hd} {p : List UInt8} {st k i : Nat} {e : Int} (he : (cutsL p.length st k)[i]? = some e) (hm : k = 0 ∨ k * st < p.length) : ∃ (j : Nat) (b : Bool) (d : List UInt8), e = (j : Int) ∧ (if (j : Int) = (p.length : Int) then h.more else true) = b ∧
    (parts h p st k)[i]? = some (h.part (h.off + ((i * st : Nat) : Int)) b, d) ∧ (p.drop (i * st)).take (j - i * st) = d ∧ i * st ≤ j ∧ i ≤ k ∧ (i + 1 ≤ k → j = (i + 1) * st) := by
  rcases cutsL_get he with ⟨hik, rfl⟩ | ⟨rfl, rfl⟩
  · have h2 : (i + 1) * st ≤ k * st := Nat.mul_le_mul_right st hik
    refine ⟨(i + 1) * st, true, _, rfl, ?_, parts_get hik, ?_, by rw [Nat.succ_mul]; exact Nat.le_add_right _ _, Nat.le_of_lt hik, fun _ => rfl⟩
    · rw [if_neg]
      intro e
      have e' : (i + 1) * st = p.length := Int.ofNat.inj e
      rcases hm with rfl | hm
      · exact Nat.not_lt_zero _ hik
      · rw [← e'] at hm; exact Nat.lt_irrefl _ (Nat.lt_of_lt_of_le hm h2)
    · rw [Nat.succ_mul, Nat.add_sub_cancel_left]
  · refine ⟨p.length, h.more, _, rfl, if_pos rfl, parts_end, List.take_of_length_le (by rw [List.length_drop]; exact Nat.le_refl _), ?_, Nat.le_refl _, fun h => absurd h (Nat.not_succ_le_self _)⟩
    rcases hm with rfl | hm
    · rw [Nat.zero_mul]; exact Nat.zero_le _
    · exact Nat.le_of_lt hm
inductive DJ5 (h : Hd) (p : List UInt8) (tp : Tok) (R cu fl : Addr) (q j : Nat) (b : Bool) (m : Str → Option Value) : Prop
  | mk (tq te ta tb t0 t3 : Tok) (mfo : m "found" = some (.ref fl)) (mbe : m "begin" = some (.int (q : Int) tq)) (men : m "end" = some (.int (j : Int) te)) (mis : m "is_more" = some (.bool b)) (mc : m "cuts" = some (.ref cu)) (mf : m "face" = some (.int (faceOf h.tgt) ta)) (ma : m "address" = some (.int (wayTo h.tgt) tb))
    (mw : m "row" = some (.ref R)) (mp : m "payload" = some (.bytes p.toArray tp)) (mtt : m "ttl" = some (.int h.ttl t0)) (mm : m "more" = some (.bool h.more)) (mo : m "offset" = some (.int h.off t3)) : DJ5 h p tp R cu fl q j b m
theorem c_due (w mean mg mb) (h : Hd) (t : Nat → Tok) (R : Addr) (p : List UInt8) (tp tm : Tok) (mt : Int) (news : Ledger) (hR : (R, tupO (h.vals t)) ∈ news) (h0 : 0 ≤ h.tgt) (hp : p.length ≤ 1000) :
    Fn w mean mg mb 890 20 300 [.ref R, .bytes p.toArray tp, .int mt tm] news (fun r n' => DuePost h p mt n' r ∧ (∀ p ∈ news, p ∈ n')) := by
  have e2 : h.tgt.fdiv 16777216 = h.tgt / 16777216 := Int.fdiv_eq_ediv_of_nonneg _ (by decide)
  unfold Fn; k_fill; intro dp un gd cn cs a ccd cl outer A₀ base h₀ L m s Q E B F X N T hk hdp hun hret
  refine wpAny_call ?_; k_enter
  repeat' ((fail_if_success (with_reducible show wpAny _ _ (exec (Stmt.For _ _ _ _ _) _) _ _ _)); (fail_if_success (with_reducible show wpAny _ _ (pyIter _) _ _ _)); (fail_if_success (with_reducible show wpAny _ _ (exec (Stmt.Raise _ _ _) _) _ _ _)); (fail_if_success (with_reducible show wpAny _ _ (exec (Stmt.While _ _ _ _) _) _ _ _)); (fail_if_success (with_reducible show wpAny _ _ (exec (Stmt.If _ _ _ _) _) _ _ _)); (try dsimp only); first | (k_unfold; (try dsimp only)) | walk1 | (dsimp only; walk1) | (leave1; (try dsimp only)))
  by_cases hq : Quiet h.tgt
  · walk1
    repeat' ((fail_if_success (with_reducible show wpAny _ _ (exec (Stmt.If _ _ _ _) _) _ _ _)); walk_at "wc")
    all_goals first
      | (rename News h₀ _ _ _ => kN
         refine hret _ _ _ _ (by k_asm) kN ⟨due_quiet hq (.head _), fun p hp => ?_⟩
         repeat (first | exact hp | apply List.Mem.tail))
      | (exfalso
         have y1 : ¬ 224 ≤ h.tgt.fdiv 16777216 := by assumption
         have y2 : ([0, 127].any fun x => x == h.tgt.fdiv 16777216) = false := by assumption
         rw [e2] at y1 y2
         have y3 : ¬ (h.tgt / 16777216 = 0 ∨ h.tgt / 16777216 = 127) := fun e => by
           rcases e with e | e <;> (rw [e] at y2; exact absurd y2 (by decide))
         exact quiet_div hq h0 y1 y3)
  obtain ⟨z1, z2⟩ := due_not hq h0
  walk1
  repeat' ((fail_if_success (with_reducible show wpAny _ _ (exec (Stmt.If _ _ _ _) _) _ _ _)); walk_at "wc")
  by_cases ht : h.ttl < 2
  · walk1
    walk_at "w"
    rename News h₀ _ _ _ => kN
    refine hret _ _ _ _ (by k_asm) kN ⟨due_over hq ht ⟨_, _, _, _, _, rfl, .head _⟩, fun p hp => ?_⟩
    repeat (first | exact hp | apply List.Mem.tail)
  walk1
  repeat' ((fail_if_success (with_reducible show wpAny _ _ (exec (Stmt.If _ _ _ _) _) _ _ _)); walk_at "wc")
  by_cases hn : Net3 h.tgt
  case neg =>
    have z3 : ([10, 11, 12].any fun x => x == h.tgt.fdiv 16777216) = false := by
      rw [e2, Bool.eq_false_iff]
      unfold Net3 at hn
      intro e
      simp only [List.any_cons, List.any_nil, Bool.or_false, Bool.or_eq_true, beq_iff_eq] at e
      exact hn (e.imp Eq.symm (Or.imp Eq.symm Eq.symm))
    walk1
    walk_at "w"
    rename News h₀ _ _ _ => kN
    refine hret _ _ _ _ (by k_asm) kN ⟨due_nonet hq ht hn ⟨_, _, _, _, _, rfl, .head _⟩, fun p hp => ?_⟩
    repeat (first | exact hp | apply List.Mem.tail)
  have z3 : ([10, 11, 12].any fun x => x == h.tgt.fdiv 16777216) = true := by
    rw [e2]
    unfold Net3 at hn
    simp only [List.any_cons, List.any_nil, Bool.or_false, Bool.or_eq_true, beq_iff_eq]
    exact hn.imp Eq.symm (Or.imp Eq.symm Eq.symm)
  walk1
  repeat' ((fail_if_success (with_reducible show wpAny _ _ (exec (Stmt.Assign _ _ _) _) _ _ _)); walk_at "wc")
  rename Fr _ _ _ _ => F1
  rename News _ _ _ _ => N1
  replace N1 := news_sub N1 fun p hp => List.Mem.tail _ (List.Mem.tail _ (List.Mem.tail _ hp))
  refine join_stmt F1 (fun m' nw => nw = news ∧ DJ1 h p tp mt R m') ?_ ?_
  · have ef : (if decide (10 < h.tgt.fdiv 16777216) = true then (1 : Int) else 0) = faceOf h.tgt := by
      rw [e2]
      unfold faceOf
      unfold Net3 at hn
      by_cases c : h.tgt / 16777216 = 10
      · rw [if_pos c, c]; rfl
      · rw [if_neg c, if_pos (decide_eq_true (by omega))]
    have hw1 : h.tgt.fdiv 16777216 = 12 → wayTo h.tgt = 184549385 := fun e => if_pos (e2 ▸ e)
    have hw2 : h.tgt.fdiv 16777216 ≠ 12 → wayTo h.tgt = h.tgt := fun e => if_neg (e2 ▸ e)
    have hr1 : h.tgt.fdiv 16777216 = 10 → roomOf h.tgt mt = 100 := fun e => if_pos (e2 ▸ e)
    have hr2 : h.tgt.fdiv 16777216 ≠ 10 → roomOf h.tgt mt = mt := fun e => if_neg (e2 ▸ e)
    walk_at "w"
    all_goals (
      rename News _ _ _ _ => N9
      exact ⟨rfl, _, _, _, news, rfl, by k_asm, news_sub N9 fun p hp => .tail _ hp, rfl, _, _, _, _, _, (by rw [← ef]; rfl), (by first | (rw [hw1 (by assumption)]; rfl) | (rw [hw2 (by assumption)]; rfl)), (by first | (rw [hr1 (by assumption)]; rfl) | (rw [hr2 (by assumption)]; rfl)), rfl, rfl, rfl, rfl, rfl, rfl⟩)
  rintro h2 tk2 m2 nw F2 N2 ⟨rfl, ta, tb, tc, t0, t3, mf, ma, mr, mw, mp, mtt, md, mm, mo⟩
  clear F1 N1
  have hps : (p.toArray.size : Int) = (p.length : Int) := by simp
  refine letFr (fr_knowL [("face", .int (faceOf h.tgt) ta), ("address", .int (wayTo h.tgt) tb), ("room", .int (roomOf h.tgt mt) tc), ("row", .ref R), ("payload", .bytes p.toArray tp), ("ttl", .int h.ttl t0), ("dont", .bool h.dont), ("more", .bool h.more), ("offset", .int h.off t3)] F2 (And.intro mf (And.intro ma (And.intro mr (And.intro mw (And.intro mp (And.intro mtt (And.intro md (And.intro mm (And.intro mo trivial)))))))))) ?_
  clear F2
  intro mF F2
  repeat' ((fail_if_success (with_reducible show wpAny _ _ (exec (Stmt.If _ _ _ _) _) _ _ _)); walk_at "wc")
  have e8 : (roomOf h.tgt mt - 20).fdiv 8 = (roomOf h.tgt mt - 20) / 8 := Int.fdiv_eq_ediv_of_nonneg _ (by decide)
  rename Fr _ _ _ _ => F1
  rename News _ _ _ _ => N1
  by_cases hg : Great p.length h.dont (roomOf h.tgt mt)
  · obtain ⟨g1, g2⟩ := hg
    walk1
    walk_at "w"
    all_goals first
      | (rename News h₀ _ _ _ => kN
         refine hret _ _ _ _ (by k_asm) kN ⟨due_great hq ht hn ⟨g1, g2⟩ ⟨_, _, _, _, _, rfl, .head _⟩, fun p hp => ?_⟩
         repeat (first | exact hp | apply List.Mem.tail))
      | (exfalso
         have y1 : h.dont = false := by assumption
         have y2 : ¬ (roomOf h.tgt mt - 20).fdiv 8 * 8 < 8 := by assumption
         rw [e8] at y2
         exact g2.elim (fun e => by rw [y1] at e; cases e) y2)
  rename (∀ p ∈ nw, p.1 < _) => lf
  obtain ⟨cl', rfl, lf⟩ := bound_name lf
  refine join_stmt F1 (DJ2 h p tp mt R nw (stepOf h.tgt mt)) ?_ ?_
  · by_cases hbig : roomOf h.tgt mt < 20 + (p.length : Int)
    case neg =>
      walk1
      walk_at "w"
      refine ⟨rfl, _, _, _, _, rfl, by k_asm, by k_asm, _, _, 0, 0, _, _, _, _, .head _, ?_, ⟨fun j hj => absurd hj (Nat.not_lt_zero _), ?_⟩, fun p hp => .tail _ hp, rfl, rfl, rfl, rfl, rfl, rfl, rfl, rfl⟩
      · rw [hps]; exact .cons _ _ .nil
      · omega
    have hd : h.dont = false := by
      cases hd : h.dont with
      | false => rfl
      | true => exact absurd ⟨hbig, .inl hd⟩ hg
    have hs9 : ¬ (roomOf h.tgt mt - 20) / 8 * 8 < 8 := fun e => hg ⟨hbig, .inr e⟩
    have hs8 : ¬ (roomOf h.tgt mt - 20).fdiv 8 * 8 < 8 := by rw [e8]; exact hs9
    obtain ⟨st, hst⟩ : ∃ st, st = stepOf h.tgt mt := ⟨_, rfl⟩
    have hst' : (roomOf h.tgt mt - 20) / 8 * 8 = (st : Int) := by rw [hst]; exact (step_nat hs9).1
    rw [← hst]
    walk1
    walk_at "w"
    (rename Fr _ _ _ _ => F3)
    rename News _ _ _ _ => N3
    rw [e8, hst'] at N3
    have hm3 := news_head N3
    rename (_ < _ ∧ AllLt _ nw) => lx
    have lf3 := allLt_out lx.2
    obtain ⟨cu, rfl, lf3⟩ := bound_name lf3
    refine While_inv2 (n₀ := p.length - st) (DJ3 h p tp mt R nw cu st) F3 N3
      ⟨0, st, [], 0, _, _, _, _, _, _, _, by omega, rfl, rfl, (by rw [← hst', ← e8]; rfl), rfl, rfl, rfl, rfl, rfl, rfl, rfl, rfl, hm3, .nil, fun j hj => by rw [show j = 0 by omega]; omega, by omega, fun p hp => .tail _ (.tail _ hp)⟩ ?_
    rintro n m₁ nx hq tk F4 N4 ⟨i, q, vs, c, ts, ta, tb, t0, t3, tc, tl, hqi, hnq, mc, mst, mr, mf, ma, mw, mp, mtt, mm, mo, hcl, hvs, hji, hil, hsub⟩
    clear F3 N3
    refine letFr (fr_knowL [("cuts", .ref cu), ("step", .int (st : Int) ts), ("room", .int (roomOf h.tgt mt) tc), ("face", .int (faceOf h.tgt) ta), ("address", .int (wayTo h.tgt) tb), ("row", .ref R), ("payload", .bytes p.toArray tp), ("ttl", .int h.ttl t0), ("more", .bool h.more), ("offset", .int h.off t3)] F4 (And.intro mc (And.intro mst (And.intro mr (And.intro mf (And.intro ma (And.intro mw (And.intro mp (And.intro mtt (And.intro mm (And.intro mo trivial))))))))))) ?_
    clear F4
    intro mF F4
    have hvl : vs.length ≤ 1000 := by rw [hvs.length, List.length_map, List.length_range]; omega
    have hst8 : 8 ≤ st := by rw [hst]; exact (step_nat hs9).2
    have hq1 : i + 1 ≤ q := by rw [hqi]; exact Nat.le_mul_of_pos_right _ (Nat.lt_of_lt_of_le (by decide) hst8)
    walk_at "w"
    · rename (_ < _ + 20) => hgo
      rw [hps, Int.add_comm] at hgo
      have hqs := room_more hst' hst8 (Int.not_le.mpr hgo)
      have hst0 : 0 < st := Nat.lt_of_lt_of_le (by decide) hst8
      have hql : q < p.length := Nat.lt_of_lt_of_le (Nat.lt_add_of_pos_right hst0) hqs
      rename News _ _ _ (put _ _ _) => N5
      have hm5 := snoc_found N5
      refine ⟨_, _, _, _, n - st, rfl, by k_asm, N5, Nat.sub_lt (by rw [hnq]; exact Nat.sub_pos_of_lt hql) hst0, i + 1, q + st, _, c + 1, _, _, _, _, _, _, _, by rw [Nat.succ_mul (i + 1), hqi], by rw [hnq, Nat.sub_sub], rfl, rfl, rfl, rfl, rfl, rfl, rfl, rfl, rfl, rfl, hm5, ?_, ?_, Nat.le_of_lt (Nat.lt_of_le_of_lt hq1 hql), fun p hp => mem_put_ne (hsub p hp) (Nat.ne_of_lt (lf3 p hp))⟩
      · rw [range_snoc, ← hqi]; exact intsAre_snoc hvs
      · intro j hj
        by_cases hj2 : j < i + 1
        · exact hji j hj2
        · rw [Nat.le_antisymm (Nat.le_of_lt_succ hj) (Nat.le_of_not_lt hj2), ← hqi]; exact hgo
    · rename (¬ _ < _ + 20) => hgo
      rw [hps, Int.add_comm] at hgo
      rename News _ _ _ (put _ _ _) => N5
      have hm5 := snoc_found N5
      refine ⟨rfl, _, _, _, _, rfl, by k_asm, N5, cu, _, c + 1, i + 1, _, _, _, _, hm5, ?_, ⟨hji, by rw [← hqi]; exact Int.not_lt.mp hgo⟩, fun p hp => mem_put_ne (hsub p hp) (Nat.ne_of_lt (lf3 p hp)), rfl, rfl, rfl, rfl, rfl, rfl, rfl, rfl⟩
      unfold cutsL
      rw [range_snoc, ← hqi, hps]
      exact intsAre_snoc (intsAre_snoc hvs)
  rintro h6 tk6 m6 nx F6 N6 ⟨cu, vs, c, k, ta, tb, t0, t3, hcu, hvs, hck, hsub, mc, mf, ma, mw, mp, mtt, mm, mo⟩
  clear F1 N1
  refine letFr (fr_knowL [("cuts", .ref cu), ("face", .int (faceOf h.tgt) ta), ("address", .int (wayTo h.tgt) tb), ("row", .ref R), ("payload", .bytes p.toArray tp), ("ttl", .int h.ttl t0), ("more", .bool h.more), ("offset", .int h.off t3)] F6 (And.intro mc (And.intro mf (And.intro ma (And.intro mw (And.intro mp (And.intro mtt (And.intro mm (And.intro mo trivial))))))))) ?_
  clear F6
  intro mF F6
  walk_at "w"
  rename (∀ p ∈ nx, p.1 < _) => lf
  obtain ⟨fl, rfl, lf⟩ := bound_name lf
  (rename Fr _ _ _ _ => lF); with_unfolding_all refine' For_invVF lF ?k1 ?k2 ?_; (case k1 => exact rfl); (case k2 => exact rfl)
  walk_at "w"
  rename Fr _ _ _ _ => F1
  rename News _ _ _ _ => N1
  replace N1 := news_sub N1 fun p hp => List.Mem.tail _ hp
  obtain ⟨us, tn, rfl⟩ := intsAre_last hvs
  obtain ⟨st, hst⟩ : ∃ st, st = stepOf h.tgt mt := ⟨_, rfl⟩
  rw [← hst] at hvs hck
  have hfl1 := news_head N1
  have hflc : fl ≠ cu := fun e => Nat.lt_irrefl _ (e ▸ lf _ hcu)
  refine it_list (vs := us ++ [.int (p.length : Int) tn]) (DJ4 h p tp R nw cu fl st k) rfl (.tail _ hcu) F1 N1
    ⟨[], 0, 0, _, _, _, _, _, rfl, rfl, fun _ => (Nat.zero_mul _).symm, rfl, rfl, rfl, rfl, rfl, rfl, rfl, rfl, hfl1, ⟨rfl, fun i v x h => by cases h⟩, fun p hp => .tail _ (hsub p hp)⟩ ?_ ?_
  · rintro i v m₁ nx2 hh2 tk I io hv ⟨ws, c2, q, tq, ta, tb, t0, t3, mfo, mbe, hqi, mc, mf, ma, mw, mp, mtt, mm, mo, hfl, hro, hs2⟩ hl2 hI hio F2 N2
    clear F1 N1
    obtain ⟨e, te, rfl, he⟩ := intsAre_get hvs hv
    refine letFr (fr_knowL [("found", .ref fl), ("begin", .int (q : Int) tq), ("cuts", .ref cu), ("face", .int (faceOf h.tgt) ta), ("address", .int (wayTo h.tgt) tb), ("row", .ref R), ("payload", .bytes p.toArray tp), ("ttl", .int h.ttl t0), ("more", .bool h.more), ("offset", .int h.off t3)] F2 (And.intro mfo (And.intro mbe (And.intro mc (And.intro mf (And.intro ma (And.intro mw (And.intro mp (And.intro mtt (And.intro mm (And.intro mo trivial))))))))))) ?_
    clear F2
    intro mF F2
    have hR2 := hs2 _ hR
    have hmul := cuts_mul hck ((Classical.em (20 + (p.length : Int) ≤ roomOf h.tgt mt)).imp id fun e => by
      have e1 : ¬ (roomOf h.tgt mt - 20) / 8 * 8 < 8 := fun e2 => hg ⟨by omega, .inr e2⟩
      rw [hst]; exact step_nat e1)
    have hlx := parts_length (h.like h.src (h.ttl - 1)) p st k
    obtain ⟨j, b, d, rfl, hjb, hpx, hpd, hqj, hik, hj1⟩ := turn_piece (h := h.like h.src (h.ttl - 1)) he (hmul.imp id fun h => h.1)
    obtain rfl := hqi hik
    repeat' ((fail_if_success (with_reducible show wpAny _ _ (exec (Stmt.Assign _ _ _) _) _ _ _)); walk_at "wc")
    rename Fr _ _ _ _ => F1
    rename News _ _ _ _ => N1
    refine join_stmt F1 (fun m' nw2 => nw2 = (I, io) :: nx2 ∧ DJ5 h p tp R cu fl (i * st) j b m') ?_ ?_
    · walk_at "w"
      all_goals (
        rename Fr _ _ _ _ => F5
        rename News _ _ _ _ => N5
        exact ⟨rfl, _, _, _, _, rfl, F5, N5, rfl, _, _, _, _, _, _, rfl, rfl, rfl, (by first | (rw [← hjb, if_pos (by assumption)]; rfl) | (rw [← hjb, if_neg (by assumption)]; rfl)), rfl, rfl, rfl, rfl, rfl, rfl, rfl, rfl⟩)
    rintro h4 tk4 m4 nw4 F4 N4 ⟨rfl, tq', te', ta', tb', t0', t3', mfo', mbe', men', mis', mc', mf', ma', mw', mp', mtt', mm', mo'⟩
    clear F1 N1 hjb
    refine letFr (fr_knowL [("found", .ref fl), ("begin", .int ((i * st : Nat) : Int) tq'), ("end", .int (j : Int) te'), ("is_more", .bool b), ("cuts", .ref cu), ("face", .int (faceOf h.tgt) ta'), ("address", .int (wayTo h.tgt) tb'), ("row", .ref R), ("payload", .bytes p.toArray tp), ("ttl", .int h.ttl t0'), ("more", .bool h.more), ("offset", .int h.off t3')] F4 (And.intro mfo' (And.intro mbe' (And.intro men' (And.intro mis' (And.intro mc' (And.intro mf' (And.intro ma' (And.intro mw' (And.intro mp' (And.intro mtt' (And.intro mm' (And.intro mo' trivial))))))))))))) ?_
    clear F4
    intro mF F4
    repeat' ((fail_if_success (with_reducible show wpAny _ _ (subscriptTail _ (PySem.Expr.Slice _ _ none _) (Value.bytes _ _) (Value.ref _)) _ _ _)); walk_at "wc")
    rename Fr _ _ _ _ => F5
    rename News _ _ _ _ => N5
    refine slice_P (s := ⟨_, _, _, _, _⟩) (b := p) (d := d) F5 N5 (by constructor) (by constructor) (Nat.le_trans hp (by decide)) ((cut_mid (x := ((i * st : Nat) : Int)) (y := (j : Int)) (Int.natCast_nonneg _) (Int.natCast_nonneg _)).trans (by rw [Int.toNat_natCast, Int.toNat_natCast]; exact hpd)) ?_
    intro h7 t7 k7 F7 N7
    k_whole
    walk_at "w"
    rename News _ _ _ _ => N8
    have hT8 := news_head N8
    have hH8 := news_snd N8
    have hup := sub_of_news N8 (l' := nx2) fun p hp => by repeat (first | exact hp | apply List.Mem.tail)
    have hI8 := mem_of_news N8 (p := (I, io)) (by repeat (first | exact .head _ | apply List.Mem.tail))
    have U8 := one_of N8
    have hf8 := hup _ hfl
    have hwl : ws.length ≤ 1001 := by
      have := cuts_le hck ((Classical.em (20 + (p.length : Int) ≤ roomOf h.tgt mt)).imp id fun e => by
        have e1 : ¬ (roomOf h.tgt mt - 20) / 8 * 8 < 8 := fun e2 => hg ⟨by omega, .inr e2⟩
        rw [hst]; exact step_nat e1)
      rw [hro.1, List.length_take, hlx]; exact Nat.le_trans (Nat.min_le_right _ _) (Nat.succ_le_succ (Nat.le_trans this hp))
    walk_at "w"
    rename News _ _ _ (put _ _ _) => N9
    have U9 := one_of N9
    have hm9 := snoc_found N9
    have hIf : fl ≠ I := hI _ hfl
    have hI9 := news_put_mem N9 hI8 (fun e => hIf e.symm)
    refine turn_end' (by k_asm) N9 hI9 ⟨mem_wo.mpr ⟨mem_put_ne (hup _ hl2) (fun e => hflc e.symm), hI _ hl2⟩, _, c2 + 1, j, _, _, _, _, _, rfl, rfl, hj1, rfl, rfl, rfl, rfl, rfl, rfl, rfl, rfl, mem_wo.mpr ⟨hm9, hIf⟩, ?_, fun p hp => mem_wo.mpr ⟨mem_put_ne (hup _ (hs2 _ hp)) (Nat.ne_of_lt (lf _ (hsub _ hp))), hI _ (hs2 _ hp)⟩⟩
    rw [take_next hpx]
    exact RowsIn.wo (((hro.mono hup).put U8 hf8 rfl).snoc ⟨_, _, _, _, _, tokOf [_, _, _, _, _, _, 0, 0, _, _], rfl, put_keep U8 hf8 hT8 tup_list, put_keep U8 hf8 hH8 tup_list⟩) U9 hI9 hio (by decide)
  · rintro m₁ nx2 hh2 tk ⟨ws, c2, q, tq, ta, tb, t0, t3, mfo, mbe, hqi, mc, mf, ma, mw, mp, mtt, mm, mo, hfl, hro, hs2⟩ F2 N2
    clear F1 N1
    refine letFr (fr_knowL [("found", .ref fl)] F2 (And.intro mfo trivial)) ?_
    clear F2
    intro mF F2
    walk_at "w"
    rw [hvs.length, show (cutsL p.length st k).length = k + 1 by simp [cutsL], List.take_of_length_le (by rw [parts_length]; exact Nat.le_refl _)] at hro
    refine hret _ _ _ _ (by k_asm) (by k_asm) ⟨?_, hs2⟩
    rw [hst] at hro hck
    unfold DuePost wayOf
    rw [if_neg hq, if_neg fun e => ht (Int.lt_add_one_of_le e), if_pos hn, if_neg hg]
    exact ⟨fl, ws, c2, k, rfl, hfl, hro, hck⟩

-- O16
section
theorem eq_tb {prog : Program} {w : World} {A : Around} {E : Value → Shared → Prop} {s : Shared} {h₀ : Heap} {L : Addr} {news : Ledger} {Q : Value → Shared → Prop} {a b : Addr} {x : Array UInt8} {t u : Tok} {c : Bool} (N : News h₀ L s.heap news) (h1 : (a, tupO [.bytes x t, .bool c]) ∈ news) (h2 : (b, tupO [.bytes x u, .bool c]) ∈ news) (hu : A.units + 2 < cLine) (h : Q (.bool true) s) :
    wpAny (model prog w) A (compareOp .Eq (.ref a) (.ref b)) Q E s :=
  eq_dat (d := .tuple [.bytes x, .bool c]) 1 N (.tuple h1 (.cons (.bytes _ _) (.cons (.bool _) .nil))) (.tuple h2 (.cons (.bytes _ _) (.cons (.bool _) .nil))) rfl hu h
local macro_rules | `(tactic| walk_at "subscriptTail") => `(tactic| (k_here; (with_reducible show wpAny _ _ (subscriptTail _ (PySem.Expr.Slice none _ none _) (Value.ref _) (Value.ref _)) _ _ _); k_dflt (refine' slice_t7_04 ?F ?N ?l ?_ ?s ?t; (case F => k_asm); (case N => k_asm); (case l => k_mem); (case s => with_unfolding_all rfl); (case t => kmk_pure)); intro D' h' F' N' l1))
local macro_rules | `(tactic| walk_at "subscriptTail") => `(tactic| (k_here; (with_reducible show wpAny _ _ (subscriptTail _ (PySem.Expr.Slice (some _) _ none _) (Value.ref _) (Value.ref _)) _ _ _); k_dflt (refine' slice_t7_5e ?F ?N ?l ?_ ?s ?t; (case F => k_asm); (case N => k_asm); (case l => k_mem); (case s => with_unfolding_all rfl); (case t => kmk_pure)); intro D' h' F' N' l1))

theorem s_quiet (w mean mg mb) (L0 a : Addr) (p : List UInt8) (tp : Tok) (news : Ledger) (hL : (L0, listOf #[] 0) ∈ news) :
    Fn w mean mg mb 897 20 300 [.ref L0, .ref a, .bytes p.toArray tp] news (fun r n' => (∃ l, r = .ref l ∧ (l, listOf #[] 0) ∈ n') ∧ (∀ p ∈ news, p ∈ n')) := by
  have hne : ([] : List Value).isEmpty = true := rfl
  unfold Fn; k_fill; intro dp un gd cn cs a' ccd cl outer A₀ base h₀ L m s Q E B F X N T hk hdp hun hret
  refine wpAny_call ?_; k_enter
  repeat' ((fail_if_success (with_reducible show wpAny _ _ (compareOp CmpOp.Eq (Value.ref _) (Value.ref _)) _ _ _)); walk_at "wc")
  rename News _ _ _ ((_, _) :: _ :: _) => N9
  have hfl := news_head N9
  (rename Fr _ _ _ _ => lF); with_unfolding_all refine' For_turns lF ?_
  walk_at "w"
  rename Fr _ _ _ _ => F1
  refine it_listT (vs := []) (nn := 0) (fun i m nx => ∃ fl, m "found" = some (.ref fl) ∧ (fl, listOf #[] 0) ∈ nx ∧ (∀ p ∈ news, p ∈ nx)) rfl (.tail _ (.tail _ hL)) F1 N9 ⟨_, rfl, hfl, fun p hp => .tail _ (.tail _ hp)⟩ ?_ ?_
  · rintro i v m₁ nx hq tk I io hv
    cases hv
  rintro m₁ nx hq tk ⟨fl, hf, hfl2, hs⟩ F2 N2
  clear F1 N9
  refine letFr (fr_knowL [("found", .ref fl)] F2 (And.intro hf trivial)) ?_
  clear F2
  intro mF F2
  walk_at "w"
  exact hret _ _ _ _ (by k_asm) (by k_asm) ⟨⟨fl, rfl, hfl2⟩, hs⟩
theorem s_tell (w mean mg mb) (L0 T0 a : Addr) (n0 : Nat) (x y z : Int) (q0 q1 q2 q3 q4 : Tok) (h : Hd) (p : List UInt8) (tp : Tok) (news : Ledger) (hh : h.In w.params a news) (hL : (L0, listOf #[.ref T0] n0) ∈ news) (hT : (T0, tupO [.str "tell" q0, .int x q1, .int y q2, .int z q3, .ref a, .bytes p.toArray q4, .bool false]) ∈ news) :
    Fn w mean mg mb 897 20 300 [.ref L0, .ref a, .bytes p.toArray tp] news (fun r n' => Told n' r x y z ∧ (∀ p ∈ news, p ∈ n')) := by
  obtain ⟨d, k, t, h1, h2⟩ := hh
  have hl1 : (([Value.ref T0].length : Nat) : Int) = 1 := rfl
  have hne : [Value.ref T0].isEmpty = false := rfl
  unfold Fn; k_fill; intro dp un gd cn cs a' ccd cl outer A₀ base h₀ L m s Q E B F X N T hk hdp hun hret
  refine wpAny_call ?_; k_enter
  repeat' ((fail_if_success (with_reducible show wpAny _ _ (compareOp CmpOp.Eq (Value.ref _) (Value.ref _)) _ _ _)); walk_at "wc")
  rename News _ _ _ (_ :: _ :: _) => N9
  refine eq_tb N9 (.tail _ (.head _)) (.head _) (by units_room) ?_
  k_whole
  repeat' ((fail_if_success (with_reducible show wpAny _ _ (compareOp CmpOp.Eq (Value.ref _) (Value.ref _)) _ _ _)); walk_at "wc")
  all_goals first
    | exact absurd hl1 (by assumption)
    | (rename News h₀ _ _ _ => kN
       refine hret _ _ _ _ (by k_asm) kN ⟨⟨_, _, _, _, _, rfl, .head _⟩, fun p hp => ?_⟩
       repeat (first | exact hp | apply List.Mem.tail))
theorem c_hrow2 (w mean mg mb) (h : Hd) (a : Addr) (news : Ledger) (hh : h.In w.params a news) :
    Fn w mean mg mb 185 3 30 [.ref a] news (fun r n' => ∃ b t, r = .ref b ∧ n' = (b, tupO (h.vals t)) :: news) := by
  obtain ⟨d, k, t, h1, h2⟩ := hh
  unfold Fn; k_fill; intro dp un gd cn cs a' ccd cl outer A₀ base h₀ L m s Q E B F X N T hk hdp hun hret
  refine wpAny_call ?_; ktr_enter; repeat' ((fail_if_success (with_reducible show wpAny _ _ (exec (Stmt.For _ _ _ _ _) _) _ _ _)); (fail_if_success (with_reducible show wpAny _ _ (pyIter _) _ _ _)); (fail_if_success (with_reducible show wpAny _ _ (exec (Stmt.Raise _ _ _) _) _ _ _)); (fail_if_success (with_reducible show wpAny _ _ (exec (Stmt.While _ _ _ _) _) _ _ _)); first | (k_unfold; (try dsimp only)) | walk1 | (dsimp only; walk1) | (leave1; (try dsimp only)))
  exact hret _ _ _ _ (by k_asm) (by k_asm) ⟨_, t, rfl, rfl⟩
inductive SJ1 (fl : Addr) (news : Ledger) (face addr : Int) (xs : List (Hd × List UInt8)) (i : Nat) (m : Str → Option Value) (nx : Ledger) : Prop
  | mk (ws : List Value) (c : Nat) (hf : m "found" = some (.ref fl)) (hfl : (fl, listOf (List.toArray ws) c) ∈ nx) (hro : RowsIn nx ws face addr (xs.take i)) (hs : ∀ p ∈ news, p ∈ nx) : SJ1 fl news face addr xs i m nx
theorem s_out (w mean mg mb) (L0 a : Addr) (vs : List Value) (nl : Nat) (face addr : Int) (xs : List (Hd × List UInt8)) (p : List UInt8) (tp : Tok) (news : Ledger) (hL : (L0, listOf vs.toArray nl) ∈ news) (ho : OutsIn news vs face addr xs) (hx0 : 0 < xs.length) (hx1 : xs.length ≤ 1001) (hok : ∀ x ∈ xs, x.1.Ok) (hln : ∀ x ∈ xs, x.2.length ≤ 1000) :
    Fn w mean mg mb 897 20 300 [.ref L0, .ref a, .bytes p.toArray tp] news (fun r n' => (∃ l ws n, r = .ref l ∧ (l, listOf (List.toArray ws) n) ∈ n' ∧ RowsIn n' ws face addr xs) ∧ (∀ p ∈ news, p ∈ n')) := by
  have hlv := ho.1
  obtain ⟨v0, hv0⟩ : ∃ v0, vs[0]? = some v0 := ⟨vs[0]'(by omega), List.getElem?_eq_getElem _⟩
  obtain ⟨x0, hxx⟩ : ∃ x0, xs[0]? = some x0 := ⟨xs[0], List.getElem?_eq_getElem _⟩
  obtain ⟨T0, o0, q0, q1, q2, q3, rfl, hT0, _⟩ := ho.2 0 v0 x0 hv0 hxx
  have hv0' : vs[(0 : Int).toNat]? = some (Value.ref T0) := hv0
  have hne : vs.isEmpty = false := by
    cases vs with
    | nil => cases hv0
    | cons _ _ => rfl
  unfold Fn; k_fill; intro dp un gd cn cs a' ccd cl outer A₀ base h₀ L m s Q E B F X N T hk hdp hun hret
  refine wpAny_call ?_; k_enter
  repeat' ((fail_if_success (with_reducible show wpAny _ _ (compareOp CmpOp.Eq (Value.ref _) (Value.ref _)) _ _ _)); walk_at "wc")
  rename News _ _ _ ((_, _) :: _ :: _) => N9
  rename (_ < _ ∧ AllLt _ news) => lx
  have lf := allLt_out lx.2
  obtain ⟨fl, rfl, lf⟩ := bound_name lf
  have hfl := news_head N9
  have hflL : fl ≠ L0 := fun e => Nat.lt_irrefl _ (e ▸ lf _ hL)
  (rename Fr _ _ _ _ => lF); with_unfolding_all refine' For_turns lF ?_
  walk_at "w"
  rename Fr _ _ _ _ => F1
  refine it_listT (vs := vs) (nn := nl) (SJ1 fl news face addr xs) rfl (.tail _ (.tail _ hL)) F1 N9
    ⟨[], 0, rfl, hfl, ⟨rfl, fun i v x h => by cases h⟩, fun p hp => .tail _ (.tail _ hp)⟩ ?_ ?_
  · rintro i v m₁ nx hq tk I io hv ⟨ws, c, hf, hfl2, hro, hs⟩ hl2 hI hio F2 N2
    clear F1 N9
    obtain ⟨x, hx⟩ : ∃ x, xs[i]? = some x := by
      have : i < vs.length := by
        rcases Nat.lt_or_ge i vs.length with h | h
        · exact h
        · rw [List.getElem?_eq_none h] at hv; cases hv
      exact ⟨xs[i]'(by rw [← hlv]; exact this), List.getElem?_eq_getElem _⟩
    have hxm := List.mem_of_getElem? hx
    obtain ⟨T', o', t0, t1, t2, t3, rfl, hT', hpk⟩ := ho.2 i v x hv hx
    have hT'' := hs _ hT'
    refine letFr (fr_knowL [("found", .ref fl)] F2 (And.intro hf trivial)) ?_
    clear F2
    intro mF F2
    repeat' ((fail_if_success (with_reducible show wpAny _ _ (call (Value.ref 241) _) _ _ _)); walk_at "wc")
    refine fn_useE_3_3 (c_unpack _ _ _ _ x.1 x.2 o' _ _ (hok x hxm) (hln x hxm) hpk) (by k_asm) (by k_asm) (by k_asm) (by k_asm) (by k_asm) (by first | exact rfl | assumption) (by ktr_room) (by walk_at "un") ?_
    intro T3 H3 tb3 n3 h3 tk3 F3 N3 hT3 hH3 hs3
    have hfl4 := hs3 _ (.tail _ hfl2)
    have hH4 := hH3
    obtain ⟨dd, dk, dt, dh1, dh2⟩ := hH4
    repeat' ((fail_if_success (with_reducible show wpAny _ _ (call (Value.ref 185) _) _ _ _)); walk_at "wc")
    refine fn_use (c_hrow2 _ _ _ _ x.1 H3 _ hH3) (by k_asm) (by k_asm) (by k_asm) (by k_asm) (by k_asm) (by first | exact rfl | assumption) (by ktr_room) (by walk_at "un") ?_
    rintro _ _ h4 tk4 F4 N4 ⟨bR, tR, rfl, rfl⟩
    walk_at "w"
    rename News _ _ _ (_ :: _ :: n3) => N8
    have hT8 := news_head N8
    have hH8 := news_snd N8
    have U8 := one_of N8
    have hf8 := mem_of_news N8 (.tail _ (.tail _ hfl4))
    have hI8 := mem_of_news N8 (.tail _ (.tail _ (hs3 _ (.head _))))
    have hwl : ws.length ≤ 1001 := by rw [hro.1, List.length_take]; exact Nat.le_trans (Nat.min_le_right _ _) hx1
    walk_at "w"
    rename News _ _ _ (put _ _ _) => N9
    have U9 := one_of N9
    have hm9 := snoc_found N9
    have hIf : fl ≠ I := hI _ hfl2
    have hI9 := news_put_mem N9 hI8 (fun e => hIf e.symm)
    refine turn_end' (by k_asm) N9 hI9 ⟨mem_wo.mpr ⟨mem_put_ne (.tail _ (.tail _ (hs3 _ (.tail _ hl2)))) (fun e => hflL e.symm), hI _ hl2⟩, _, c + 1, rfl, mem_wo.mpr ⟨hm9, hIf⟩, ?_, fun p hp => mem_wo.mpr ⟨mem_put_ne (.tail _ (.tail _ (hs3 _ (.tail _ (hs _ hp))))) (Nat.ne_of_lt (lf _ hp)), hI _ (hs _ hp)⟩⟩
    rw [take_next hx]
    exact RowsIn.wo (((hro.mono fun p hp => .tail _ (.tail _ (hs3 _ (.tail _ hp)))).put U8 hf8 rfl).snoc ⟨_, _, _, _, _, tR, rfl, put_keep U8 hf8 hT8 tup_list, put_keep U8 hf8 hH8 tup_list⟩) U9 hI9 hio (by decide)
  · rintro m₁ nx hq tk ⟨ws, c, hf, hfl2, hro, hs⟩ F2 N2
    clear F1 N9
    refine letFr (fr_knowL [("found", .ref fl)] F2 (And.intro hf trivial)) ?_
    clear F2
    intro mF F2
    walk_at "w"
    rw [hlv, List.take_length] at hro
    exact hret _ _ _ _ (by k_asm) (by k_asm) ⟨⟨fl, ws, c, rfl, hfl2, hro⟩, hs⟩
end

-- O17
noncomputable def FwdPost (h : Hd) (a : Addr) (p : List UInt8) (mt : Int) (l : Ledger) (r : Value) : Prop := match wayOf h p.length mt with
  | .quiet => ∃ L, r = .ref L ∧ (L, listOf #[] 0) ∈ l
  | .tell x y z => Tell l r a p x y z
  | .out => ∃ L vs n k, r = .ref L ∧ (L, listOf (List.toArray vs) n) ∈ l ∧ OutsIn l vs (faceOf h.tgt) (wayTo h.tgt) (parts (h.like h.src (h.ttl - 1)) p (stepOf h.tgt mt) k) ∧ Cuts p.length (roomOf h.tgt mt) (stepOf h.tgt mt) k
section
variable {w : World} {mean : ExcName → Option Value} {mg mb : Str → Option Value} {f : Addr} {d d' u u' : Nat} {args : List Value} {news : Ledger} {post post' : Value → Ledger → Prop}
theorem fn_mono {hd' : d ≤ d'} {hu' : u ≤ u'} (C : Fn w mean mg mb f d u args news post) (hp : ∀ r n, post r n → post' r n) : Fn w mean mg mb f d' u' args news post' := by
  intro dp un gd cn cs a ccd cl outer A₀ base h₀ L m s Q E B F X N T hk hd hu hret
  exact C dp un gd cn cs a ccd cl outer A₀ base h₀ L m s Q E B F X N T hk (by omega) (by omega) fun r n h tk F' N' q => hret r n h tk F' N' (hp r n q)
end
theorem not_great {n : Nat} {d : Bool} {x mt : Int} (hg : ¬ Great n d (roomOf x mt)) : 20 + (n : Int) ≤ roomOf x mt ∨ (d = false ∧ (roomOf x mt - 20) / 8 * 8 = (stepOf x mt : Int) ∧ 8 ≤ stepOf x mt) := by
  by_cases h : 20 + (n : Int) ≤ roomOf x mt
  · exact .inl h
  · refine .inr ?_
    have e1 : ¬ (roomOf x mt - 20) / 8 * 8 < 8 := fun e2 => hg ⟨by omega, .inr e2⟩
    have e2 : d = false := by
      cases hd : d with
      | false => rfl
      | true => exact absurd ⟨by omega, .inl hd⟩ hg
    exact ⟨e2, step_nat e1⟩
theorem fwd_quiet {h : Hd} {a : Addr} {p : List UInt8} {mt : Int} {l : Ledger} {L : Addr} (hq : Quiet h.tgt) (hm : (L, listOf #[] 0) ∈ l) : FwdPost h a p mt l (.ref L) := by
  unfold FwdPost wayOf; rw [if_pos hq]; exact ⟨L, rfl, hm⟩
theorem fwd_over {h : Hd} {a : Addr} {p : List UInt8} {mt : Int} {l : Ledger} {r : Value} (hq : ¬ Quiet h.tgt) (ht : h.ttl ≤ 1) (hm : Tell l r a p 11 0 0) : FwdPost h a p mt l r := by
  unfold FwdPost wayOf; rw [if_neg hq, if_pos ht]; exact hm
theorem fwd_nonet {h : Hd} {a : Addr} {p : List UInt8} {mt : Int} {l : Ledger} {r : Value} (hq : ¬ Quiet h.tgt) (ht : ¬ h.ttl ≤ 1) (hn : ¬ Net3 h.tgt) (hm : Tell l r a p 3 0 0) : FwdPost h a p mt l r := by
  unfold FwdPost wayOf; rw [if_neg hq, if_neg ht, if_neg hn]; exact hm
theorem fwd_great {h : Hd} {a : Addr} {p : List UInt8} {mt : Int} {l : Ledger} {r : Value} (hq : ¬ Quiet h.tgt) (ht : ¬ h.ttl ≤ 1) (hn : Net3 h.tgt) (hg : Great p.length h.dont (roomOf h.tgt mt)) (hm : Tell l r a p 3 4 (roomOf h.tgt mt)) : FwdPost h a p mt l r := by
  unfold FwdPost wayOf; rw [if_neg hq, if_neg ht, if_pos hn, if_pos hg]; exact hm
theorem fwd_out {h : Hd} {a : Addr} {p : List UInt8} {mt : Int} {l : Ledger} {L : Addr} {vs : List Value} {n k : Nat} (hq : ¬ Quiet h.tgt) (ht : ¬ h.ttl ≤ 1) (hn : Net3 h.tgt) (hg : ¬ Great p.length h.dont (roomOf h.tgt mt)) (h1 : (L, listOf (List.toArray vs) n) ∈ l)
    (h2 : OutsIn l vs (faceOf h.tgt) (wayTo h.tgt) (parts (h.like h.src (h.ttl - 1)) p (stepOf h.tgt mt) k)) (h3 : Cuts p.length (roomOf h.tgt mt) (stepOf h.tgt mt) k) : FwdPost h a p mt l (.ref L) := by
  unfold FwdPost wayOf; rw [if_neg hq, if_neg ht, if_pos hn, if_neg hg]; exact ⟨L, vs, n, k, rfl, h1, h2, h3⟩
theorem like_ok {h : Hd} (ok : h.Ok) (ht : ¬ h.ttl ≤ 1) : (h.like h.src (h.ttl - 1)).Ok := ⟨ok.s0, ok.s1, ok.g0, ok.g1, ok.p0, ok.p1, ok.i0, ok.i1, by show 0 ≤ h.ttl - 1; omega, by have := ok.t1; show h.ttl - 1 < 256; omega, ok.o0, ok.o1, ok.f0, ok.f1, ok.f2⟩
theorem net3_not_all {x : Int} (hn : Net3 x) : x ≠ 4294967295 := by
  unfold Net3 at hn
  intro e
  rw [e] at hn
  revert hn
  decide
theorem quiet_tests {x : Int} (hq : Quiet x) (z1 : ¬ 14 ≤ x.fdiv (2 ^ Int.toNat 28)) (z2 : x.fdiv (2 ^ Int.toNat 24) ≠ 127) (z3 : ¬ x < 16777216) : False := by
  rw [show (2 : Int) ^ Int.toNat 28 = 268435456 from rfl, Int.fdiv_eq_ediv_of_nonneg _ (by decide)] at z1
  rw [show (2 : Int) ^ Int.toNat 24 = 16777216 from rfl, Int.fdiv_eq_ediv_of_nonneg _ (by decide)] at z2
  rcases hq with q | q | q
  · exact z1 q
  · exact z2 q
  · exact z3 q
theorem c_forward (w mean mg mb) (h : Hd) (a ly : Addr) (p : List UInt8) (tp : Tok) (mt : Int) (news : Ledger) (hh : h.In w.params a news) (Y : LyIn w.params ly mt news) (ok : h.Ok) (hp : p.length ≤ 1000) (hof : h.off + (p.length : Int) < 65536) :
    FnS w mean mg mb 612 60 900 [.ref ly, .ref a, .bytes p.toArray tp] news (fun r n' => FwdPost h a p mt n' r ∧ (∀ p ∈ news, p ∈ n')) := by
  have H := hh
  obtain ⟨d, k, t, h1, h2⟩ := hh
  obtain ⟨ld, fa, wy, re, wd, f0, f1, d0, d1, nf, k0, k1, k2, k3, k4, kt, q0, q1, b0, b1, b2, u0, u1, u2, e0, e1, e2, v0, v1, v2, Z, many, o1, o2, o3, y1, y2, y3, a4, a5, a6, a7, W, HZ, r1, r2, r3⟩ := Y
  have hw1 := W.inst
  obtain ⟨rt, tm, hrt, hw2⟩ := W.dict
  unfold FnS; k_fill; intro dp un gd cn cs a' ccd outer A₀ base h₀ L m s Q E B XB TB F X N T hk D hdp hun hret
  refine wpAny_call ?_
  (refine' code_defS ?k1 ?k2 ?k3 ?k4 ?k5 ?XB ?TB ?D ?T0 ?kA ?k6 ?k7 ?k8 ?k9 ?kB ?_ ?cK ?c2 ?c3 ?c4 ?c5; (case kA => exact rfl); (case k2 => k_asm); (case k1 => k_asm); (case XB => exact XB); (case TB => exact TB); (case D => exact D); (case T0 => exact KtsTurn.refl); (case k3 => k_asm); (case k4 => k_asm); (case k5 => k_asm); (case k6 => k_is); (case k7 => k_is); (case k8 => ktr_room); (case k9 => first | exact BindsTo.of_eq rfl | exact binds_K (by k_in) rfl (by k_is) rfl rfl rfl); (case kB => exact locs rfl); (case cK => first | exact rfl | assumption); (case c2 => exact rfl); (case c3 => exact rfl); (case c4 => exact rfl); (case c5 => decide); k_whole; intro g' L' h' FG' F' N' B' X' T' D'; (try dsimp only); (try k_fold))
  repeat' ((fail_if_success (with_reducible show wpAny _ _ (exec (Stmt.If _ _ _ _) _) _ _ _)); walk_at "wc")
  by_cases hq : Quiet h.tgt
  · walk1
    repeat' ((fail_if_success (with_reducible show wpAny _ _ (exec (Stmt.If _ _ _ _) _) _ _ _)); walk_at "wc")
    all_goals first
      | (rename News _ _ _ _ => kN; refine hret _ _ _ _ _ (by first | exact KtsTurn.refl | assumption) ?_ kN ?_ ?_ ?_ ?_ ⟨fwd_quiet hq (.head _), fun p hp => .tail _ hp⟩ <;> assumption)
      | (exfalso; exact quiet_tests hq (by assumption) (by assumption) (by assumption))
  obtain ⟨x1, x2, x3⟩ := quiet_not hq
  walk1
  repeat' ((fail_if_success (with_reducible show wpAny _ _ (exec (Stmt.If _ _ _ _) _) _ _ _)); walk_at "wc")
  all_goals try (exact absurd (by assumption) x1)
  all_goals try (exact absurd (by assumption) x2)
  all_goals try (exact absurd (by assumption) x3)
  by_cases ht : h.ttl ≤ 1
  · walk1
    walk_at "w"
    (rename News _ _ _ _ => kN; refine hret _ _ _ _ _ (by first | exact KtsTurn.refl | assumption) ?_ kN ?_ ?_ ?_ ?_ ⟨fwd_over hq ht ⟨_, _, _, _, _, _, _, _, rfl, .head _, .tail _ (.head _)⟩, fun p hp => .tail _ (.tail _ hp)⟩ <;> assumption)
  walk1
  repeat' ((fail_if_success (with_reducible show wpAny _ _ (call (Value.ref 499) _) _ _ _)); walk_at "wc")
  refine fn_useW (c_find _ _ _ _ wy wd q0 q1 Z many h.tgt _ _ W (fun q => Nat.lt_of_le_of_lt (holds8_len HZ q) (show 3 < 1000 by decide))) (by k_asm) (by k_asm) (by k_asm) (by k_asm) (by k_asm) (by first | exact rfl | assumption) (by ktr_room) (by walk_at "un") ?_
  intro h5 tk5 F5 N5
  by_cases hn : Net3 h.tgt
  case neg =>
    rw [ly_none HZ r1 r2 r3 ok.g0 ok.g1 hn]
    dsimp only [refO]
    walk_at "w"
    (rename News _ _ _ _ => kN; refine hret _ _ _ _ _ (by first | exact KtsTurn.refl | assumption) ?_ kN ?_ ?_ ?_ ?_ ⟨fwd_nonet hq ht hn ⟨_, _, _, _, _, _, _, _, rfl, .head _, .tail _ (.head _)⟩, fun p hp => .tail _ (.tail _ hp)⟩ <;> assumption)
  obtain ⟨o, f, df, i0, i1, i2, j0, j1, j2, ad, pr, hlk, yf, yg, yv, y4, y5⟩ := ly_pick (mt := mt) HZ r1 r2 r3 a4 a5 a6 a7 ok.g0 ok.g1 hn
  rw [hlk]
  dsimp only [refO]
  obtain ⟨q, hqo⟩ := look_mem hlk
  obtain ⟨ho1, ho2⟩ := rs_in W.tree hqo
  have yf0 : 0 ≤ o.r.face ∧ o.r.face < 100 := by rw [yf]; split <;> decide
  obtain ⟨yf1, yf2⟩ := id yf0
  repeat' ((fail_if_success (with_reducible show wpAny _ _ (call (Value.ref 541) _) _ _ _)); walk_at "wc")
  refine fn_useE_1_3 (c_like _ _ _ _ h a _ _ _ _ _ H) (by k_asm) (by k_asm) (by k_asm) (by k_asm) (by k_asm) (by first | exact rfl | assumption) (by ktr_room) (by walk_at "un") ?_
  intro b n2 h6 tk6 F6 N6 hb hs2 hob
  have y1' := hs2 _ y1
  have y2' := hs2 _ y2
  repeat' ((fail_if_success (with_reducible show wpAny _ _ (call (Value.ref 619) _) _ _ _)); walk_at "wc")
  by_cases hg : Great p.length h.dont (roomOf h.tgt mt)
  · refine fnR_use (r_packets _ _ _ _ (h.like h.src (h.ttl - 1)) b ly ld fa f df wy re k0 k1 k2 k3 k4 kt i0 i1 i2 j0 j1 j2 _ nf ad pr o p _ (roomOf h.tgt mt) _ hb ⟨hs2 _ ho1, hs2 _ ho2⟩ y1' y2' (hs2 _ y3) yf1 yf2 yv (hs2 _ y4) (hs2 _ y5) hp hg.1 hg.2) (by k_asm) (by assumption) (by assumption) (by k_asm) (by k_asm) (by k_asm) (by k_asm) (by first | exact rfl | assumption) (by ktr_room) (by ktr_units) ?_
    intro g₂ e et vs h10 tk10 F10 R10 U10
    have ho1' := hs2 _ ho1
    have ho2' := hs2 _ ho2
    have y3' := hs2 _ y3
    have y4' := hs2 _ y4
    have y5' := hs2 _ y5
    have h1' := hs2 _ h1
    have h2' := hs2 _ h2
    walk_at "w"
    rename KtsTurn _ h₀ _ => kT
    rename News _ _ _ _ => kN
    refine hret _ _ _ _ _ kT ?_ kN ?_ ?_ ?_ ?_ ⟨fwd_great hq ht hn hg ⟨_, _, _, _, _, _, _, _, rfl, .head _, .tail _ (.head _)⟩, fun p hp => .tail _ (.tail _ (hs2 _ hp))⟩ <;> assumption
  have hc := (not_great hg)
  have had : wayTo h.tgt = if o.r.gw = 0 then (h.like h.src (h.ttl - 1)).tgt else o.r.gw := by
    rw [yg]
    unfold wayTo
    by_cases e : h.tgt / 16777216 = 12
    · rw [if_pos e, if_pos e]; rfl
    · rw [if_neg e, if_neg e]; rfl
  refine fn_useE_4_4 (c_packets _ _ _ _ (h.like h.src (h.ttl - 1)) b ly ld fa f df wy re k0 k1 k2 k3 k4 kt i0 i1 i2 j0 j1 j2 _ nf ad pr o p _ (roomOf h.tgt mt) _ (stepOf h.tgt mt) _ hb ⟨hs2 _ ho1, hs2 _ ho2⟩ y1' y2' (hs2 _ y3) yf1 yf2 yv (hs2 _ y4) (hs2 _ y5) had (net3_not_all hn) (parts_ok (like_ok ok ht) hof (hc.imp id fun h => h.2)) hp hc) (by k_asm) (by k_asm) (by k_asm) (by k_asm) (by k_asm) (by first | exact rfl | assumption) (by ktr_room) (by walk_at "un") ?_
  intro l vs n k' n3 h7 tk7 F7 N7 z1 z2 z3 z4
  walk_at "w"
  rw [yf] at z2
  (rename News _ _ _ _ => kN; refine hret _ _ _ _ _ (by first | exact KtsTurn.refl | assumption) ?_ kN ?_ ?_ ?_ ?_ ⟨fwd_out hq ht hn hg z1 z2 z3, fun p hp => z4 _ (hs2 _ hp)⟩ <;> assumption)
theorem c_seen (w mean mg mb) (h : Hd) (a : Addr) (r : Value) (p : List UInt8) (tp : Tok) (mt : Int) (news : Ledger) (hh : h.In w.params a news) (hr : FwdPost h a p mt news r) (ok : h.Ok) (hp : p.length ≤ 1000) (hof : h.off + (p.length : Int) < 65536) :
    Fn w mean mg mb 897 20 300 [r, .ref a, .bytes p.toArray tp] news (fun r n' => DuePost h p mt n' r ∧ (∀ p ∈ news, p ∈ n')) := by
  unfold FwdPost at hr
  unfold DuePost
  cases hw : wayOf h p.length mt with
  | quiet =>
    rw [hw] at hr
    obtain ⟨L, rfl, hL⟩ := hr
    exact s_quiet w mean mg mb L a p tp news hL
  | tell x y z =>
    rw [hw] at hr
    obtain ⟨L, n, T, t0, t1, t2, t3, t4, rfl, hL, hT⟩ := hr
    exact s_tell w mean mg mb L T a n x y z t0 t1 t2 t3 t4 h p tp news hh hL hT
  | out =>
    rw [hw] at hr
    obtain ⟨L, vs, n, k, rfl, hL, ho, hc⟩ := hr
    have hg : ¬ Great p.length h.dont (roomOf h.tgt mt) ∧ ¬ h.ttl ≤ 1 := by
      unfold wayOf at hw
      split at hw
      · cases hw
      · split at hw
        · cases hw
        · split at hw
          · split at hw
            · cases hw
            · rename_i h1 h2 h3 h4; exact ⟨h4, h2⟩
          · cases hw
    have hng := (not_great hg.1).imp id fun h => h.2
    have lok := like_ok ok hg.2
    refine fn_mono (hd' := Nat.le_refl _) (hu' := Nat.le_refl _) (s_out w mean mg mb L a vs n _ _ _ p tp news hL ho (by rw [parts_length]; exact Nat.succ_pos _) (by rw [parts_length]; have := cuts_le hc hng; omega) (parts_ok (m := roomOf h.tgt mt) lok hof hng k hc) (fun x hx => Nat.le_trans (parts_len x hx) hp)) fun r n' q => ?_
    obtain ⟨⟨l, ws, c, e, q1, q2⟩, q3⟩ := q
    exact ⟨⟨l, ws, c, k, e, q1, q2, hc⟩, q3⟩

-- O18
noncomputable def Hd.dat (h : Hd) : Dat := .tuple [.int h.src, .int h.tgt, .int h.proto, .int h.ident, .int h.ttl, .int h.tos, .bool h.dont, .bool h.more, .int h.off, .bytes #[]]
theorem row_dat {l : Ledger} {H : Addr} {h : Hd} {t : Nat → Tok} (hm : (H, tupO (h.vals t)) ∈ l) : DatIn l (.ref H) h.dat :=
  .tuple hm (.cons (.int _ _) (.cons (.int _ _) (.cons (.int _ _) (.cons (.int _ _) (.cons (.int _ _) (.cons (.int _ _) (.cons (.bool _) (.cons (.bool _) (.cons (.int _ _) (.cons (.bytes _ _) .nil))))))))))
theorem rows_dat {l : Ledger} {face addr : Int} : ∀ {vs : List Value} {xs : List (Hd × List UInt8)}, RowsIn l vs face addr xs → DatAll l vs (xs.map fun x => .tuple [.int face, .int addr, x.1.dat, .bytes x.2.toArray])
  | [], [], _ => .nil
  | [], _ :: _, h => by cases h.1
  | _ :: _, [], h => by cases h.1
  | v :: vs, x :: xs, h => by
    obtain ⟨T, H, t0, t1, t3, tk, e, h1, h2⟩ := h.2 0 v x rfl rfl
    refine .cons ?_ (rows_dat ⟨Nat.succ.inj h.1, fun i v x h1 h2 => h.2 (i + 1) v x h1 h2⟩)
    subst e
    exact .tuple h1 (.cons (.int _ _) (.cons (.int _ _) (.cons (row_dat h2) (.cons (.bytes _ _) .nil))))
theorem DuePost.mono {h : Hd} {p : List UInt8} {mt : Int} {l l' : Ledger} {r : Value} (x : DuePost h p mt l r) (hs : ∀ p ∈ l, p ∈ l') : DuePost h p mt l' r := by
  unfold DuePost at x ⊢
  cases hw : wayOf h p.length mt with
  | quiet =>
    rw [hw] at x
    obtain ⟨a, e, ha⟩ := x
    exact ⟨a, e, hs _ ha⟩
  | tell y z q =>
    rw [hw] at x
    obtain ⟨a, _, _, _, _, e, ha⟩ := x
    exact ⟨a, _, _, _, _, e, hs _ ha⟩
  | out =>
    rw [hw] at x
    obtain ⟨a, vs, n, k, e, ha, hr, hc⟩ := x
    exact ⟨a, vs, n, k, e, hs _ ha, hr.mono hs, hc⟩
theorem due_dat {h : Hd} {p : List UInt8} {mt : Int} {l : Ledger} {r1 r2 : Value} (h1 : DuePost h p mt l r1) (h2 : DuePost h p mt l r2) : ∃ d a b, r1 = .ref a ∧ r2 = .ref b ∧ DatIn l (.ref a) d ∧ DatIn l (.ref b) d ∧ deepOk 4 d = true := by
  unfold DuePost at h1 h2
  cases hw : wayOf h p.length mt with
  | quiet =>
    rw [hw] at h1 h2
    obtain ⟨a, rfl, ha⟩ := h1
    obtain ⟨b, rfl, hb⟩ := h2
    exact ⟨.list [], a, b, rfl, rfl, .list ha .nil, .list hb .nil, rfl⟩
  | tell x y z =>
    rw [hw] at h1 h2
    obtain ⟨a, _, _, _, _, rfl, ha⟩ := h1
    obtain ⟨b, _, _, _, _, rfl, hb⟩ := h2
    exact ⟨.tuple [.str "tell", .int x, .int y, .int z], a, b, rfl, rfl, .tuple ha (.cons (.str _ _) (.cons (.int _ _) (.cons (.int _ _) (.cons (.int _ _) .nil)))), .tuple hb (.cons (.str _ _) (.cons (.int _ _) (.cons (.int _ _) (.cons (.int _ _) .nil)))), rfl⟩
  | out =>
    rw [hw] at h1 h2
    obtain ⟨a, vs, n, k, rfl, ha, hr, hc⟩ := h1
    obtain ⟨b, ws, n', k', rfl, hb, hr', hc'⟩ := h2
    obtain rfl := cuts_one hc hc'
    refine ⟨_, a, b, rfl, rfl, .list ha (rows_dat hr), .list hb (rows_dat hr'), ?_⟩
    show (List.map _ _).all (deepOk 3) = true
    rw [List.all_map, List.all_eq_true]
    intro x _
    rfl
section
variable {w : World} {mean : ExcName → Option Value} {mg mb : Str → Option Value} {f : Addr} {d u : Nat} {args : List Value} {news : Ledger} {post : Value → Ledger → Prop}
theorem fnS_use {dp un : Nat} {gd : Option (List Code)} {cn : Str} {cs : Scope} {a : Addr} {ccd : Value} {outer : List Env} {A₀ : Around} {base h₀ : Heap} {L : Addr} {m : Str → Option Value} {s : Shared}
    {Q E : Value → Shared → Prop} (C : FnS w mean mg mb f d u args news post)
    (B : Below A₀ base outer h₀) (XB : (hd.heap_39 w.params).In base) (TB : Top VW LS mean mg mb base) (F : Fr h₀ L s.heap m) (X : (hd.heap_39 w.params).In h₀) (N : News h₀ L s.heap news) (T : Top VW LS mean mg mb h₀) (hk : cs.kind = .function) (D : KtsDicts (outer.filterMap (·.frame)) h₀) (hdd : dp + d < recursionLimit) (huu : un + u < cLine)
    (ret : ∀ r news' h' tk' h₀', KtsTurn (outer.filterMap (·.frame)) h₀ h₀' → Fr h₀' L h' m → News h₀' L h' news' → Below A₀ base outer h₀' → (hd.heap_39 w.params).In h₀' → Top VW LS mean mg mb h₀' → KtsDicts (outer.filterMap (·.frame)) h₀' → post r news' → Q r { s with heap := h', toks := tk' }) :
    wpAny (model PySem.Challenge.rw_xw0341_02.row.prog w) (ktrTop dp un gd cn cs L a ccd [] outer) (call (.ref f) args) Q E s := C _ _ _ _ _ _ _ _ _ _ _ _ _ _ _ _ B XB TB F X N T hk D hdd huu ret
end
theorem c_right (w mean mg mb) (h : Hd) (t : Nat → Tok) (R : Addr) (p : List UInt8) (tp tm : Tok) (mt : Int) (news : Ledger) (hR : (R, tupO (h.vals t)) ∈ news) (ok : h.Ok) (hp : p.length ≤ 1000) (hof : h.off + (p.length : Int) < 65536) :
    Fn0 w mean mg mb 904 100 1600 [.ref R, .bytes p.toArray tp, .int mt tm] news (fun r n' => r = .bool true ∧ (∀ p ∈ news, p ∈ n')) := by
  unfold Fn0; k_fill; intro dp un gd cn cs a ccd cl A₀ base h₀ L m s Q E B XB TB F X N T hk hdp hun hret
  refine wpAny_call ?_; (refine' x_def0 ?k1 ?k2 ?k3 ?k4 ?k5 ?kA ?kF ?kK ?k6 ?k7 ?k8 ?k9 ?kB ?_ ?c2 ?c3 ?c4 ?c5; (case kA => exact rfl); (case kF => exact rfl); (case kK => assumption); (case k1 => k_asm); (case k2 => k_asm); (case k3 => exact X); (case k4 => k_asm); (case k5 => exact T); (case k6 => k_is); (case k7 => k_is); (case k8 => ktr_room); (case k9 => exact BindsTo.of_eq rfl); (case c5 => decide); (case kB => exact locs rfl); (case c2 => exact rfl); (case c3 => exact rfl); (case c4 => exact rfl); k_whole; intro g' L' h' FG' F' N' B' X' T' D'; (try dsimp only); (try k_fold))
  repeat' ((fail_if_success (with_reducible show wpAny _ _ (call (Value.ref 188) _) _ _ _)); walk_at "wc")
  refine fn_useE_1_3 (c_header _ _ _ _ h _ _ _ _ _ _ _ _ _) (by k_asm) (by k_asm) (by k_asm) (by k_asm) (by k_asm) (by first | exact rfl | assumption) (by ktr_room) (by walk_at "un") ?_
  intro H n1 h1 tk1 F1 N1 hH hs1 _
  repeat' ((fail_if_success (with_reducible show wpAny _ _ (call (Value.ref 883) _) _ _ _)); walk_at "wc")
  refine fn_useE_1_2 (c_lay _ _ _ _ mt _ _) (by k_asm) (by k_asm) (by k_asm) (by k_asm) (by k_asm) (by first | exact rfl | assumption) (by ktr_room) (by walk_at "un") ?_
  intro ly n2 h2 tk2 F2 N2 hL hs2
  obtain ⟨ld, fa, wy, re, k0, k1, k2, k3, k4, kt, y1, y2⟩ := hL.own
  repeat' ((fail_if_success (with_reducible show wpAny _ _ (call (Value.ref 612) _) _ _ _)); walk_at "wc")
  refine fnS_use (c_forward _ _ _ _ h H ly p _ mt _ (hH.mono hs2) hL ok hp hof) (by k_asm) (by assumption) (by assumption) (by k_asm) (by k_asm) (by k_asm) (by k_asm) (by first | exact rfl | assumption) (by assumption) (by ktr_room) (by ktr_units) ?_
  rintro r n3 h3 tk3 hg kT kF kN kB kX₀ kP kD ⟨hr, hs3⟩
  have hH3 := (hH.mono hs2).mono hs3
  clear y1 y2
  repeat' ((fail_if_success (with_reducible show wpAny _ _ (call (Value.ref 897) _) _ _ _)); walk_at "wc")
  refine fn_use (c_seen _ _ _ _ h H r p _ mt _ hH3 hr ok hp hof) (by k_asm) (by k_asm) (by k_asm) (by k_asm) (by k_asm) (by first | exact rfl | assumption) (by ktr_room) (by walk_at "un") ?_
  rintro r1 n4 h4 tk4 F4 N4 ⟨hr1, hs4⟩
  repeat' ((fail_if_success (with_reducible show wpAny _ _ (call (Value.ref 890) _) _ _ _)); walk_at "wc")
  refine fn_use (c_due _ _ _ _ h t R p _ _ mt _ (hs4 _ (hs3 _ (hs2 _ (hs1 _ hR)))) ok.g0 hp) (by k_asm) (by k_asm) (by k_asm) (by k_asm) (by k_asm) (by first | exact rfl | assumption) (by ktr_room) (by walk_at "un") ?_
  rintro r2 n5 h5 tk5 F5 N5 ⟨hr2, hs5⟩
  obtain ⟨d, x1, x2, rfl, rfl, dx1, dx2, dk⟩ := due_dat (hr1.mono hs5) hr2
  have hH5 := (hH3.mono hs4).mono hs5
  have hH6 := hH5
  have hR5 := hs5 _ (hs4 _ (hs3 _ (hs2 _ (hs1 _ hR))))
  obtain ⟨dd, dc, dt, dh1, dh2⟩ := hH6
  refine eq_dat 3 N5 dx1 dx2 dk (by units_room) ?_
  k_whole
  repeat' ((fail_if_success (with_reducible show wpAny _ _ (call (Value.ref 185) _) _ _ _)); walk_at "wc")
  refine fn_use (c_hrow2 _ _ _ _ h H _ hH5) (by k_asm) (by k_asm) (by k_asm) (by k_asm) (by k_asm) (by first | exact rfl | assumption) (by ktr_room) (by walk_at "un") ?_
  rintro _ _ h6 tk6 F6 N6 ⟨bR, tR, rfl, rfl⟩
  repeat' ((fail_if_success (with_reducible show wpAny _ _ (compareOp CmpOp.Eq (Value.ref _) (Value.ref _)) _ _ _)); walk_at "wc")
  refine eq_dat 1 N6 (row_dat (.head _)) (row_dat (.tail _ hR5)) rfl (by units_room) ?_
  k_whole
  walk_at "w"
  rename News h₀ _ _ _ => kN9
  exact hret _ _ _ _ (by k_asm) kN9 ⟨rfl, fun p hp => .tail _ (hs5 _ (hs4 _ (hs3 _ (hs2 _ (hs1 _ hp)))))⟩

-- G3
local macro_rules | `(tactic| k_qdec) => `(tactic| decide +kernel)
theorem fnl_use {w : World} {mean : ExcName → Option Value} {mg mb : Str → Option Value} {f l : Addr} {d u : Nat} {args vs : List Value} {news : Ledger} {post : Value → Ledger → Prop} {dp un : Nat} {gd : Option (List Code)} {cn : Str} {cs : Scope} {a : Addr} {ccd : Value} {cl : List (Str × Addr)} {outer : List Env} {A₀ : Around} {base h₀ : Heap} {L : Addr} {m : Str → Option Value} {s : Shared}
    {Q E : Value → Shared → Prop} (C : FnL w mean mg mb f d u args l vs news post)
    (B : Below A₀ base outer h₀) (hl : h₀.IsList l vs.toArray) (F : Fr h₀ L s.heap m) (X : (hd.heap_39 w.params).In h₀) (N : News h₀ L s.heap news) (T : Top VW LS mean mg mb h₀) (hk : cs.kind = .function) (hd : dp + d < recursionLimit) (hu : un + u < cLine)
    (ret : ∀ r news' h' tk', Fr h₀ L h' m → News h₀ L h' news' → post r news' → Q r { s with heap := h', toks := tk' }) :
    wpAny (model PySem.Challenge.rw_xw0341_02.row.prog w) (ktrTop dp un gd cn cs L a ccd cl outer) (call (.ref f) args) Q E s := C _ _ _ _ _ _ _ _ _ _ _ _ _ _ _ _ _ B hl F X N T hk hd hu ret
theorem ints_pick {vs : List Value} {ns : List Int} {i : Nat} {r : Value} (h : IntsAre vs ns) (hr : vs[i]? = some r) : ∃ p t, r = .int p t ∧ p ∈ ns := by
  have hi : i < ns.length := by
    rw [← h.length]
    rcases Nat.lt_or_ge i vs.length with h' | h'
    · exact h'
    · rw [List.getElem?_eq_none h'] at hr; cases hr
  obtain ⟨t, ht⟩ := h.get i ns[i] (by simp [hi])
  rw [ht] at hr
  exact ⟨_, t, (Option.some.inj hr).symm, List.getElem_mem hi⟩
/-- what the draws are taken from -/
noncomputable def Src (D : Addr) (l : Ledger) : Prop := ∃ y1 y2 u1 u2, (D, srcObj y1 y2 u1 u2 0) ∈ l ∧ 0 ≤ y1 ∧ 0 ≤ y2 ∧ y2 < 2147483647
theorem Src.mono {D : Addr} {l l' : Ledger} (h : Src D l) (hs : ∀ p ∈ l, p.1 = D → p ∈ l') : Src D l' := by
  obtain ⟨y1, y2, u1, u2, h, r⟩ := h
  exact ⟨y1, y2, u1, u2, hs _ h rfl, r⟩
theorem Src.ne {D G : Addr} {l : Ledger} (h : Src D l) (hs : ∀ p ∈ l, p.1 < G) : G ≠ D := by
  obtain ⟨y1, y2, u1, u2, h, r⟩ := h
  exact Nat.ne_of_gt (hs _ h)
theorem Src.off {D G : Addr} {l : Ledger} (h : Src D l) (hs : ∀ p ∈ l, p.1 ≠ G) : G ≠ D := by
  obtain ⟨y1, y2, u1, u2, h, r⟩ := h
  exact fun e => hs _ h e.symm
theorem c_take2 (w mean mg mb) (D : Addr) (t : Tok) (top : Int) (news : Ledger) (hD : Src D news) (ht : 0 < top) (ht' : top ≤ 65536) :
    Fn w mean mg mb 869 3 30 [.ref D, .int top t] news (fun r n' => ∃ v tv, r = .int v tv ∧ 0 ≤ v ∧ v < top ∧ Src D n' ∧ ∀ p ∈ news, p.1 ≠ D → p ∈ n') := by
  obtain ⟨y1, y2, u1, u2, h, h1, h2, h3⟩ := hD
  refine fn_mono (hd' := Nat.le_refl _) (hu' := Nat.le_refl _) (c_take w mean mg mb D y1 y2 u1 u2 t 0 top news h h1 h2 h3 ht ht') fun r n q => ?_
  obtain ⟨v, z1, z2, tv, w1, w2, e, g1, g2, g3, g4, g5, rfl⟩ := q
  exact ⟨v, tv, e, g1, g2, ⟨z1, z2, w1, w2, mem_put, g3, g4, g5⟩, fun p hp hne => mem_put_ne hp hne⟩
theorem c_one2 (w mean mg mb) (D G : Addr) (k : Nat) (vs : List Value) (ns : List Int) (hI : IntsAre vs ns) (news : Ledger) (hD : Src D news) (hG : (G, listOf vs.toArray k) ∈ news) (hne : G ≠ D) (hv : 0 < ns.length) (hv' : ns.length ≤ 1000) :
    Fn w mean mg mb 876 5 50 [.ref D, .ref G] news (fun r n' => ∃ v tv, r = .int v tv ∧ v ∈ ns ∧ Src D n' ∧ ∀ p ∈ news, p.1 ≠ D → p ∈ n') := by
  obtain ⟨y1, y2, u1, u2, h, h1, h2, h3⟩ := hD
  have e := hI.length
  refine fn_mono (hd' := Nat.le_refl _) (hu' := Nat.le_refl _) (c_one w mean mg mb D G y1 y2 u1 u2 0 k vs news h hG hne h1 h2 h3 (by omega) (by omega)) fun r n q => ?_
  obtain ⟨i, z1, z2, w1, w2, e, g3, g4, g5, rfl⟩ := q
  obtain ⟨p, tp, rfl, hp⟩ := ints_pick hI e
  exact ⟨p, tp, rfl, hp, ⟨z1, z2, w1, w2, mem_put, g3, g4, g5⟩, fun p hp hne => mem_put_ne hp hne⟩
theorem join_rng {M : Model} {A : Around} {E : Value → Shared → Prop} {s : Shared} {e : Expr} {env : Env} {g : Heap} {L : Addr} {m : Str → Option Value} {news : Ledger} {Q : Value → Shared → Prop} (_ : Fr g L s.heap m) (_ : News g L s.heap news)
    (h1 : wpAny M A (eval e env) (fun v s' => ∃ I n t₀ u₀ v₀ h' tk' nw, v = .ref I ∧ n ≤ 4 ∧ s' = { s with heap := h', toks := tk' } ∧ IsRange h' I 0 ((n : Nat) : Int) 1 t₀ u₀ v₀ ∧ Fr g L h' m ∧ News g L h' nw ∧ ∀ p ∈ news, p ∈ nw) E s)
    (h2 : ∀ I n t₀ u₀ v₀ h' tk' nw, n ≤ 4 → IsRange h' I 0 ((n : Nat) : Int) 1 t₀ u₀ v₀ → Fr g L h' m → News g L h' nw → (∀ p ∈ news, p ∈ nw) → Q (.ref I) { s with heap := h', toks := tk' }) : wpAny M A (eval e env) Q E s :=
  wpAny_mono h1 (fun v s' h => by
    obtain ⟨I, n, t, u, v, h', tk', nw, rfl, hn, rfl, q1, q2, q3, q4⟩ := h
    exact h2 I n t u v h' tk' nw hn q1 q2 q3 q4) fun _ _ e => e
theorem intsAre_rep {x : Int} {t : Tok} : ∀ n : Nat, IntsAre (List.replicate n (.int x t)) (List.replicate n x)
  | 0 => .nil
  | n + 1 => .cons _ _ (intsAre_rep n)
theorem in_range {l : List Int} {x : Int} (a b : Int) (h : x ∈ l) (d : l.all (fun y => decide (a ≤ y ∧ y < b)) = true) : a ≤ x ∧ x < b := of_decide_eq_true (List.all_eq_true.mp d x h)
theorem g3 : PySem.Challenge.rw_xw0341_02.Holds := hd (by rfl) (by rfl) (by rfl) (by
  k_go0
  all_goals (try k_fold)
  repeat' ((fail_if_success (with_reducible show wpAny _ _ (call (Value.ref 904) _) _ _ _)); walk_at "wc")
  refine fn0_use (c_right _ _ _ _ ⟨167772167, 184549390, 17, 5, 2, 0, false, false, 0⟩ (tokOf [_, _, _, _, _, _, 0, 0, _, _]) _ [97, 98] _ _ 60 _ (.head _) ⟨by decide, by decide, by decide, by decide, by decide, by decide, by decide, by decide, by decide, by decide, by decide, by decide, by decide, by decide, by decide⟩ (by decide) (by decide)) (by k_asm) (by k_asm) (by k_asm) (by k_asm) (by k_asm) (by k_asm) (by k_asm) (by first | exact rfl | assumption) (by ktr_room) (by ktr_units) ?_
  rintro _ n1 h1 tk1 F1 N1 ⟨rfl, hs1⟩
  repeat' ((fail_if_success (with_reducible show wpAny _ _ (call (Value.ref 862) _) _ _ _)); walk_at "wc")
  refine fnl_use (c_pool _ _ _ _ _ _ _ _ _ (by assumption) (by omega)) (by k_asm) (by assumption) (by k_asm) (by k_asm) (by k_asm) (by k_asm) (by first | exact rfl | assumption) (by ktr_room) (by ktr_units) ?_
  rintro _ n6 h6 tk6 F6 N6 ⟨D, x1, x2, tx1, tx2, rfl, rfl, lD, hx1, hx2, hx3⟩
  walk_at "w"
  (rename Fr _ _ _ _ => lF); with_unfolding_all refine' For_invVF lF ?k1 ?k2 ?_; (case k1 => exact rfl); (case k2 => exact rfl)
  have hSrc : Src D ((D, srcObj x1 x2 tx1 tx2 0) :: n1) := ⟨_, _, _, _, .head _, hx1, hx2, hx3⟩
  rename Fr _ _ _ _ => F7
  rename News _ _ _ ((D, _) :: n1) => N7
  refine join_rng F7 N7 ?_ ?_
  · walk_at "w"
    all_goals first | exact Nat.le_of_ble_eq_true rfl | assumption
  · clear F7 N7
    rintro I n t₀ u₀ v₀ h8 tk8 n8 hn hRg F8 N8 hs8
    have hS8 := hSrc.mono fun p hp _ => hs8 p hp
    refine it_upto (fun i m nx => m "source" = some (.ref D) ∧ Src D nx) hRg rfl (by omega) F8 N8 ⟨rfl, hS8⟩ ?_ ?_
    · rintro i ti m₁ nx h tk Ia io hi ⟨hsr, hS⟩ hoff hio F2 N2
      clear F8 N8 hRg hSrc hS8
      have hIaD := hS.off hoff
      replace F2 := fr_know F2 (y0 := "source") (v0 := .ref D) (by rw [if_neg (by decide)]; exact hsr)
      repeat' ((fail_if_success (with_reducible show wpAny _ _ (call (Value.ref 876) _) _ _ _)); walk_at "wc")
      rename (_ ∧ AllLt _ nx) => lg
      have lg2 := allLt_out lg.2
      refine fn_useE_2_3 (c_one2 _ _ _ _ D _ _ _ [184549390, 201326599, 167772168, 218103808, 3758096385, 2130706433, 9, 201326600, 184549391] ?hI _ (hS.mono fun p hp _ => .tail _ (.tail _ hp)) (.head _) (hS.ne lg2) (by decide) (by decide)) (by k_asm) (by k_asm) (by k_asm) (by k_asm) (by k_asm) (by first | exact rfl | assumption) (by ktr_room) (by walk_at "un") ?_
      case hI => repeat (first | exact .nil | refine .cons _ _ ?_)
      intro x tx n9 h9 tk9 F9 N9 hx hS9 hs9
      have hIa9 : (Ia, io) ∈ n9 := hs9 _ (.tail _ (.head _)) hIaD
      clear lg lg2 hs9 hS hs8
      repeat' ((fail_if_success (with_reducible show wpAny _ _ (call (Value.ref 876) _) _ _ _)); walk_at "wc")
      rename (∀ p ∈ n9, p.1 < _) => lg2
      refine fn_useE_2_3 (c_one2 _ _ _ _ D _ _ _ [64, 2, 255, 1, 0, 3] ?hI _ (hS9.mono fun p hp _ => .tail _ hp) (.head _) (hS9.ne lg2) (by decide) (by decide)) (by k_asm) (by k_asm) (by k_asm) (by k_asm) (by k_asm) (by first | exact rfl | assumption) (by ktr_room) (by walk_at "un") ?_
      case hI => repeat (first | exact .nil | refine .cons _ _ ?_)
      intro y ty n10 h10 tk10 F10 N10 hy hS10 hs10
      have hIa10 : (Ia, io) ∈ n10 := hs10 _ (.tail _ hIa9) hIaD
      clear lg2 hs10 hS9 hIa9
      repeat' ((fail_if_success (with_reducible show wpAny _ _ (call (Value.ref 869) _) _ _ _)); walk_at "wc")
      refine fn_useE_2_4 (c_take2 _ _ _ _ D _ 3 _ ?hS (by decide) (by decide)) (by k_asm) (by k_asm) (by k_asm) (by k_asm) (by k_asm) (by first | exact rfl | assumption) (by ktr_room) (by walk_at "un") ?_
      case hS => first | exact hS10 | exact hS10.mono fun p hp _ => .tail _ hp
      intro a1 ta1 n11 h11 tk11 F11 N11 ha1 ha1' hS11 hs11
      repeat' ((fail_if_success (with_reducible show wpAny _ _ (call (Value.ref 869) _) _ _ _)); walk_at "wc")
      refine fn_useE_2_4 (c_take2 _ _ _ _ D _ 2 _ ?hS (by decide) (by decide)) (by k_asm) (by k_asm) (by k_asm) (by k_asm) (by k_asm) (by first | exact rfl | assumption) (by ktr_room) (by walk_at "un") ?_
      case hS => first | exact hS11 | exact hS11.mono fun p hp _ => .tail _ hp
      intro a2 ta2 n12 h12 tk12 F12 N12 ha2 ha2' hS12 hs12
      have hIa12 : (Ia, io) ∈ n12 := by
        refine hs12 _ ?_ hIaD
        repeat (first | exact hs11 _ hIa10 hIaD | exact hs11 _ (.tail _ hIa10) hIaD | apply List.Mem.tail)
      clear hs12 hs11 hS10 hS11 hIa10
      repeat' ((fail_if_success (with_reducible show wpAny _ _ (call (Value.ref 876) _) _ _ _)); walk_at "wc")
      rename (∀ p ∈ n12, p.1 < _) => lm
      have hMD := hS12.ne lm
      rename (_ ∧ AllLt _ n12) => lg
      have lg2 := allLt_out lg.2
      refine fn_useE_2_3 (c_one2 _ _ _ _ D _ _ _ [6, 17, 1] ?hI _ (hS12.mono fun p hp _ => .tail _ (.tail _ hp)) (.head _) (hS12.ne lg2) (by decide) (by decide)) (by k_asm) (by k_asm) (by k_asm) (by k_asm) (by k_asm) (by first | exact rfl | assumption) (by ktr_room) (by walk_at "un") ?_
      case hI => repeat (first | exact .nil | refine .cons _ _ ?_)
      intro pr tpr n13 h13 tk13 F13 N13 hpr hS13 hs13
      have hM13 := hs13 _ (.tail _ (.head _)) hMD
      have hIa13 := hs13 _ (.tail _ (.tail _ hIa12)) hIaD
      clear lm lg lg2 hs13 hS12 hIa12
      repeat' ((fail_if_success (with_reducible show wpAny _ _ (call (Value.ref 869) _) _ _ _)); walk_at "wc")
      refine fn_useE_2_4 (c_take2 _ _ _ _ D _ 65536 _ hS13 (by decide) (by decide)) (by k_asm) (by k_asm) (by k_asm) (by k_asm) (by k_asm) (by first | exact rfl | assumption) (by ktr_room) (by walk_at "un") ?_
      intro iden tid n14 h14 tk14 F14 N14 hid0 hid1 hS14 hs14
      repeat' ((fail_if_success (with_reducible show wpAny _ _ (call (Value.ref 869) _) _ _ _)); walk_at "wc")
      refine fn_useE_2_4 (c_take2 _ _ _ _ D _ 256 _ hS14 (by decide) (by decide)) (by k_asm) (by k_asm) (by k_asm) (by k_asm) (by k_asm) (by first | exact rfl | assumption) (by ktr_room) (by walk_at "un") ?_
      intro tos tto n15 h15 tk15 F15 N15 hto0 hto1 hS15 hs15
      have hM15 := hs15 _ (hs14 _ hM13 hMD) hMD
      have hIa15 := hs15 _ (hs14 _ hIa13 hIaD) hIaD
      clear hs14 hs15 hS13 hS14 hM13 hIa13
      repeat' ((fail_if_success (with_reducible show wpAny _ _ (call (Value.ref 869) _) _ _ _)); walk_at "wc")
      rename (∀ p ∈ n15, p.1 < _) => lt
      have hTD := hS15.ne lt
      refine fn_useE_2_4 (c_take2 _ _ _ _ D _ 9 _ (hS15.mono fun p hp _ => .tail _ hp) (by decide) (by decide)) (by k_asm) (by k_asm) (by k_asm) (by k_asm) (by k_asm) (by first | exact rfl | assumption) (by ktr_room) (by walk_at "un") ?_
      intro off tof n16 h16 tk16 F16 N16 hof0 hof1 hS16 hs16
      have hT16 := hs16 _ (.head _) hTD
      have hM16 := hs16 _ (.tail _ hM15) hMD
      have hIa16 := hs16 _ (.tail _ hIa15) hIaD
      clear lt hs16 hS15 hM15 hIa15
      repeat' ((fail_if_success (with_reducible show wpAny _ _ (call (Value.ref 869) _) _ _ _)); walk_at "wc")
      rename News _ _ _ (_ :: n16) => N17
      rename Fr _ _ _ _ => F17
      refine kde_addT (zs := Hd.vals ⟨167772167, x, pr, iden, y, tos, a1 == 0, a2 == 0, 8 * off⟩ (tokOf [_, tx, tpr, tid, ty, tto, 0, 0, _, _])) F17 N17 (News.isTup N17 (.tail _ hT16)) (News.isTup N17 (.head _)) (List.cons_ne_nil _ _) (List.cons_ne_nil _ _) (Nat.le_of_ble_eq_true rfl) rfl ?_
      intro R h17 F18 N18 lR
      k_whole
      generalize hh : (⟨167772167, x, pr, iden, y, tos, a1 == 0, a2 == 0, 8 * off⟩ : Hd) = hq at N18
      generalize tokOf _ = tR at N18
      have hRD : R ≠ D := hS16.ne fun p hp => lR _ (.tail _ hp)
      clear F17 N17 hT16 hM16
      repeat' ((fail_if_success (with_reducible show wpAny _ _ (call (Value.ref 869) _) _ _ _)); walk_at "wc")
      refine fn_useE_2_4 (c_take2 _ _ _ _ D _ 256 _ (hS16.mono fun p hp _ => .tail _ (.tail _ hp)) (by decide) (by decide)) (by k_asm) (by k_asm) (by k_asm) (by k_asm) (by k_asm) (by first | exact rfl | assumption) (by ktr_room) (by walk_at "un") ?_
      intro oct toc n19 h19 tk19 F19 N19 hoc0 hoc1 hS19 hs19
      have hR19 := hs19 _ (.head _) hRD
      have hIa19 := hs19 _ (.tail _ (.tail _ hIa16)) hIaD
      clear hs19 hS16 hIa16 lR
      repeat' ((fail_if_success (with_reducible show wpAny _ _ (call (Value.ref 869) _) _ _ _)); walk_at "wc")
      rename (∀ p ∈ n19, p.1 < _) => ll
      have hLD := hS19.ne ll
      refine fn_useE_2_4 (c_take2 _ _ _ _ D _ 7 _ (hS19.mono fun p hp _ => .tail _ hp) (by decide) (by decide)) (by k_asm) (by k_asm) (by k_asm) (by k_asm) (by k_asm) (by first | exact rfl | assumption) (by ktr_room) (by walk_at "un") ?_
      intro c7 tc7 n20 h20 tk20 F20 N20 hc0 hc1 hS20 hs20
      obtain ⟨k7, rfl⟩ : ∃ k : Nat, c7 = (k : Int) := ⟨c7.toNat, (Int.toNat_of_nonneg hc0).symm⟩
      have hL20 := hs20 _ (.head _) hLD
      have hR20 := hs20 _ (.tail _ hR19) hRD
      have hIa20 := hs20 _ (.tail _ hIa19) hIaD
      clear hs20 hS19 hR19 hIa19 ll
      walk_at "w"
      rename News _ _ _ n20 => N21
      rename Fr _ _ _ _ => F21
      refine KMa.mul (ws := List.replicate (k7 + 1) (.int oct toc)) F21 N21 (N21.isList hL20) (by omega) (by omega) ?mulz ?mule ?_
      case mulz => simp; omega
      case mule => rw [show (1 + (k7 : Int)).toNat = k7 + 1 by omega]; simp
      intro B h22 F22 N22 lB
      k_whole
      walk_at "w"
      refine bytes_K (ns := List.replicate (k7 + 1) oct) F22 N22 (N22.isList (.head _)) (intsAre_rep (k7 + 1)) (fun n hn => by rw [List.eq_of_mem_replicate hn]; exact ⟨hoc0, hoc1⟩) (by simp [sizeLine_eq]; omega) rfl ?_
      intro h23 t23 k23 F23 N23 _
      k_whole
      have hpb : (List.map (fun n : Int => n.toNat.toUInt8) (List.replicate (k7 + 1) oct)).length = k7 + 1 := by simp
      generalize List.map (fun n : Int => n.toNat.toUInt8) (List.replicate (k7 + 1) oct) = pb at *
      clear F22 N22
      repeat' ((fail_if_success (with_reducible show wpAny _ _ (call (Value.ref 869) _) _ _ _)); walk_at "wc")
      refine fn_useE_2_4 (c_take2 _ _ _ _ D _ 7 _ (hS20.mono fun p hp _ => .tail _ hp) (by decide) (by decide)) (by k_asm) (by k_asm) (by k_asm) (by k_asm) (by k_asm) (by first | exact rfl | assumption) (by ktr_room) (by walk_at "un") ?_
      intro c8 tc8 n24 h24 tk24 F24 N24 hd0 hd1 hS24 hs24
      obtain ⟨k8, rfl⟩ : ∃ k : Nat, c8 = (k : Int) := ⟨c8.toNat, (Int.toNat_of_nonneg hd0).symm⟩
      have hR24 := hs24 _ (.tail _ hR20) hRD
      have hIa24 := hs24 _ (.tail _ hIa20) hIaD
      clear hs24 hS20 hR20 hIa20 lB
      repeat' ((fail_if_success (with_reducible show wpAny _ _ (call (Value.ref 876) _) _ _ _)); walk_at "wc")
      refine bytes_mul_any (b := pb ++ [120, 121, 122]) (by simp) (by omega) (by omega) (by simp [hpb]; omega) ?_
      intro t25 k25
      k_whole
      have hpl : (List.replicate (k8 : Int).toNat (pb ++ [120, 121, 122])).flatten.length ≤ 1000 := by
        simp [hpb]
        have h1 : k8 * (k7 + 1 + 3) ≤ 7 * 11 := Nat.mul_le_mul (by omega) (by omega)
        omega
      generalize (List.replicate (k8 : Int).toNat (pb ++ [120, 121, 122])).flatten = pp at *
      repeat' ((fail_if_success (with_reducible show wpAny _ _ (call (Value.ref 876) _) _ _ _)); walk_at "wc")
      rename (∀ p ∈ n24, p.1 < _) => lq
      refine fn_useE_2_3 (c_one2 _ _ _ _ D _ _ _ [36, 28, 27, 60, 100, 44] ?hI _ (hS24.mono fun p hp _ => .tail _ hp) (.head _) (hS24.ne lq) (by decide) (by decide)) (by k_asm) (by k_asm) (by k_asm) (by k_asm) (by k_asm) (by first | exact rfl | assumption) (by ktr_room) (by walk_at "un") ?_
      case hI => repeat (first | exact .nil | refine .cons _ _ ?_)
      intro mt tmt n26 h26 tk26 F26 N26 hmt hS26 hs26
      have hR26 := hs26 _ (.tail _ hR24) hRD
      have hIa26 := hs26 _ (.tail _ hIa24) hIaD
      clear hs26 hS24 hR24 hIa24 lq
      have ok : hq.Ok := by
        rw [← hh]
        obtain ⟨_, _⟩ := in_range 0 4294967296 hx rfl
        obtain ⟨_, _⟩ := in_range 0 256 hpr rfl
        obtain ⟨_, _⟩ := in_range 0 256 hy rfl
        constructor <;> simp only [] <;> first | exact Int.mul_emod_right 8 off | omega
      have hof : hq.off + (pp.length : Int) < 65536 := by
        rw [← hh]
        show 8 * off + _ < _
        omega
      repeat' ((fail_if_success (with_reducible show wpAny _ _ (call (Value.ref 904) _) _ _ _)); walk_at "wc")
      refine fn0_use (c_right _ _ _ _ hq tR R pp _ _ mt _ hR26 ok hpl hof) (by k_asm) (by k_asm) (by k_asm) (by k_asm) (by k_asm) (by k_asm) (by k_asm) (by first | exact rfl | assumption) (by ktr_room) (by ktr_units) ?_
      rintro _ n27 h27 tk27 F27 N27 ⟨rfl, hs27⟩
      walk_at "w"
      rename News _ _ _ n27 => N28
      have hIa27 := hs27 _ hIa26
      refine turn_end' (by k_asm) N28 hIa27 ⟨?_, (hS26.mono fun p hp _ => hs27 _ hp).mono fun p hp e => mem_wo.mpr ⟨hp, fun e' => hIaD (e'.symm.trans e)⟩⟩
      first | rfl | k_is | (simp; done)
    · rintro m₁ nx h tk ⟨_, _⟩ Fz Nz
      walk_at "w"
      dsimp only
      (try k_unfold)
      (try dsimp only)
      (k_end; wrow_close))
end Mine

theorem PySem.Challenge.cw_xw0341_02_holds : PySem.Challenge.rw_xw0341_02.Holds :=
  Mine.g3
