import PyProof.Rows.All
import Wide.All
import OpenK.AllK
import Wide.FinOn
import PySem.Challenge.RW_xw0341_01
set_option Elab.async false
section
set_option Elab.async false
set_option maxRecDepth 100000
set_option maxHeartbeats 8000000
set_option linter.all false
namespace Mine
open PySem PySem.W PyProof.Rows

abbrev Ledger := List (Addr × Obj)
/-- the ledger without what stands at a -/
def wo (a : Addr) (l : Ledger) : Ledger := l.filter fun p => !(p.1 == a)
def put (a : Addr) (o : Obj) (l : Ledger) : Ledger := (a, o) :: wo a l
theorem mem_wo {a : Addr} {l : Ledger} {p : Addr × Obj} : p ∈ wo a l ↔ p ∈ l ∧ p.1 ≠ a := by
  unfold wo; rw [List.mem_filter]; simp
theorem wo_ne {a : Addr} {l : Ledger} : ∀ p ∈ wo a l, p.1 ≠ a := fun _ hp => (mem_wo.mp hp).2
theorem wo_sub {a : Addr} {l : Ledger} : ∀ p ∈ wo a l, p ∈ l := fun _ hp => (mem_wo.mp hp).1
theorem mem_put {a : Addr} {o : Obj} {l : Ledger} : (a, o) ∈ put a o l := .head _
theorem mem_put_ne {a : Addr} {o : Obj} {l : Ledger} {p : Addr × Obj} (h : p ∈ l) (n : p.1 ≠ a) : p ∈ put a o l := .tail _ (mem_wo.mpr ⟨h, n⟩)
theorem news_sub {h₀ h : Heap} {L : Addr} {l l' : Ledger} (N : News h₀ L h l) (k : ∀ p ∈ l', p ∈ l) : News h₀ L h l' := fun p hp => N p (k p hp)
theorem news_one {h₀ h : Heap} {L : Addr} {l : Ledger} (N : News h₀ L h l) {a : Addr} {o o' : Obj} (h1 : (a, o) ∈ l) (h2 : (a, o') ∈ l) : o = o' := by
  have e1 := (N _ h1).1
  have e2 := (N _ h2).1
  exact Option.some.inj (e1.symm.trans e2)
theorem news_focus {h₀ h : Heap} {L : Addr} {l : Ledger} (N : News h₀ L h l) {a : Addr} {o : Obj} (h1 : (a, o) ∈ l) : News h₀ L h ((a, o) :: wo a l) := news_sub N fun p hp => by
  rcases List.mem_cons.mp hp with rfl | hp
  · exact h1
  · exact wo_sub _ hp
theorem news_apart {h₀ h : Heap} {L : Addr} {l : Ledger} (N : News h₀ L h l) {a b : Addr} {o o' : Obj} (h1 : (a, o) ∈ l) (h2 : (b, o') ∈ l) (n : o ≠ o') : a ≠ b := fun e => by
  subst e; exact n (news_one N h1 h2)
theorem cls_apart {h₀ h : Heap} {L : Addr} {l : Ledger} (N : News h₀ L h l) {a b : Addr} {o o' : Obj} (h1 : (a, o) ∈ l) (h2 : (b, o') ∈ l) (n : o.cls ≠ o'.cls) : a ≠ b := news_apart N h1 h2 fun e => n (by rw [e])

theorem fr_know {h₀ h : Heap} {L : Addr} {m : Str → Option Value} {y0 : Str} {v0 : Value} (F : Fr h₀ L h m) (hm : m y0 = some v0) : Fr h₀ L h (fun y => if y = y0 then some v0 else m y) := by
  have e : (fun y => if y = y0 then some v0 else m y) = m := by
    funext y
    by_cases h : y = y0
    · rw [if_pos h, h, hm]
    · rw [if_neg h]
  rw [e]; exact F
/-- the end of a turn of a loop over the iterator I -/
def TurnEnd (h₀ : Heap) (L I : Addr) (io : Obj) (J : (Str → Option Value) → Ledger → Prop) (s₁ : Shared) (Q : Flow → Shared → Prop) (f : Flow) (s₂ : Shared) : Prop :=
  match f with
  | .ret v => Q (.ret v) s₂
  | .brk => Q .next s₂
  | _ => ∃ h' tk m' nx, s₂ = { s₁ with heap := h', toks := tk } ∧ Fr h₀ L h' m' ∧ News h₀ L h' ((I, io) :: nx) ∧ (∀ p ∈ nx, p.1 ≠ I) ∧ J m' nx

section
variable {prog : Program} {w : World} {A : Around} {E : Value → Shared → Prop} {s : Shared} {env : Env} {h₀ : Heap} {x : Str} {body : List Stmt} {Q : Flow → Shared → Prop}
theorem turn_end {L I : Addr} {io : Obj} {J : (Str → Option Value) → Ledger → Prop} {s₁ : Shared} {h' : Heap} {tk : Nat} {m' : Str → Option Value} (nx : Ledger) (F : Fr h₀ L h' m') (N : News h₀ L h' ((I, io) :: nx)) (hI : ∀ p ∈ nx, p.1 ≠ I) (hj : J m' nx) :
    TurnEnd h₀ L I io J s₁ Q .next { s₁ with heap := h', toks := tk } := ⟨h', tk, m', nx, rfl, F, N, hI, hj⟩
theorem turn_cont {L I : Addr} {io : Obj} {J : (Str → Option Value) → Ledger → Prop} {s₁ : Shared} {h' : Heap} {tk : Nat} {m' : Str → Option Value} (nx : Ledger) (F : Fr h₀ L h' m') (N : News h₀ L h' ((I, io) :: nx)) (hI : ∀ p ∈ nx, p.1 ≠ I) (hj : J m' nx) :
    TurnEnd h₀ L I io J s₁ Q .cont { s₁ with heap := h', toks := tk } := ⟨h', tk, m', nx, rfl, F, N, hI, hj⟩

theorem it_list {l : Addr} {vs : List Value} {nn : Nat} {m₀ : Str → Option Value} {news : Ledger} (J : Nat → (Str → Option Value) → Ledger → Prop)
    (hh : A.handled = none) (hl : (l, listOf vs.toArray nn) ∈ news) (F : Fr h₀ env.locals s.heap m₀) (N : News h₀ env.locals s.heap news) (hj : J 0 m₀ news)
    (turn : ∀ i v m₁ news₁ h tk I io, vs[i]? = some v → J i m₁ news₁ → (l, listOf vs.toArray nn) ∈ news₁ → (∀ p ∈ news₁, p.1 ≠ I) → io.cls = .type "list_iterator" →
      Fr h₀ env.locals h (fun y => if y = x then some v else m₁ y) → News h₀ env.locals h ((I, io) :: news₁) →
      wpAny (model prog w) A (execs body env) (TurnEnd h₀ env.locals I io (fun m' nx => (l, listOf vs.toArray nn) ∈ nx ∧ J (i + 1) m' nx) { s with heap := h, toks := tk } Q) E { s with heap := h, toks := tk })
    (done : ∀ m₁ news₁ h tk, J vs.length m₁ news₁ → Fr h₀ env.locals h m₁ → News h₀ env.locals h news₁ → Q .next { s with heap := h, toks := tk }) :
    wpAny (model prog w) A (pyIter (.ref l)) (fun it s₂ => LoopAtV prog w A h₀ env x body Q E it s₂) E s := by
  have hol : s.heap.get? l = some (listOf vs.toArray nn) := (N _ hl).1
  have hls : s.heap.IsList l vs.toArray := ⟨_, hol, rfl, nn, rfl⟩
  have hne : l ≠ s.heap.objs.size := Nat.ne_of_lt (Heap.lt_size hol)
  refine wpAny_pyIter_list hls ?_
  have W := Walks.list (prog := prog) (w := w) hh s.heap.objs.size l hne vs.toArray
  have hlen : vs.toArray.size = vs.length := by simp
  rw [hlen] at W
  refine ⟨s.heap.objs.size, _, _, vs.length, _, _, m₀, news, (fun i m nx => (l, listOf vs.toArray nn) ∈ nx ∧ J i m nx), rfl, W, ?_, ?_, ?_, ⟨⟨_, Heap.get?_push_size _ rfl, rfl, rfl⟩, hls.at fun o e => Heap.get?_push_of_some _ e⟩, F.push _, (fun p hp => ⟨Heap.get?_push_of_some _ (N p hp).1, (N p hp).2⟩), ⟨hl, hj⟩, ?_, ?_⟩
  · intro hm
    rcases List.mem_cons.mp hm with e | hm
    · exact absurd F.ns.lt (e ▸ Nat.lt_irrefl _)
    · exact (N _ hl).2.1 ((List.mem_singleton.mp hm).symm)
  · intro b hb
    rw [List.mem_singleton.mp hb]
    exact next_is_new F
  · intro p hp hI
    exact absurd (Heap.lt_size (N p hp).1) ((List.mem_singleton.mp hI) ▸ Nat.lt_irrefl _)
  · rintro i v m₁ news₁ s₁ own ⟨hh', tk', rfl⟩ hin hP ⟨hl₁, hJ⟩ hoff hown hget hfp hst F₁ N₁
    have hlt' : i < vs.length := hin
    have hP' : vs[i]? = some v := by simpa using hP
    obtain ⟨⟨io, hio, hic, hid⟩, _⟩ := hst
    have hIo : (s.heap.objs.size, io) ∈ own := hfp _ (.head _) (next_is_new F) io hio
    have hlo : hh'.get? l = some (listOf vs.toArray nn) := (N₁ _ (List.mem_append.mpr (.inr hl₁))).1
    have hoffI : ∀ p ∈ news₁, p.1 ≠ s.heap.objs.size := fun p hp e => hoff p hp (by rw [e]; exact .head _)
    have N₂ : News h₀ env.locals hh' ((s.heap.objs.size, io) :: news₁) := fun p hp => by
      rcases List.mem_cons.mp hp with rfl | hp
      · exact N₁ _ (List.mem_append.mpr (.inl hIo))
      · exact N₁ _ (List.mem_append.mpr (.inr hp))
    refine wpAny_mono (turn i v m₁ news₁ hh' tk' _ io hP' hJ hl₁ hoffI hic F₁ N₂) (fun f s₂ p => ?_) fun _ _ e => e
    have fin : (∃ h' tk m' nx, s₂ = { { s with heap := hh', toks := tk' } with heap := h', toks := tk } ∧ Fr h₀ env.locals h' m' ∧ News h₀ env.locals h' ((s.heap.objs.size, io) :: nx) ∧ (∀ p ∈ nx, p.1 ≠ s.heap.objs.size) ∧ ((l, listOf vs.toArray nn) ∈ nx ∧ J (i + 1) m' nx)) →
        LoopStepU h₀ env.locals [s.heap.objs.size] own (fun m nx => (l, listOf vs.toArray nn) ∈ nx ∧ J (i + 1) m nx) { s with heap := hh', toks := tk' } .next s₂ := by
      rintro ⟨h', tk, m', nx, e, F', N', hI, hl2, hm⟩
      refine ⟨rfl, h', tk, m', nx, e, F', fun p hp => ?_, fun p hp hq => ?_, hl2, hm⟩
      · rcases List.mem_append.mp hp with h | h
        · rcases List.mem_cons.mp (hown p h) with h2 | h2
          · have h3 : hh'.get? p.1 = some p.2 := hget p h
            rw [h2, hio] at h3
            have h4 : p = (s.heap.objs.size, io) := Prod.ext h2 (Option.some.inj h3).symm
            rw [h4]; exact N' _ (.head _)
          · have h1 := List.mem_singleton.mp h2
            have h3 : hh'.get? p.1 = some p.2 := hget p h
            rw [h1, hlo] at h3
            have h4 : p = (l, listOf vs.toArray nn) := Prod.ext h1 (Option.some.inj h3).symm
            rw [h4]; exact N' _ (.tail _ hl2)
        · exact N' p (.tail _ h)
      · exact hI p hp (List.mem_singleton.mp hq)
    cases f with
    | ret v => exact .ret p
    | brk => exact .brk p
    | next => exact .next (fin p)
    | cont => exact .cont (fin p)
  · rintro h' tk m' news' F' N' _ ⟨hl', hJ⟩
    exact done m' news' h' tk hJ F' N'

theorem it_range {r : Addr} {a₀ b₀ : Int} {t₀ u₀ v₀ : Tok} {n : Nat} {m₀ : Str → Option Value} {news : Ledger} (J : Nat → (Str → Option Value) → Ledger → Prop)
    (hh : A.handled = none) (hr : IsRange s.heap r a₀ b₀ 1 t₀ u₀ v₀) (hsmall : Builtin.Range.small a₀ b₀ 1 = true) (hn : Builtin.Range.rangeSize a₀ b₀ 1 = (n : Int)) (F : Fr h₀ env.locals s.heap m₀) (N : News h₀ env.locals s.heap news) (hj : J 0 m₀ news)
    (turn : ∀ i t m₁ news₁ h tk I io, i < n → J i m₁ news₁ → (∀ p ∈ news₁, p.1 ≠ I) → io.cls = .type "range_iterator" →
      Fr h₀ env.locals h (fun y => if y = x then some (.int (a₀ + (i : Int)) t) else m₁ y) → News h₀ env.locals h ((I, io) :: news₁) →
      wpAny (model prog w) A (execs body env) (TurnEnd h₀ env.locals I io (fun m' nx => J (i + 1) m' nx) { s with heap := h, toks := tk } Q) E { s with heap := h, toks := tk })
    (done : ∀ m₁ news₁ h tk, J n m₁ news₁ → Fr h₀ env.locals h m₁ → News h₀ env.locals h news₁ → Q .next { s with heap := h, toks := tk }) :
    wpAny (model prog w) A (pyIter (.ref r)) (fun it s₂ => LoopAtV prog w A h₀ env x body Q E it s₂) E s := by
  refine wpAny_pyIter_range hr hsmall ?_
  have W := Walks.range (prog := prog) (w := w) hh s.heap.objs.size a₀ 1 n
  refine ⟨s.heap.objs.size, _, _, n, _, _, m₀, news, (fun i m nx => J i m nx), rfl, W, ?_, ?_, ?_, (by show IsRangeIter _ _ _ _ _; rw [hn]; simpa using Heap.get?_push_size _ rfl), F.push _, (fun p hp => ⟨Heap.get?_push_of_some _ (N p hp).1, (N p hp).2⟩), hj, ?_, ?_⟩
  · intro hm
    exact absurd F.ns.lt ((List.mem_singleton.mp hm) ▸ Nat.lt_irrefl _)
  · intro b hb
    rw [List.mem_singleton.mp hb]
    exact next_is_new F
  · intro p hp hI
    exact absurd (Heap.lt_size (N p hp).1) ((List.mem_singleton.mp hI) ▸ Nat.lt_irrefl _)
  · rintro i v m₁ news₁ s₁ own ⟨hh', tk', rfl⟩ hin ⟨t, rfl⟩ hJ hoff hown hget hfp hst F₁ N₁
    have hio : hh'.get? s.heap.objs.size = some _ := hst
    have hIo := hfp _ (.head _) (next_is_new F) _ hio
    have hoffI : ∀ p ∈ news₁, p.1 ≠ s.heap.objs.size := fun p hp e => hoff p hp (by rw [e]; exact .head _)
    have N₂ : News h₀ env.locals hh' ((s.heap.objs.size, _) :: news₁) := fun p hp => by
      rcases List.mem_cons.mp hp with rfl | hp
      · exact N₁ _ (List.mem_append.mpr (.inl hIo))
      · exact N₁ _ (List.mem_append.mpr (.inr hp))
    have e1 : a₀ + (i : Int) * 1 = a₀ + (i : Int) := by omega
    rw [e1] at F₁
    refine wpAny_mono (turn i t m₁ news₁ hh' tk' _ _ hin hJ hoffI rfl F₁ N₂) (fun f s₂ p => ?_) fun _ _ e => e
    generalize hIO : ({ cls := .type "range_iterator", dict := none, data := .fields #[rawInt (a₀ + ((i + 1 : Nat) : Int) * 1), rawInt ((n : Int) - ((i + 1 : Nat) : Int)), rawInt 1], slots := #[] } : Obj) = io at *
    have fin : (∃ h' tk m' nx, s₂ = { { s with heap := hh', toks := tk' } with heap := h', toks := tk } ∧ Fr h₀ env.locals h' m' ∧ News h₀ env.locals h' ((s.heap.objs.size, io) :: nx) ∧ (∀ p ∈ nx, p.1 ≠ s.heap.objs.size) ∧ (J (i + 1) m' nx)) →
        LoopStepU h₀ env.locals [s.heap.objs.size] own (fun m nx => J (i + 1) m nx) { s with heap := hh', toks := tk' } .next s₂ := by
      rintro ⟨h', tk, m', nx, e, F', N', hI, hm⟩
      refine ⟨rfl, h', tk, m', nx, e, F', fun p hp => ?_, fun p hp hq => ?_, hm⟩
      · rcases List.mem_append.mp hp with h | h
        · have h2 := List.mem_singleton.mp (hown p h)
          have h3 : hh'.get? p.1 = some p.2 := hget p h
          rw [h2, hio] at h3
          have h4 : p = (s.heap.objs.size, io) := Prod.ext h2 (Option.some.inj h3).symm
          rw [h4]; exact N' _ (.head _)
        · exact N' p (.tail _ h)
      · exact hI p hp (List.mem_singleton.mp hq)
    cases f with
    | ret v => exact .ret p
    | brk => exact .brk p
    | next => exact .next (fin p)
    | cont => exact .cont (fin p)
  · rintro h' tk m' news' F' N' _ hJ
    exact done m' news' h' tk hJ F' N'
end
theorem allLt_out {d : Addr} : ∀ {l : Ledger}, AllLt d l → ∀ p ∈ l, p.1 < d
  | [], _ => fun _ hp => nomatch hp
  | _ :: _, h => fun p hp => by
    rcases List.mem_cons.mp hp with rfl | hp
    · exact h.1
    · exact allLt_out h.2 p hp
/-- no entry of the ledger stands at a -/
def Off (l : Ledger) (a : Addr) : Prop := ∀ p ∈ l, p.1 ≠ a
theorem off_lt {l : Ledger} {d a : Addr} (h : ∀ p ∈ l, p.1 < d) (e : d ≤ a) : Off l a := fun p hp => Nat.ne_of_lt (Nat.lt_of_lt_of_le (h p hp) e)
theorem bound_name {l : Ledger} {d : Addr} (h : ∀ p ∈ l, p.1 < d) : ∃ fl : Addr, fl = d ∧ ∀ p ∈ l, p.1 < fl := ⟨d, rfl, h⟩
theorem turn_end' {h₀ : Heap} {Q : Flow → Shared → Prop} {L I : Addr} {io : Obj} {J : (Str → Option Value) → Ledger → Prop} {s₁ : Shared} {h' : Heap} {tk : Nat} {m' : Str → Option Value} {news₂ : Ledger} (F : Fr h₀ L h' m') (N : News h₀ L h' news₂) (hI : (I, io) ∈ news₂) (hj : J m' (wo I news₂)) :
    TurnEnd h₀ L I io J s₁ Q .next { s₁ with heap := h', toks := tk } := turn_end _ F (news_focus N hI) wo_ne hj
theorem news_put_mem {h₀ h : Heap} {L a : Addr} {o : Obj} {l : Ledger} {p : Addr × Obj} (_ : News h₀ L h (put a o l)) (hm : p ∈ l) (n : p.1 ≠ a) : p ∈ put a o l := mem_put_ne hm n
theorem lt_name {a b : Addr} (h : a < b) : ∃ c : Addr, c = b ∧ a < c := ⟨b, rfl, h⟩
theorem news_put_mem0 {h₀ h : Heap} {L a : Addr} {o : Obj} {l : Ledger} (_ : News h₀ L h (put a o l)) : (a, o) ∈ put a o l := mem_put

section
variable {prog : Program} {w : World} {A : Around} {E : Value → Shared → Prop} {s : Shared} {h₀ : Heap} {L : Addr} {news : Ledger} {D : Addr} {m : Str → Option Value}
theorem append_P {its : Array Value} {n : Nat} {x : Value} {Q : Value → Shared → Prop} (F : Fr h₀ L s.heap m) (N : News h₀ L s.heap news) (hm : (D, listOf its n) ∈ news)
    (h : ∀ h', Fr h₀ L h' m → News h₀ L h' (put D (listOf (its.push x) (n + 1)) news) → Q .none { s with heap := h' }) (hz : its.size ≤ sizeLine := by size_fits) :
    wpAny (model prog w) A (call (.builtin "list.append") [.ref D, x]) Q E s :=
  append_K F (news_focus N hm) (Upd.head wo_ne) h hz
theorem storeX_P {M : Model} {a c : Addr} {cn x : Str} {cs : Scope} {ccd v : Value} {cl : List (Str × Addr)} {o : Obj} {v₀ : Option Value} {Q : Unit → Shared → Prop} (F : Fr h₀ L s.heap m) (N : News h₀ L s.heap news) (hc : cl.lookup x = some c) (hm : (c, o) ∈ news) (hd : o.data = .cell v₀)
    (h : ∀ h' o', Fr h₀ L h' m → News h₀ L h' (put c o' news) → o'.data = .cell (some v) → Q () { s with heap := h' })
    (hk : cs.kind = .function := by rfl) (hx : (envX cn cs L a ccd cl).kindOf x = some .cell := by rfl) : wpAny M A (storeName (envX cn cs L a ccd cl) x v) Q E s :=
  storeX_C F (news_focus N hm) hc (UpdF.head wo_ne) hd h hk hx
theorem set_dict_P {K : Frag} {C x dx : Addr} {ox : Obj} {es es' : List DictEntry} {n n' : Nat} {name : Str} {v : Value} {Q : Unit → Shared → Prop} (F : Fr h₀ L s.heap m) (X₀ : K.In h₀) (N : News h₀ L s.heap news) (I : InstAt s.heap x ox C (some (dictOf es n))) (hd : ox.dict = some dx) (hm : (dx, dictOf es n) ∈ news)
    (hs : findIn K (.ref C) "__setattr__" = some (some (.builtin "object.__setattr__"))) (hp : plainOver K C = true) (ht : takerIn K C name = some none) (hh : hasDictIn K C = true) (hl : (getL name es).isSome = true)
    (e : (putL name (PyData.keyHash w.params name) (.str name (s.toks + 1)) v es, putN name es n) = (es', n')) (hz : es'.length ≤ 1000)
    (h : ∀ h', Fr h₀ L h' m → News h₀ L h' (put dx (dictOf es' n') news) → Q () { s with heap := h', toks := s.toks + 2 }) :
    wpAny (model prog w) A (setAttr (.ref x) name v) Q E s := set_dict F X₀ (news_focus N hm) I hd hs hp ht hh hl e (.head wo_ne) hz h
theorem len_P {vs : List Value} {n : Nat} {Q : Value → Shared → Prop} (N : News h₀ L s.heap news) (hm : (D, listOf vs.toArray n) ∈ news) (hl : vs.length < 2 ^ 31)
    (h : Q (.int vs.length (s.toks + 1)) { s with toks := s.toks + 1 + 1 }) : wpAny (model prog w) A (call (.builtin "len") [.ref D]) Q E s := by
  have hl' : s.heap.IsList D vs.toArray := ⟨_, (N _ hm).1, rfl, n, rfl⟩
  exact len_list hl' (by simp; omega) (by simpa using h)
theorem ne_empty_P {a b : Addr} {vs : List Value} {n n2 : Nat} {Q : Value → Shared → Prop} (N : News h₀ L s.heap news) (h1 : (a, listOf vs.toArray n) ∈ news) (h2 : (b, listOf #[] n2) ∈ news) (hu : A.units < cLine) (h : Q (.bool (!vs.isEmpty)) s) :
    wpAny (model prog w) A (compareOp .NotEq (.ref a) (.ref b)) Q E s := by
  have l1 : s.heap.IsList a vs.toArray := ⟨_, (N _ h1).1, rfl, n, rfl⟩
  have l2 : s.heap.IsList b #[] := ⟨_, (N _ h2).1, rfl, n2, rfl⟩
  refine cmp_ofNotEq ?_
  cases vs with
  | nil => exact PySem.SeqAt.RcNeAt.lists (e := fun _ => true) l1 l2 rfl hu (fun j h _ => absurd h (Nat.not_lt_zero _)) _ _ _ _ h
  | cons v r => exact PySem.SeqAt.RcNeAt.lists_lengths l1 l2 (by simp) hu _ _ _ _ h
theorem eq_empty_P {a b : Addr} {vs : List Value} {n n2 : Nat} {Q : Value → Shared → Prop} (N : News h₀ L s.heap news) (h1 : (a, listOf vs.toArray n) ∈ news) (h2 : (b, listOf #[] n2) ∈ news) (hu : A.units < cLine) (h : Q (.bool vs.isEmpty) s) :
    wpAny (model prog w) A (compareOp .Eq (.ref a) (.ref b)) Q E s := by
  have l1 : s.heap.IsList a vs.toArray := ⟨_, (N _ h1).1, rfl, n, rfl⟩
  have l2 : s.heap.IsList b #[] := ⟨_, (N _ h2).1, rfl, n2, rfl⟩
  refine cmp_ofEq ?_
  cases vs with
  | nil => exact PySem.SeqAt.RcAt.lists (e := fun _ => true) l1 l2 rfl hu (fun j h _ => absurd h (Nat.not_lt_zero _)) _ _ _ _ h
  | cons v r => exact PySem.SeqAt.RcAt.lists_lengths l1 l2 (by simp) hu _ _ _ _ h
theorem item_P {value slice : PySem.Expr} {vs : List Value} {v : Value} {n : Nat} {k : Int} {u : Tok} {Q : Value → Shared → Prop} (N : News h₀ L s.heap news) (hm : (D, listOf vs.toArray n) ∈ news) (h0 : 0 ≤ k) (h1 : k < 2 ^ 63) (hv : vs[k.toNat]? = some v) (h : Q v s)
    (hs : subscripted slice false (.ref D) (.int k u) = operate [.ref D, .int k u] (getItem (.ref D) (.int k u)) := by with_unfolding_all rfl) :
    wpAny (model prog w) A (subscriptTail value slice (.ref D) (.int k u)) Q E s := by
  have hl : s.heap.IsList D vs.toArray := ⟨_, (N _ hm).1, rfl, n, rfl⟩
  exact tail_any hl.typeIs slot_list_getitem.lookup (wpAny_getItem_list hl h0 h1 (by simpa using hv) h) hs
theorem item_last {value slice : PySem.Expr} {vs : List Value} {v : Value} {n : Nat} {u : Tok} {Q : Value → Shared → Prop} (N : News h₀ L s.heap news) (hm : (D, listOf (vs ++ [v]).toArray n) ∈ news) (h : Q v s)
    (hs : subscripted slice false (.ref D) (.int (-1) u) = operate [.ref D, .int (-1) u] (getItem (.ref D) (.int (-1) u)) := by with_unfolding_all rfl) :
    wpAny (model prog w) A (subscriptTail value slice (.ref D) (.int (-1) u)) Q E s := by
  have hl : s.heap.IsList D (vs ++ [v]).toArray := ⟨_, (N _ hm).1, rfl, n, rfl⟩
  exact tail_any hl.typeIs slot_list_getitem.lookup (wpAny_getItem_list_neg hl (by decide) (by simp; omega) (by decide) (by rw [show ((-1 : Int) + ((vs ++ [v]).toArray.size : Int)).toNat = vs.length from by simp; omega]; simp) h) hs
theorem tupItem_P {value slice : PySem.Expr} {vs : List Value} {v : Value} {n : Nat} {k : Int} {u : Tok} {Q : Value → Shared → Prop} (N : News h₀ L s.heap news) (hm : (D, ({ cls := .type "tuple", data := .seq vs.toArray n } : Obj)) ∈ news) (h0 : 0 ≤ k) (h1 : k < 2 ^ 63) (hv : vs[k.toNat]? = some v) (h : Q v s)
    (hs : subscripted slice false (.ref D) (.int k u) = operate [.ref D, .int k u] (getItem (.ref D) (.int k u)) := by with_unfolding_all rfl) :
    wpAny (model prog w) A (subscriptTail value slice (.ref D) (.int k u)) Q E s := by
  have hl : IsTup s.heap D vs.toArray := ⟨_, (N _ hm).1, rfl, n, rfl⟩
  have hlt : k.toNat < vs.length := by
    rcases Nat.lt_or_ge k.toNat vs.length with h | h
    · exact h
    · rw [List.getElem?_eq_none h] at hv; cases hv
  exact item_tupleT hl (by omega) h1 (j := k.toNat) (by unfold seqIndex?; simp; omega) hv h hs
theorem setAt_P {vs : List Value} {v : Value} {n : Nat} {k : Int} {t : Tok} {Q : Unit → Shared → Prop} (F : Fr h₀ L s.heap m) (N : News h₀ L s.heap news) (hm : (D, listOf vs.toArray n) ∈ news) (h0 : 0 ≤ k) (h1 : k < 2 ^ 63) (hk : k.toNat < vs.length)
    (h : ∀ h', Fr h₀ L h' m → News h₀ L h' (put D (listOf (vs.set k.toNat v).toArray n) news) → Q () { s with heap := h' }) :
    wpAny (model prog w) A (setItem (.ref D) (.int k t) v) Q E s := by
  have z := N _ hm
  refine ki_setAt z.1 h0 h1 (by simp; omega) (h _ (F.change (Heap.SameBut.update ..) z.2.1 z.2.2) (ki_turn (pre := []) _ (news_focus N hm) (fun _ h => nomatch h) wo_ne ?_ ?_))
  · apply Array.toList_inj.mp
    simp
  · simp
end
section
variable {prog : Program} {w : World} {A : Around} {E : Value → Shared → Prop} {s : Shared} {env : Env} {h₀ : Heap} {x : Str} {body : List Stmt} {Q : Flow → Shared → Prop}
theorem it_upto {r : Addr} {t₀ u₀ v₀ : Tok} {n : Nat} {m₀ : Str → Option Value} {news : Ledger} (J : Nat → (Str → Option Value) → Ledger → Prop)
    (hr : IsRange s.heap r 0 (n : Int) 1 t₀ u₀ v₀) (hh : A.handled = none) (hn : n ≤ 2 ^ 31) (F : Fr h₀ env.locals s.heap m₀) (N : News h₀ env.locals s.heap news) (hj : J 0 m₀ news)
    (turn : ∀ i t m₁ news₁ h tk I io, i < n → J i m₁ news₁ → (∀ p ∈ news₁, p.1 ≠ I) → io.cls = .type "range_iterator" →
      Fr h₀ env.locals h (fun y => if y = x then some (.int (i : Int) t) else m₁ y) → News h₀ env.locals h ((I, io) :: news₁) →
      wpAny (model prog w) A (execs body env) (TurnEnd h₀ env.locals I io (fun m' nx => J (i + 1) m' nx) { s with heap := h, toks := tk } Q) E { s with heap := h, toks := tk })
    (done : ∀ m₁ news₁ h tk, J n m₁ news₁ → Fr h₀ env.locals h m₁ → News h₀ env.locals h news₁ → Q .next { s with heap := h, toks := tk }) :
    wpAny (model prog w) A (pyIter (.ref r)) (fun it s₂ => LoopAtV prog w A h₀ env x body Q E it s₂) E s := by
  refine it_range (n := n) J hh hr (small_one (by decide) (by decide) (by omega) (by omega)) (by rw [rangeSize_one]; split <;> omega) F N hj (fun i t m₁ news₁ h tk I io hi hJ ho hio F₁ N₁ => ?_) done
  rw [Int.zero_add] at F₁
  exact turn i t m₁ news₁ h tk I io hi hJ ho hio F₁ N₁
end

end Mine
end

section
open PySem PySem.W PyProof.Rows
set_option Elab.async false
set_option maxRecDepth 100000
set_option maxHeartbeats 8000000
set_option linter.all false
namespace Mine
abbrev Pr : Program := PySem.Challenge.rw_xw0341_01.row.toRowW.1
def stA (i : Nat) : Stmt := (Pr.main.body[i]?).getD (.Pass default)
def fnA (i j : Nat) : Stmt := match j with
  | 0 => stA i
  | j + 1 => match stA i with
    | .ClassDef _ _ _ b _ _ _ _ _ _ _ => (b[j]?).getD (.Pass default)
    | s => s
def fP (i j : Nat) : Arguments := match fnA i j with
  | .FunctionDef _ a _ _ _ _ _ _ _ _ => a
  | _ => default
def fB (i j : Nat) : List Stmt := match fnA i j with
  | .FunctionDef _ _ b _ _ _ _ _ _ _ => b
  | _ => []
def fS (i j : Nat) : Scope := match fnA i j with
  | .FunctionDef _ _ _ _ _ _ s _ _ _ => s
  | _ => default
/-- the part of the heap that the law reaches -/
noncomputable def hd.heap_39 : Params → Frag := fun P =>
(nat_lit 2, { cls := Value.none, data := Data.dict #[{ hash := PyData.keyHash P (Str.ofString "type.__subclasses__.Exception.0"), key := Value.str (Str.ofString "type.__subclasses__.Exception.0") 221, val := Value.int 38 0 }, { hash := PyData.keyHash P (Str.ofString "type.__subclasses__.Exception.n"), key := Value.str (Str.ofString "type.__subclasses__.Exception.n") 222, val := Value.int 1 0 }] 2 }) ::
(nat_lit 3, { cls := Value.type "dict", data := Data.dict #[{ hash := PyData.keyHash P (Str.ofString "__name__"), key := Value.str (Str.ofString "__name__") 165, val := Value.str (Str.ofString "law_xw0341_01") 1064 }, { hash := PyData.keyHash P (Str.ofString "__doc__"), key := Value.str (Str.ofString "__doc__") 166, val := Value.none }, { hash := PyData.keyHash P (Str.ofString "__package__"), key := Value.str (Str.ofString "__package__") 167, val := Value.none }, { hash := PyData.keyHash P (Str.ofString "__loader__"), key := Value.str (Str.ofString "__loader__") 168, val := Value.builtin "__main__.__loader__#opaque" }, { hash := PyData.keyHash P (Str.ofString "__spec__"), key := Value.str (Str.ofString "__spec__") 169, val := Value.none }, { hash := PyData.keyHash P (Str.ofString "__annotations__"), key := Value.str (Str.ofString "__annotations__") 170, val := Value.ref 6 }, { hash := PyData.keyHash P (Str.ofString "__builtins__"), key := Value.str (Str.ofString "__builtins__") 171, val := Value.ref 4 }, { hash := PyData.keyHash P (Str.ofString "__file__"), key := Value.str (Str.ofString "__file__") 173, val := Value.str (Str.ofString "/claim/cut.py") 172 }, { hash := PyData.keyHash P (Str.ofString "__cached__"), key := Value.str (Str.ofString "__cached__") 174, val := Value.none }, { hash := PyData.keyHash P (Str.ofString "_wall"), key := Value.str (Str.ofString "_wall") 193, val := Value.ref 21 }, { hash := PyData.keyHash P (Str.ofString "StackError"), key := Value.str (Str.ofString "StackError") 224, val := Value.ref 38 }, { hash := PyData.keyHash P (Str.ofString "RouteError"), key := Value.str (Str.ofString "RouteError") 240, val := Value.ref 51 }, { hash := PyData.keyHash P (Str.ofString "LEAST_HEAD"), key := Value.str (Str.ofString "LEAST_HEAD") 244, val := Value.int 20 243 }, { hash := PyData.keyHash P (Str.ofString "MOST_TOTAL"), key := Value.str (Str.ofString "MOST_TOTAL") 246, val := Value.int 65535 245 }, { hash := PyData.keyHash P (Str.ofString "IpHeader"), key := Value.str (Str.ofString "IpHeader") 336, val := Value.ref 106 }, { hash := PyData.keyHash P (Str.ofString "BITS"), key := Value.str (Str.ofString "BITS") 340, val := Value.int 32 339 }, { hash := PyData.keyHash P (Str.ofString "ALL"), key := Value.str (Str.ofString "ALL") 346, val := Value.int 4294967295 345 }, { hash := PyData.keyHash P (Str.ofString "mask_of"), key := Value.str (Str.ofString "mask_of") 353, val := Value.ref 117 }, { hash := PyData.keyHash P (Str.ofString "net_of"), key := Value.str (Str.ofString "net_of") 361, val := Value.ref 124 }, { hash := PyData.keyHash P (Str.ofString "is_loop"), key := Value.str (Str.ofString "is_loop") 368, val := Value.ref 131 }, { hash := PyData.keyHash P (Str.ofString "Route"), key := Value.str (Str.ofString "Route") 421, val := Value.ref 163 }, { hash := PyData.keyHash P (Str.ofString "Branch"), key := Value.str (Str.ofString "Branch") 484, val := Value.ref 212 }, { hash := PyData.keyHash P (Str.ofString "bit_at"), key := Value.str (Str.ofString "bit_at") 492, val := Value.ref 223 }, { hash := PyData.keyHash P (Str.ofString "Routes"), key := Value.str (Str.ofString "Routes") 601, val := Value.ref 296 }, { hash := PyData.keyHash P (Str.ofString "FaceRow"), key := Value.str (Str.ofString "FaceRow") 636, val := Value.ref 317 }, { hash := PyData.keyHash P (Str.ofString "IpLayer"), key := Value.str (Str.ofString "IpLayer") 807, val := Value.ref 445 }, { hash := PyData.keyHash P (Str.ofString "STEP"), key := Value.str (Str.ofString "STEP") 811, val := Value.int 8 810 }, { hash := PyData.keyHash P (Str.ofString "Holes"), key := Value.str (Str.ofString "Holes") 878, val := Value.ref 494 }, { hash := PyData.keyHash P (Str.ofString "Datagram"), key := Value.str (Str.ofString "Datagram") 958, val := Value.ref 548 }, { hash := PyData.keyHash P (Str.ofString "whole_header"), key := Value.str (Str.ofString "whole_header") 965, val := Value.ref 559 }, { hash := PyData.keyHash P (Str.ofString "key_of"), key := Value.str (Str.ofString "key_of") 972, val := Value.ref 566 }, { hash := PyData.keyHash P (Str.ofString "is_bad_piece"), key := Value.str (Str.ofString "is_bad_piece") 980, val := Value.ref 573 }, { hash := PyData.keyHash P (Str.ofString "Reassembly"), key := Value.str (Str.ofString "Reassembly") 1063, val := Value.ref 631 }, { hash := PyData.keyHash P (Str.ofString "_law_pool"), key := Value.str (Str.ofString "_law_pool") 1076, val := Value.ref 642 }, { hash := PyData.keyHash P (Str.ofString "_law_take"), key := Value.str (Str.ofString "_law_take") 1085, val := Value.ref 649 }, { hash := PyData.keyHash P (Str.ofString "_law_one"), key := Value.str (Str.ofString "_law_one") 1093, val := Value.ref 656 }, { hash := PyData.keyHash P (Str.ofString "_law_places"), key := Value.str (Str.ofString "_law_places") 1100, val := Value.ref 663 }, { hash := PyData.keyHash P (Str.ofString "_law_found"), key := Value.str (Str.ofString "_law_found") 1108, val := Value.ref 670 }, { hash := PyData.keyHash P (Str.ofString "_law_due"), key := Value.str (Str.ofString "_law_due") 1123, val := Value.ref 677 }, { hash := PyData.keyHash P (Str.ofString "_law_layer"), key := Value.str (Str.ofString "_law_layer") 1131, val := Value.ref 684 }, { hash := PyData.keyHash P (Str.ofString "law"), key := Value.str (Str.ofString "law") 1137, val := Value.ref 689 }] 41 }) ::
(nat_lit 15, { cls := Value.type "tuple", data := Data.seq #[] }) ::
(nat_lit 17, { cls := Value.type "tuple", data := Data.seq #[Value.str (Str.ofString "k") 190] }) ::
(nat_lit 18, { cls := Value.type "tuple", data := Data.seq #[] }) ::
(nat_lit 20, { cls := Value.type "code", data := Data.fields #[Value.str (Str.ofString "_wall") 187, Value.str (Str.ofString "_wall") 188, Value.str (Str.ofString "/claim/cut.py") 189, Value.int 1 0, Value.int 1 0, Value.int 0 0, Value.int 0 0, Value.int 3 0, Value.ref 15, Value.bool true, Value.int 181 0, Value.ref 16, Value.none, Value.ref 17, Value.ref 18, Value.ref 19, Value.int 191 0, Value.int 1 0, Value.str (Str.ofString "/claim/cut.py") 192] }) ::
(nat_lit 21, { cls := Value.type "function", data := Data.func { name := Str.ofString "_wall", qualname := Str.ofString "_wall", params := fP 0 0, body := FuncBody.stmts (fB 0 0), scope := fS 0 0, globals := 3, closure := [], defaults := Value.none, kwdefaults := Value.none, pyModule := Value.str (Str.ofString "__main__") 164, code := Value.ref 20 } }) ::
(nat_lit 22, { cls := Value.type "tuple", data := Data.seq #[Value.type "Exception"] }) ::
(nat_lit 29, { cls := Value.type "tuple", data := Data.seq #[] }) ::
(nat_lit 31, { cls := Value.type "tuple", data := Data.seq #[Value.str (Str.ofString "self") 211, Value.str (Str.ofString "message") 212] }) ::
(nat_lit 32, { cls := Value.type "tuple", data := Data.seq #[] }) ::
(nat_lit 34, { cls := Value.type "code", data := Data.fields #[Value.str (Str.ofString "__init__") 208, Value.str (Str.ofString "StackError.__init__") 209, Value.str (Str.ofString "/claim/cut.py") 210, Value.int 7 0, Value.int 2 0, Value.int 0 0, Value.int 0 0, Value.int 3 0, Value.ref 29, Value.bool true, Value.int 181 0, Value.ref 30, Value.none, Value.ref 31, Value.ref 32, Value.ref 33, Value.int 213 0, Value.int 7 0, Value.str (Str.ofString "/claim/cut.py") 214] }) ::
(nat_lit 35, { cls := Value.type "function", data := Data.func { name := Str.ofString "__init__", qualname := Str.ofString "StackError.__init__", params := fP 2 1, body := FuncBody.stmts (fB 2 1), scope := fS 2 1, globals := 3, closure := [], defaults := Value.none, kwdefaults := Value.none, pyModule := Value.str (Str.ofString "thinstack.errors") 194, code := Value.ref 34 } }) ::
(nat_lit 36, { cls := Value.type "tuple", data := Data.seq #[Value.str (Str.ofString "message") 216] }) ::
(nat_lit 37, { cls := Value.type "dict", data := Data.dict #[{ hash := PyData.keyHash P (Str.ofString "__module__"), key := Value.str (Str.ofString "__module__") 203, val := Value.str (Str.ofString "thinstack.errors") 194 }, { hash := PyData.keyHash P (Str.ofString "__firstlineno__"), key := Value.str (Str.ofString "__firstlineno__") 207, val := Value.int 5 206 }, { hash := PyData.keyHash P (Str.ofString "__init__"), key := Value.str (Str.ofString "__init__") 215, val := Value.ref 35 }, { hash := PyData.keyHash P (Str.ofString "__static_attributes__"), key := Value.str (Str.ofString "__static_attributes__") 217, val := Value.ref 36 }, { hash := PyData.keyHash P (Str.ofString "__weakref__"), key := Value.str (Str.ofString "__weakref__") 219, val := Value.ref 39 }, { hash := PyData.keyHash P (Str.ofString "__doc__"), key := Value.str (Str.ofString "__doc__") 220, val := Value.none }] 3 }) ::
(nat_lit 38, { cls := Value.type "type", data := Data.cls { name := Str.ofString "StackError", bases := [Value.type "Exception"], mro := [Value.ref 38, Value.type "Exception", Value.type "BaseException", Value.type "object"], ns := 37, qualname := Str.ofString "StackError", subclasses := [Value.ref 51] }, slots := #[some (Value.ref 22), none, some (Value.str (Str.ofString "StackError") 196), some (Value.str (Str.ofString "StackError") 204), some (Value.builtin "Exception.__new__"), some (Value.bool true)] }) ::
(nat_lit 39, { cls := Value.type "getset_descriptor", data := Data.fields #[Value.str (Str.ofString "__weakref__") 218, Value.ref 38, Value.builtin "ExceptionGroup.__weakref__", Value.none] }) ::
(nat_lit 42, { cls := Value.type "tuple", data := Data.seq #[Value.ref 38] }) ::
(nat_lit 49, { cls := Value.type "tuple", data := Data.seq #[] }) ::
(nat_lit 50, { cls := Value.type "dict", data := Data.dict #[{ hash := PyData.keyHash P (Str.ofString "__module__"), key := Value.str (Str.ofString "__module__") 232, val := Value.str (Str.ofString "thinstack.errors") 194 }, { hash := PyData.keyHash P (Str.ofString "__firstlineno__"), key := Value.str (Str.ofString "__firstlineno__") 236, val := Value.int 9 235 }, { hash := PyData.keyHash P (Str.ofString "__static_attributes__"), key := Value.str (Str.ofString "__static_attributes__") 237, val := Value.ref 49 }, { hash := PyData.keyHash P (Str.ofString "__doc__"), key := Value.str (Str.ofString "__doc__") 238, val := Value.none }] 2 }) ::
(nat_lit 51, { cls := Value.type "type", data := Data.cls { name := Str.ofString "RouteError", bases := [Value.ref 38], mro := [Value.ref 51, Value.ref 38, Value.type "Exception", Value.type "BaseException", Value.type "object"], ns := 50, qualname := Str.ofString "RouteError" }, slots := #[some (Value.ref 42), none, some (Value.str (Str.ofString "RouteError") 225), some (Value.str (Str.ofString "RouteError") 233), some (Value.builtin "Exception.__new__"), some (Value.bool true)] }) ::
(nat_lit 61, { cls := Value.type "tuple", data := Data.seq #[Value.int 0 259, Value.int 64 260, Value.int 0 261, Value.bool false, Value.bool false, Value.int 0 262, Value.bytes #[] 263] }) ::
(nat_lit 62, { cls := Value.type "tuple", data := Data.seq #[] }) ::
(nat_lit 64, { cls := Value.type "tuple", data := Data.seq #[Value.str (Str.ofString "self") 267, Value.str (Str.ofString "source") 268, Value.str (Str.ofString "target") 269, Value.str (Str.ofString "protocol") 270, Value.str (Str.ofString "ident") 271, Value.str (Str.ofString "ttl") 272, Value.str (Str.ofString "tos") 273, Value.str (Str.ofString "dont") 274, Value.str (Str.ofString "more") 275, Value.str (Str.ofString "offset") 276, Value.str (Str.ofString "options") 277] }) ::
(nat_lit 65, { cls := Value.type "tuple", data := Data.seq #[] }) ::
(nat_lit 67, { cls := Value.type "code", data := Data.fields #[Value.str (Str.ofString "__init__") 264, Value.str (Str.ofString "IpHeader.__init__") 265, Value.str (Str.ofString "/claim/cut.py") 266, Value.int 16 0, Value.int 11 0, Value.int 0 0, Value.int 0 0, Value.int 3 0, Value.ref 62, Value.bool true, Value.int 181 0, Value.ref 63, Value.none, Value.ref 64, Value.ref 65, Value.ref 66, Value.int 278 0, Value.int 16 0, Value.str (Str.ofString "/claim/cut.py") 279] }) ::
(nat_lit 68, { cls := Value.type "function", data := Data.func { name := Str.ofString "__init__", qualname := Str.ofString "IpHeader.__init__", params := fP 7 1, body := FuncBody.stmts (fB 7 1), scope := fS 7 1, globals := 3, closure := [], defaults := Value.ref 61, kwdefaults := Value.none, pyModule := Value.str (Str.ofString "thinstack.ip_header") 241, code := Value.ref 67 } }) ::
(nat_lit 69, { cls := Value.type "tuple", data := Data.seq #[] }) ::
(nat_lit 71, { cls := Value.type "tuple", data := Data.seq #[Value.str (Str.ofString "self") 284] }) ::
(nat_lit 72, { cls := Value.type "tuple", data := Data.seq #[] }) ::
(nat_lit 74, { cls := Value.type "code", data := Data.fields #[Value.str (Str.ofString "size") 281, Value.str (Str.ofString "IpHeader.size") 282, Value.str (Str.ofString "/claim/cut.py") 283, Value.int 28 0, Value.int 1 0, Value.int 0 0, Value.int 0 0, Value.int 3 0, Value.ref 69, Value.bool true, Value.int 181 0, Value.ref 70, Value.none, Value.ref 71, Value.ref 72, Value.ref 73, Value.int 285 0, Value.int 28 0, Value.str (Str.ofString "/claim/cut.py") 286] }) ::
(nat_lit 75, { cls := Value.type "function", data := Data.func { name := Str.ofString "size", qualname := Str.ofString "IpHeader.size", params := fP 7 2, body := FuncBody.stmts (fB 7 2), scope := fS 7 2, globals := 3, closure := [], defaults := Value.none, kwdefaults := Value.none, pyModule := Value.str (Str.ofString "thinstack.ip_header") 241, code := Value.ref 74 } }) ::
(nat_lit 76, { cls := Value.type "tuple", data := Data.seq #[] }) ::
(nat_lit 78, { cls := Value.type "tuple", data := Data.seq #[Value.str (Str.ofString "self") 291] }) ::
(nat_lit 79, { cls := Value.type "tuple", data := Data.seq #[] }) ::
(nat_lit 81, { cls := Value.type "code", data := Data.fields #[Value.str (Str.ofString "is_fragment") 288, Value.str (Str.ofString "IpHeader.is_fragment") 289, Value.str (Str.ofString "/claim/cut.py") 290, Value.int 31 0, Value.int 1 0, Value.int 0 0, Value.int 0 0, Value.int 3 0, Value.ref 76, Value.bool true, Value.int 181 0, Value.ref 77, Value.none, Value.ref 78, Value.ref 79, Value.ref 80, Value.int 292 0, Value.int 31 0, Value.str (Str.ofString "/claim/cut.py") 293] }) ::
(nat_lit 82, { cls := Value.type "function", data := Data.func { name := Str.ofString "is_fragment", qualname := Str.ofString "IpHeader.is_fragment", params := fP 7 3, body := FuncBody.stmts (fB 7 3), scope := fS 7 3, globals := 3, closure := [], defaults := Value.none, kwdefaults := Value.none, pyModule := Value.str (Str.ofString "thinstack.ip_header") 241, code := Value.ref 81 } }) ::
(nat_lit 83, { cls := Value.type "tuple", data := Data.seq #[] }) ::
(nat_lit 85, { cls := Value.type "tuple", data := Data.seq #[Value.str (Str.ofString "self") 298] }) ::
(nat_lit 86, { cls := Value.type "tuple", data := Data.seq #[] }) ::
(nat_lit 88, { cls := Value.type "code", data := Data.fields #[Value.str (Str.ofString "is_first") 295, Value.str (Str.ofString "IpHeader.is_first") 296, Value.str (Str.ofString "/claim/cut.py") 297, Value.int 34 0, Value.int 1 0, Value.int 0 0, Value.int 0 0, Value.int 3 0, Value.ref 83, Value.bool true, Value.int 181 0, Value.ref 84, Value.none, Value.ref 85, Value.ref 86, Value.ref 87, Value.int 299 0, Value.int 34 0, Value.str (Str.ofString "/claim/cut.py") 300] }) ::
(nat_lit 89, { cls := Value.type "function", data := Data.func { name := Str.ofString "is_first", qualname := Str.ofString "IpHeader.is_first", params := fP 7 4, body := FuncBody.stmts (fB 7 4), scope := fS 7 4, globals := 3, closure := [], defaults := Value.none, kwdefaults := Value.none, pyModule := Value.str (Str.ofString "thinstack.ip_header") 241, code := Value.ref 88 } }) ::
(nat_lit 90, { cls := Value.type "tuple", data := Data.seq #[] }) ::
(nat_lit 92, { cls := Value.type "tuple", data := Data.seq #[Value.str (Str.ofString "self") 305, Value.str (Str.ofString "more") 306, Value.str (Str.ofString "offset") 307, Value.str (Str.ofString "options") 308] }) ::
(nat_lit 93, { cls := Value.type "tuple", data := Data.seq #[] }) ::
(nat_lit 95, { cls := Value.type "code", data := Data.fields #[Value.str (Str.ofString "part") 302, Value.str (Str.ofString "IpHeader.part") 303, Value.str (Str.ofString "/claim/cut.py") 304, Value.int 37 0, Value.int 4 0, Value.int 0 0, Value.int 0 0, Value.int 3 0, Value.ref 90, Value.bool true, Value.int 181 0, Value.ref 91, Value.none, Value.ref 92, Value.ref 93, Value.ref 94, Value.int 309 0, Value.int 37 0, Value.str (Str.ofString "/claim/cut.py") 310] }) ::
(nat_lit 96, { cls := Value.type "function", data := Data.func { name := Str.ofString "part", qualname := Str.ofString "IpHeader.part", params := fP 7 5, body := FuncBody.stmts (fB 7 5), scope := fS 7 5, globals := 3, closure := [], defaults := Value.none, kwdefaults := Value.none, pyModule := Value.str (Str.ofString "thinstack.ip_header") 241, code := Value.ref 95 } }) ::
(nat_lit 97, { cls := Value.type "tuple", data := Data.seq #[] }) ::
(nat_lit 99, { cls := Value.type "tuple", data := Data.seq #[Value.str (Str.ofString "self") 315] }) ::
(nat_lit 100, { cls := Value.type "tuple", data := Data.seq #[] }) ::
(nat_lit 102, { cls := Value.type "code", data := Data.fields #[Value.str (Str.ofString "row") 312, Value.str (Str.ofString "IpHeader.row") 313, Value.str (Str.ofString "/claim/cut.py") 314, Value.int 40 0, Value.int 1 0, Value.int 0 0, Value.int 0 0, Value.int 3 0, Value.ref 97, Value.bool true, Value.int 181 0, Value.ref 98, Value.none, Value.ref 99, Value.ref 100, Value.ref 101, Value.int 316 0, Value.int 40 0, Value.str (Str.ofString "/claim/cut.py") 317] }) ::
(nat_lit 103, { cls := Value.type "function", data := Data.func { name := Str.ofString "row", qualname := Str.ofString "IpHeader.row", params := fP 7 6, body := FuncBody.stmts (fB 7 6), scope := fS 7 6, globals := 3, closure := [], defaults := Value.none, kwdefaults := Value.none, pyModule := Value.str (Str.ofString "thinstack.ip_header") 241, code := Value.ref 102 } }) ::
(nat_lit 104, { cls := Value.type "tuple", data := Data.seq #[Value.str (Str.ofString "dont") 319, Value.str (Str.ofString "ident") 320, Value.str (Str.ofString "more") 321, Value.str (Str.ofString "offset") 322, Value.str (Str.ofString "options") 323, Value.str (Str.ofString "protocol") 324, Value.str (Str.ofString "source") 325, Value.str (Str.ofString "target") 326, Value.str (Str.ofString "tos") 327, Value.str (Str.ofString "ttl") 328] }) ::
(nat_lit 105, { cls := Value.type "dict", data := Data.dict #[{ hash := PyData.keyHash P (Str.ofString "__module__"), key := Value.str (Str.ofString "__module__") 254, val := Value.str (Str.ofString "thinstack.ip_header") 241 }, { hash := PyData.keyHash P (Str.ofString "__firstlineno__"), key := Value.str (Str.ofString "__firstlineno__") 258, val := Value.int 14 257 }, { hash := PyData.keyHash P (Str.ofString "__init__"), key := Value.str (Str.ofString "__init__") 280, val := Value.ref 68 }, { hash := PyData.keyHash P (Str.ofString "size"), key := Value.str (Str.ofString "size") 287, val := Value.ref 75 }, { hash := PyData.keyHash P (Str.ofString "is_fragment"), key := Value.str (Str.ofString "is_fragment") 294, val := Value.ref 82 }, { hash := PyData.keyHash P (Str.ofString "is_first"), key := Value.str (Str.ofString "is_first") 301, val := Value.ref 89 }, { hash := PyData.keyHash P (Str.ofString "part"), key := Value.str (Str.ofString "part") 311, val := Value.ref 96 }, { hash := PyData.keyHash P (Str.ofString "row"), key := Value.str (Str.ofString "row") 318, val := Value.ref 103 }, { hash := PyData.keyHash P (Str.ofString "__static_attributes__"), key := Value.str (Str.ofString "__static_attributes__") 329, val := Value.ref 104 }, { hash := PyData.keyHash P (Str.ofString "__dict__"), key := Value.str (Str.ofString "__dict__") 331, val := Value.ref 107 }, { hash := PyData.keyHash P (Str.ofString "__weakref__"), key := Value.str (Str.ofString "__weakref__") 333, val := Value.ref 108 }, { hash := PyData.keyHash P (Str.ofString "__doc__"), key := Value.str (Str.ofString "__doc__") 334, val := Value.none }] 4 }) ::
(nat_lit 106, { cls := Value.type "type", data := Data.cls { name := Str.ofString "IpHeader", bases := [Value.type "object"], mro := [Value.ref 106, Value.type "object"], ns := 105, qualname := Str.ofString "IpHeader" }, slots := #[none, none, some (Value.str (Str.ofString "IpHeader") 247), some (Value.str (Str.ofString "IpHeader") 255), some (Value.builtin "object.__new__"), some (Value.bool true)] }) ::
(nat_lit 107, { cls := Value.type "getset_descriptor", data := Data.fields #[Value.str (Str.ofString "__dict__") 330, Value.ref 106, Value.builtin "function.__dict__", Value.builtin "function.__dict__#set"] }) ::
(nat_lit 108, { cls := Value.type "getset_descriptor", data := Data.fields #[Value.str (Str.ofString "__weakref__") 332, Value.ref 106, Value.builtin "ExceptionGroup.__weakref__", Value.none] }) ::
(nat_lit 111, { cls := Value.type "tuple", data := Data.seq #[] }) ::
(nat_lit 113, { cls := Value.type "tuple", data := Data.seq #[Value.str (Str.ofString "prefix") 350] }) ::
(nat_lit 114, { cls := Value.type "tuple", data := Data.seq #[] }) ::
(nat_lit 116, { cls := Value.type "code", data := Data.fields #[Value.str (Str.ofString "mask_of") 347, Value.str (Str.ofString "mask_of") 348, Value.str (Str.ofString "/claim/cut.py") 349, Value.int 45 0, Value.int 1 0, Value.int 0 0, Value.int 0 0, Value.int 3 0, Value.ref 111, Value.bool true, Value.int 181 0, Value.ref 112, Value.none, Value.ref 113, Value.ref 114, Value.ref 115, Value.int 351 0, Value.int 45 0, Value.str (Str.ofString "/claim/cut.py") 352] }) ::
(nat_lit 117, { cls := Value.type "function", data := Data.func { name := Str.ofString "mask_of", qualname := Str.ofString "mask_of", params := fP 11 0, body := FuncBody.stmts (fB 11 0), scope := fS 11 0, globals := 3, closure := [], defaults := Value.none, kwdefaults := Value.none, pyModule := Value.str (Str.ofString "thinstack.routes") 337, code := Value.ref 116 } }) ::
(nat_lit 118, { cls := Value.type "tuple", data := Data.seq #[] }) ::
(nat_lit 120, { cls := Value.type "tuple", data := Data.seq #[Value.str (Str.ofString "address") 357, Value.str (Str.ofString "prefix") 358] }) ::
(nat_lit 121, { cls := Value.type "tuple", data := Data.seq #[] }) ::
(nat_lit 123, { cls := Value.type "code", data := Data.fields #[Value.str (Str.ofString "net_of") 354, Value.str (Str.ofString "net_of") 355, Value.str (Str.ofString "/claim/cut.py") 356, Value.int 49 0, Value.int 2 0, Value.int 0 0, Value.int 0 0, Value.int 3 0, Value.ref 118, Value.bool true, Value.int 181 0, Value.ref 119, Value.none, Value.ref 120, Value.ref 121, Value.ref 122, Value.int 359 0, Value.int 49 0, Value.str (Str.ofString "/claim/cut.py") 360] }) ::
(nat_lit 124, { cls := Value.type "function", data := Data.func { name := Str.ofString "net_of", qualname := Str.ofString "net_of", params := fP 12 0, body := FuncBody.stmts (fB 12 0), scope := fS 12 0, globals := 3, closure := [], defaults := Value.none, kwdefaults := Value.none, pyModule := Value.str (Str.ofString "thinstack.routes") 337, code := Value.ref 123 } }) ::
(nat_lit 125, { cls := Value.type "tuple", data := Data.seq #[] }) ::
(nat_lit 127, { cls := Value.type "tuple", data := Data.seq #[Value.str (Str.ofString "address") 365] }) ::
(nat_lit 128, { cls := Value.type "tuple", data := Data.seq #[] }) ::
(nat_lit 130, { cls := Value.type "code", data := Data.fields #[Value.str (Str.ofString "is_loop") 362, Value.str (Str.ofString "is_loop") 363, Value.str (Str.ofString "/claim/cut.py") 364, Value.int 51 0, Value.int 1 0, Value.int 0 0, Value.int 0 0, Value.int 3 0, Value.ref 125, Value.bool true, Value.int 181 0, Value.ref 126, Value.none, Value.ref 127, Value.ref 128, Value.ref 129, Value.int 366 0, Value.int 51 0, Value.str (Str.ofString "/claim/cut.py") 367] }) ::
(nat_lit 131, { cls := Value.type "function", data := Data.func { name := Str.ofString "is_loop", qualname := Str.ofString "is_loop", params := fP 13 0, body := FuncBody.stmts (fB 13 0), scope := fS 13 0, globals := 3, closure := [], defaults := Value.none, kwdefaults := Value.none, pyModule := Value.str (Str.ofString "thinstack.routes") 337, code := Value.ref 130 } }) ::
(nat_lit 139, { cls := Value.type "tuple", data := Data.seq #[Value.int 0 381] }) ::
(nat_lit 140, { cls := Value.type "tuple", data := Data.seq #[] }) ::
(nat_lit 142, { cls := Value.type "tuple", data := Data.seq #[Value.str (Str.ofString "self") 385, Value.str (Str.ofString "net") 386, Value.str (Str.ofString "prefix") 387, Value.str (Str.ofString "gateway") 388, Value.str (Str.ofString "face") 389, Value.str (Str.ofString "metric") 390] }) ::
(nat_lit 143, { cls := Value.type "tuple", data := Data.seq #[] }) ::
(nat_lit 145, { cls := Value.type "code", data := Data.fields #[Value.str (Str.ofString "__init__") 382, Value.str (Str.ofString "Route.__init__") 383, Value.str (Str.ofString "/claim/cut.py") 384, Value.int 55 0, Value.int 6 0, Value.int 0 0, Value.int 0 0, Value.int 3 0, Value.ref 140, Value.bool true, Value.int 181 0, Value.ref 141, Value.none, Value.ref 142, Value.ref 143, Value.ref 144, Value.int 391 0, Value.int 55 0, Value.str (Str.ofString "/claim/cut.py") 392] }) ::
(nat_lit 146, { cls := Value.type "function", data := Data.func { name := Str.ofString "__init__", qualname := Str.ofString "Route.__init__", params := fP 14 1, body := FuncBody.stmts (fB 14 1), scope := fS 14 1, globals := 3, closure := [], defaults := Value.ref 139, kwdefaults := Value.none, pyModule := Value.str (Str.ofString "thinstack.routes") 337, code := Value.ref 145 } }) ::
(nat_lit 147, { cls := Value.type "tuple", data := Data.seq #[] }) ::
(nat_lit 149, { cls := Value.type "tuple", data := Data.seq #[Value.str (Str.ofString "self") 397, Value.str (Str.ofString "target") 398] }) ::
(nat_lit 150, { cls := Value.type "tuple", data := Data.seq #[] }) ::
(nat_lit 152, { cls := Value.type "code", data := Data.fields #[Value.str (Str.ofString "next_address") 394, Value.str (Str.ofString "Route.next_address") 395, Value.str (Str.ofString "/claim/cut.py") 396, Value.int 62 0, Value.int 2 0, Value.int 0 0, Value.int 0 0, Value.int 3 0, Value.ref 147, Value.bool true, Value.int 181 0, Value.ref 148, Value.none, Value.ref 149, Value.ref 150, Value.ref 151, Value.int 399 0, Value.int 62 0, Value.str (Str.ofString "/claim/cut.py") 400] }) ::
(nat_lit 153, { cls := Value.type "function", data := Data.func { name := Str.ofString "next_address", qualname := Str.ofString "Route.next_address", params := fP 14 2, body := FuncBody.stmts (fB 14 2), scope := fS 14 2, globals := 3, closure := [], defaults := Value.none, kwdefaults := Value.none, pyModule := Value.str (Str.ofString "thinstack.routes") 337, code := Value.ref 152 } }) ::
(nat_lit 154, { cls := Value.type "tuple", data := Data.seq #[] }) ::
(nat_lit 156, { cls := Value.type "tuple", data := Data.seq #[Value.str (Str.ofString "self") 405] }) ::
(nat_lit 157, { cls := Value.type "tuple", data := Data.seq #[] }) ::
(nat_lit 159, { cls := Value.type "code", data := Data.fields #[Value.str (Str.ofString "row") 402, Value.str (Str.ofString "Route.row") 403, Value.str (Str.ofString "/claim/cut.py") 404, Value.int 65 0, Value.int 1 0, Value.int 0 0, Value.int 0 0, Value.int 3 0, Value.ref 154, Value.bool true, Value.int 181 0, Value.ref 155, Value.none, Value.ref 156, Value.ref 157, Value.ref 158, Value.int 406 0, Value.int 65 0, Value.str (Str.ofString "/claim/cut.py") 407] }) ::
(nat_lit 160, { cls := Value.type "function", data := Data.func { name := Str.ofString "row", qualname := Str.ofString "Route.row", params := fP 14 3, body := FuncBody.stmts (fB 14 3), scope := fS 14 3, globals := 3, closure := [], defaults := Value.none, kwdefaults := Value.none, pyModule := Value.str (Str.ofString "thinstack.routes") 337, code := Value.ref 159 } }) ::
(nat_lit 161, { cls := Value.type "tuple", data := Data.seq #[Value.str (Str.ofString "face") 409, Value.str (Str.ofString "gateway") 410, Value.str (Str.ofString "metric") 411, Value.str (Str.ofString "net") 412, Value.str (Str.ofString "prefix") 413] }) ::
(nat_lit 162, { cls := Value.type "dict", data := Data.dict #[{ hash := PyData.keyHash P (Str.ofString "__module__"), key := Value.str (Str.ofString "__module__") 376, val := Value.str (Str.ofString "thinstack.routes") 337 }, { hash := PyData.keyHash P (Str.ofString "__firstlineno__"), key := Value.str (Str.ofString "__firstlineno__") 380, val := Value.int 53 379 }, { hash := PyData.keyHash P (Str.ofString "__init__"), key := Value.str (Str.ofString "__init__") 393, val := Value.ref 146 }, { hash := PyData.keyHash P (Str.ofString "next_address"), key := Value.str (Str.ofString "next_address") 401, val := Value.ref 153 }, { hash := PyData.keyHash P (Str.ofString "row"), key := Value.str (Str.ofString "row") 408, val := Value.ref 160 }, { hash := PyData.keyHash P (Str.ofString "__static_attributes__"), key := Value.str (Str.ofString "__static_attributes__") 414, val := Value.ref 161 }, { hash := PyData.keyHash P (Str.ofString "__dict__"), key := Value.str (Str.ofString "__dict__") 416, val := Value.ref 164 }, { hash := PyData.keyHash P (Str.ofString "__weakref__"), key := Value.str (Str.ofString "__weakref__") 418, val := Value.ref 165 }, { hash := PyData.keyHash P (Str.ofString "__doc__"), key := Value.str (Str.ofString "__doc__") 419, val := Value.none }] 4 }) ::
(nat_lit 163, { cls := Value.type "type", data := Data.cls { name := Str.ofString "Route", bases := [Value.type "object"], mro := [Value.ref 163, Value.type "object"], ns := 162, qualname := Str.ofString "Route" }, slots := #[none, none, some (Value.str (Str.ofString "Route") 369), some (Value.str (Str.ofString "Route") 377), some (Value.builtin "object.__new__"), some (Value.bool true)] }) ::
(nat_lit 164, { cls := Value.type "getset_descriptor", data := Data.fields #[Value.str (Str.ofString "__dict__") 415, Value.ref 163, Value.builtin "function.__dict__", Value.builtin "function.__dict__#set"] }) ::
(nat_lit 165, { cls := Value.type "getset_descriptor", data := Data.fields #[Value.str (Str.ofString "__weakref__") 417, Value.ref 163, Value.builtin "ExceptionGroup.__weakref__", Value.none] }) ::
(nat_lit 175, { cls := Value.type "tuple", data := Data.seq #[] }) ::
(nat_lit 177, { cls := Value.type "tuple", data := Data.seq #[Value.str (Str.ofString "self") 437] }) ::
(nat_lit 178, { cls := Value.type "tuple", data := Data.seq #[] }) ::
(nat_lit 180, { cls := Value.type "code", data := Data.fields #[Value.str (Str.ofString "__init__") 434, Value.str (Str.ofString "Branch.__init__") 435, Value.str (Str.ofString "/claim/cut.py") 436, Value.int 69 0, Value.int 1 0, Value.int 0 0, Value.int 0 0, Value.int 3 0, Value.ref 175, Value.bool true, Value.int 181 0, Value.ref 176, Value.none, Value.ref 177, Value.ref 178, Value.ref 179, Value.int 438 0, Value.int 69 0, Value.str (Str.ofString "/claim/cut.py") 439] }) ::
(nat_lit 181, { cls := Value.type "function", data := Data.func { name := Str.ofString "__init__", qualname := Str.ofString "Branch.__init__", params := fP 15 1, body := FuncBody.stmts (fB 15 1), scope := fS 15 1, globals := 3, closure := [], defaults := Value.none, kwdefaults := Value.none, pyModule := Value.str (Str.ofString "thinstack.routes") 337, code := Value.ref 180 } }) ::
(nat_lit 182, { cls := Value.type "tuple", data := Data.seq #[] }) ::
(nat_lit 184, { cls := Value.type "tuple", data := Data.seq #[Value.str (Str.ofString "self") 444, Value.str (Str.ofString "bit") 445] }) ::
(nat_lit 185, { cls := Value.type "tuple", data := Data.seq #[] }) ::
(nat_lit 187, { cls := Value.type "code", data := Data.fields #[Value.str (Str.ofString "child") 441, Value.str (Str.ofString "Branch.child") 442, Value.str (Str.ofString "/claim/cut.py") 443, Value.int 74 0, Value.int 2 0, Value.int 0 0, Value.int 0 0, Value.int 3 0, Value.ref 182, Value.bool true, Value.int 181 0, Value.ref 183, Value.none, Value.ref 184, Value.ref 185, Value.ref 186, Value.int 446 0, Value.int 74 0, Value.str (Str.ofString "/claim/cut.py") 447] }) ::
(nat_lit 188, { cls := Value.type "function", data := Data.func { name := Str.ofString "child", qualname := Str.ofString "Branch.child", params := fP 15 2, body := FuncBody.stmts (fB 15 2), scope := fS 15 2, globals := 3, closure := [], defaults := Value.none, kwdefaults := Value.none, pyModule := Value.str (Str.ofString "thinstack.routes") 337, code := Value.ref 187 } }) ::
(nat_lit 189, { cls := Value.type "tuple", data := Data.seq #[] }) ::
(nat_lit 191, { cls := Value.type "tuple", data := Data.seq #[Value.str (Str.ofString "self") 452, Value.str (Str.ofString "bit") 453, Value.str (Str.ofString "branch") 454] }) ::
(nat_lit 192, { cls := Value.type "tuple", data := Data.seq #[] }) ::
(nat_lit 194, { cls := Value.type "code", data := Data.fields #[Value.str (Str.ofString "set_child") 449, Value.str (Str.ofString "Branch.set_child") 450, Value.str (Str.ofString "/claim/cut.py") 451, Value.int 79 0, Value.int 3 0, Value.int 0 0, Value.int 0 0, Value.int 3 0, Value.ref 189, Value.bool true, Value.int 181 0, Value.ref 190, Value.none, Value.ref 191, Value.ref 192, Value.ref 193, Value.int 455 0, Value.int 79 0, Value.str (Str.ofString "/claim/cut.py") 456] }) ::
(nat_lit 195, { cls := Value.type "function", data := Data.func { name := Str.ofString "set_child", qualname := Str.ofString "Branch.set_child", params := fP 15 3, body := FuncBody.stmts (fB 15 3), scope := fS 15 3, globals := 3, closure := [], defaults := Value.none, kwdefaults := Value.none, pyModule := Value.str (Str.ofString "thinstack.routes") 337, code := Value.ref 194 } }) ::
(nat_lit 196, { cls := Value.type "tuple", data := Data.seq #[] }) ::
(nat_lit 198, { cls := Value.type "tuple", data := Data.seq #[Value.str (Str.ofString "self") 461] }) ::
(nat_lit 199, { cls := Value.type "tuple", data := Data.seq #[] }) ::
(nat_lit 201, { cls := Value.type "code", data := Data.fields #[Value.str (Str.ofString "is_bare") 458, Value.str (Str.ofString "Branch.is_bare") 459, Value.str (Str.ofString "/claim/cut.py") 460, Value.int 85 0, Value.int 1 0, Value.int 0 0, Value.int 0 0, Value.int 3 0, Value.ref 196, Value.bool true, Value.int 181 0, Value.ref 197, Value.none, Value.ref 198, Value.ref 199, Value.ref 200, Value.int 462 0, Value.int 85 0, Value.str (Str.ofString "/claim/cut.py") 463] }) ::
(nat_lit 202, { cls := Value.type "function", data := Data.func { name := Str.ofString "is_bare", qualname := Str.ofString "Branch.is_bare", params := fP 15 4, body := FuncBody.stmts (fB 15 4), scope := fS 15 4, globals := 3, closure := [], defaults := Value.none, kwdefaults := Value.none, pyModule := Value.str (Str.ofString "thinstack.routes") 337, code := Value.ref 201 } }) ::
(nat_lit 203, { cls := Value.type "tuple", data := Data.seq #[] }) ::
(nat_lit 205, { cls := Value.type "tuple", data := Data.seq #[Value.str (Str.ofString "self") 468, Value.str (Str.ofString "found") 469, Value.str (Str.ofString "route") 470] }) ::
(nat_lit 206, { cls := Value.type "tuple", data := Data.seq #[] }) ::
(nat_lit 208, { cls := Value.type "code", data := Data.fields #[Value.str (Str.ofString "best") 465, Value.str (Str.ofString "Branch.best") 466, Value.str (Str.ofString "/claim/cut.py") 467, Value.int 88 0, Value.int 1 0, Value.int 0 0, Value.int 0 0, Value.int 3 0, Value.ref 203, Value.bool true, Value.int 181 0, Value.ref 204, Value.none, Value.ref 205, Value.ref 206, Value.ref 207, Value.int 471 0, Value.int 88 0, Value.str (Str.ofString "/claim/cut.py") 472] }) ::
(nat_lit 209, { cls := Value.type "function", data := Data.func { name := Str.ofString "best", qualname := Str.ofString "Branch.best", params := fP 15 5, body := FuncBody.stmts (fB 15 5), scope := fS 15 5, globals := 3, closure := [], defaults := Value.none, kwdefaults := Value.none, pyModule := Value.str (Str.ofString "thinstack.routes") 337, code := Value.ref 208 } }) ::
(nat_lit 210, { cls := Value.type "tuple", data := Data.seq #[Value.str (Str.ofString "one") 474, Value.str (Str.ofString "routes") 475, Value.str (Str.ofString "zero") 476] }) ::
(nat_lit 211, { cls := Value.type "dict", data := Data.dict #[{ hash := PyData.keyHash P (Str.ofString "__module__"), key := Value.str (Str.ofString "__module__") 429, val := Value.str (Str.ofString "thinstack.routes") 337 }, { hash := PyData.keyHash P (Str.ofString "__firstlineno__"), key := Value.str (Str.ofString "__firstlineno__") 433, val := Value.int 67 432 }, { hash := PyData.keyHash P (Str.ofString "__init__"), key := Value.str (Str.ofString "__init__") 440, val := Value.ref 181 }, { hash := PyData.keyHash P (Str.ofString "child"), key := Value.str (Str.ofString "child") 448, val := Value.ref 188 }, { hash := PyData.keyHash P (Str.ofString "set_child"), key := Value.str (Str.ofString "set_child") 457, val := Value.ref 195 }, { hash := PyData.keyHash P (Str.ofString "is_bare"), key := Value.str (Str.ofString "is_bare") 464, val := Value.ref 202 }, { hash := PyData.keyHash P (Str.ofString "best"), key := Value.str (Str.ofString "best") 473, val := Value.ref 209 }, { hash := PyData.keyHash P (Str.ofString "__static_attributes__"), key := Value.str (Str.ofString "__static_attributes__") 477, val := Value.ref 210 }, { hash := PyData.keyHash P (Str.ofString "__dict__"), key := Value.str (Str.ofString "__dict__") 479, val := Value.ref 213 }, { hash := PyData.keyHash P (Str.ofString "__weakref__"), key := Value.str (Str.ofString "__weakref__") 481, val := Value.ref 214 }, { hash := PyData.keyHash P (Str.ofString "__doc__"), key := Value.str (Str.ofString "__doc__") 482, val := Value.none }] 4 }) ::
(nat_lit 212, { cls := Value.type "type", data := Data.cls { name := Str.ofString "Branch", bases := [Value.type "object"], mro := [Value.ref 212, Value.type "object"], ns := 211, qualname := Str.ofString "Branch" }, slots := #[none, none, some (Value.str (Str.ofString "Branch") 422), some (Value.str (Str.ofString "Branch") 430), some (Value.builtin "object.__new__"), some (Value.bool true)] }) ::
(nat_lit 213, { cls := Value.type "getset_descriptor", data := Data.fields #[Value.str (Str.ofString "__dict__") 478, Value.ref 212, Value.builtin "function.__dict__", Value.builtin "function.__dict__#set"] }) ::
(nat_lit 214, { cls := Value.type "getset_descriptor", data := Data.fields #[Value.str (Str.ofString "__weakref__") 480, Value.ref 212, Value.builtin "ExceptionGroup.__weakref__", Value.none] }) ::
(nat_lit 217, { cls := Value.type "tuple", data := Data.seq #[] }) ::
(nat_lit 219, { cls := Value.type "tuple", data := Data.seq #[Value.str (Str.ofString "address") 488, Value.str (Str.ofString "place") 489] }) ::
(nat_lit 220, { cls := Value.type "tuple", data := Data.seq #[] }) ::
(nat_lit 222, { cls := Value.type "code", data := Data.fields #[Value.str (Str.ofString "bit_at") 485, Value.str (Str.ofString "bit_at") 486, Value.str (Str.ofString "/claim/cut.py") 487, Value.int 94 0, Value.int 2 0, Value.int 0 0, Value.int 0 0, Value.int 3 0, Value.ref 217, Value.bool true, Value.int 181 0, Value.ref 218, Value.none, Value.ref 219, Value.ref 220, Value.ref 221, Value.int 490 0, Value.int 94 0, Value.str (Str.ofString "/claim/cut.py") 491] }) ::
(nat_lit 223, { cls := Value.type "function", data := Data.func { name := Str.ofString "bit_at", qualname := Str.ofString "bit_at", params := fP 16 0, body := FuncBody.stmts (fB 16 0), scope := fS 16 0, globals := 3, closure := [], defaults := Value.none, kwdefaults := Value.none, pyModule := Value.str (Str.ofString "thinstack.routes") 337, code := Value.ref 222 } }) ::
(nat_lit 231, { cls := Value.type "tuple", data := Data.seq #[] }) ::
(nat_lit 233, { cls := Value.type "tuple", data := Data.seq #[Value.str (Str.ofString "self") 508] }) ::
(nat_lit 234, { cls := Value.type "tuple", data := Data.seq #[] }) ::
(nat_lit 236, { cls := Value.type "code", data := Data.fields #[Value.str (Str.ofString "__init__") 505, Value.str (Str.ofString "Routes.__init__") 506, Value.str (Str.ofString "/claim/cut.py") 507, Value.int 98 0, Value.int 1 0, Value.int 0 0, Value.int 0 0, Value.int 3 0, Value.ref 231, Value.bool true, Value.int 181 0, Value.ref 232, Value.none, Value.ref 233, Value.ref 234, Value.ref 235, Value.int 509 0, Value.int 98 0, Value.str (Str.ofString "/claim/cut.py") 510] }) ::
(nat_lit 237, { cls := Value.type "function", data := Data.func { name := Str.ofString "__init__", qualname := Str.ofString "Routes.__init__", params := fP 17 1, body := FuncBody.stmts (fB 17 1), scope := fS 17 1, globals := 3, closure := [], defaults := Value.none, kwdefaults := Value.none, pyModule := Value.str (Str.ofString "thinstack.routes") 337, code := Value.ref 236 } }) ::
(nat_lit 238, { cls := Value.type "tuple", data := Data.seq #[] }) ::
(nat_lit 240, { cls := Value.type "tuple", data := Data.seq #[Value.str (Str.ofString "self") 515] }) ::
(nat_lit 241, { cls := Value.type "tuple", data := Data.seq #[] }) ::
(nat_lit 243, { cls := Value.type "code", data := Data.fields #[Value.str (Str.ofString "size") 512, Value.str (Str.ofString "Routes.size") 513, Value.str (Str.ofString "/claim/cut.py") 514, Value.int 102 0, Value.int 1 0, Value.int 0 0, Value.int 0 0, Value.int 3 0, Value.ref 238, Value.bool true, Value.int 181 0, Value.ref 239, Value.none, Value.ref 240, Value.ref 241, Value.ref 242, Value.int 516 0, Value.int 102 0, Value.str (Str.ofString "/claim/cut.py") 517] }) ::
(nat_lit 244, { cls := Value.type "function", data := Data.func { name := Str.ofString "size", qualname := Str.ofString "Routes.size", params := fP 17 2, body := FuncBody.stmts (fB 17 2), scope := fS 17 2, globals := 3, closure := [], defaults := Value.none, kwdefaults := Value.none, pyModule := Value.str (Str.ofString "thinstack.routes") 337, code := Value.ref 243 } }) ::
(nat_lit 245, { cls := Value.type "tuple", data := Data.seq #[] }) ::
(nat_lit 247, { cls := Value.type "tuple", data := Data.seq #[Value.str (Str.ofString "self") 522, Value.str (Str.ofString "net") 523, Value.str (Str.ofString "prefix") 524, Value.str (Str.ofString "makes") 525, Value.str (Str.ofString "found") 526, Value.str (Str.ofString "place") 527, Value.str (Str.ofString "bit") 528, Value.str (Str.ofString "later") 529] }) ::
(nat_lit 248, { cls := Value.type "tuple", data := Data.seq #[] }) ::
(nat_lit 250, { cls := Value.type "code", data := Data.fields #[Value.str (Str.ofString "path") 519, Value.str (Str.ofString "Routes.path") 520, Value.str (Str.ofString "/claim/cut.py") 521, Value.int 105 0, Value.int 4 0, Value.int 0 0, Value.int 0 0, Value.int 3 0, Value.ref 245, Value.bool true, Value.int 181 0, Value.ref 246, Value.none, Value.ref 247, Value.ref 248, Value.ref 249, Value.int 530 0, Value.int 105 0, Value.str (Str.ofString "/claim/cut.py") 531] }) ::
(nat_lit 251, { cls := Value.type "function", data := Data.func { name := Str.ofString "path", qualname := Str.ofString "Routes.path", params := fP 17 3, body := FuncBody.stmts (fB 17 3), scope := fS 17 3, globals := 3, closure := [], defaults := Value.none, kwdefaults := Value.none, pyModule := Value.str (Str.ofString "thinstack.routes") 337, code := Value.ref 250 } }) ::
(nat_lit 252, { cls := Value.type "tuple", data := Data.seq #[] }) ::
(nat_lit 254, { cls := Value.type "tuple", data := Data.seq #[Value.str (Str.ofString "self") 536, Value.str (Str.ofString "route") 537, Value.str (Str.ofString "net") 538, Value.str (Str.ofString "branch") 539, Value.str (Str.ofString "at") 540, Value.str (Str.ofString "other") 541] }) ::
(nat_lit 255, { cls := Value.type "tuple", data := Data.seq #[] }) ::
(nat_lit 257, { cls := Value.type "code", data := Data.fields #[Value.str (Str.ofString "add") 533, Value.str (Str.ofString "Routes.add") 534, Value.str (Str.ofString "/claim/cut.py") 535, Value.int 118 0, Value.int 2 0, Value.int 0 0, Value.int 0 0, Value.int 3 0, Value.ref 252, Value.bool true, Value.int 181 0, Value.ref 253, Value.none, Value.ref 254, Value.ref 255, Value.ref 256, Value.int 542 0, Value.int 118 0, Value.str (Str.ofString "/claim/cut.py") 543] }) ::
(nat_lit 258, { cls := Value.type "function", data := Data.func { name := Str.ofString "add", qualname := Str.ofString "Routes.add", params := fP 17 4, body := FuncBody.stmts (fB 17 4), scope := fS 17 4, globals := 3, closure := [], defaults := Value.none, kwdefaults := Value.none, pyModule := Value.str (Str.ofString "thinstack.routes") 337, code := Value.ref 257 } }) ::
(nat_lit 259, { cls := Value.type "tuple", data := Data.seq #[] }) ::
(nat_lit 261, { cls := Value.type "tuple", data := Data.seq #[Value.str (Str.ofString "self") 548, Value.str (Str.ofString "net") 549, Value.str (Str.ofString "prefix") 550] }) ::
(nat_lit 262, { cls := Value.type "tuple", data := Data.seq #[] }) ::
(nat_lit 264, { cls := Value.type "code", data := Data.fields #[Value.str (Str.ofString "remove") 545, Value.str (Str.ofString "Routes.remove") 546, Value.str (Str.ofString "/claim/cut.py") 547, Value.int 133 0, Value.int 3 0, Value.int 0 0, Value.int 0 0, Value.int 3 0, Value.ref 259, Value.bool true, Value.int 181 0, Value.ref 260, Value.none, Value.ref 261, Value.ref 262, Value.ref 263, Value.int 551 0, Value.int 133 0, Value.str (Str.ofString "/claim/cut.py") 552] }) ::
(nat_lit 265, { cls := Value.type "function", data := Data.func { name := Str.ofString "remove", qualname := Str.ofString "Routes.remove", params := fP 17 5, body := FuncBody.stmts (fB 17 5), scope := fS 17 5, globals := 3, closure := [], defaults := Value.none, kwdefaults := Value.none, pyModule := Value.str (Str.ofString "thinstack.routes") 337, code := Value.ref 264 } }) ::
(nat_lit 266, { cls := Value.type "tuple", data := Data.seq #[] }) ::
(nat_lit 268, { cls := Value.type "tuple", data := Data.seq #[Value.str (Str.ofString "self") 557, Value.str (Str.ofString "face") 558] }) ::
(nat_lit 269, { cls := Value.type "tuple", data := Data.seq #[] }) ::
(nat_lit 271, { cls := Value.type "code", data := Data.fields #[Value.str (Str.ofString "remove_face") 554, Value.str (Str.ofString "Routes.remove_face") 555, Value.str (Str.ofString "/claim/cut.py") 556, Value.int 136 0, Value.int 2 0, Value.int 0 0, Value.int 0 0, Value.int 3 0, Value.ref 266, Value.bool true, Value.int 181 0, Value.ref 267, Value.none, Value.ref 268, Value.ref 269, Value.ref 270, Value.int 559 0, Value.int 136 0, Value.str (Str.ofString "/claim/cut.py") 560] }) ::
(nat_lit 272, { cls := Value.type "function", data := Data.func { name := Str.ofString "remove_face", qualname := Str.ofString "Routes.remove_face", params := fP 17 6, body := FuncBody.stmts (fB 17 6), scope := fS 17 6, globals := 3, closure := [], defaults := Value.none, kwdefaults := Value.none, pyModule := Value.str (Str.ofString "thinstack.routes") 337, code := Value.ref 271 } }) ::
(nat_lit 273, { cls := Value.type "tuple", data := Data.seq #[] }) ::
(nat_lit 275, { cls := Value.type "tuple", data := Data.seq #[Value.str (Str.ofString "self") 565, Value.str (Str.ofString "net") 566, Value.str (Str.ofString "path") 567] }) ::
(nat_lit 276, { cls := Value.type "tuple", data := Data.seq #[] }) ::
(nat_lit 278, { cls := Value.type "code", data := Data.fields #[Value.str (Str.ofString "prune") 562, Value.str (Str.ofString "Routes.prune") 563, Value.str (Str.ofString "/claim/cut.py") 564, Value.int 139 0, Value.int 3 0, Value.int 0 0, Value.int 0 0, Value.int 3 0, Value.ref 273, Value.bool true, Value.int 181 0, Value.ref 274, Value.none, Value.ref 275, Value.ref 276, Value.ref 277, Value.int 568 0, Value.int 139 0, Value.str (Str.ofString "/claim/cut.py") 569] }) ::
(nat_lit 279, { cls := Value.type "function", data := Data.func { name := Str.ofString "prune", qualname := Str.ofString "Routes.prune", params := fP 17 7, body := FuncBody.stmts (fB 17 7), scope := fS 17 7, globals := 3, closure := [], defaults := Value.none, kwdefaults := Value.none, pyModule := Value.str (Str.ofString "thinstack.routes") 337, code := Value.ref 278 } }) ::
(nat_lit 280, { cls := Value.type "tuple", data := Data.seq #[] }) ::
(nat_lit 282, { cls := Value.type "tuple", data := Data.seq #[Value.str (Str.ofString "self") 574, Value.str (Str.ofString "address") 575, Value.str (Str.ofString "branch") 576, Value.str (Str.ofString "found") 577, Value.str (Str.ofString "place") 578] }) ::
(nat_lit 283, { cls := Value.type "tuple", data := Data.seq #[] }) ::
(nat_lit 285, { cls := Value.type "code", data := Data.fields #[Value.str (Str.ofString "find") 571, Value.str (Str.ofString "Routes.find") 572, Value.str (Str.ofString "/claim/cut.py") 573, Value.int 142 0, Value.int 2 0, Value.int 0 0, Value.int 0 0, Value.int 3 0, Value.ref 280, Value.bool true, Value.int 181 0, Value.ref 281, Value.none, Value.ref 282, Value.ref 283, Value.ref 284, Value.int 579 0, Value.int 142 0, Value.str (Str.ofString "/claim/cut.py") 580] }) ::
(nat_lit 286, { cls := Value.type "function", data := Data.func { name := Str.ofString "find", qualname := Str.ofString "Routes.find", params := fP 17 8, body := FuncBody.stmts (fB 17 8), scope := fS 17 8, globals := 3, closure := [], defaults := Value.none, kwdefaults := Value.none, pyModule := Value.str (Str.ofString "thinstack.routes") 337, code := Value.ref 285 } }) ::
(nat_lit 287, { cls := Value.type "tuple", data := Data.seq #[] }) ::
(nat_lit 289, { cls := Value.type "tuple", data := Data.seq #[Value.str (Str.ofString "self") 585, Value.str (Str.ofString "found") 586, Value.str (Str.ofString "left") 587, Value.str (Str.ofString "branch") 588] }) ::
(nat_lit 290, { cls := Value.type "tuple", data := Data.seq #[] }) ::
(nat_lit 292, { cls := Value.type "code", data := Data.fields #[Value.str (Str.ofString "rows") 582, Value.str (Str.ofString "Routes.rows") 583, Value.str (Str.ofString "/claim/cut.py") 584, Value.int 153 0, Value.int 1 0, Value.int 0 0, Value.int 0 0, Value.int 3 0, Value.ref 287, Value.bool true, Value.int 181 0, Value.ref 288, Value.none, Value.ref 289, Value.ref 290, Value.ref 291, Value.int 589 0, Value.int 153 0, Value.str (Str.ofString "/claim/cut.py") 590] }) ::
(nat_lit 293, { cls := Value.type "function", data := Data.func { name := Str.ofString "rows", qualname := Str.ofString "Routes.rows", params := fP 17 9, body := FuncBody.stmts (fB 17 9), scope := fS 17 9, globals := 3, closure := [], defaults := Value.none, kwdefaults := Value.none, pyModule := Value.str (Str.ofString "thinstack.routes") 337, code := Value.ref 292 } }) ::
(nat_lit 294, { cls := Value.type "tuple", data := Data.seq #[Value.str (Str.ofString "many") 592, Value.str (Str.ofString "root") 593] }) ::
(nat_lit 295, { cls := Value.type "dict", data := Data.dict #[{ hash := PyData.keyHash P (Str.ofString "__module__"), key := Value.str (Str.ofString "__module__") 500, val := Value.str (Str.ofString "thinstack.routes") 337 }, { hash := PyData.keyHash P (Str.ofString "__firstlineno__"), key := Value.str (Str.ofString "__firstlineno__") 504, val := Value.int 96 503 }, { hash := PyData.keyHash P (Str.ofString "__init__"), key := Value.str (Str.ofString "__init__") 511, val := Value.ref 237 }, { hash := PyData.keyHash P (Str.ofString "size"), key := Value.str (Str.ofString "size") 518, val := Value.ref 244 }, { hash := PyData.keyHash P (Str.ofString "path"), key := Value.str (Str.ofString "path") 532, val := Value.ref 251 }, { hash := PyData.keyHash P (Str.ofString "add"), key := Value.str (Str.ofString "add") 544, val := Value.ref 258 }, { hash := PyData.keyHash P (Str.ofString "remove"), key := Value.str (Str.ofString "remove") 553, val := Value.ref 265 }, { hash := PyData.keyHash P (Str.ofString "remove_face"), key := Value.str (Str.ofString "remove_face") 561, val := Value.ref 272 }, { hash := PyData.keyHash P (Str.ofString "prune"), key := Value.str (Str.ofString "prune") 570, val := Value.ref 279 }, { hash := PyData.keyHash P (Str.ofString "find"), key := Value.str (Str.ofString "find") 581, val := Value.ref 286 }, { hash := PyData.keyHash P (Str.ofString "rows"), key := Value.str (Str.ofString "rows") 591, val := Value.ref 293 }, { hash := PyData.keyHash P (Str.ofString "__static_attributes__"), key := Value.str (Str.ofString "__static_attributes__") 594, val := Value.ref 294 }, { hash := PyData.keyHash P (Str.ofString "__dict__"), key := Value.str (Str.ofString "__dict__") 596, val := Value.ref 297 }, { hash := PyData.keyHash P (Str.ofString "__weakref__"), key := Value.str (Str.ofString "__weakref__") 598, val := Value.ref 298 }, { hash := PyData.keyHash P (Str.ofString "__doc__"), key := Value.str (Str.ofString "__doc__") 599, val := Value.none }] 4 }) ::
(nat_lit 296, { cls := Value.type "type", data := Data.cls { name := Str.ofString "Routes", bases := [Value.type "object"], mro := [Value.ref 296, Value.type "object"], ns := 295, qualname := Str.ofString "Routes" }, slots := #[none, none, some (Value.str (Str.ofString "Routes") 493), some (Value.str (Str.ofString "Routes") 501), some (Value.builtin "object.__new__"), some (Value.bool true)] }) ::
(nat_lit 297, { cls := Value.type "getset_descriptor", data := Data.fields #[Value.str (Str.ofString "__dict__") 595, Value.ref 296, Value.builtin "function.__dict__", Value.builtin "function.__dict__#set"] }) ::
(nat_lit 298, { cls := Value.type "getset_descriptor", data := Data.fields #[Value.str (Str.ofString "__weakref__") 597, Value.ref 296, Value.builtin "ExceptionGroup.__weakref__", Value.none] }) ::
(nat_lit 308, { cls := Value.type "tuple", data := Data.seq #[] }) ::
(nat_lit 310, { cls := Value.type "tuple", data := Data.seq #[Value.str (Str.ofString "self") 619, Value.str (Str.ofString "address") 620, Value.str (Str.ofString "prefix") 621, Value.str (Str.ofString "mtu") 622] }) ::
(nat_lit 311, { cls := Value.type "tuple", data := Data.seq #[] }) ::
(nat_lit 313, { cls := Value.type "code", data := Data.fields #[Value.str (Str.ofString "__init__") 616, Value.str (Str.ofString "FaceRow.__init__") 617, Value.str (Str.ofString "/claim/cut.py") 618, Value.int 167 0, Value.int 4 0, Value.int 0 0, Value.int 0 0, Value.int 3 0, Value.ref 308, Value.bool true, Value.int 181 0, Value.ref 309, Value.none, Value.ref 310, Value.ref 311, Value.ref 312, Value.int 623 0, Value.int 167 0, Value.str (Str.ofString "/claim/cut.py") 624] }) ::
(nat_lit 314, { cls := Value.type "function", data := Data.func { name := Str.ofString "__init__", qualname := Str.ofString "FaceRow.__init__", params := fP 19 1, body := FuncBody.stmts (fB 19 1), scope := fS 19 1, globals := 3, closure := [], defaults := Value.none, kwdefaults := Value.none, pyModule := Value.str (Str.ofString "thinstack.ip_layer") 602, code := Value.ref 313 } }) ::
(nat_lit 315, { cls := Value.type "tuple", data := Data.seq #[Value.str (Str.ofString "address") 626, Value.str (Str.ofString "mtu") 627, Value.str (Str.ofString "prefix") 628] }) ::
(nat_lit 316, { cls := Value.type "dict", data := Data.dict #[{ hash := PyData.keyHash P (Str.ofString "__module__"), key := Value.str (Str.ofString "__module__") 611, val := Value.str (Str.ofString "thinstack.ip_layer") 602 }, { hash := PyData.keyHash P (Str.ofString "__firstlineno__"), key := Value.str (Str.ofString "__firstlineno__") 615, val := Value.int 165 614 }, { hash := PyData.keyHash P (Str.ofString "__init__"), key := Value.str (Str.ofString "__init__") 625, val := Value.ref 314 }, { hash := PyData.keyHash P (Str.ofString "__static_attributes__"), key := Value.str (Str.ofString "__static_attributes__") 629, val := Value.ref 315 }, { hash := PyData.keyHash P (Str.ofString "__dict__"), key := Value.str (Str.ofString "__dict__") 631, val := Value.ref 318 }, { hash := PyData.keyHash P (Str.ofString "__weakref__"), key := Value.str (Str.ofString "__weakref__") 633, val := Value.ref 319 }, { hash := PyData.keyHash P (Str.ofString "__doc__"), key := Value.str (Str.ofString "__doc__") 634, val := Value.none }] 4 }) ::
(nat_lit 317, { cls := Value.type "type", data := Data.cls { name := Str.ofString "FaceRow", bases := [Value.type "object"], mro := [Value.ref 317, Value.type "object"], ns := 316, qualname := Str.ofString "FaceRow" }, slots := #[none, none, some (Value.str (Str.ofString "FaceRow") 604), some (Value.str (Str.ofString "FaceRow") 612), some (Value.builtin "object.__new__"), some (Value.bool true)] }) ::
(nat_lit 318, { cls := Value.type "getset_descriptor", data := Data.fields #[Value.str (Str.ofString "__dict__") 630, Value.ref 317, Value.builtin "function.__dict__", Value.builtin "function.__dict__#set"] }) ::
(nat_lit 319, { cls := Value.type "getset_descriptor", data := Data.fields #[Value.str (Str.ofString "__weakref__") 632, Value.ref 317, Value.builtin "ExceptionGroup.__weakref__", Value.none] }) ::
(nat_lit 329, { cls := Value.type "tuple", data := Data.seq #[Value.bool false] }) ::
(nat_lit 330, { cls := Value.type "tuple", data := Data.seq #[] }) ::
(nat_lit 332, { cls := Value.type "tuple", data := Data.seq #[Value.str (Str.ofString "self") 652, Value.str (Str.ofString "faces") 653, Value.str (Str.ofString "routes") 654, Value.str (Str.ofString "reassembly") 655, Value.str (Str.ofString "forwards") 656] }) ::
(nat_lit 333, { cls := Value.type "tuple", data := Data.seq #[] }) ::
(nat_lit 335, { cls := Value.type "code", data := Data.fields #[Value.str (Str.ofString "__init__") 649, Value.str (Str.ofString "IpLayer.__init__") 650, Value.str (Str.ofString "/claim/cut.py") 651, Value.int 173 0, Value.int 5 0, Value.int 0 0, Value.int 0 0, Value.int 3 0, Value.ref 330, Value.bool true, Value.int 181 0, Value.ref 331, Value.none, Value.ref 332, Value.ref 333, Value.ref 334, Value.int 657 0, Value.int 173 0, Value.str (Str.ofString "/claim/cut.py") 658] }) ::
(nat_lit 336, { cls := Value.type "function", data := Data.func { name := Str.ofString "__init__", qualname := Str.ofString "IpLayer.__init__", params := fP 20 1, body := FuncBody.stmts (fB 20 1), scope := fS 20 1, globals := 3, closure := [], defaults := Value.ref 329, kwdefaults := Value.none, pyModule := Value.str (Str.ofString "thinstack.ip_layer") 602, code := Value.ref 335 } }) ::
(nat_lit 337, { cls := Value.type "tuple", data := Data.seq #[] }) ::
(nat_lit 339, { cls := Value.type "tuple", data := Data.seq #[Value.str (Str.ofString "self") 663] }) ::
(nat_lit 340, { cls := Value.type "tuple", data := Data.seq #[] }) ::
(nat_lit 342, { cls := Value.type "code", data := Data.fields #[Value.str (Str.ofString "next_ident") 660, Value.str (Str.ofString "IpLayer.next_ident") 661, Value.str (Str.ofString "/claim/cut.py") 662, Value.int 180 0, Value.int 1 0, Value.int 0 0, Value.int 0 0, Value.int 3 0, Value.ref 337, Value.bool true, Value.int 181 0, Value.ref 338, Value.none, Value.ref 339, Value.ref 340, Value.ref 341, Value.int 664 0, Value.int 180 0, Value.str (Str.ofString "/claim/cut.py") 665] }) ::
(nat_lit 343, { cls := Value.type "function", data := Data.func { name := Str.ofString "next_ident", qualname := Str.ofString "IpLayer.next_ident", params := fP 20 2, body := FuncBody.stmts (fB 20 2), scope := fS 20 2, globals := 3, closure := [], defaults := Value.none, kwdefaults := Value.none, pyModule := Value.str (Str.ofString "thinstack.ip_layer") 602, code := Value.ref 342 } }) ::
(nat_lit 344, { cls := Value.type "tuple", data := Data.seq #[] }) ::
(nat_lit 346, { cls := Value.type "tuple", data := Data.seq #[Value.str (Str.ofString "self") 670, Value.str (Str.ofString "address") 671] }) ::
(nat_lit 347, { cls := Value.type "tuple", data := Data.seq #[] }) ::
(nat_lit 349, { cls := Value.type "code", data := Data.fields #[Value.str (Str.ofString "is_own") 667, Value.str (Str.ofString "IpLayer.is_own") 668, Value.str (Str.ofString "/claim/cut.py") 669, Value.int 183 0, Value.int 2 0, Value.int 0 0, Value.int 0 0, Value.int 3 0, Value.ref 344, Value.bool true, Value.int 181 0, Value.ref 345, Value.none, Value.ref 346, Value.ref 347, Value.ref 348, Value.int 672 0, Value.int 183 0, Value.str (Str.ofString "/claim/cut.py") 673] }) ::
(nat_lit 350, { cls := Value.type "function", data := Data.func { name := Str.ofString "is_own", qualname := Str.ofString "IpLayer.is_own", params := fP 20 3, body := FuncBody.stmts (fB 20 3), scope := fS 20 3, globals := 3, closure := [], defaults := Value.none, kwdefaults := Value.none, pyModule := Value.str (Str.ofString "thinstack.ip_layer") 602, code := Value.ref 349 } }) ::
(nat_lit 351, { cls := Value.type "tuple", data := Data.seq #[] }) ::
(nat_lit 353, { cls := Value.type "tuple", data := Data.seq #[Value.str (Str.ofString "self") 678, Value.str (Str.ofString "address") 679, Value.str (Str.ofString "face") 680] }) ::
(nat_lit 354, { cls := Value.type "tuple", data := Data.seq #[] }) ::
(nat_lit 356, { cls := Value.type "code", data := Data.fields #[Value.str (Str.ofString "is_told_to_all") 675, Value.str (Str.ofString "IpLayer.is_told_to_all") 676, Value.str (Str.ofString "/claim/cut.py") 677, Value.int 186 0, Value.int 3 0, Value.int 0 0, Value.int 0 0, Value.int 3 0, Value.ref 351, Value.bool true, Value.int 181 0, Value.ref 352, Value.none, Value.ref 353, Value.ref 354, Value.ref 355, Value.int 681 0, Value.int 186 0, Value.str (Str.ofString "/claim/cut.py") 682] }) ::
(nat_lit 357, { cls := Value.type "function", data := Data.func { name := Str.ofString "is_told_to_all", qualname := Str.ofString "IpLayer.is_told_to_all", params := fP 20 4, body := FuncBody.stmts (fB 20 4), scope := fS 20 4, globals := 3, closure := [], defaults := Value.none, kwdefaults := Value.none, pyModule := Value.str (Str.ofString "thinstack.ip_layer") 602, code := Value.ref 356 } }) ::
(nat_lit 358, { cls := Value.type "tuple", data := Data.seq #[] }) ::
(nat_lit 360, { cls := Value.type "tuple", data := Data.seq #[Value.str (Str.ofString "self") 687, Value.str (Str.ofString "address") 688] }) ::
(nat_lit 361, { cls := Value.type "tuple", data := Data.seq #[] }) ::
(nat_lit 363, { cls := Value.type "code", data := Data.fields #[Value.str (Str.ofString "is_for_all") 684, Value.str (Str.ofString "IpLayer.is_for_all") 685, Value.str (Str.ofString "/claim/cut.py") 686, Value.int 189 0, Value.int 2 0, Value.int 0 0, Value.int 0 0, Value.int 3 0, Value.ref 358, Value.bool true, Value.int 181 0, Value.ref 359, Value.none, Value.ref 360, Value.ref 361, Value.ref 362, Value.int 689 0, Value.int 189 0, Value.str (Str.ofString "/claim/cut.py") 690] }) ::
(nat_lit 364, { cls := Value.type "function", data := Data.func { name := Str.ofString "is_for_all", qualname := Str.ofString "IpLayer.is_for_all", params := fP 20 5, body := FuncBody.stmts (fB 20 5), scope := fS 20 5, globals := 3, closure := [], defaults := Value.none, kwdefaults := Value.none, pyModule := Value.str (Str.ofString "thinstack.ip_layer") 602, code := Value.ref 363 } }) ::
(nat_lit 365, { cls := Value.type "tuple", data := Data.seq #[] }) ::
(nat_lit 367, { cls := Value.type "tuple", data := Data.seq #[Value.str (Str.ofString "self") 695, Value.str (Str.ofString "address") 696] }) ::
(nat_lit 368, { cls := Value.type "tuple", data := Data.seq #[] }) ::
(nat_lit 370, { cls := Value.type "code", data := Data.fields #[Value.str (Str.ofString "may_send") 692, Value.str (Str.ofString "IpLayer.may_send") 693, Value.str (Str.ofString "/claim/cut.py") 694, Value.int 192 0, Value.int 2 0, Value.int 0 0, Value.int 0 0, Value.int 3 0, Value.ref 365, Value.bool true, Value.int 181 0, Value.ref 366, Value.none, Value.ref 367, Value.ref 368, Value.ref 369, Value.int 697 0, Value.int 192 0, Value.str (Str.ofString "/claim/cut.py") 698] }) ::
(nat_lit 371, { cls := Value.type "function", data := Data.func { name := Str.ofString "may_send", qualname := Str.ofString "IpLayer.may_send", params := fP 20 6, body := FuncBody.stmts (fB 20 6), scope := fS 20 6, globals := 3, closure := [], defaults := Value.none, kwdefaults := Value.none, pyModule := Value.str (Str.ofString "thinstack.ip_layer") 602, code := Value.ref 370 } }) ::
(nat_lit 372, { cls := Value.type "tuple", data := Data.seq #[] }) ::
(nat_lit 374, { cls := Value.type "tuple", data := Data.seq #[Value.str (Str.ofString "self") 703, Value.str (Str.ofString "octets") 704, Value.str (Str.ofString "face") 705, Value.str (Str.ofString "now") 706] }) ::
(nat_lit 375, { cls := Value.type "tuple", data := Data.seq #[] }) ::
(nat_lit 377, { cls := Value.type "code", data := Data.fields #[Value.str (Str.ofString "input") 700, Value.str (Str.ofString "IpLayer.input") 701, Value.str (Str.ofString "/claim/cut.py") 702, Value.int 195 0, Value.int 4 0, Value.int 0 0, Value.int 0 0, Value.int 3 0, Value.ref 372, Value.bool true, Value.int 181 0, Value.ref 373, Value.none, Value.ref 374, Value.ref 375, Value.ref 376, Value.int 707 0, Value.int 195 0, Value.str (Str.ofString "/claim/cut.py") 708] }) ::
(nat_lit 378, { cls := Value.type "function", data := Data.func { name := Str.ofString "input", qualname := Str.ofString "IpLayer.input", params := fP 20 7, body := FuncBody.stmts (fB 20 7), scope := fS 20 7, globals := 3, closure := [], defaults := Value.none, kwdefaults := Value.none, pyModule := Value.str (Str.ofString "thinstack.ip_layer") 602, code := Value.ref 377 } }) ::
(nat_lit 379, { cls := Value.type "tuple", data := Data.seq #[] }) ::
(nat_lit 381, { cls := Value.type "tuple", data := Data.seq #[Value.str (Str.ofString "self") 713, Value.str (Str.ofString "header") 714, Value.str (Str.ofString "payload") 715, Value.str (Str.ofString "to_all") 716, Value.str (Str.ofString "now") 717] }) ::
(nat_lit 382, { cls := Value.type "tuple", data := Data.seq #[] }) ::
(nat_lit 384, { cls := Value.type "code", data := Data.fields #[Value.str (Str.ofString "deliver") 710, Value.str (Str.ofString "IpLayer.deliver") 711, Value.str (Str.ofString "/claim/cut.py") 712, Value.int 198 0, Value.int 5 0, Value.int 0 0, Value.int 0 0, Value.int 3 0, Value.ref 379, Value.bool true, Value.int 181 0, Value.ref 380, Value.none, Value.ref 381, Value.ref 382, Value.ref 383, Value.int 718 0, Value.int 198 0, Value.str (Str.ofString "/claim/cut.py") 719] }) ::
(nat_lit 385, { cls := Value.type "function", data := Data.func { name := Str.ofString "deliver", qualname := Str.ofString "IpLayer.deliver", params := fP 20 8, body := FuncBody.stmts (fB 20 8), scope := fS 20 8, globals := 3, closure := [], defaults := Value.none, kwdefaults := Value.none, pyModule := Value.str (Str.ofString "thinstack.ip_layer") 602, code := Value.ref 384 } }) ::
(nat_lit 386, { cls := Value.type "tuple", data := Data.seq #[] }) ::
(nat_lit 388, { cls := Value.type "tuple", data := Data.seq #[Value.str (Str.ofString "self") 724, Value.str (Str.ofString "header") 725, Value.str (Str.ofString "payload") 726] }) ::
(nat_lit 389, { cls := Value.type "tuple", data := Data.seq #[] }) ::
(nat_lit 391, { cls := Value.type "code", data := Data.fields #[Value.str (Str.ofString "forward") 721, Value.str (Str.ofString "IpLayer.forward") 722, Value.str (Str.ofString "/claim/cut.py") 723, Value.int 201 0, Value.int 3 0, Value.int 0 0, Value.int 0 0, Value.int 3 0, Value.ref 386, Value.bool true, Value.int 181 0, Value.ref 387, Value.none, Value.ref 388, Value.ref 389, Value.ref 390, Value.int 727 0, Value.int 201 0, Value.str (Str.ofString "/claim/cut.py") 728] }) ::
(nat_lit 392, { cls := Value.type "function", data := Data.func { name := Str.ofString "forward", qualname := Str.ofString "IpLayer.forward", params := fP 20 9, body := FuncBody.stmts (fB 20 9), scope := fS 20 9, globals := 3, closure := [], defaults := Value.none, kwdefaults := Value.none, pyModule := Value.str (Str.ofString "thinstack.ip_layer") 602, code := Value.ref 391 } }) ::
(nat_lit 393, { cls := Value.type "tuple", data := Data.seq #[] }) ::
(nat_lit 395, { cls := Value.type "tuple", data := Data.seq #[Value.str (Str.ofString "self") 733, Value.str (Str.ofString "header") 734, Value.str (Str.ofString "payload") 735, Value.str (Str.ofString "route") 736] }) ::
(nat_lit 396, { cls := Value.type "tuple", data := Data.seq #[] }) ::
(nat_lit 398, { cls := Value.type "code", data := Data.fields #[Value.str (Str.ofString "packets") 730, Value.str (Str.ofString "IpLayer.packets") 731, Value.str (Str.ofString "/claim/cut.py") 732, Value.int 204 0, Value.int 4 0, Value.int 0 0, Value.int 0 0, Value.int 3 0, Value.ref 393, Value.bool true, Value.int 181 0, Value.ref 394, Value.none, Value.ref 395, Value.ref 396, Value.ref 397, Value.int 737 0, Value.int 204 0, Value.str (Str.ofString "/claim/cut.py") 738] }) ::
(nat_lit 399, { cls := Value.type "function", data := Data.func { name := Str.ofString "packets", qualname := Str.ofString "IpLayer.packets", params := fP 20 10, body := FuncBody.stmts (fB 20 10), scope := fS 20 10, globals := 3, closure := [], defaults := Value.none, kwdefaults := Value.none, pyModule := Value.str (Str.ofString "thinstack.ip_layer") 602, code := Value.ref 398 } }) ::
(nat_lit 400, { cls := Value.type "tuple", data := Data.seq #[] }) ::
(nat_lit 402, { cls := Value.type "tuple", data := Data.seq #[Value.str (Str.ofString "self") 743, Value.str (Str.ofString "target") 744, Value.str (Str.ofString "route") 745] }) ::
(nat_lit 403, { cls := Value.type "tuple", data := Data.seq #[] }) ::
(nat_lit 405, { cls := Value.type "code", data := Data.fields #[Value.str (Str.ofString "route_to") 740, Value.str (Str.ofString "IpLayer.route_to") 741, Value.str (Str.ofString "/claim/cut.py") 742, Value.int 207 0, Value.int 2 0, Value.int 0 0, Value.int 0 0, Value.int 3 0, Value.ref 400, Value.bool true, Value.int 181 0, Value.ref 401, Value.none, Value.ref 402, Value.ref 403, Value.ref 404, Value.int 746 0, Value.int 207 0, Value.str (Str.ofString "/claim/cut.py") 747] }) ::
(nat_lit 406, { cls := Value.type "function", data := Data.func { name := Str.ofString "route_to", qualname := Str.ofString "IpLayer.route_to", params := fP 20 11, body := FuncBody.stmts (fB 20 11), scope := fS 20 11, globals := 3, closure := [], defaults := Value.none, kwdefaults := Value.none, pyModule := Value.str (Str.ofString "thinstack.ip_layer") 602, code := Value.ref 405 } }) ::
(nat_lit 407, { cls := Value.type "tuple", data := Data.seq #[] }) ::
(nat_lit 409, { cls := Value.type "tuple", data := Data.seq #[Value.str (Str.ofString "self") 752, Value.str (Str.ofString "target") 753] }) ::
(nat_lit 410, { cls := Value.type "tuple", data := Data.seq #[] }) ::
(nat_lit 412, { cls := Value.type "code", data := Data.fields #[Value.str (Str.ofString "source_for") 749, Value.str (Str.ofString "IpLayer.source_for") 750, Value.str (Str.ofString "/claim/cut.py") 751, Value.int 213 0, Value.int 2 0, Value.int 0 0, Value.int 0 0, Value.int 3 0, Value.ref 407, Value.bool true, Value.int 181 0, Value.ref 408, Value.none, Value.ref 409, Value.ref 410, Value.ref 411, Value.int 754 0, Value.int 213 0, Value.str (Str.ofString "/claim/cut.py") 755] }) ::
(nat_lit 413, { cls := Value.type "function", data := Data.func { name := Str.ofString "source_for", qualname := Str.ofString "IpLayer.source_for", params := fP 20 12, body := FuncBody.stmts (fB 20 12), scope := fS 20 12, globals := 3, closure := [], defaults := Value.none, kwdefaults := Value.none, pyModule := Value.str (Str.ofString "thinstack.ip_layer") 602, code := Value.ref 412 } }) ::
(nat_lit 414, { cls := Value.type "tuple", data := Data.seq #[] }) ::
(nat_lit 416, { cls := Value.type "tuple", data := Data.seq #[Value.str (Str.ofString "self") 760, Value.str (Str.ofString "target") 761] }) ::
(nat_lit 417, { cls := Value.type "tuple", data := Data.seq #[] }) ::
(nat_lit 419, { cls := Value.type "code", data := Data.fields #[Value.str (Str.ofString "want_one_host") 757, Value.str (Str.ofString "IpLayer.want_one_host") 758, Value.str (Str.ofString "/claim/cut.py") 759, Value.int 216 0, Value.int 2 0, Value.int 0 0, Value.int 0 0, Value.int 3 0, Value.ref 414, Value.bool true, Value.int 181 0, Value.ref 415, Value.none, Value.ref 416, Value.ref 417, Value.ref 418, Value.int 762 0, Value.int 216 0, Value.str (Str.ofString "/claim/cut.py") 763] }) ::
(nat_lit 420, { cls := Value.type "function", data := Data.func { name := Str.ofString "want_one_host", qualname := Str.ofString "IpLayer.want_one_host", params := fP 20 13, body := FuncBody.stmts (fB 20 13), scope := fS 20 13, globals := 3, closure := [], defaults := Value.none, kwdefaults := Value.none, pyModule := Value.str (Str.ofString "thinstack.ip_layer") 602, code := Value.ref 419 } }) ::
(nat_lit 421, { cls := Value.type "tuple", data := Data.seq #[Value.int 64 765, Value.bool false] }) ::
(nat_lit 422, { cls := Value.type "tuple", data := Data.seq #[] }) ::
(nat_lit 424, { cls := Value.type "tuple", data := Data.seq #[Value.str (Str.ofString "self") 769, Value.str (Str.ofString "protocol") 770, Value.str (Str.ofString "source") 771, Value.str (Str.ofString "target") 772, Value.str (Str.ofString "payload") 773, Value.str (Str.ofString "ttl") 774, Value.str (Str.ofString "dont") 775] }) ::
(nat_lit 425, { cls := Value.type "tuple", data := Data.seq #[] }) ::
(nat_lit 427, { cls := Value.type "code", data := Data.fields #[Value.str (Str.ofString "output") 766, Value.str (Str.ofString "IpLayer.output") 767, Value.str (Str.ofString "/claim/cut.py") 768, Value.int 219 0, Value.int 7 0, Value.int 0 0, Value.int 0 0, Value.int 3 0, Value.ref 422, Value.bool true, Value.int 181 0, Value.ref 423, Value.none, Value.ref 424, Value.ref 425, Value.ref 426, Value.int 776 0, Value.int 219 0, Value.str (Str.ofString "/claim/cut.py") 777] }) ::
(nat_lit 428, { cls := Value.type "function", data := Data.func { name := Str.ofString "output", qualname := Str.ofString "IpLayer.output", params := fP 20 14, body := FuncBody.stmts (fB 20 14), scope := fS 20 14, globals := 3, closure := [], defaults := Value.ref 421, kwdefaults := Value.none, pyModule := Value.str (Str.ofString "thinstack.ip_layer") 602, code := Value.ref 427 } }) ::
(nat_lit 429, { cls := Value.type "tuple", data := Data.seq #[] }) ::
(nat_lit 431, { cls := Value.type "tuple", data := Data.seq #[Value.str (Str.ofString "self") 782, Value.str (Str.ofString "octets") 783] }) ::
(nat_lit 432, { cls := Value.type "tuple", data := Data.seq #[] }) ::
(nat_lit 434, { cls := Value.type "code", data := Data.fields #[Value.str (Str.ofString "given_up") 779, Value.str (Str.ofString "IpLayer.given_up") 780, Value.str (Str.ofString "/claim/cut.py") 781, Value.int 222 0, Value.int 2 0, Value.int 0 0, Value.int 0 0, Value.int 3 0, Value.ref 429, Value.bool true, Value.int 181 0, Value.ref 430, Value.none, Value.ref 431, Value.ref 432, Value.ref 433, Value.int 784 0, Value.int 222 0, Value.str (Str.ofString "/claim/cut.py") 785] }) ::
(nat_lit 435, { cls := Value.type "function", data := Data.func { name := Str.ofString "given_up", qualname := Str.ofString "IpLayer.given_up", params := fP 20 15, body := FuncBody.stmts (fB 20 15), scope := fS 20 15, globals := 3, closure := [], defaults := Value.none, kwdefaults := Value.none, pyModule := Value.str (Str.ofString "thinstack.ip_layer") 602, code := Value.ref 434 } }) ::
(nat_lit 436, { cls := Value.type "tuple", data := Data.seq #[] }) ::
(nat_lit 438, { cls := Value.type "tuple", data := Data.seq #[Value.str (Str.ofString "self") 790, Value.str (Str.ofString "now") 791] }) ::
(nat_lit 439, { cls := Value.type "tuple", data := Data.seq #[] }) ::
(nat_lit 441, { cls := Value.type "code", data := Data.fields #[Value.str (Str.ofString "expire") 787, Value.str (Str.ofString "IpLayer.expire") 788, Value.str (Str.ofString "/claim/cut.py") 789, Value.int 225 0, Value.int 2 0, Value.int 0 0, Value.int 0 0, Value.int 3 0, Value.ref 436, Value.bool true, Value.int 181 0, Value.ref 437, Value.none, Value.ref 438, Value.ref 439, Value.ref 440, Value.int 792 0, Value.int 225 0, Value.str (Str.ofString "/claim/cut.py") 793] }) ::
(nat_lit 442, { cls := Value.type "function", data := Data.func { name := Str.ofString "expire", qualname := Str.ofString "IpLayer.expire", params := fP 20 16, body := FuncBody.stmts (fB 20 16), scope := fS 20 16, globals := 3, closure := [], defaults := Value.none, kwdefaults := Value.none, pyModule := Value.str (Str.ofString "thinstack.ip_layer") 602, code := Value.ref 441 } }) ::
(nat_lit 443, { cls := Value.type "tuple", data := Data.seq #[Value.str (Str.ofString "faces") 795, Value.str (Str.ofString "forwards") 796, Value.str (Str.ofString "last_ident") 797, Value.str (Str.ofString "reassembly") 798, Value.str (Str.ofString "routes") 799] }) ::
(nat_lit 444, { cls := Value.type "dict", data := Data.dict #[{ hash := PyData.keyHash P (Str.ofString "__module__"), key := Value.str (Str.ofString "__module__") 644, val := Value.str (Str.ofString "thinstack.ip_layer") 602 }, { hash := PyData.keyHash P (Str.ofString "__firstlineno__"), key := Value.str (Str.ofString "__firstlineno__") 648, val := Value.int 171 647 }, { hash := PyData.keyHash P (Str.ofString "__init__"), key := Value.str (Str.ofString "__init__") 659, val := Value.ref 336 }, { hash := PyData.keyHash P (Str.ofString "next_ident"), key := Value.str (Str.ofString "next_ident") 666, val := Value.ref 343 }, { hash := PyData.keyHash P (Str.ofString "is_own"), key := Value.str (Str.ofString "is_own") 674, val := Value.ref 350 }, { hash := PyData.keyHash P (Str.ofString "is_told_to_all"), key := Value.str (Str.ofString "is_told_to_all") 683, val := Value.ref 357 }, { hash := PyData.keyHash P (Str.ofString "is_for_all"), key := Value.str (Str.ofString "is_for_all") 691, val := Value.ref 364 }, { hash := PyData.keyHash P (Str.ofString "may_send"), key := Value.str (Str.ofString "may_send") 699, val := Value.ref 371 }, { hash := PyData.keyHash P (Str.ofString "input"), key := Value.str (Str.ofString "input") 709, val := Value.ref 378 }, { hash := PyData.keyHash P (Str.ofString "deliver"), key := Value.str (Str.ofString "deliver") 720, val := Value.ref 385 }, { hash := PyData.keyHash P (Str.ofString "forward"), key := Value.str (Str.ofString "forward") 729, val := Value.ref 392 }, { hash := PyData.keyHash P (Str.ofString "packets"), key := Value.str (Str.ofString "packets") 739, val := Value.ref 399 }, { hash := PyData.keyHash P (Str.ofString "route_to"), key := Value.str (Str.ofString "route_to") 748, val := Value.ref 406 }, { hash := PyData.keyHash P (Str.ofString "source_for"), key := Value.str (Str.ofString "source_for") 756, val := Value.ref 413 }, { hash := PyData.keyHash P (Str.ofString "want_one_host"), key := Value.str (Str.ofString "want_one_host") 764, val := Value.ref 420 }, { hash := PyData.keyHash P (Str.ofString "output"), key := Value.str (Str.ofString "output") 778, val := Value.ref 428 }, { hash := PyData.keyHash P (Str.ofString "given_up"), key := Value.str (Str.ofString "given_up") 786, val := Value.ref 435 }, { hash := PyData.keyHash P (Str.ofString "expire"), key := Value.str (Str.ofString "expire") 794, val := Value.ref 442 }, { hash := PyData.keyHash P (Str.ofString "__static_attributes__"), key := Value.str (Str.ofString "__static_attributes__") 800, val := Value.ref 443 }, { hash := PyData.keyHash P (Str.ofString "__dict__"), key := Value.str (Str.ofString "__dict__") 802, val := Value.ref 446 }, { hash := PyData.keyHash P (Str.ofString "__weakref__"), key := Value.str (Str.ofString "__weakref__") 804, val := Value.ref 447 }, { hash := PyData.keyHash P (Str.ofString "__doc__"), key := Value.str (Str.ofString "__doc__") 805, val := Value.none }] 4 }) ::
(nat_lit 445, { cls := Value.type "type", data := Data.cls { name := Str.ofString "IpLayer", bases := [Value.type "object"], mro := [Value.ref 445, Value.type "object"], ns := 444, qualname := Str.ofString "IpLayer" }, slots := #[none, none, some (Value.str (Str.ofString "IpLayer") 637), some (Value.str (Str.ofString "IpLayer") 645), some (Value.builtin "object.__new__"), some (Value.bool true)] }) ::
(nat_lit 446, { cls := Value.type "getset_descriptor", data := Data.fields #[Value.str (Str.ofString "__dict__") 801, Value.ref 445, Value.builtin "function.__dict__", Value.builtin "function.__dict__#set"] }) ::
(nat_lit 447, { cls := Value.type "getset_descriptor", data := Data.fields #[Value.str (Str.ofString "__weakref__") 803, Value.ref 445, Value.builtin "ExceptionGroup.__weakref__", Value.none] }) ::
(nat_lit 457, { cls := Value.type "tuple", data := Data.seq #[] }) ::
(nat_lit 459, { cls := Value.type "tuple", data := Data.seq #[Value.str (Str.ofString "self") 827, Value.str (Str.ofString "most") 828] }) ::
(nat_lit 460, { cls := Value.type "tuple", data := Data.seq #[] }) ::
(nat_lit 462, { cls := Value.type "code", data := Data.fields #[Value.str (Str.ofString "__init__") 824, Value.str (Str.ofString "Holes.__init__") 825, Value.str (Str.ofString "/claim/cut.py") 826, Value.int 231 0, Value.int 2 0, Value.int 0 0, Value.int 0 0, Value.int 3 0, Value.ref 457, Value.bool true, Value.int 181 0, Value.ref 458, Value.none, Value.ref 459, Value.ref 460, Value.ref 461, Value.int 829 0, Value.int 231 0, Value.str (Str.ofString "/claim/cut.py") 830] }) ::
(nat_lit 463, { cls := Value.type "function", data := Data.func { name := Str.ofString "__init__", qualname := Str.ofString "Holes.__init__", params := fP 23 1, body := FuncBody.stmts (fB 23 1), scope := fS 23 1, globals := 3, closure := [], defaults := Value.none, kwdefaults := Value.none, pyModule := Value.str (Str.ofString "thinstack.reassembly") 808, code := Value.ref 462 } }) ::
(nat_lit 464, { cls := Value.type "tuple", data := Data.seq #[] }) ::
(nat_lit 466, { cls := Value.type "tuple", data := Data.seq #[Value.str (Str.ofString "self") 835, Value.str (Str.ofString "begin") 836, Value.str (Str.ofString "end") 837, Value.str (Str.ofString "found") 838, Value.str (Str.ofString "rows") 839, Value.str (Str.ofString "low") 840, Value.str (Str.ofString "high") 841, Value.str (Str.ofString "first") 842, Value.str (Str.ofString "last") 843] }) ::
(nat_lit 467, { cls := Value.type "tuple", data := Data.seq #[] }) ::
(nat_lit 469, { cls := Value.type "code", data := Data.fields #[Value.str (Str.ofString "fill") 832, Value.str (Str.ofString "Holes.fill") 833, Value.str (Str.ofString "/claim/cut.py") 834, Value.int 235 0, Value.int 3 0, Value.int 0 0, Value.int 0 0, Value.int 3 0, Value.ref 464, Value.bool true, Value.int 181 0, Value.ref 465, Value.none, Value.ref 466, Value.ref 467, Value.ref 468, Value.int 844 0, Value.int 235 0, Value.str (Str.ofString "/claim/cut.py") 845] }) ::
(nat_lit 470, { cls := Value.type "function", data := Data.func { name := Str.ofString "fill", qualname := Str.ofString "Holes.fill", params := fP 23 2, body := FuncBody.stmts (fB 23 2), scope := fS 23 2, globals := 3, closure := [], defaults := Value.none, kwdefaults := Value.none, pyModule := Value.str (Str.ofString "thinstack.reassembly") 808, code := Value.ref 469 } }) ::
(nat_lit 471, { cls := Value.type "tuple", data := Data.seq #[] }) ::
(nat_lit 473, { cls := Value.type "tuple", data := Data.seq #[Value.str (Str.ofString "self") 850, Value.str (Str.ofString "end") 851] }) ::
(nat_lit 474, { cls := Value.type "tuple", data := Data.seq #[] }) ::
(nat_lit 476, { cls := Value.type "code", data := Data.fields #[Value.str (Str.ofString "end_at") 847, Value.str (Str.ofString "Holes.end_at") 848, Value.str (Str.ofString "/claim/cut.py") 849, Value.int 252 0, Value.int 2 0, Value.int 0 0, Value.int 0 0, Value.int 3 0, Value.ref 471, Value.bool true, Value.int 181 0, Value.ref 472, Value.none, Value.ref 473, Value.ref 474, Value.ref 475, Value.int 852 0, Value.int 252 0, Value.str (Str.ofString "/claim/cut.py") 853] }) ::
(nat_lit 477, { cls := Value.type "function", data := Data.func { name := Str.ofString "end_at", qualname := Str.ofString "Holes.end_at", params := fP 23 3, body := FuncBody.stmts (fB 23 3), scope := fS 23 3, globals := 3, closure := [], defaults := Value.none, kwdefaults := Value.none, pyModule := Value.str (Str.ofString "thinstack.reassembly") 808, code := Value.ref 476 } }) ::
(nat_lit 478, { cls := Value.type "tuple", data := Data.seq #[] }) ::
(nat_lit 480, { cls := Value.type "tuple", data := Data.seq #[Value.str (Str.ofString "self") 858] }) ::
(nat_lit 481, { cls := Value.type "tuple", data := Data.seq #[] }) ::
(nat_lit 483, { cls := Value.type "code", data := Data.fields #[Value.str (Str.ofString "reach") 855, Value.str (Str.ofString "Holes.reach") 856, Value.str (Str.ofString "/claim/cut.py") 857, Value.int 255 0, Value.int 1 0, Value.int 0 0, Value.int 0 0, Value.int 3 0, Value.ref 478, Value.bool true, Value.int 181 0, Value.ref 479, Value.none, Value.ref 480, Value.ref 481, Value.ref 482, Value.int 859 0, Value.int 255 0, Value.str (Str.ofString "/claim/cut.py") 860] }) ::
(nat_lit 484, { cls := Value.type "function", data := Data.func { name := Str.ofString "reach", qualname := Str.ofString "Holes.reach", params := fP 23 4, body := FuncBody.stmts (fB 23 4), scope := fS 23 4, globals := 3, closure := [], defaults := Value.none, kwdefaults := Value.none, pyModule := Value.str (Str.ofString "thinstack.reassembly") 808, code := Value.ref 483 } }) ::
(nat_lit 485, { cls := Value.type "tuple", data := Data.seq #[] }) ::
(nat_lit 487, { cls := Value.type "tuple", data := Data.seq #[Value.str (Str.ofString "self") 865] }) ::
(nat_lit 488, { cls := Value.type "tuple", data := Data.seq #[] }) ::
(nat_lit 490, { cls := Value.type "code", data := Data.fields #[Value.str (Str.ofString "is_whole") 862, Value.str (Str.ofString "Holes.is_whole") 863, Value.str (Str.ofString "/claim/cut.py") 864, Value.int 260 0, Value.int 1 0, Value.int 0 0, Value.int 0 0, Value.int 3 0, Value.ref 485, Value.bool true, Value.int 181 0, Value.ref 486, Value.none, Value.ref 487, Value.ref 488, Value.ref 489, Value.int 866 0, Value.int 260 0, Value.str (Str.ofString "/claim/cut.py") 867] }) ::
(nat_lit 491, { cls := Value.type "function", data := Data.func { name := Str.ofString "is_whole", qualname := Str.ofString "Holes.is_whole", params := fP 23 5, body := FuncBody.stmts (fB 23 5), scope := fS 23 5, globals := 3, closure := [], defaults := Value.none, kwdefaults := Value.none, pyModule := Value.str (Str.ofString "thinstack.reassembly") 808, code := Value.ref 490 } }) ::
(nat_lit 492, { cls := Value.type "tuple", data := Data.seq #[Value.str (Str.ofString "most") 869, Value.str (Str.ofString "rows") 870] }) ::
(nat_lit 493, { cls := Value.type "dict", data := Data.dict #[{ hash := PyData.keyHash P (Str.ofString "__module__"), key := Value.str (Str.ofString "__module__") 819, val := Value.str (Str.ofString "thinstack.reassembly") 808 }, { hash := PyData.keyHash P (Str.ofString "__firstlineno__"), key := Value.str (Str.ofString "__firstlineno__") 823, val := Value.int 229 822 }, { hash := PyData.keyHash P (Str.ofString "__init__"), key := Value.str (Str.ofString "__init__") 831, val := Value.ref 463 }, { hash := PyData.keyHash P (Str.ofString "fill"), key := Value.str (Str.ofString "fill") 846, val := Value.ref 470 }, { hash := PyData.keyHash P (Str.ofString "end_at"), key := Value.str (Str.ofString "end_at") 854, val := Value.ref 477 }, { hash := PyData.keyHash P (Str.ofString "reach"), key := Value.str (Str.ofString "reach") 861, val := Value.ref 484 }, { hash := PyData.keyHash P (Str.ofString "is_whole"), key := Value.str (Str.ofString "is_whole") 868, val := Value.ref 491 }, { hash := PyData.keyHash P (Str.ofString "__static_attributes__"), key := Value.str (Str.ofString "__static_attributes__") 871, val := Value.ref 492 }, { hash := PyData.keyHash P (Str.ofString "__dict__"), key := Value.str (Str.ofString "__dict__") 873, val := Value.ref 495 }, { hash := PyData.keyHash P (Str.ofString "__weakref__"), key := Value.str (Str.ofString "__weakref__") 875, val := Value.ref 496 }, { hash := PyData.keyHash P (Str.ofString "__doc__"), key := Value.str (Str.ofString "__doc__") 876, val := Value.none }] 4 }) ::
(nat_lit 494, { cls := Value.type "type", data := Data.cls { name := Str.ofString "Holes", bases := [Value.type "object"], mro := [Value.ref 494, Value.type "object"], ns := 493, qualname := Str.ofString "Holes" }, slots := #[none, none, some (Value.str (Str.ofString "Holes") 812), some (Value.str (Str.ofString "Holes") 820), some (Value.builtin "object.__new__"), some (Value.bool true)] }) ::
(nat_lit 495, { cls := Value.type "getset_descriptor", data := Data.fields #[Value.str (Str.ofString "__dict__") 872, Value.ref 494, Value.builtin "function.__dict__", Value.builtin "function.__dict__#set"] }) ::
(nat_lit 496, { cls := Value.type "getset_descriptor", data := Data.fields #[Value.str (Str.ofString "__weakref__") 874, Value.ref 494, Value.builtin "ExceptionGroup.__weakref__", Value.none] }) ::
(nat_lit 506, { cls := Value.type "tuple", data := Data.seq #[] }) ::
(nat_lit 508, { cls := Value.type "tuple", data := Data.seq #[Value.str (Str.ofString "self") 894, Value.str (Str.ofString "began") 895, Value.str (Str.ofString "most") 896] }) ::
(nat_lit 509, { cls := Value.type "tuple", data := Data.seq #[] }) ::
(nat_lit 511, { cls := Value.type "code", data := Data.fields #[Value.str (Str.ofString "__init__") 891, Value.str (Str.ofString "Datagram.__init__") 892, Value.str (Str.ofString "/claim/cut.py") 893, Value.int 264 0, Value.int 3 0, Value.int 0 0, Value.int 0 0, Value.int 3 0, Value.ref 506, Value.bool true, Value.int 181 0, Value.ref 507, Value.none, Value.ref 508, Value.ref 509, Value.ref 510, Value.int 897 0, Value.int 264 0, Value.str (Str.ofString "/claim/cut.py") 898] }) ::
(nat_lit 512, { cls := Value.type "function", data := Data.func { name := Str.ofString "__init__", qualname := Str.ofString "Datagram.__init__", params := fP 24 1, body := FuncBody.stmts (fB 24 1), scope := fS 24 1, globals := 3, closure := [], defaults := Value.none, kwdefaults := Value.none, pyModule := Value.str (Str.ofString "thinstack.reassembly") 808, code := Value.ref 511 } }) ::
(nat_lit 513, { cls := Value.type "tuple", data := Data.seq #[] }) ::
(nat_lit 515, { cls := Value.type "tuple", data := Data.seq #[Value.str (Str.ofString "self") 903, Value.str (Str.ofString "begin") 904, Value.str (Str.ofString "end") 905, Value.str (Str.ofString "more") 906] }) ::
(nat_lit 516, { cls := Value.type "tuple", data := Data.seq #[] }) ::
(nat_lit 518, { cls := Value.type "code", data := Data.fields #[Value.str (Str.ofString "is_against") 900, Value.str (Str.ofString "Datagram.is_against") 901, Value.str (Str.ofString "/claim/cut.py") 902, Value.int 274 0, Value.int 4 0, Value.int 0 0, Value.int 0 0, Value.int 3 0, Value.ref 513, Value.bool true, Value.int 181 0, Value.ref 514, Value.none, Value.ref 515, Value.ref 516, Value.ref 517, Value.int 907 0, Value.int 274 0, Value.str (Str.ofString "/claim/cut.py") 908] }) ::
(nat_lit 519, { cls := Value.type "function", data := Data.func { name := Str.ofString "is_against", qualname := Str.ofString "Datagram.is_against", params := fP 24 2, body := FuncBody.stmts (fB 24 2), scope := fS 24 2, globals := 3, closure := [], defaults := Value.none, kwdefaults := Value.none, pyModule := Value.str (Str.ofString "thinstack.reassembly") 808, code := Value.ref 518 } }) ::
(nat_lit 520, { cls := Value.type "tuple", data := Data.seq #[] }) ::
(nat_lit 522, { cls := Value.type "tuple", data := Data.seq #[Value.str (Str.ofString "self") 913, Value.str (Str.ofString "header") 914, Value.str (Str.ofString "payload") 915, Value.str (Str.ofString "begin") 916, Value.str (Str.ofString "end") 917, Value.str (Str.ofString "low") 918, Value.str (Str.ofString "high") 919] }) ::
(nat_lit 523, { cls := Value.type "tuple", data := Data.seq #[] }) ::
(nat_lit 525, { cls := Value.type "code", data := Data.fields #[Value.str (Str.ofString "put") 910, Value.str (Str.ofString "Datagram.put") 911, Value.str (Str.ofString "/claim/cut.py") 912, Value.int 283 0, Value.int 3 0, Value.int 0 0, Value.int 0 0, Value.int 3 0, Value.ref 520, Value.bool true, Value.int 181 0, Value.ref 521, Value.none, Value.ref 522, Value.ref 523, Value.ref 524, Value.int 920 0, Value.int 283 0, Value.str (Str.ofString "/claim/cut.py") 921] }) ::
(nat_lit 526, { cls := Value.type "function", data := Data.func { name := Str.ofString "put", qualname := Str.ofString "Datagram.put", params := fP 24 3, body := FuncBody.stmts (fB 24 3), scope := fS 24 3, globals := 3, closure := [], defaults := Value.none, kwdefaults := Value.none, pyModule := Value.str (Str.ofString "thinstack.reassembly") 808, code := Value.ref 525 } }) ::
(nat_lit 527, { cls := Value.type "tuple", data := Data.seq #[] }) ::
(nat_lit 529, { cls := Value.type "tuple", data := Data.seq #[Value.str (Str.ofString "self") 926] }) ::
(nat_lit 530, { cls := Value.type "tuple", data := Data.seq #[] }) ::
(nat_lit 532, { cls := Value.type "code", data := Data.fields #[Value.str (Str.ofString "is_whole") 923, Value.str (Str.ofString "Datagram.is_whole") 924, Value.str (Str.ofString "/claim/cut.py") 925, Value.int 300 0, Value.int 1 0, Value.int 0 0, Value.int 0 0, Value.int 3 0, Value.ref 527, Value.bool true, Value.int 181 0, Value.ref 528, Value.none, Value.ref 529, Value.ref 530, Value.ref 531, Value.int 927 0, Value.int 300 0, Value.str (Str.ofString "/claim/cut.py") 928] }) ::
(nat_lit 533, { cls := Value.type "function", data := Data.func { name := Str.ofString "is_whole", qualname := Str.ofString "Datagram.is_whole", params := fP 24 4, body := FuncBody.stmts (fB 24 4), scope := fS 24 4, globals := 3, closure := [], defaults := Value.none, kwdefaults := Value.none, pyModule := Value.str (Str.ofString "thinstack.reassembly") 808, code := Value.ref 532 } }) ::
(nat_lit 534, { cls := Value.type "tuple", data := Data.seq #[] }) ::
(nat_lit 537, { cls := Value.type "code", data := Data.fields #[Value.str (Str.ofString "octets") 930, Value.str (Str.ofString "Datagram.octets") 931, Value.str (Str.ofString "/claim/cut.py") 932, Value.int 303 0, Value.int 1 0, Value.int 0 0, Value.int 0 0, Value.int 3 0, Value.ref 534, Value.bool true, Value.int 181 0, Value.ref 535, Value.none, Value.none, Value.none, Value.ref 536, Value.int 933 0, Value.int 303 0, Value.str (Str.ofString "/claim/cut.py") 934] }) ::
(nat_lit 538, { cls := Value.type "function", data := Data.func { name := Str.ofString "octets", qualname := Str.ofString "Datagram.octets", params := fP 24 5, body := FuncBody.stmts (fB 24 5), scope := fS 24 5, globals := 3, closure := [], defaults := Value.none, kwdefaults := Value.none, pyModule := Value.str (Str.ofString "thinstack.reassembly") 808, code := Value.ref 537 } }) ::
(nat_lit 539, { cls := Value.type "tuple", data := Data.seq #[] }) ::
(nat_lit 541, { cls := Value.type "tuple", data := Data.seq #[Value.str (Str.ofString "self") 939] }) ::
(nat_lit 542, { cls := Value.type "tuple", data := Data.seq #[] }) ::
(nat_lit 544, { cls := Value.type "code", data := Data.fields #[Value.str (Str.ofString "told_octets") 936, Value.str (Str.ofString "Datagram.told_octets") 937, Value.str (Str.ofString "/claim/cut.py") 938, Value.int 306 0, Value.int 1 0, Value.int 0 0, Value.int 0 0, Value.int 3 0, Value.ref 539, Value.bool true, Value.int 181 0, Value.ref 540, Value.none, Value.ref 541, Value.ref 542, Value.ref 543, Value.int 940 0, Value.int 306 0, Value.str (Str.ofString "/claim/cut.py") 941] }) ::
(nat_lit 545, { cls := Value.type "function", data := Data.func { name := Str.ofString "told_octets", qualname := Str.ofString "Datagram.told_octets", params := fP 24 6, body := FuncBody.stmts (fB 24 6), scope := fS 24 6, globals := 3, closure := [], defaults := Value.none, kwdefaults := Value.none, pyModule := Value.str (Str.ofString "thinstack.reassembly") 808, code := Value.ref 544 } }) ::
(nat_lit 546, { cls := Value.type "tuple", data := Data.seq #[Value.str (Str.ofString "ahead") 943, Value.str (Str.ofString "began") 944, Value.str (Str.ofString "end") 945, Value.str (Str.ofString "first") 946, Value.str (Str.ofString "holes") 947, Value.str (Str.ofString "most") 948, Value.str (Str.ofString "parts") 949, Value.str (Str.ofString "size") 950] }) ::
(nat_lit 547, { cls := Value.type "dict", data := Data.dict #[{ hash := PyData.keyHash P (Str.ofString "__module__"), key := Value.str (Str.ofString "__module__") 886, val := Value.str (Str.ofString "thinstack.reassembly") 808 }, { hash := PyData.keyHash P (Str.ofString "__firstlineno__"), key := Value.str (Str.ofString "__firstlineno__") 890, val := Value.int 262 889 }, { hash := PyData.keyHash P (Str.ofString "__init__"), key := Value.str (Str.ofString "__init__") 899, val := Value.ref 512 }, { hash := PyData.keyHash P (Str.ofString "is_against"), key := Value.str (Str.ofString "is_against") 909, val := Value.ref 519 }, { hash := PyData.keyHash P (Str.ofString "put"), key := Value.str (Str.ofString "put") 922, val := Value.ref 526 }, { hash := PyData.keyHash P (Str.ofString "is_whole"), key := Value.str (Str.ofString "is_whole") 929, val := Value.ref 533 }, { hash := PyData.keyHash P (Str.ofString "octets"), key := Value.str (Str.ofString "octets") 935, val := Value.ref 538 }, { hash := PyData.keyHash P (Str.ofString "told_octets"), key := Value.str (Str.ofString "told_octets") 942, val := Value.ref 545 }, { hash := PyData.keyHash P (Str.ofString "__static_attributes__"), key := Value.str (Str.ofString "__static_attributes__") 951, val := Value.ref 546 }, { hash := PyData.keyHash P (Str.ofString "__dict__"), key := Value.str (Str.ofString "__dict__") 953, val := Value.ref 549 }, { hash := PyData.keyHash P (Str.ofString "__weakref__"), key := Value.str (Str.ofString "__weakref__") 955, val := Value.ref 550 }, { hash := PyData.keyHash P (Str.ofString "__doc__"), key := Value.str (Str.ofString "__doc__") 956, val := Value.none }] 4 }) ::
(nat_lit 548, { cls := Value.type "type", data := Data.cls { name := Str.ofString "Datagram", bases := [Value.type "object"], mro := [Value.ref 548, Value.type "object"], ns := 547, qualname := Str.ofString "Datagram" }, slots := #[none, none, some (Value.str (Str.ofString "Datagram") 879), some (Value.str (Str.ofString "Datagram") 887), some (Value.builtin "object.__new__"), some (Value.bool true)] }) ::
(nat_lit 549, { cls := Value.type "getset_descriptor", data := Data.fields #[Value.str (Str.ofString "__dict__") 952, Value.ref 548, Value.builtin "function.__dict__", Value.builtin "function.__dict__#set"] }) ::
(nat_lit 550, { cls := Value.type "getset_descriptor", data := Data.fields #[Value.str (Str.ofString "__weakref__") 954, Value.ref 548, Value.builtin "ExceptionGroup.__weakref__", Value.none] }) ::
(nat_lit 553, { cls := Value.type "tuple", data := Data.seq #[] }) ::
(nat_lit 555, { cls := Value.type "tuple", data := Data.seq #[Value.str (Str.ofString "header") 962] }) ::
(nat_lit 556, { cls := Value.type "tuple", data := Data.seq #[] }) ::
(nat_lit 558, { cls := Value.type "code", data := Data.fields #[Value.str (Str.ofString "whole_header") 959, Value.str (Str.ofString "whole_header") 960, Value.str (Str.ofString "/claim/cut.py") 961, Value.int 308 0, Value.int 1 0, Value.int 0 0, Value.int 0 0, Value.int 3 0, Value.ref 553, Value.bool true, Value.int 181 0, Value.ref 554, Value.none, Value.ref 555, Value.ref 556, Value.ref 557, Value.int 963 0, Value.int 308 0, Value.str (Str.ofString "/claim/cut.py") 964] }) ::
(nat_lit 559, { cls := Value.type "function", data := Data.func { name := Str.ofString "whole_header", qualname := Str.ofString "whole_header", params := fP 25 0, body := FuncBody.stmts (fB 25 0), scope := fS 25 0, globals := 3, closure := [], defaults := Value.none, kwdefaults := Value.none, pyModule := Value.str (Str.ofString "thinstack.reassembly") 808, code := Value.ref 558 } }) ::
(nat_lit 560, { cls := Value.type "tuple", data := Data.seq #[] }) ::
(nat_lit 562, { cls := Value.type "tuple", data := Data.seq #[Value.str (Str.ofString "header") 969] }) ::
(nat_lit 563, { cls := Value.type "tuple", data := Data.seq #[] }) ::
(nat_lit 565, { cls := Value.type "code", data := Data.fields #[Value.str (Str.ofString "key_of") 966, Value.str (Str.ofString "key_of") 967, Value.str (Str.ofString "/claim/cut.py") 968, Value.int 310 0, Value.int 1 0, Value.int 0 0, Value.int 0 0, Value.int 3 0, Value.ref 560, Value.bool true, Value.int 181 0, Value.ref 561, Value.none, Value.ref 562, Value.ref 563, Value.ref 564, Value.int 970 0, Value.int 310 0, Value.str (Str.ofString "/claim/cut.py") 971] }) ::
(nat_lit 566, { cls := Value.type "function", data := Data.func { name := Str.ofString "key_of", qualname := Str.ofString "key_of", params := fP 26 0, body := FuncBody.stmts (fB 26 0), scope := fS 26 0, globals := 3, closure := [], defaults := Value.none, kwdefaults := Value.none, pyModule := Value.str (Str.ofString "thinstack.reassembly") 808, code := Value.ref 565 } }) ::
(nat_lit 567, { cls := Value.type "tuple", data := Data.seq #[] }) ::
(nat_lit 569, { cls := Value.type "tuple", data := Data.seq #[Value.str (Str.ofString "header") 976, Value.str (Str.ofString "payload") 977] }) ::
(nat_lit 570, { cls := Value.type "tuple", data := Data.seq #[] }) ::
(nat_lit 572, { cls := Value.type "code", data := Data.fields #[Value.str (Str.ofString "is_bad_piece") 973, Value.str (Str.ofString "is_bad_piece") 974, Value.str (Str.ofString "/claim/cut.py") 975, Value.int 312 0, Value.int 2 0, Value.int 0 0, Value.int 0 0, Value.int 3 0, Value.ref 567, Value.bool true, Value.int 181 0, Value.ref 568, Value.none, Value.ref 569, Value.ref 570, Value.ref 571, Value.int 978 0, Value.int 312 0, Value.str (Str.ofString "/claim/cut.py") 979] }) ::
(nat_lit 573, { cls := Value.type "function", data := Data.func { name := Str.ofString "is_bad_piece", qualname := Str.ofString "is_bad_piece", params := fP 27 0, body := FuncBody.stmts (fB 27 0), scope := fS 27 0, globals := 3, closure := [], defaults := Value.none, kwdefaults := Value.none, pyModule := Value.str (Str.ofString "thinstack.reassembly") 808, code := Value.ref 572 } }) ::
(nat_lit 581, { cls := Value.type "tuple", data := Data.seq #[Value.int 65535 993] }) ::
(nat_lit 582, { cls := Value.type "tuple", data := Data.seq #[] }) ::
(nat_lit 584, { cls := Value.type "tuple", data := Data.seq #[Value.str (Str.ofString "self") 997, Value.str (Str.ofString "time_limit") 998, Value.str (Str.ofString "most_octets") 999, Value.str (Str.ofString "most") 1000] }) ::
(nat_lit 585, { cls := Value.type "tuple", data := Data.seq #[] }) ::
(nat_lit 587, { cls := Value.type "code", data := Data.fields #[Value.str (Str.ofString "__init__") 994, Value.str (Str.ofString "Reassembly.__init__") 995, Value.str (Str.ofString "/claim/cut.py") 996, Value.int 316 0, Value.int 4 0, Value.int 0 0, Value.int 0 0, Value.int 3 0, Value.ref 582, Value.bool true, Value.int 181 0, Value.ref 583, Value.none, Value.ref 584, Value.ref 585, Value.ref 586, Value.int 1001 0, Value.int 316 0, Value.str (Str.ofString "/claim/cut.py") 1002] }) ::
(nat_lit 588, { cls := Value.type "function", data := Data.func { name := Str.ofString "__init__", qualname := Str.ofString "Reassembly.__init__", params := fP 28 1, body := FuncBody.stmts (fB 28 1), scope := fS 28 1, globals := 3, closure := [], defaults := Value.ref 581, kwdefaults := Value.none, pyModule := Value.str (Str.ofString "thinstack.reassembly") 808, code := Value.ref 587 } }) ::
(nat_lit 589, { cls := Value.type "tuple", data := Data.seq #[] }) ::
(nat_lit 591, { cls := Value.type "tuple", data := Data.seq #[Value.str (Str.ofString "self") 1007, Value.str (Str.ofString "header") 1008, Value.str (Str.ofString "payload") 1009, Value.str (Str.ofString "now") 1010, Value.str (Str.ofString "key") 1011, Value.str (Str.ofString "found") 1012, Value.str (Str.ofString "is_too_great") 1013] }) ::
(nat_lit 592, { cls := Value.type "tuple", data := Data.seq #[] }) ::
(nat_lit 594, { cls := Value.type "code", data := Data.fields #[Value.str (Str.ofString "put") 1004, Value.str (Str.ofString "Reassembly.put") 1005, Value.str (Str.ofString "/claim/cut.py") 1006, Value.int 322 0, Value.int 4 0, Value.int 0 0, Value.int 0 0, Value.int 3 0, Value.ref 589, Value.bool true, Value.int 181 0, Value.ref 590, Value.none, Value.ref 591, Value.ref 592, Value.ref 593, Value.int 1014 0, Value.int 322 0, Value.str (Str.ofString "/claim/cut.py") 1015] }) ::
(nat_lit 595, { cls := Value.type "function", data := Data.func { name := Str.ofString "put", qualname := Str.ofString "Reassembly.put", params := fP 28 2, body := FuncBody.stmts (fB 28 2), scope := fS 28 2, globals := 3, closure := [], defaults := Value.none, kwdefaults := Value.none, pyModule := Value.str (Str.ofString "thinstack.reassembly") 808, code := Value.ref 594 } }) ::
(nat_lit 596, { cls := Value.type "tuple", data := Data.seq #[] }) ::
(nat_lit 599, { cls := Value.type "code", data := Data.fields #[Value.str (Str.ofString "stored") 1017, Value.str (Str.ofString "Reassembly.stored") 1018, Value.str (Str.ofString "/claim/cut.py") 1019, Value.int 341 0, Value.int 1 0, Value.int 0 0, Value.int 0 0, Value.int 3 0, Value.ref 596, Value.bool true, Value.int 181 0, Value.ref 597, Value.none, Value.none, Value.none, Value.ref 598, Value.int 1020 0, Value.int 341 0, Value.str (Str.ofString "/claim/cut.py") 1021] }) ::
(nat_lit 600, { cls := Value.type "function", data := Data.func { name := Str.ofString "stored", qualname := Str.ofString "Reassembly.stored", params := fP 28 3, body := FuncBody.stmts (fB 28 3), scope := fS 28 3, globals := 3, closure := [], defaults := Value.none, kwdefaults := Value.none, pyModule := Value.str (Str.ofString "thinstack.reassembly") 808, code := Value.ref 599 } }) ::
(nat_lit 601, { cls := Value.type "tuple", data := Data.seq #[] }) ::
(nat_lit 603, { cls := Value.type "tuple", data := Data.seq #[Value.str (Str.ofString "self") 1026] }) ::
(nat_lit 604, { cls := Value.type "tuple", data := Data.seq #[] }) ::
(nat_lit 606, { cls := Value.type "code", data := Data.fields #[Value.str (Str.ofString "count") 1023, Value.str (Str.ofString "Reassembly.count") 1024, Value.str (Str.ofString "/claim/cut.py") 1025, Value.int 344 0, Value.int 1 0, Value.int 0 0, Value.int 0 0, Value.int 3 0, Value.ref 601, Value.bool true, Value.int 181 0, Value.ref 602, Value.none, Value.ref 603, Value.ref 604, Value.ref 605, Value.int 1027 0, Value.int 344 0, Value.str (Str.ofString "/claim/cut.py") 1028] }) ::
(nat_lit 607, { cls := Value.type "function", data := Data.func { name := Str.ofString "count", qualname := Str.ofString "Reassembly.count", params := fP 28 4, body := FuncBody.stmts (fB 28 4), scope := fS 28 4, globals := 3, closure := [], defaults := Value.none, kwdefaults := Value.none, pyModule := Value.str (Str.ofString "thinstack.reassembly") 808, code := Value.ref 606 } }) ::
(nat_lit 608, { cls := Value.type "tuple", data := Data.seq #[] }) ::
(nat_lit 610, { cls := Value.type "tuple", data := Data.seq #[Value.str (Str.ofString "self") 1033] }) ::
(nat_lit 611, { cls := Value.type "tuple", data := Data.seq #[] }) ::
(nat_lit 613, { cls := Value.type "code", data := Data.fields #[Value.str (Str.ofString "make_room") 1030, Value.str (Str.ofString "Reassembly.make_room") 1031, Value.str (Str.ofString "/claim/cut.py") 1032, Value.int 347 0, Value.int 1 0, Value.int 0 0, Value.int 0 0, Value.int 3 0, Value.ref 608, Value.bool true, Value.int 181 0, Value.ref 609, Value.none, Value.ref 610, Value.ref 611, Value.ref 612, Value.int 1034 0, Value.int 347 0, Value.str (Str.ofString "/claim/cut.py") 1035] }) ::
(nat_lit 614, { cls := Value.type "function", data := Data.func { name := Str.ofString "make_room", qualname := Str.ofString "Reassembly.make_room", params := fP 28 5, body := FuncBody.stmts (fB 28 5), scope := fS 28 5, globals := 3, closure := [], defaults := Value.none, kwdefaults := Value.none, pyModule := Value.str (Str.ofString "thinstack.reassembly") 808, code := Value.ref 613 } }) ::
(nat_lit 615, { cls := Value.type "tuple", data := Data.seq #[] }) ::
(nat_lit 617, { cls := Value.type "tuple", data := Data.seq #[Value.str (Str.ofString "self") 1040, Value.str (Str.ofString "now") 1041] }) ::
(nat_lit 618, { cls := Value.type "tuple", data := Data.seq #[] }) ::
(nat_lit 620, { cls := Value.type "code", data := Data.fields #[Value.str (Str.ofString "expire") 1037, Value.str (Str.ofString "Reassembly.expire") 1038, Value.str (Str.ofString "/claim/cut.py") 1039, Value.int 351 0, Value.int 2 0, Value.int 0 0, Value.int 0 0, Value.int 3 0, Value.ref 615, Value.bool true, Value.int 181 0, Value.ref 616, Value.none, Value.ref 617, Value.ref 618, Value.ref 619, Value.int 1042 0, Value.int 351 0, Value.str (Str.ofString "/claim/cut.py") 1043] }) ::
(nat_lit 621, { cls := Value.type "function", data := Data.func { name := Str.ofString "expire", qualname := Str.ofString "Reassembly.expire", params := fP 28 6, body := FuncBody.stmts (fB 28 6), scope := fS 28 6, globals := 3, closure := [], defaults := Value.none, kwdefaults := Value.none, pyModule := Value.str (Str.ofString "thinstack.reassembly") 808, code := Value.ref 620 } }) ::
(nat_lit 622, { cls := Value.type "tuple", data := Data.seq #[] }) ::
(nat_lit 624, { cls := Value.type "tuple", data := Data.seq #[Value.str (Str.ofString "self") 1048] }) ::
(nat_lit 625, { cls := Value.type "tuple", data := Data.seq #[] }) ::
(nat_lit 627, { cls := Value.type "code", data := Data.fields #[Value.str (Str.ofString "next_time") 1045, Value.str (Str.ofString "Reassembly.next_time") 1046, Value.str (Str.ofString "/claim/cut.py") 1047, Value.int 354 0, Value.int 1 0, Value.int 0 0, Value.int 0 0, Value.int 3 0, Value.ref 622, Value.bool true, Value.int 181 0, Value.ref 623, Value.none, Value.ref 624, Value.ref 625, Value.ref 626, Value.int 1049 0, Value.int 354 0, Value.str (Str.ofString "/claim/cut.py") 1050] }) ::
(nat_lit 628, { cls := Value.type "function", data := Data.func { name := Str.ofString "next_time", qualname := Str.ofString "Reassembly.next_time", params := fP 28 7, body := FuncBody.stmts (fB 28 7), scope := fS 28 7, globals := 3, closure := [], defaults := Value.none, kwdefaults := Value.none, pyModule := Value.str (Str.ofString "thinstack.reassembly") 808, code := Value.ref 627 } }) ::
(nat_lit 629, { cls := Value.type "tuple", data := Data.seq #[Value.str (Str.ofString "most") 1052, Value.str (Str.ofString "most_octets") 1053, Value.str (Str.ofString "time_limit") 1054, Value.str (Str.ofString "waiting") 1055] }) ::
(nat_lit 630, { cls := Value.type "dict", data := Data.dict #[{ hash := PyData.keyHash P (Str.ofString "__module__"), key := Value.str (Str.ofString "__module__") 988, val := Value.str (Str.ofString "thinstack.reassembly") 808 }, { hash := PyData.keyHash P (Str.ofString "__firstlineno__"), key := Value.str (Str.ofString "__firstlineno__") 992, val := Value.int 314 991 }, { hash := PyData.keyHash P (Str.ofString "__init__"), key := Value.str (Str.ofString "__init__") 1003, val := Value.ref 588 }, { hash := PyData.keyHash P (Str.ofString "put"), key := Value.str (Str.ofString "put") 1016, val := Value.ref 595 }, { hash := PyData.keyHash P (Str.ofString "stored"), key := Value.str (Str.ofString "stored") 1022, val := Value.ref 600 }, { hash := PyData.keyHash P (Str.ofString "count"), key := Value.str (Str.ofString "count") 1029, val := Value.ref 607 }, { hash := PyData.keyHash P (Str.ofString "make_room"), key := Value.str (Str.ofString "make_room") 1036, val := Value.ref 614 }, { hash := PyData.keyHash P (Str.ofString "expire"), key := Value.str (Str.ofString "expire") 1044, val := Value.ref 621 }, { hash := PyData.keyHash P (Str.ofString "next_time"), key := Value.str (Str.ofString "next_time") 1051, val := Value.ref 628 }, { hash := PyData.keyHash P (Str.ofString "__static_attributes__"), key := Value.str (Str.ofString "__static_attributes__") 1056, val := Value.ref 629 }, { hash := PyData.keyHash P (Str.ofString "__dict__"), key := Value.str (Str.ofString "__dict__") 1058, val := Value.ref 632 }, { hash := PyData.keyHash P (Str.ofString "__weakref__"), key := Value.str (Str.ofString "__weakref__") 1060, val := Value.ref 633 }, { hash := PyData.keyHash P (Str.ofString "__doc__"), key := Value.str (Str.ofString "__doc__") 1061, val := Value.none }] 4 }) ::
(nat_lit 631, { cls := Value.type "type", data := Data.cls { name := Str.ofString "Reassembly", bases := [Value.type "object"], mro := [Value.ref 631, Value.type "object"], ns := 630, qualname := Str.ofString "Reassembly" }, slots := #[none, none, some (Value.str (Str.ofString "Reassembly") 981), some (Value.str (Str.ofString "Reassembly") 989), some (Value.builtin "object.__new__"), some (Value.bool true)] }) ::
(nat_lit 632, { cls := Value.type "getset_descriptor", data := Data.fields #[Value.str (Str.ofString "__dict__") 1057, Value.ref 631, Value.builtin "function.__dict__", Value.builtin "function.__dict__#set"] }) ::
(nat_lit 633, { cls := Value.type "getset_descriptor", data := Data.fields #[Value.str (Str.ofString "__weakref__") 1059, Value.ref 631, Value.builtin "ExceptionGroup.__weakref__", Value.none] }) ::
(nat_lit 636, { cls := Value.type "tuple", data := Data.seq #[] }) ::
(nat_lit 638, { cls := Value.type "tuple", data := Data.seq #[Value.str (Str.ofString "script") 1069, Value.str (Str.ofString "k") 1070, Value.str (Str.ofString "cell") 1071, Value.str (Str.ofString "great") 1072, Value.str (Str.ofString "mixed") 1073] }) ::
(nat_lit 639, { cls := Value.type "tuple", data := Data.seq #[] }) ::
(nat_lit 641, { cls := Value.type "code", data := Data.fields #[Value.str (Str.ofString "_law_pool") 1066, Value.str (Str.ofString "_law_pool") 1067, Value.str (Str.ofString "/claim/cut.py") 1068, Value.int 357 0, Value.int 2 0, Value.int 0 0, Value.int 0 0, Value.int 3 0, Value.ref 636, Value.bool true, Value.int 181 0, Value.ref 637, Value.none, Value.ref 638, Value.ref 639, Value.ref 640, Value.int 1074 0, Value.int 357 0, Value.str (Str.ofString "/claim/cut.py") 1075] }) ::
(nat_lit 642, { cls := Value.type "function", data := Data.func { name := Str.ofString "_law_pool", qualname := Str.ofString "_law_pool", params := fP 30 0, body := FuncBody.stmts (fB 30 0), scope := fS 30 0, globals := 3, closure := [], defaults := Value.none, kwdefaults := Value.none, pyModule := Value.str (Str.ofString "law_xw0341_01") 1064, code := Value.ref 641 } }) ::
(nat_lit 643, { cls := Value.type "tuple", data := Data.seq #[] }) ::
(nat_lit 645, { cls := Value.type "tuple", data := Data.seq #[Value.str (Str.ofString "source") 1080, Value.str (Str.ofString "top") 1081, Value.str (Str.ofString "drawn") 1082] }) ::
(nat_lit 646, { cls := Value.type "tuple", data := Data.seq #[] }) ::
(nat_lit 648, { cls := Value.type "code", data := Data.fields #[Value.str (Str.ofString "_law_take") 1077, Value.str (Str.ofString "_law_take") 1078, Value.str (Str.ofString "/claim/cut.py") 1079, Value.int 362 0, Value.int 2 0, Value.int 0 0, Value.int 0 0, Value.int 3 0, Value.ref 643, Value.bool true, Value.int 181 0, Value.ref 644, Value.none, Value.ref 645, Value.ref 646, Value.ref 647, Value.int 1083 0, Value.int 362 0, Value.str (Str.ofString "/claim/cut.py") 1084] }) ::
(nat_lit 649, { cls := Value.type "function", data := Data.func { name := Str.ofString "_law_take", qualname := Str.ofString "_law_take", params := fP 31 0, body := FuncBody.stmts (fB 31 0), scope := fS 31 0, globals := 3, closure := [], defaults := Value.none, kwdefaults := Value.none, pyModule := Value.str (Str.ofString "law_xw0341_01") 1064, code := Value.ref 648 } }) ::
(nat_lit 650, { cls := Value.type "tuple", data := Data.seq #[] }) ::
(nat_lit 652, { cls := Value.type "tuple", data := Data.seq #[Value.str (Str.ofString "source") 1089, Value.str (Str.ofString "things") 1090] }) ::
(nat_lit 653, { cls := Value.type "tuple", data := Data.seq #[] }) ::
(nat_lit 655, { cls := Value.type "code", data := Data.fields #[Value.str (Str.ofString "_law_one") 1086, Value.str (Str.ofString "_law_one") 1087, Value.str (Str.ofString "/claim/cut.py") 1088, Value.int 369 0, Value.int 2 0, Value.int 0 0, Value.int 0 0, Value.int 3 0, Value.ref 650, Value.bool true, Value.int 181 0, Value.ref 651, Value.none, Value.ref 652, Value.ref 653, Value.ref 654, Value.int 1091 0, Value.int 369 0, Value.str (Str.ofString "/claim/cut.py") 1092] }) ::
(nat_lit 656, { cls := Value.type "function", data := Data.func { name := Str.ofString "_law_one", qualname := Str.ofString "_law_one", params := fP 32 0, body := FuncBody.stmts (fB 32 0), scope := fS 32 0, globals := 3, closure := [], defaults := Value.none, kwdefaults := Value.none, pyModule := Value.str (Str.ofString "law_xw0341_01") 1064, code := Value.ref 655 } }) ::
(nat_lit 657, { cls := Value.type "tuple", data := Data.seq #[] }) ::
(nat_lit 659, { cls := Value.type "tuple", data := Data.seq #[Value.str (Str.ofString "here") 1097] }) ::
(nat_lit 660, { cls := Value.type "tuple", data := Data.seq #[] }) ::
(nat_lit 662, { cls := Value.type "code", data := Data.fields #[Value.str (Str.ofString "_law_places") 1094, Value.str (Str.ofString "_law_places") 1095, Value.str (Str.ofString "/claim/cut.py") 1096, Value.int 371 0, Value.int 0 0, Value.int 0 0, Value.int 0 0, Value.int 3 0, Value.ref 657, Value.bool true, Value.int 181 0, Value.ref 658, Value.none, Value.ref 659, Value.ref 660, Value.ref 661, Value.int 1098 0, Value.int 371 0, Value.str (Str.ofString "/claim/cut.py") 1099] }) ::
(nat_lit 663, { cls := Value.type "function", data := Data.func { name := Str.ofString "_law_places", qualname := Str.ofString "_law_places", params := fP 33 0, body := FuncBody.stmts (fB 33 0), scope := fS 33 0, globals := 3, closure := [], defaults := Value.none, kwdefaults := Value.none, pyModule := Value.str (Str.ofString "law_xw0341_01") 1064, code := Value.ref 662 } }) ::
(nat_lit 664, { cls := Value.type "tuple", data := Data.seq #[] }) ::
(nat_lit 666, { cls := Value.type "tuple", data := Data.seq #[Value.str (Str.ofString "layer") 1104, Value.str (Str.ofString "target") 1105] }) ::
(nat_lit 667, { cls := Value.type "tuple", data := Data.seq #[] }) ::
(nat_lit 669, { cls := Value.type "code", data := Data.fields #[Value.str (Str.ofString "_law_found") 1101, Value.str (Str.ofString "_law_found") 1102, Value.str (Str.ofString "/claim/cut.py") 1103, Value.int 374 0, Value.int 2 0, Value.int 0 0, Value.int 0 0, Value.int 3 0, Value.ref 664, Value.bool true, Value.int 181 0, Value.ref 665, Value.none, Value.ref 666, Value.ref 667, Value.ref 668, Value.int 1106 0, Value.int 374 0, Value.str (Str.ofString "/claim/cut.py") 1107] }) ::
(nat_lit 670, { cls := Value.type "function", data := Data.func { name := Str.ofString "_law_found", qualname := Str.ofString "_law_found", params := fP 34 0, body := FuncBody.stmts (fB 34 0), scope := fS 34 0, globals := 3, closure := [], defaults := Value.none, kwdefaults := Value.none, pyModule := Value.str (Str.ofString "law_xw0341_01") 1064, code := Value.ref 669 } }) ::
(nat_lit 671, { cls := Value.type "tuple", data := Data.seq #[] }) ::
(nat_lit 673, { cls := Value.type "tuple", data := Data.seq #[Value.str (Str.ofString "rows") 1112, Value.str (Str.ofString "target") 1113, Value.str (Str.ofString "ranked") 1114, Value.str (Str.ofString "at") 1115, Value.str (Str.ofString "net") 1116, Value.str (Str.ofString "prefix") 1117, Value.str (Str.ofString "gateway") 1118, Value.str (Str.ofString "face") 1119, Value.str (Str.ofString "metric") 1120] }) ::
(nat_lit 674, { cls := Value.type "tuple", data := Data.seq #[] }) ::
(nat_lit 676, { cls := Value.type "code", data := Data.fields #[Value.str (Str.ofString "_law_due") 1109, Value.str (Str.ofString "_law_due") 1110, Value.str (Str.ofString "/claim/cut.py") 1111, Value.int 379 0, Value.int 2 0, Value.int 0 0, Value.int 0 0, Value.int 3 0, Value.ref 671, Value.bool true, Value.int 181 0, Value.ref 672, Value.none, Value.ref 673, Value.ref 674, Value.ref 675, Value.int 1121 0, Value.int 379 0, Value.str (Str.ofString "/claim/cut.py") 1122] }) ::
(nat_lit 677, { cls := Value.type "function", data := Data.func { name := Str.ofString "_law_due", qualname := Str.ofString "_law_due", params := fP 35 0, body := FuncBody.stmts (fB 35 0), scope := fS 35 0, globals := 3, closure := [], defaults := Value.none, kwdefaults := Value.none, pyModule := Value.str (Str.ofString "law_xw0341_01") 1064, code := Value.ref 676 } }) ::
(nat_lit 678, { cls := Value.type "tuple", data := Data.seq #[] }) ::
(nat_lit 680, { cls := Value.type "tuple", data := Data.seq #[Value.str (Str.ofString "ways") 1127, Value.str (Str.ofString "faces") 1128] }) ::
(nat_lit 681, { cls := Value.type "tuple", data := Data.seq #[] }) ::
(nat_lit 683, { cls := Value.type "code", data := Data.fields #[Value.str (Str.ofString "_law_layer") 1124, Value.str (Str.ofString "_law_layer") 1125, Value.str (Str.ofString "/claim/cut.py") 1126, Value.int 388 0, Value.int 1 0, Value.int 0 0, Value.int 0 0, Value.int 3 0, Value.ref 678, Value.bool true, Value.int 181 0, Value.ref 679, Value.none, Value.ref 680, Value.ref 681, Value.ref 682, Value.int 1129 0, Value.int 388 0, Value.str (Str.ofString "/claim/cut.py") 1130] }) ::
(nat_lit 684, { cls := Value.type "function", data := Data.func { name := Str.ofString "_law_layer", qualname := Str.ofString "_law_layer", params := fP 36 0, body := FuncBody.stmts (fB 36 0), scope := fS 36 0, globals := 3, closure := [], defaults := Value.none, kwdefaults := Value.none, pyModule := Value.str (Str.ofString "law_xw0341_01") 1064, code := Value.ref 683 } }) ::
(nat_lit 685, { cls := Value.type "tuple", data := Data.seq #[] }) ::
(nat_lit 688, { cls := Value.type "code", data := Data.fields #[Value.str (Str.ofString "law") 1132, Value.str (Str.ofString "law") 1133, Value.str (Str.ofString "/claim/cut.py") 1134, Value.int 391 0, Value.int 1 0, Value.int 0 0, Value.int 0 0, Value.int 3 0, Value.ref 685, Value.bool true, Value.int 181 0, Value.ref 686, Value.none, Value.none, Value.none, Value.ref 687, Value.int 1135 0, Value.int 391 0, Value.str (Str.ofString "/claim/cut.py") 1136] }) ::
(nat_lit 689, { cls := Value.type "function", data := Data.func { name := Str.ofString "law", qualname := Str.ofString "law", params := fP 37 0, body := FuncBody.stmts (fB 37 0), scope := fS 37 0, globals := 3, closure := [], defaults := Value.none, kwdefaults := Value.none, pyModule := Value.str (Str.ofString "law_xw0341_01") 1064, code := Value.ref 688 } }) :: []
noncomputable def hd.view_39 : Program := PySem.W.view Pr [0, 2, 3, 5, 6, 7, 9, 10, 11, 12, 13, 14, 15, 16, 17, 19, 20, 22, 23, 24, 25, 26, 27, 28, 30, 31, 32, 33, 34, 35, 36, 37]
abbrev Loo : List PySem.Str := [Str.ofString "IpHeader", Str.ofString "ALL"]
abbrev Lv : List (PySem.Str × WData) := [(Str.ofString "ALL", WData.int 4294967295)]
theorem hd.keys : ∀ P, (2 :: 3 :: 15 :: 17 :: 18 :: 20 :: 21 :: 22 :: 29 :: 31 :: 32 :: 34 :: 35 :: 36 :: 37 :: 38 :: 39 :: 42 :: 49 :: 50 :: 51 :: 61 :: 62 :: 64 :: 65 :: 67 :: 68 :: 69 :: 71 :: 72 :: 74 :: 75 :: 76 :: 78 :: 79 :: 81 :: 82 :: 83 :: 85 :: 86 :: 88 :: 89 :: 90 :: 92 :: 93 :: 95 :: 96 :: 97 :: 99 :: 100 :: 102 :: 103 :: 104 :: 105 :: 106 :: 107 :: 108 :: 111 :: 113 :: 114 :: 116 :: 117 :: 118 :: 120 :: 121 :: 123 :: 124 :: 125 :: 127 :: 128 :: 130 :: 131 :: 139 :: 140 :: 142 :: 143 :: 145 :: 146 :: 147 :: 149 :: 150 :: 152 :: 153 :: 154 :: 156 :: 157 :: 159 :: 160 :: 161 :: 162 :: 163 :: 164 :: 165 :: 175 :: 177 :: 178 :: 180 :: 181 :: 182 :: 184 :: 185 :: 187 :: 188 :: 189 :: 191 :: 192 :: 194 :: 195 :: 196 :: 198 :: 199 :: 201 :: 202 :: 203 :: 205 :: 206 :: 208 :: 209 :: 210 :: 211 :: 212 :: 213 :: 214 :: 217 :: 219 :: 220 :: 222 :: 223 :: 231 :: 233 :: 234 :: 236 :: 237 :: 238 :: 240 :: 241 :: 243 :: 244 :: 245 :: 247 :: 248 :: 250 :: 251 :: 252 :: 254 :: 255 :: 257 :: 258 :: 259 :: 261 :: 262 :: 264 :: 265 :: 266 :: 268 :: 269 :: 271 :: 272 :: 273 :: 275 :: 276 :: 278 :: 279 :: 280 :: 282 :: 283 :: 285 :: 286 :: 287 :: 289 :: 290 :: 292 :: 293 :: 294 :: 295 :: 296 :: 297 :: 298 :: 308 :: 310 :: 311 :: 313 :: 314 :: 315 :: 316 :: 317 :: 318 :: 319 :: 329 :: 330 :: 332 :: 333 :: 335 :: 336 :: 337 :: 339 :: 340 :: 342 :: 343 :: 344 :: 346 :: 347 :: 349 :: 350 :: 351 :: 353 :: 354 :: 356 :: 357 :: 358 :: 360 :: 361 :: 363 :: 364 :: 365 :: 367 :: 368 :: 370 :: 371 :: 372 :: 374 :: 375 :: 377 :: 378 :: 379 :: 381 :: 382 :: 384 :: 385 :: 386 :: 388 :: 389 :: 391 :: 392 :: 393 :: 395 :: 396 :: 398 :: 399 :: 400 :: 402 :: 403 :: 405 :: 406 :: 407 :: 409 :: 410 :: 412 :: 413 :: 414 :: 416 :: 417 :: 419 :: 420 :: 421 :: 422 :: 424 :: 425 :: 427 :: 428 :: 429 :: 431 :: 432 :: 434 :: 435 :: 436 :: 438 :: 439 :: 441 :: 442 :: 443 :: 444 :: 445 :: 446 :: 447 :: 457 :: 459 :: 460 :: 462 :: 463 :: 464 :: 466 :: 467 :: 469 :: 470 :: 471 :: 473 :: 474 :: 476 :: 477 :: 478 :: 480 :: 481 :: 483 :: 484 :: 485 :: 487 :: 488 :: 490 :: 491 :: 492 :: 493 :: 494 :: 495 :: 496 :: 506 :: 508 :: 509 :: 511 :: 512 :: 513 :: 515 :: 516 :: 518 :: 519 :: 520 :: 522 :: 523 :: 525 :: 526 :: 527 :: 529 :: 530 :: 532 :: 533 :: 534 :: 537 :: 538 :: 539 :: 541 :: 542 :: 544 :: 545 :: 546 :: 547 :: 548 :: 549 :: 550 :: 553 :: 555 :: 556 :: 558 :: 559 :: 560 :: 562 :: 563 :: 565 :: 566 :: 567 :: 569 :: 570 :: 572 :: 573 :: 581 :: 582 :: 584 :: 585 :: 587 :: 588 :: 589 :: 591 :: 592 :: 594 :: 595 :: 596 :: 599 :: 600 :: 601 :: 603 :: 604 :: 606 :: 607 :: 608 :: 610 :: 611 :: 613 :: 614 :: 615 :: 617 :: 618 :: 620 :: 621 :: 622 :: 624 :: 625 :: 627 :: 628 :: 629 :: 630 :: 631 :: 632 :: 633 :: 636 :: 638 :: 639 :: 641 :: 642 :: 643 :: 645 :: 646 :: 648 :: 649 :: 650 :: 652 :: 653 :: 655 :: 656 :: 657 :: 659 :: 660 :: 662 :: 663 :: 664 :: 666 :: 667 :: 669 :: 670 :: 671 :: 673 :: 674 :: 676 :: 677 :: 678 :: 680 :: 681 :: 683 :: 684 :: 685 :: 688 :: 689 :: []) = (hd.heap_39 P).map (·.1) := fun _ => by kernel_rfl
noncomputable abbrev hd.hook : Hook := kHook hd.heap_39 (2 :: 3 :: 15 :: 17 :: 18 :: 20 :: 21 :: 22 :: 29 :: 31 :: 32 :: 34 :: 35 :: 36 :: 37 :: 38 :: 39 :: 42 :: 49 :: 50 :: 51 :: 61 :: 62 :: 64 :: 65 :: 67 :: 68 :: 69 :: 71 :: 72 :: 74 :: 75 :: 76 :: 78 :: 79 :: 81 :: 82 :: 83 :: 85 :: 86 :: 88 :: 89 :: 90 :: 92 :: 93 :: 95 :: 96 :: 97 :: 99 :: 100 :: 102 :: 103 :: 104 :: 105 :: 106 :: 107 :: 108 :: 111 :: 113 :: 114 :: 116 :: 117 :: 118 :: 120 :: 121 :: 123 :: 124 :: 125 :: 127 :: 128 :: 130 :: 131 :: 139 :: 140 :: 142 :: 143 :: 145 :: 146 :: 147 :: 149 :: 150 :: 152 :: 153 :: 154 :: 156 :: 157 :: 159 :: 160 :: 161 :: 162 :: 163 :: 164 :: 165 :: 175 :: 177 :: 178 :: 180 :: 181 :: 182 :: 184 :: 185 :: 187 :: 188 :: 189 :: 191 :: 192 :: 194 :: 195 :: 196 :: 198 :: 199 :: 201 :: 202 :: 203 :: 205 :: 206 :: 208 :: 209 :: 210 :: 211 :: 212 :: 213 :: 214 :: 217 :: 219 :: 220 :: 222 :: 223 :: 231 :: 233 :: 234 :: 236 :: 237 :: 238 :: 240 :: 241 :: 243 :: 244 :: 245 :: 247 :: 248 :: 250 :: 251 :: 252 :: 254 :: 255 :: 257 :: 258 :: 259 :: 261 :: 262 :: 264 :: 265 :: 266 :: 268 :: 269 :: 271 :: 272 :: 273 :: 275 :: 276 :: 278 :: 279 :: 280 :: 282 :: 283 :: 285 :: 286 :: 287 :: 289 :: 290 :: 292 :: 293 :: 294 :: 295 :: 296 :: 297 :: 298 :: 308 :: 310 :: 311 :: 313 :: 314 :: 315 :: 316 :: 317 :: 318 :: 319 :: 329 :: 330 :: 332 :: 333 :: 335 :: 336 :: 337 :: 339 :: 340 :: 342 :: 343 :: 344 :: 346 :: 347 :: 349 :: 350 :: 351 :: 353 :: 354 :: 356 :: 357 :: 358 :: 360 :: 361 :: 363 :: 364 :: 365 :: 367 :: 368 :: 370 :: 371 :: 372 :: 374 :: 375 :: 377 :: 378 :: 379 :: 381 :: 382 :: 384 :: 385 :: 386 :: 388 :: 389 :: 391 :: 392 :: 393 :: 395 :: 396 :: 398 :: 399 :: 400 :: 402 :: 403 :: 405 :: 406 :: 407 :: 409 :: 410 :: 412 :: 413 :: 414 :: 416 :: 417 :: 419 :: 420 :: 421 :: 422 :: 424 :: 425 :: 427 :: 428 :: 429 :: 431 :: 432 :: 434 :: 435 :: 436 :: 438 :: 439 :: 441 :: 442 :: 443 :: 444 :: 445 :: 446 :: 447 :: 457 :: 459 :: 460 :: 462 :: 463 :: 464 :: 466 :: 467 :: 469 :: 470 :: 471 :: 473 :: 474 :: 476 :: 477 :: 478 :: 480 :: 481 :: 483 :: 484 :: 485 :: 487 :: 488 :: 490 :: 491 :: 492 :: 493 :: 494 :: 495 :: 496 :: 506 :: 508 :: 509 :: 511 :: 512 :: 513 :: 515 :: 516 :: 518 :: 519 :: 520 :: 522 :: 523 :: 525 :: 526 :: 527 :: 529 :: 530 :: 532 :: 533 :: 534 :: 537 :: 538 :: 539 :: 541 :: 542 :: 544 :: 545 :: 546 :: 547 :: 548 :: 549 :: 550 :: 553 :: 555 :: 556 :: 558 :: 559 :: 560 :: 562 :: 563 :: 565 :: 566 :: 567 :: 569 :: 570 :: 572 :: 573 :: 581 :: 582 :: 584 :: 585 :: 587 :: 588 :: 589 :: 591 :: 592 :: 594 :: 595 :: 596 :: 599 :: 600 :: 601 :: 603 :: 604 :: 606 :: 607 :: 608 :: 610 :: 611 :: 613 :: 614 :: 615 :: 617 :: 618 :: 620 :: 621 :: 622 :: 624 :: 625 :: 627 :: 628 :: 629 :: 630 :: 631 :: 632 :: 633 :: 636 :: 638 :: 639 :: 641 :: 642 :: 643 :: 645 :: 646 :: 648 :: 649 :: 650 :: 652 :: 653 :: 655 :: 656 :: 657 :: 659 :: 660 :: 662 :: 663 :: 664 :: 666 :: 667 :: 669 :: 670 :: 671 :: 673 :: 674 :: 676 :: 677 :: 678 :: 680 :: 681 :: 683 :: 684 :: 685 :: 688 :: 689 :: []) hd.keys

theorem use2 {α β : Sort _} {a a' : α} {b b' : β} (P : α → β → Prop) (h1 : a = a') (h2 : b = b') (h : P a' b') : P a b := by subst h1 h2; exact h
theorem use4 {α β γ δ : Sort _} {a a' : α} {b b' : β} {c c' : γ} {d d' : δ} (P : α → β → γ → δ → Prop) (h1 : a = a') (h2 : b = b') (h3 : c = c') (h4 : d = d') (h : P a' b' c' d') : P a b c d := by subst h1 h2 h3 h4; exact h
abbrev p0 : Pos := ⟨0, 0, 0, 0⟩
abbrev p9 : Pos := ⟨391, 0, 411, 15⟩
noncomputable def hEnv : Env := { scope := Pr.main.scope, locals := mainNs, globals := mainNs, cells := [], code := .ref 13, frame := some 14 }
noncomputable abbrev cE : Code := .body (behindTheImports Pr) hEnv
def o11 : Obj := { cls := .type "tuple", data := .seq #[] }
def o12 : Obj := { cls := .none, data := .fields #[] }
def o13 : Obj := { cls := .type "code", data := .fields #[.str (Str.ofString "<module>") 182, .str (Str.ofString "<module>") 183, .str (Str.ofString "/claim/cut.py") 184, .int 1 0, .int 0 0, .int 0 0, .int 0 0, .int 0 0, .ref 11, .bool false, .int 181 0, .ref 12, .none, .none, .none, .none, .int 185 0, .int 1 0, .str (Str.ofString "/claim/cut.py") 186] }
def o14 : Obj := { cls := .type "frame", slots := #[some (.ref 13), some (.ref 3), some (.ref 3), none, some (.str (Str.ofString "__main__") 164), none, some (.ref 0)] }
noncomputable def heapA (P : Params) : Heap := { objs := ⟨[boot_o_0 P, boot_o_1 P, boot_o_2 P, boot_o_3 P, boot_o_4 P, boot_o_5 P, boot_o_6 P, boot_o_7 P, boot_o_8 P, boot_o_9 P, boot_o_10 P, o11, o12, o13, o14]⟩ }
noncomputable def treeB (P : Params) : BT := .node (boot_o_0 P)
  (.node (boot_o_1 P) (.node (boot_o_3 P) (.node (boot_o_7 P) .nil .nil) (.node o11 .nil .nil)) (.node (boot_o_5 P) (.node (boot_o_9 P) .nil .nil) (.node o13 .nil .nil)))
  (.node (boot_o_2 P) (.node (boot_o_4 P) (.node (boot_o_8 P) .nil .nil) (.node o12 .nil .nil)) (.node (boot_o_6 P) (.node (boot_o_10 P) .nil .nil) (.node o14 .nil .nil)))
noncomputable abbrev stA0 (w : World) (os : OsState) : Shared := { heap := boot_heap w.params, gens := #[], drawn := boot_drawn, toks := boot_toks, os := os }
noncomputable abbrev stB0 (w : World) (os : OsState) : Shared := { heap := heapA w.params, gens := #[], drawn := {}, toks := 187, os := os }
noncomputable abbrev stC0 (w : World) (os : OsState) : SharedT := { tree := treeB w.params, n := 15, life := {}, gens := #[], drawn := {}, toks := 187, os := os }
theorem run_pre (w : World) : (fun os => topGo treeTable Pr w 11 (some (.ref 6)) 12 (stA0 w os) (topStub Pr)) = fun os => some (stB0 w os, ⟨denote treeTable cE, cE, p0, [topFrame p0]⟩) :=
  use4 (fun go tt dn (_ : Unit) => (fun os => go tt Pr w 11 (some (.ref 6)) 12 (stA0 w os) (topStub Pr)) = fun os => some (stB0 w os, ⟨dn tt cE, cE, p0, [topFrame p0]⟩)) Fast.te15667345088766844465 Fast.te14364793385576792824 Fast.te11892475500146522536 (rfl : () = ()) (by kernel_rfl)
theorem run_block (w : World) : (fun os => segRun treeTable Pr w 11 (some (.ref 6)) 1 1 (stB0 w os) (blockOf (behindTheImports Pr) hEnv cE p0 [topFrame p0])) = fun os => some (.next, (stC0 w os).abs, cE, p0) :=
  use2 (fun go tt => (fun os => go tt Pr w 11 (some (.ref 6)) 1 1 (stB0 w os) (blockOf (behindTheImports Pr) hEnv cE p0 [topFrame p0])) = fun os => some (.next, (stC0 w os).abs, cE, p0)) Fast.te14374325043358763698 Fast.te14364793385576792824 (by kernel_rfl)
theorem run_fin (w : World) : ∀ s : SharedT, topRun treeTable Pr w 11 (some (.ref 6)) 2 s.abs ⟨doneF .next, cE, p9, [topFrame p0]⟩ = some s.abs := fun ⟨_, _, _, _, _, _, _⟩ => rfl

noncomputable def q49 (P : Params) : Obj := { cls := Value.none, data := Data.dict #[{ hash := PyData.keyHash P (Str.ofString "type.__subclasses__.Exception.0"), key := Value.str (Str.ofString "type.__subclasses__.Exception.0") 221, val := Value.int 38 0 }, { hash := PyData.keyHash P (Str.ofString "type.__subclasses__.Exception.n"), key := Value.str (Str.ofString "type.__subclasses__.Exception.n") 222, val := Value.int 1 0 }] 2 }
noncomputable def q52 : Obj := { cls := Value.type "tuple", data := Data.seq #[] }
noncomputable def q53 : Obj := { cls := Value.none, data := Data.fields #[] }
noncomputable def q54 : Obj := { cls := Value.type "tuple", data := Data.seq #[Value.str (Str.ofString "k") 190] }
noncomputable def q55 : Obj := { cls := Value.type "tuple", data := Data.seq #[] }
noncomputable def q56 : Obj := { cls := Value.none, data := Data.func { name := Str.ofString "_wall", qualname := Str.ofString "_wall", params := fP 0 0, body := FuncBody.stmts (fB 0 0), scope := fS 0 0, globals := 0, closure := [], defaults := Value.none, kwdefaults := Value.none } }
noncomputable def q57 : Obj := { cls := Value.type "code", data := Data.fields #[Value.str (Str.ofString "_wall") 187, Value.str (Str.ofString "_wall") 188, Value.str (Str.ofString "/claim/cut.py") 189, Value.int 1 0, Value.int 1 0, Value.int 0 0, Value.int 0 0, Value.int 3 0, Value.ref 15, Value.bool true, Value.int 181 0, Value.ref 16, Value.none, Value.ref 17, Value.ref 18, Value.ref 19, Value.int 191 0, Value.int 1 0, Value.str (Str.ofString "/claim/cut.py") 192] }
noncomputable def q58 : Obj := { cls := Value.type "function", data := Data.func { name := Str.ofString "_wall", qualname := Str.ofString "_wall", params := fP 0 0, body := FuncBody.stmts (fB 0 0), scope := fS 0 0, globals := 3, closure := [], defaults := Value.none, kwdefaults := Value.none, pyModule := Value.str (Str.ofString "__main__") 164, code := Value.ref 20 } }
noncomputable def q59 : Obj := { cls := Value.type "tuple", data := Data.seq #[Value.type "Exception"] }
noncomputable def q60 : Obj := { cls := Value.type "builtin_function_or_method", data := Data.fields #[Value.builtin "type.__prepare__", Value.type "type"] }
noncomputable def q61 (P : Params) : Obj := { cls := Value.type "dict", data := Data.dict #[{ hash := PyData.keyHash P (Str.ofString "__module__"), key := Value.str (Str.ofString "__module__") 203, val := Value.str (Str.ofString "thinstack.errors") 194 }, { hash := PyData.keyHash P (Str.ofString "__qualname__"), key := Value.str (Str.ofString "__qualname__") 205, val := Value.str (Str.ofString "StackError") 204 }, { hash := PyData.keyHash P (Str.ofString "__firstlineno__"), key := Value.str (Str.ofString "__firstlineno__") 207, val := Value.int 5 206 }, { hash := PyData.keyHash P (Str.ofString "__init__"), key := Value.str (Str.ofString "__init__") 215, val := Value.ref 35 }, { hash := PyData.keyHash P (Str.ofString "__static_attributes__"), key := Value.str (Str.ofString "__static_attributes__") 217, val := Value.ref 36 }] 5 }
noncomputable def q62 : Obj := { cls := Value.type "tuple", data := Data.seq #[] }
noncomputable def q63 : Obj := { cls := Value.none, data := Data.fields #[Value.int 7 0, Value.int 4 0, Value.ref 34] }
noncomputable def q64 : Obj := { cls := Value.type "code", data := Data.fields #[Value.str (Str.ofString "StackError") 198, Value.str (Str.ofString "StackError") 199, Value.str (Str.ofString "/claim/cut.py") 200, Value.int 5 0, Value.int 0 0, Value.int 0 0, Value.int 0 0, Value.int 0 0, Value.ref 25, Value.bool false, Value.int 181 0, Value.ref 26, Value.none, Value.none, Value.none, Value.none, Value.int 201 0, Value.int 5 0, Value.str (Str.ofString "/claim/cut.py") 202] }
noncomputable def q65 : Obj := { cls := Value.type "frame", slots := #[some (Value.ref 27), some (Value.ref 3), some (Value.ref 24), none, some (Value.str (Str.ofString "thinstack.errors") 194), none, some (Value.ref 0)] }
noncomputable def q66 : Obj := { cls := Value.type "tuple", data := Data.seq #[] }
noncomputable def q67 : Obj := { cls := Value.none, data := Data.fields #[] }
noncomputable def q68 : Obj := { cls := Value.type "tuple", data := Data.seq #[Value.str (Str.ofString "self") 211, Value.str (Str.ofString "message") 212] }
noncomputable def q69 : Obj := { cls := Value.type "tuple", data := Data.seq #[] }
noncomputable def q70 : Obj := { cls := Value.none, data := Data.func { name := Str.ofString "__init__", qualname := Str.ofString "StackError.__init__", params := fP 2 1, body := FuncBody.stmts (fB 2 1), scope := fS 2 1, globals := 0, closure := [], defaults := Value.none, kwdefaults := Value.none } }
noncomputable def q71 : Obj := { cls := Value.type "code", data := Data.fields #[Value.str (Str.ofString "__init__") 208, Value.str (Str.ofString "StackError.__init__") 209, Value.str (Str.ofString "/claim/cut.py") 210, Value.int 7 0, Value.int 2 0, Value.int 0 0, Value.int 0 0, Value.int 3 0, Value.ref 29, Value.bool true, Value.int 181 0, Value.ref 30, Value.none, Value.ref 31, Value.ref 32, Value.ref 33, Value.int 213 0, Value.int 7 0, Value.str (Str.ofString "/claim/cut.py") 214] }
noncomputable def q72 : Obj := { cls := Value.type "function", data := Data.func { name := Str.ofString "__init__", qualname := Str.ofString "StackError.__init__", params := fP 2 1, body := FuncBody.stmts (fB 2 1), scope := fS 2 1, globals := 3, closure := [], defaults := Value.none, kwdefaults := Value.none, pyModule := Value.str (Str.ofString "thinstack.errors") 194, code := Value.ref 34 } }
noncomputable def q73 : Obj := { cls := Value.type "tuple", data := Data.seq #[Value.str (Str.ofString "message") 216] }
noncomputable def q74 (P : Params) : Obj := { cls := Value.type "dict", data := Data.dict #[{ hash := PyData.keyHash P (Str.ofString "__module__"), key := Value.str (Str.ofString "__module__") 203, val := Value.str (Str.ofString "thinstack.errors") 194 }, { hash := PyData.keyHash P (Str.ofString "__firstlineno__"), key := Value.str (Str.ofString "__firstlineno__") 207, val := Value.int 5 206 }, { hash := PyData.keyHash P (Str.ofString "__init__"), key := Value.str (Str.ofString "__init__") 215, val := Value.ref 35 }, { hash := PyData.keyHash P (Str.ofString "__static_attributes__"), key := Value.str (Str.ofString "__static_attributes__") 217, val := Value.ref 36 }, { hash := PyData.keyHash P (Str.ofString "__weakref__"), key := Value.str (Str.ofString "__weakref__") 219, val := Value.ref 39 }, { hash := PyData.keyHash P (Str.ofString "__doc__"), key := Value.str (Str.ofString "__doc__") 220, val := Value.none }] 3 }
noncomputable def q76 : Obj := { cls := Value.type "getset_descriptor", data := Data.fields #[Value.str (Str.ofString "__weakref__") 218, Value.ref 38, Value.builtin "ExceptionGroup.__weakref__", Value.none] }
noncomputable def q77 : Obj := { cls := Value.type "super", data := Data.fields #[Value.ref 38, Value.ref 38, Value.ref 38] }
noncomputable def q78 : Obj := { cls := Value.type "builtin_function_or_method", data := Data.fields #[Value.builtin "object.__init_subclass__", Value.ref 38] }
noncomputable def q81 : Obj := { cls := Value.type "type", data := Data.cls { name := Str.ofString "StackError", bases := [Value.type "Exception"], mro := [Value.ref 38, Value.type "Exception", Value.type "BaseException", Value.type "object"], ns := 37, qualname := Str.ofString "StackError", subclasses := [Value.ref 51] }, slots := #[some (Value.ref 22), none, some (Value.str (Str.ofString "StackError") 196), some (Value.str (Str.ofString "StackError") 204), some (Value.builtin "Exception.__new__"), some (Value.bool true)] }
noncomputable def q82 : Obj := { cls := Value.type "tuple", data := Data.seq #[Value.ref 38] }
noncomputable def q83 : Obj := { cls := Value.type "builtin_function_or_method", data := Data.fields #[Value.builtin "type.__prepare__", Value.type "type"] }
noncomputable def q84 (P : Params) : Obj := { cls := Value.type "dict", data := Data.dict #[{ hash := PyData.keyHash P (Str.ofString "__module__"), key := Value.str (Str.ofString "__module__") 232, val := Value.str (Str.ofString "thinstack.errors") 194 }, { hash := PyData.keyHash P (Str.ofString "__qualname__"), key := Value.str (Str.ofString "__qualname__") 234, val := Value.str (Str.ofString "RouteError") 233 }, { hash := PyData.keyHash P (Str.ofString "__firstlineno__"), key := Value.str (Str.ofString "__firstlineno__") 236, val := Value.int 9 235 }, { hash := PyData.keyHash P (Str.ofString "__static_attributes__"), key := Value.str (Str.ofString "__static_attributes__") 237, val := Value.ref 49 }] 4 }
noncomputable def q85 : Obj := { cls := Value.type "tuple", data := Data.seq #[] }
noncomputable def q86 : Obj := { cls := Value.none, data := Data.fields #[] }
noncomputable def q87 : Obj := { cls := Value.type "code", data := Data.fields #[Value.str (Str.ofString "RouteError") 227, Value.str (Str.ofString "RouteError") 228, Value.str (Str.ofString "/claim/cut.py") 229, Value.int 9 0, Value.int 0 0, Value.int 0 0, Value.int 0 0, Value.int 0 0, Value.ref 45, Value.bool false, Value.int 181 0, Value.ref 46, Value.none, Value.none, Value.none, Value.none, Value.int 230 0, Value.int 9 0, Value.str (Str.ofString "/claim/cut.py") 231] }
noncomputable def q88 : Obj := { cls := Value.type "frame", slots := #[some (Value.ref 47), some (Value.ref 3), some (Value.ref 44), none, some (Value.str (Str.ofString "thinstack.errors") 194), none, some (Value.ref 0)] }
noncomputable def q89 : Obj := { cls := Value.type "tuple", data := Data.seq #[] }
noncomputable def q90 (P : Params) : Obj := { cls := Value.type "dict", data := Data.dict #[{ hash := PyData.keyHash P (Str.ofString "__module__"), key := Value.str (Str.ofString "__module__") 232, val := Value.str (Str.ofString "thinstack.errors") 194 }, { hash := PyData.keyHash P (Str.ofString "__firstlineno__"), key := Value.str (Str.ofString "__firstlineno__") 236, val := Value.int 9 235 }, { hash := PyData.keyHash P (Str.ofString "__static_attributes__"), key := Value.str (Str.ofString "__static_attributes__") 237, val := Value.ref 49 }, { hash := PyData.keyHash P (Str.ofString "__doc__"), key := Value.str (Str.ofString "__doc__") 238, val := Value.none }] 2 }
noncomputable def q91 : Obj := { cls := Value.type "type", data := Data.cls { name := Str.ofString "RouteError", bases := [Value.ref 38], mro := [Value.ref 51, Value.ref 38, Value.type "Exception", Value.type "BaseException", Value.type "object"], ns := 50, qualname := Str.ofString "RouteError" }, slots := #[some (Value.ref 42), none, some (Value.str (Str.ofString "RouteError") 225), some (Value.str (Str.ofString "RouteError") 233), some (Value.builtin "Exception.__new__"), some (Value.bool true)] }
noncomputable def q92 : Obj := { cls := Value.type "super", data := Data.fields #[Value.ref 51, Value.ref 51, Value.ref 51] }
noncomputable def q93 : Obj := { cls := Value.type "builtin_function_or_method", data := Data.fields #[Value.builtin "object.__init_subclass__", Value.ref 51] }
noncomputable def q96 : Obj := { cls := Value.type "tuple", data := Data.seq #[] }
noncomputable def q97 : Obj := { cls := Value.type "builtin_function_or_method", data := Data.fields #[Value.builtin "type.__prepare__", Value.type "type"] }
noncomputable def q98 (P : Params) : Obj := { cls := Value.type "dict", data := Data.dict #[{ hash := PyData.keyHash P (Str.ofString "__module__"), key := Value.str (Str.ofString "__module__") 254, val := Value.str (Str.ofString "thinstack.ip_header") 241 }, { hash := PyData.keyHash P (Str.ofString "__qualname__"), key := Value.str (Str.ofString "__qualname__") 256, val := Value.str (Str.ofString "IpHeader") 255 }, { hash := PyData.keyHash P (Str.ofString "__firstlineno__"), key := Value.str (Str.ofString "__firstlineno__") 258, val := Value.int 14 257 }, { hash := PyData.keyHash P (Str.ofString "__init__"), key := Value.str (Str.ofString "__init__") 280, val := Value.ref 68 }, { hash := PyData.keyHash P (Str.ofString "size"), key := Value.str (Str.ofString "size") 287, val := Value.ref 75 }, { hash := PyData.keyHash P (Str.ofString "is_fragment"), key := Value.str (Str.ofString "is_fragment") 294, val := Value.ref 82 }, { hash := PyData.keyHash P (Str.ofString "is_first"), key := Value.str (Str.ofString "is_first") 301, val := Value.ref 89 }, { hash := PyData.keyHash P (Str.ofString "part"), key := Value.str (Str.ofString "part") 311, val := Value.ref 96 }, { hash := PyData.keyHash P (Str.ofString "row"), key := Value.str (Str.ofString "row") 318, val := Value.ref 103 }, { hash := PyData.keyHash P (Str.ofString "__static_attributes__"), key := Value.str (Str.ofString "__static_attributes__") 329, val := Value.ref 104 }] 10 }
noncomputable def q99 : Obj := { cls := Value.type "tuple", data := Data.seq #[] }
noncomputable def q100 : Obj := { cls := Value.none, data := Data.fields #[Value.int 16 0, Value.int 4 0, Value.ref 67, Value.int 28 0, Value.int 4 0, Value.ref 74, Value.int 31 0, Value.int 4 0, Value.ref 81, Value.int 34 0, Value.int 4 0, Value.ref 88, Value.int 37 0, Value.int 4 0, Value.ref 95, Value.int 40 0, Value.int 4 0, Value.ref 102] }
noncomputable def q101 : Obj := { cls := Value.type "code", data := Data.fields #[Value.str (Str.ofString "IpHeader") 249, Value.str (Str.ofString "IpHeader") 250, Value.str (Str.ofString "/claim/cut.py") 251, Value.int 14 0, Value.int 0 0, Value.int 0 0, Value.int 0 0, Value.int 0 0, Value.ref 57, Value.bool false, Value.int 181 0, Value.ref 58, Value.none, Value.none, Value.none, Value.none, Value.int 252 0, Value.int 14 0, Value.str (Str.ofString "/claim/cut.py") 253] }
noncomputable def q102 : Obj := { cls := Value.type "frame", slots := #[some (Value.ref 59), some (Value.ref 3), some (Value.ref 56), none, some (Value.str (Str.ofString "thinstack.ip_header") 241), none, some (Value.ref 0)] }
noncomputable def q103 : Obj := { cls := Value.type "tuple", data := Data.seq #[Value.int 0 259, Value.int 64 260, Value.int 0 261, Value.bool false, Value.bool false, Value.int 0 262, Value.bytes #[] 263] }
noncomputable def q104 : Obj := { cls := Value.type "tuple", data := Data.seq #[] }
noncomputable def q105 : Obj := { cls := Value.none, data := Data.fields #[] }
noncomputable def q106 : Obj := { cls := Value.type "tuple", data := Data.seq #[Value.str (Str.ofString "self") 267, Value.str (Str.ofString "source") 268, Value.str (Str.ofString "target") 269, Value.str (Str.ofString "protocol") 270, Value.str (Str.ofString "ident") 271, Value.str (Str.ofString "ttl") 272, Value.str (Str.ofString "tos") 273, Value.str (Str.ofString "dont") 274, Value.str (Str.ofString "more") 275, Value.str (Str.ofString "offset") 276, Value.str (Str.ofString "options") 277] }
noncomputable def q107 : Obj := { cls := Value.type "tuple", data := Data.seq #[] }
noncomputable def q108 : Obj := { cls := Value.none, data := Data.func { name := Str.ofString "__init__", qualname := Str.ofString "IpHeader.__init__", params := fP 7 1, body := FuncBody.stmts (fB 7 1), scope := fS 7 1, globals := 0, closure := [], defaults := Value.none, kwdefaults := Value.none } }
noncomputable def q109 : Obj := { cls := Value.type "code", data := Data.fields #[Value.str (Str.ofString "__init__") 264, Value.str (Str.ofString "IpHeader.__init__") 265, Value.str (Str.ofString "/claim/cut.py") 266, Value.int 16 0, Value.int 11 0, Value.int 0 0, Value.int 0 0, Value.int 3 0, Value.ref 62, Value.bool true, Value.int 181 0, Value.ref 63, Value.none, Value.ref 64, Value.ref 65, Value.ref 66, Value.int 278 0, Value.int 16 0, Value.str (Str.ofString "/claim/cut.py") 279] }
noncomputable def q110 : Obj := { cls := Value.type "function", data := Data.func { name := Str.ofString "__init__", qualname := Str.ofString "IpHeader.__init__", params := fP 7 1, body := FuncBody.stmts (fB 7 1), scope := fS 7 1, globals := 3, closure := [], defaults := Value.ref 61, kwdefaults := Value.none, pyModule := Value.str (Str.ofString "thinstack.ip_header") 241, code := Value.ref 67 } }
noncomputable def q111 : Obj := { cls := Value.type "tuple", data := Data.seq #[] }
noncomputable def q112 : Obj := { cls := Value.none, data := Data.fields #[] }
noncomputable def q113 : Obj := { cls := Value.type "tuple", data := Data.seq #[Value.str (Str.ofString "self") 284] }
noncomputable def q114 : Obj := { cls := Value.type "tuple", data := Data.seq #[] }
noncomputable def q115 : Obj := { cls := Value.none, data := Data.func { name := Str.ofString "size", qualname := Str.ofString "IpHeader.size", params := fP 7 2, body := FuncBody.stmts (fB 7 2), scope := fS 7 2, globals := 0, closure := [], defaults := Value.none, kwdefaults := Value.none } }
noncomputable def q116 : Obj := { cls := Value.type "code", data := Data.fields #[Value.str (Str.ofString "size") 281, Value.str (Str.ofString "IpHeader.size") 282, Value.str (Str.ofString "/claim/cut.py") 283, Value.int 28 0, Value.int 1 0, Value.int 0 0, Value.int 0 0, Value.int 3 0, Value.ref 69, Value.bool true, Value.int 181 0, Value.ref 70, Value.none, Value.ref 71, Value.ref 72, Value.ref 73, Value.int 285 0, Value.int 28 0, Value.str (Str.ofString "/claim/cut.py") 286] }
noncomputable def q117 : Obj := { cls := Value.type "function", data := Data.func { name := Str.ofString "size", qualname := Str.ofString "IpHeader.size", params := fP 7 2, body := FuncBody.stmts (fB 7 2), scope := fS 7 2, globals := 3, closure := [], defaults := Value.none, kwdefaults := Value.none, pyModule := Value.str (Str.ofString "thinstack.ip_header") 241, code := Value.ref 74 } }
noncomputable def q118 : Obj := { cls := Value.type "tuple", data := Data.seq #[] }
noncomputable def q119 : Obj := { cls := Value.none, data := Data.fields #[] }
noncomputable def q120 : Obj := { cls := Value.type "tuple", data := Data.seq #[Value.str (Str.ofString "self") 291] }
noncomputable def q121 : Obj := { cls := Value.type "tuple", data := Data.seq #[] }
noncomputable def q122 : Obj := { cls := Value.none, data := Data.func { name := Str.ofString "is_fragment", qualname := Str.ofString "IpHeader.is_fragment", params := fP 7 3, body := FuncBody.stmts (fB 7 3), scope := fS 7 3, globals := 0, closure := [], defaults := Value.none, kwdefaults := Value.none } }
noncomputable def q123 : Obj := { cls := Value.type "code", data := Data.fields #[Value.str (Str.ofString "is_fragment") 288, Value.str (Str.ofString "IpHeader.is_fragment") 289, Value.str (Str.ofString "/claim/cut.py") 290, Value.int 31 0, Value.int 1 0, Value.int 0 0, Value.int 0 0, Value.int 3 0, Value.ref 76, Value.bool true, Value.int 181 0, Value.ref 77, Value.none, Value.ref 78, Value.ref 79, Value.ref 80, Value.int 292 0, Value.int 31 0, Value.str (Str.ofString "/claim/cut.py") 293] }
noncomputable def q124 : Obj := { cls := Value.type "function", data := Data.func { name := Str.ofString "is_fragment", qualname := Str.ofString "IpHeader.is_fragment", params := fP 7 3, body := FuncBody.stmts (fB 7 3), scope := fS 7 3, globals := 3, closure := [], defaults := Value.none, kwdefaults := Value.none, pyModule := Value.str (Str.ofString "thinstack.ip_header") 241, code := Value.ref 81 } }
noncomputable def q125 : Obj := { cls := Value.type "tuple", data := Data.seq #[] }
noncomputable def q126 : Obj := { cls := Value.none, data := Data.fields #[] }
noncomputable def q127 : Obj := { cls := Value.type "tuple", data := Data.seq #[Value.str (Str.ofString "self") 298] }
noncomputable def q128 : Obj := { cls := Value.type "tuple", data := Data.seq #[] }
noncomputable def q129 : Obj := { cls := Value.none, data := Data.func { name := Str.ofString "is_first", qualname := Str.ofString "IpHeader.is_first", params := fP 7 4, body := FuncBody.stmts (fB 7 4), scope := fS 7 4, globals := 0, closure := [], defaults := Value.none, kwdefaults := Value.none } }
noncomputable def q130 : Obj := { cls := Value.type "code", data := Data.fields #[Value.str (Str.ofString "is_first") 295, Value.str (Str.ofString "IpHeader.is_first") 296, Value.str (Str.ofString "/claim/cut.py") 297, Value.int 34 0, Value.int 1 0, Value.int 0 0, Value.int 0 0, Value.int 3 0, Value.ref 83, Value.bool true, Value.int 181 0, Value.ref 84, Value.none, Value.ref 85, Value.ref 86, Value.ref 87, Value.int 299 0, Value.int 34 0, Value.str (Str.ofString "/claim/cut.py") 300] }
noncomputable def q131 : Obj := { cls := Value.type "function", data := Data.func { name := Str.ofString "is_first", qualname := Str.ofString "IpHeader.is_first", params := fP 7 4, body := FuncBody.stmts (fB 7 4), scope := fS 7 4, globals := 3, closure := [], defaults := Value.none, kwdefaults := Value.none, pyModule := Value.str (Str.ofString "thinstack.ip_header") 241, code := Value.ref 88 } }
noncomputable def q132 : Obj := { cls := Value.type "tuple", data := Data.seq #[] }
noncomputable def q133 : Obj := { cls := Value.none, data := Data.fields #[] }
noncomputable def q134 : Obj := { cls := Value.type "tuple", data := Data.seq #[Value.str (Str.ofString "self") 305, Value.str (Str.ofString "more") 306, Value.str (Str.ofString "offset") 307, Value.str (Str.ofString "options") 308] }
noncomputable def q135 : Obj := { cls := Value.type "tuple", data := Data.seq #[] }
noncomputable def q136 : Obj := { cls := Value.none, data := Data.func { name := Str.ofString "part", qualname := Str.ofString "IpHeader.part", params := fP 7 5, body := FuncBody.stmts (fB 7 5), scope := fS 7 5, globals := 0, closure := [], defaults := Value.none, kwdefaults := Value.none } }
noncomputable def q137 : Obj := { cls := Value.type "code", data := Data.fields #[Value.str (Str.ofString "part") 302, Value.str (Str.ofString "IpHeader.part") 303, Value.str (Str.ofString "/claim/cut.py") 304, Value.int 37 0, Value.int 4 0, Value.int 0 0, Value.int 0 0, Value.int 3 0, Value.ref 90, Value.bool true, Value.int 181 0, Value.ref 91, Value.none, Value.ref 92, Value.ref 93, Value.ref 94, Value.int 309 0, Value.int 37 0, Value.str (Str.ofString "/claim/cut.py") 310] }
noncomputable def q138 : Obj := { cls := Value.type "function", data := Data.func { name := Str.ofString "part", qualname := Str.ofString "IpHeader.part", params := fP 7 5, body := FuncBody.stmts (fB 7 5), scope := fS 7 5, globals := 3, closure := [], defaults := Value.none, kwdefaults := Value.none, pyModule := Value.str (Str.ofString "thinstack.ip_header") 241, code := Value.ref 95 } }
noncomputable def q139 : Obj := { cls := Value.type "tuple", data := Data.seq #[] }
noncomputable def q140 : Obj := { cls := Value.none, data := Data.fields #[] }
noncomputable def q141 : Obj := { cls := Value.type "tuple", data := Data.seq #[Value.str (Str.ofString "self") 315] }
noncomputable def q142 : Obj := { cls := Value.type "tuple", data := Data.seq #[] }
noncomputable def q143 : Obj := { cls := Value.none, data := Data.func { name := Str.ofString "row", qualname := Str.ofString "IpHeader.row", params := fP 7 6, body := FuncBody.stmts (fB 7 6), scope := fS 7 6, globals := 0, closure := [], defaults := Value.none, kwdefaults := Value.none } }
noncomputable def q144 : Obj := { cls := Value.type "code", data := Data.fields #[Value.str (Str.ofString "row") 312, Value.str (Str.ofString "IpHeader.row") 313, Value.str (Str.ofString "/claim/cut.py") 314, Value.int 40 0, Value.int 1 0, Value.int 0 0, Value.int 0 0, Value.int 3 0, Value.ref 97, Value.bool true, Value.int 181 0, Value.ref 98, Value.none, Value.ref 99, Value.ref 100, Value.ref 101, Value.int 316 0, Value.int 40 0, Value.str (Str.ofString "/claim/cut.py") 317] }
noncomputable def q145 : Obj := { cls := Value.type "function", data := Data.func { name := Str.ofString "row", qualname := Str.ofString "IpHeader.row", params := fP 7 6, body := FuncBody.stmts (fB 7 6), scope := fS 7 6, globals := 3, closure := [], defaults := Value.none, kwdefaults := Value.none, pyModule := Value.str (Str.ofString "thinstack.ip_header") 241, code := Value.ref 102 } }
noncomputable def q146 : Obj := { cls := Value.type "tuple", data := Data.seq #[Value.str (Str.ofString "dont") 319, Value.str (Str.ofString "ident") 320, Value.str (Str.ofString "more") 321, Value.str (Str.ofString "offset") 322, Value.str (Str.ofString "options") 323, Value.str (Str.ofString "protocol") 324, Value.str (Str.ofString "source") 325, Value.str (Str.ofString "target") 326, Value.str (Str.ofString "tos") 327, Value.str (Str.ofString "ttl") 328] }
noncomputable def q147 (P : Params) : Obj := { cls := Value.type "dict", data := Data.dict #[{ hash := PyData.keyHash P (Str.ofString "__module__"), key := Value.str (Str.ofString "__module__") 254, val := Value.str (Str.ofString "thinstack.ip_header") 241 }, { hash := PyData.keyHash P (Str.ofString "__firstlineno__"), key := Value.str (Str.ofString "__firstlineno__") 258, val := Value.int 14 257 }, { hash := PyData.keyHash P (Str.ofString "__init__"), key := Value.str (Str.ofString "__init__") 280, val := Value.ref 68 }, { hash := PyData.keyHash P (Str.ofString "size"), key := Value.str (Str.ofString "size") 287, val := Value.ref 75 }, { hash := PyData.keyHash P (Str.ofString "is_fragment"), key := Value.str (Str.ofString "is_fragment") 294, val := Value.ref 82 }, { hash := PyData.keyHash P (Str.ofString "is_first"), key := Value.str (Str.ofString "is_first") 301, val := Value.ref 89 }, { hash := PyData.keyHash P (Str.ofString "part"), key := Value.str (Str.ofString "part") 311, val := Value.ref 96 }, { hash := PyData.keyHash P (Str.ofString "row"), key := Value.str (Str.ofString "row") 318, val := Value.ref 103 }, { hash := PyData.keyHash P (Str.ofString "__static_attributes__"), key := Value.str (Str.ofString "__static_attributes__") 329, val := Value.ref 104 }, { hash := PyData.keyHash P (Str.ofString "__dict__"), key := Value.str (Str.ofString "__dict__") 331, val := Value.ref 107 }, { hash := PyData.keyHash P (Str.ofString "__weakref__"), key := Value.str (Str.ofString "__weakref__") 333, val := Value.ref 108 }, { hash := PyData.keyHash P (Str.ofString "__doc__"), key := Value.str (Str.ofString "__doc__") 334, val := Value.none }] 4 }
noncomputable def q148 : Obj := { cls := Value.type "type", data := Data.cls { name := Str.ofString "IpHeader", bases := [Value.type "object"], mro := [Value.ref 106, Value.type "object"], ns := 105, qualname := Str.ofString "IpHeader" }, slots := #[none, none, some (Value.str (Str.ofString "IpHeader") 247), some (Value.str (Str.ofString "IpHeader") 255), some (Value.builtin "object.__new__"), some (Value.bool true)] }
noncomputable def q149 : Obj := { cls := Value.type "getset_descriptor", data := Data.fields #[Value.str (Str.ofString "__dict__") 330, Value.ref 106, Value.builtin "function.__dict__", Value.builtin "function.__dict__#set"] }
noncomputable def q150 : Obj := { cls := Value.type "getset_descriptor", data := Data.fields #[Value.str (Str.ofString "__weakref__") 332, Value.ref 106, Value.builtin "ExceptionGroup.__weakref__", Value.none] }
noncomputable def q151 : Obj := { cls := Value.type "super", data := Data.fields #[Value.ref 106, Value.ref 106, Value.ref 106] }
noncomputable def q152 : Obj := { cls := Value.type "builtin_function_or_method", data := Data.fields #[Value.builtin "object.__init_subclass__", Value.ref 106] }
noncomputable def q153 (P : Params) : Obj := { cls := Value.type "dict", data := Data.dict #[{ hash := PyData.keyHash P (Str.ofString "__name__"), key := Value.str (Str.ofString "__name__") 165, val := Value.str (Str.ofString "thinstack.routes") 337 }, { hash := PyData.keyHash P (Str.ofString "__doc__"), key := Value.str (Str.ofString "__doc__") 166, val := Value.none }, { hash := PyData.keyHash P (Str.ofString "__package__"), key := Value.str (Str.ofString "__package__") 167, val := Value.none }, { hash := PyData.keyHash P (Str.ofString "__loader__"), key := Value.str (Str.ofString "__loader__") 168, val := Value.builtin "__main__.__loader__#opaque" }, { hash := PyData.keyHash P (Str.ofString "__spec__"), key := Value.str (Str.ofString "__spec__") 169, val := Value.none }, { hash := PyData.keyHash P (Str.ofString "__annotations__"), key := Value.str (Str.ofString "__annotations__") 170, val := Value.ref 6 }, { hash := PyData.keyHash P (Str.ofString "__builtins__"), key := Value.str (Str.ofString "__builtins__") 171, val := Value.ref 4 }, { hash := PyData.keyHash P (Str.ofString "__file__"), key := Value.str (Str.ofString "__file__") 173, val := Value.str (Str.ofString "/claim/cut.py") 172 }, { hash := PyData.keyHash P (Str.ofString "__cached__"), key := Value.str (Str.ofString "__cached__") 174, val := Value.none }, { hash := PyData.keyHash P (Str.ofString "_wall"), key := Value.str (Str.ofString "_wall") 193, val := Value.ref 21 }, { hash := PyData.keyHash P (Str.ofString "StackError"), key := Value.str (Str.ofString "StackError") 224, val := Value.ref 38 }, { hash := PyData.keyHash P (Str.ofString "RouteError"), key := Value.str (Str.ofString "RouteError") 240, val := Value.ref 51 }, { hash := PyData.keyHash P (Str.ofString "LEAST_HEAD"), key := Value.str (Str.ofString "LEAST_HEAD") 244, val := Value.int 20 243 }, { hash := PyData.keyHash P (Str.ofString "MOST_TOTAL"), key := Value.str (Str.ofString "MOST_TOTAL") 246, val := Value.int 65535 245 }, { hash := PyData.keyHash P (Str.ofString "IpHeader"), key := Value.str (Str.ofString "IpHeader") 336, val := Value.ref 106 }, { hash := PyData.keyHash P (Str.ofString "BITS"), key := Value.str (Str.ofString "BITS") 340, val := Value.int 32 339 }, { hash := PyData.keyHash P (Str.ofString "ALL"), key := Value.str (Str.ofString "ALL") 346, val := Value.int 4294967295 345 }, { hash := PyData.keyHash P (Str.ofString "mask_of"), key := Value.str (Str.ofString "mask_of") 353, val := Value.ref 117 }, { hash := PyData.keyHash P (Str.ofString "net_of"), key := Value.str (Str.ofString "net_of") 361, val := Value.ref 124 }, { hash := PyData.keyHash P (Str.ofString "is_loop"), key := Value.str (Str.ofString "is_loop") 368, val := Value.ref 131 }] 20 }
noncomputable def q154 : Obj := { cls := Value.none, data := Data.fields #[Value.int 1 0, Value.int 0 0, Value.ref 20, Value.int 5 0, Value.int 0 0, Value.ref 27, Value.int 9 0, Value.int 0 0, Value.ref 47, Value.int 14 0, Value.int 0 0, Value.ref 59, Value.int 45 0, Value.int 0 0, Value.ref 116, Value.int 49 0, Value.int 0 0, Value.ref 123, Value.int 51 0, Value.int 0 0, Value.ref 130] }
noncomputable def q155 : Obj := { cls := Value.type "tuple", data := Data.seq #[] }
noncomputable def q156 : Obj := { cls := Value.none, data := Data.fields #[] }
noncomputable def q157 : Obj := { cls := Value.type "tuple", data := Data.seq #[Value.str (Str.ofString "prefix") 350] }
noncomputable def q158 : Obj := { cls := Value.type "tuple", data := Data.seq #[] }
noncomputable def q159 : Obj := { cls := Value.none, data := Data.func { name := Str.ofString "mask_of", qualname := Str.ofString "mask_of", params := fP 11 0, body := FuncBody.stmts (fB 11 0), scope := fS 11 0, globals := 0, closure := [], defaults := Value.none, kwdefaults := Value.none } }
noncomputable def q160 : Obj := { cls := Value.type "code", data := Data.fields #[Value.str (Str.ofString "mask_of") 347, Value.str (Str.ofString "mask_of") 348, Value.str (Str.ofString "/claim/cut.py") 349, Value.int 45 0, Value.int 1 0, Value.int 0 0, Value.int 0 0, Value.int 3 0, Value.ref 111, Value.bool true, Value.int 181 0, Value.ref 112, Value.none, Value.ref 113, Value.ref 114, Value.ref 115, Value.int 351 0, Value.int 45 0, Value.str (Str.ofString "/claim/cut.py") 352] }
noncomputable def q161 : Obj := { cls := Value.type "function", data := Data.func { name := Str.ofString "mask_of", qualname := Str.ofString "mask_of", params := fP 11 0, body := FuncBody.stmts (fB 11 0), scope := fS 11 0, globals := 3, closure := [], defaults := Value.none, kwdefaults := Value.none, pyModule := Value.str (Str.ofString "thinstack.routes") 337, code := Value.ref 116 } }
noncomputable def q162 : Obj := { cls := Value.type "tuple", data := Data.seq #[] }
noncomputable def q163 : Obj := { cls := Value.none, data := Data.fields #[] }
noncomputable def q164 : Obj := { cls := Value.type "tuple", data := Data.seq #[Value.str (Str.ofString "address") 357, Value.str (Str.ofString "prefix") 358] }
noncomputable def q165 : Obj := { cls := Value.type "tuple", data := Data.seq #[] }
noncomputable def q166 : Obj := { cls := Value.none, data := Data.func { name := Str.ofString "net_of", qualname := Str.ofString "net_of", params := fP 12 0, body := FuncBody.stmts (fB 12 0), scope := fS 12 0, globals := 0, closure := [], defaults := Value.none, kwdefaults := Value.none } }
noncomputable def q167 : Obj := { cls := Value.type "code", data := Data.fields #[Value.str (Str.ofString "net_of") 354, Value.str (Str.ofString "net_of") 355, Value.str (Str.ofString "/claim/cut.py") 356, Value.int 49 0, Value.int 2 0, Value.int 0 0, Value.int 0 0, Value.int 3 0, Value.ref 118, Value.bool true, Value.int 181 0, Value.ref 119, Value.none, Value.ref 120, Value.ref 121, Value.ref 122, Value.int 359 0, Value.int 49 0, Value.str (Str.ofString "/claim/cut.py") 360] }
noncomputable def q168 : Obj := { cls := Value.type "function", data := Data.func { name := Str.ofString "net_of", qualname := Str.ofString "net_of", params := fP 12 0, body := FuncBody.stmts (fB 12 0), scope := fS 12 0, globals := 3, closure := [], defaults := Value.none, kwdefaults := Value.none, pyModule := Value.str (Str.ofString "thinstack.routes") 337, code := Value.ref 123 } }
noncomputable def q169 : Obj := { cls := Value.type "tuple", data := Data.seq #[] }
noncomputable def q170 : Obj := { cls := Value.none, data := Data.fields #[] }
noncomputable def q171 : Obj := { cls := Value.type "tuple", data := Data.seq #[Value.str (Str.ofString "address") 365] }
noncomputable def q172 : Obj := { cls := Value.type "tuple", data := Data.seq #[] }
noncomputable def q173 : Obj := { cls := Value.none, data := Data.func { name := Str.ofString "is_loop", qualname := Str.ofString "is_loop", params := fP 13 0, body := FuncBody.stmts (fB 13 0), scope := fS 13 0, globals := 0, closure := [], defaults := Value.none, kwdefaults := Value.none } }
noncomputable def q174 : Obj := { cls := Value.type "code", data := Data.fields #[Value.str (Str.ofString "is_loop") 362, Value.str (Str.ofString "is_loop") 363, Value.str (Str.ofString "/claim/cut.py") 364, Value.int 51 0, Value.int 1 0, Value.int 0 0, Value.int 0 0, Value.int 3 0, Value.ref 125, Value.bool true, Value.int 181 0, Value.ref 126, Value.none, Value.ref 127, Value.ref 128, Value.ref 129, Value.int 366 0, Value.int 51 0, Value.str (Str.ofString "/claim/cut.py") 367] }
noncomputable def q175 : Obj := { cls := Value.type "function", data := Data.func { name := Str.ofString "is_loop", qualname := Str.ofString "is_loop", params := fP 13 0, body := FuncBody.stmts (fB 13 0), scope := fS 13 0, globals := 3, closure := [], defaults := Value.none, kwdefaults := Value.none, pyModule := Value.str (Str.ofString "thinstack.routes") 337, code := Value.ref 130 } }
noncomputable def q178 : Obj := { cls := Value.type "tuple", data := Data.seq #[] }
noncomputable def q179 : Obj := { cls := Value.type "builtin_function_or_method", data := Data.fields #[Value.builtin "type.__prepare__", Value.type "type"] }
noncomputable def q180 (P : Params) : Obj := { cls := Value.type "dict", data := Data.dict #[{ hash := PyData.keyHash P (Str.ofString "__module__"), key := Value.str (Str.ofString "__module__") 376, val := Value.str (Str.ofString "thinstack.routes") 337 }, { hash := PyData.keyHash P (Str.ofString "__qualname__"), key := Value.str (Str.ofString "__qualname__") 378, val := Value.str (Str.ofString "Route") 377 }, { hash := PyData.keyHash P (Str.ofString "__firstlineno__"), key := Value.str (Str.ofString "__firstlineno__") 380, val := Value.int 53 379 }, { hash := PyData.keyHash P (Str.ofString "__init__"), key := Value.str (Str.ofString "__init__") 393, val := Value.ref 146 }, { hash := PyData.keyHash P (Str.ofString "next_address"), key := Value.str (Str.ofString "next_address") 401, val := Value.ref 153 }, { hash := PyData.keyHash P (Str.ofString "row"), key := Value.str (Str.ofString "row") 408, val := Value.ref 160 }, { hash := PyData.keyHash P (Str.ofString "__static_attributes__"), key := Value.str (Str.ofString "__static_attributes__") 414, val := Value.ref 161 }] 7 }
noncomputable def q181 : Obj := { cls := Value.type "tuple", data := Data.seq #[] }
noncomputable def q182 : Obj := { cls := Value.none, data := Data.fields #[Value.int 55 0, Value.int 4 0, Value.ref 145, Value.int 62 0, Value.int 4 0, Value.ref 152, Value.int 65 0, Value.int 4 0, Value.ref 159] }
noncomputable def q183 : Obj := { cls := Value.type "code", data := Data.fields #[Value.str (Str.ofString "Route") 371, Value.str (Str.ofString "Route") 372, Value.str (Str.ofString "/claim/cut.py") 373, Value.int 53 0, Value.int 0 0, Value.int 0 0, Value.int 0 0, Value.int 0 0, Value.ref 135, Value.bool false, Value.int 181 0, Value.ref 136, Value.none, Value.none, Value.none, Value.none, Value.int 374 0, Value.int 53 0, Value.str (Str.ofString "/claim/cut.py") 375] }
noncomputable def q184 : Obj := { cls := Value.type "frame", slots := #[some (Value.ref 137), some (Value.ref 3), some (Value.ref 134), none, some (Value.str (Str.ofString "thinstack.routes") 337), none, some (Value.ref 0)] }
noncomputable def q185 : Obj := { cls := Value.type "tuple", data := Data.seq #[Value.int 0 381] }
noncomputable def q186 : Obj := { cls := Value.type "tuple", data := Data.seq #[] }
noncomputable def q187 : Obj := { cls := Value.none, data := Data.fields #[] }
noncomputable def q188 : Obj := { cls := Value.type "tuple", data := Data.seq #[Value.str (Str.ofString "self") 385, Value.str (Str.ofString "net") 386, Value.str (Str.ofString "prefix") 387, Value.str (Str.ofString "gateway") 388, Value.str (Str.ofString "face") 389, Value.str (Str.ofString "metric") 390] }
noncomputable def q189 : Obj := { cls := Value.type "tuple", data := Data.seq #[] }
noncomputable def q190 : Obj := { cls := Value.none, data := Data.func { name := Str.ofString "__init__", qualname := Str.ofString "Route.__init__", params := fP 14 1, body := FuncBody.stmts (fB 14 1), scope := fS 14 1, globals := 0, closure := [], defaults := Value.none, kwdefaults := Value.none } }
noncomputable def q191 : Obj := { cls := Value.type "code", data := Data.fields #[Value.str (Str.ofString "__init__") 382, Value.str (Str.ofString "Route.__init__") 383, Value.str (Str.ofString "/claim/cut.py") 384, Value.int 55 0, Value.int 6 0, Value.int 0 0, Value.int 0 0, Value.int 3 0, Value.ref 140, Value.bool true, Value.int 181 0, Value.ref 141, Value.none, Value.ref 142, Value.ref 143, Value.ref 144, Value.int 391 0, Value.int 55 0, Value.str (Str.ofString "/claim/cut.py") 392] }
noncomputable def q192 : Obj := { cls := Value.type "function", data := Data.func { name := Str.ofString "__init__", qualname := Str.ofString "Route.__init__", params := fP 14 1, body := FuncBody.stmts (fB 14 1), scope := fS 14 1, globals := 3, closure := [], defaults := Value.ref 139, kwdefaults := Value.none, pyModule := Value.str (Str.ofString "thinstack.routes") 337, code := Value.ref 145 } }
noncomputable def q193 : Obj := { cls := Value.type "tuple", data := Data.seq #[] }
noncomputable def q194 : Obj := { cls := Value.none, data := Data.fields #[] }
noncomputable def q195 : Obj := { cls := Value.type "tuple", data := Data.seq #[Value.str (Str.ofString "self") 397, Value.str (Str.ofString "target") 398] }
noncomputable def q196 : Obj := { cls := Value.type "tuple", data := Data.seq #[] }
noncomputable def q197 : Obj := { cls := Value.none, data := Data.func { name := Str.ofString "next_address", qualname := Str.ofString "Route.next_address", params := fP 14 2, body := FuncBody.stmts (fB 14 2), scope := fS 14 2, globals := 0, closure := [], defaults := Value.none, kwdefaults := Value.none } }
noncomputable def q198 : Obj := { cls := Value.type "code", data := Data.fields #[Value.str (Str.ofString "next_address") 394, Value.str (Str.ofString "Route.next_address") 395, Value.str (Str.ofString "/claim/cut.py") 396, Value.int 62 0, Value.int 2 0, Value.int 0 0, Value.int 0 0, Value.int 3 0, Value.ref 147, Value.bool true, Value.int 181 0, Value.ref 148, Value.none, Value.ref 149, Value.ref 150, Value.ref 151, Value.int 399 0, Value.int 62 0, Value.str (Str.ofString "/claim/cut.py") 400] }
noncomputable def q199 : Obj := { cls := Value.type "function", data := Data.func { name := Str.ofString "next_address", qualname := Str.ofString "Route.next_address", params := fP 14 2, body := FuncBody.stmts (fB 14 2), scope := fS 14 2, globals := 3, closure := [], defaults := Value.none, kwdefaults := Value.none, pyModule := Value.str (Str.ofString "thinstack.routes") 337, code := Value.ref 152 } }
noncomputable def q200 : Obj := { cls := Value.type "tuple", data := Data.seq #[] }
noncomputable def q201 : Obj := { cls := Value.none, data := Data.fields #[] }
noncomputable def q202 : Obj := { cls := Value.type "tuple", data := Data.seq #[Value.str (Str.ofString "self") 405] }
noncomputable def q203 : Obj := { cls := Value.type "tuple", data := Data.seq #[] }
noncomputable def q204 : Obj := { cls := Value.none, data := Data.func { name := Str.ofString "row", qualname := Str.ofString "Route.row", params := fP 14 3, body := FuncBody.stmts (fB 14 3), scope := fS 14 3, globals := 0, closure := [], defaults := Value.none, kwdefaults := Value.none } }
noncomputable def q205 : Obj := { cls := Value.type "code", data := Data.fields #[Value.str (Str.ofString "row") 402, Value.str (Str.ofString "Route.row") 403, Value.str (Str.ofString "/claim/cut.py") 404, Value.int 65 0, Value.int 1 0, Value.int 0 0, Value.int 0 0, Value.int 3 0, Value.ref 154, Value.bool true, Value.int 181 0, Value.ref 155, Value.none, Value.ref 156, Value.ref 157, Value.ref 158, Value.int 406 0, Value.int 65 0, Value.str (Str.ofString "/claim/cut.py") 407] }
noncomputable def q206 : Obj := { cls := Value.type "function", data := Data.func { name := Str.ofString "row", qualname := Str.ofString "Route.row", params := fP 14 3, body := FuncBody.stmts (fB 14 3), scope := fS 14 3, globals := 3, closure := [], defaults := Value.none, kwdefaults := Value.none, pyModule := Value.str (Str.ofString "thinstack.routes") 337, code := Value.ref 159 } }
noncomputable def q207 : Obj := { cls := Value.type "tuple", data := Data.seq #[Value.str (Str.ofString "face") 409, Value.str (Str.ofString "gateway") 410, Value.str (Str.ofString "metric") 411, Value.str (Str.ofString "net") 412, Value.str (Str.ofString "prefix") 413] }
noncomputable def q208 (P : Params) : Obj := { cls := Value.type "dict", data := Data.dict #[{ hash := PyData.keyHash P (Str.ofString "__module__"), key := Value.str (Str.ofString "__module__") 376, val := Value.str (Str.ofString "thinstack.routes") 337 }, { hash := PyData.keyHash P (Str.ofString "__firstlineno__"), key := Value.str (Str.ofString "__firstlineno__") 380, val := Value.int 53 379 }, { hash := PyData.keyHash P (Str.ofString "__init__"), key := Value.str (Str.ofString "__init__") 393, val := Value.ref 146 }, { hash := PyData.keyHash P (Str.ofString "next_address"), key := Value.str (Str.ofString "next_address") 401, val := Value.ref 153 }, { hash := PyData.keyHash P (Str.ofString "row"), key := Value.str (Str.ofString "row") 408, val := Value.ref 160 }, { hash := PyData.keyHash P (Str.ofString "__static_attributes__"), key := Value.str (Str.ofString "__static_attributes__") 414, val := Value.ref 161 }, { hash := PyData.keyHash P (Str.ofString "__dict__"), key := Value.str (Str.ofString "__dict__") 416, val := Value.ref 164 }, { hash := PyData.keyHash P (Str.ofString "__weakref__"), key := Value.str (Str.ofString "__weakref__") 418, val := Value.ref 165 }, { hash := PyData.keyHash P (Str.ofString "__doc__"), key := Value.str (Str.ofString "__doc__") 419, val := Value.none }] 4 }
noncomputable def q209 : Obj := { cls := Value.type "type", data := Data.cls { name := Str.ofString "Route", bases := [Value.type "object"], mro := [Value.ref 163, Value.type "object"], ns := 162, qualname := Str.ofString "Route" }, slots := #[none, none, some (Value.str (Str.ofString "Route") 369), some (Value.str (Str.ofString "Route") 377), some (Value.builtin "object.__new__"), some (Value.bool true)] }
noncomputable def q210 : Obj := { cls := Value.type "getset_descriptor", data := Data.fields #[Value.str (Str.ofString "__dict__") 415, Value.ref 163, Value.builtin "function.__dict__", Value.builtin "function.__dict__#set"] }
noncomputable def q211 : Obj := { cls := Value.type "getset_descriptor", data := Data.fields #[Value.str (Str.ofString "__weakref__") 417, Value.ref 163, Value.builtin "ExceptionGroup.__weakref__", Value.none] }
noncomputable def q212 : Obj := { cls := Value.type "super", data := Data.fields #[Value.ref 163, Value.ref 163, Value.ref 163] }
noncomputable def q213 : Obj := { cls := Value.type "builtin_function_or_method", data := Data.fields #[Value.builtin "object.__init_subclass__", Value.ref 163] }
noncomputable def q216 : Obj := { cls := Value.type "tuple", data := Data.seq #[] }
noncomputable def q217 : Obj := { cls := Value.type "builtin_function_or_method", data := Data.fields #[Value.builtin "type.__prepare__", Value.type "type"] }
noncomputable def q218 (P : Params) : Obj := { cls := Value.type "dict", data := Data.dict #[{ hash := PyData.keyHash P (Str.ofString "__module__"), key := Value.str (Str.ofString "__module__") 429, val := Value.str (Str.ofString "thinstack.routes") 337 }, { hash := PyData.keyHash P (Str.ofString "__qualname__"), key := Value.str (Str.ofString "__qualname__") 431, val := Value.str (Str.ofString "Branch") 430 }, { hash := PyData.keyHash P (Str.ofString "__firstlineno__"), key := Value.str (Str.ofString "__firstlineno__") 433, val := Value.int 67 432 }, { hash := PyData.keyHash P (Str.ofString "__init__"), key := Value.str (Str.ofString "__init__") 440, val := Value.ref 181 }, { hash := PyData.keyHash P (Str.ofString "child"), key := Value.str (Str.ofString "child") 448, val := Value.ref 188 }, { hash := PyData.keyHash P (Str.ofString "set_child"), key := Value.str (Str.ofString "set_child") 457, val := Value.ref 195 }, { hash := PyData.keyHash P (Str.ofString "is_bare"), key := Value.str (Str.ofString "is_bare") 464, val := Value.ref 202 }, { hash := PyData.keyHash P (Str.ofString "best"), key := Value.str (Str.ofString "best") 473, val := Value.ref 209 }, { hash := PyData.keyHash P (Str.ofString "__static_attributes__"), key := Value.str (Str.ofString "__static_attributes__") 477, val := Value.ref 210 }] 9 }
noncomputable def q219 : Obj := { cls := Value.type "tuple", data := Data.seq #[] }
noncomputable def q220 : Obj := { cls := Value.none, data := Data.fields #[Value.int 69 0, Value.int 4 0, Value.ref 180, Value.int 74 0, Value.int 4 0, Value.ref 187, Value.int 79 0, Value.int 4 0, Value.ref 194, Value.int 85 0, Value.int 4 0, Value.ref 201, Value.int 88 0, Value.int 4 0, Value.ref 208] }
noncomputable def q221 : Obj := { cls := Value.type "code", data := Data.fields #[Value.str (Str.ofString "Branch") 424, Value.str (Str.ofString "Branch") 425, Value.str (Str.ofString "/claim/cut.py") 426, Value.int 67 0, Value.int 0 0, Value.int 0 0, Value.int 0 0, Value.int 0 0, Value.ref 171, Value.bool false, Value.int 181 0, Value.ref 172, Value.none, Value.none, Value.none, Value.none, Value.int 427 0, Value.int 67 0, Value.str (Str.ofString "/claim/cut.py") 428] }
noncomputable def q222 : Obj := { cls := Value.type "frame", slots := #[some (Value.ref 173), some (Value.ref 3), some (Value.ref 170), none, some (Value.str (Str.ofString "thinstack.routes") 337), none, some (Value.ref 0)] }
noncomputable def q223 : Obj := { cls := Value.type "tuple", data := Data.seq #[] }
noncomputable def q224 : Obj := { cls := Value.none, data := Data.fields #[] }
noncomputable def q225 : Obj := { cls := Value.type "tuple", data := Data.seq #[Value.str (Str.ofString "self") 437] }
noncomputable def q226 : Obj := { cls := Value.type "tuple", data := Data.seq #[] }
noncomputable def q227 : Obj := { cls := Value.none, data := Data.func { name := Str.ofString "__init__", qualname := Str.ofString "Branch.__init__", params := fP 15 1, body := FuncBody.stmts (fB 15 1), scope := fS 15 1, globals := 0, closure := [], defaults := Value.none, kwdefaults := Value.none } }
noncomputable def q228 : Obj := { cls := Value.type "code", data := Data.fields #[Value.str (Str.ofString "__init__") 434, Value.str (Str.ofString "Branch.__init__") 435, Value.str (Str.ofString "/claim/cut.py") 436, Value.int 69 0, Value.int 1 0, Value.int 0 0, Value.int 0 0, Value.int 3 0, Value.ref 175, Value.bool true, Value.int 181 0, Value.ref 176, Value.none, Value.ref 177, Value.ref 178, Value.ref 179, Value.int 438 0, Value.int 69 0, Value.str (Str.ofString "/claim/cut.py") 439] }
noncomputable def q229 : Obj := { cls := Value.type "function", data := Data.func { name := Str.ofString "__init__", qualname := Str.ofString "Branch.__init__", params := fP 15 1, body := FuncBody.stmts (fB 15 1), scope := fS 15 1, globals := 3, closure := [], defaults := Value.none, kwdefaults := Value.none, pyModule := Value.str (Str.ofString "thinstack.routes") 337, code := Value.ref 180 } }
noncomputable def q230 : Obj := { cls := Value.type "tuple", data := Data.seq #[] }
noncomputable def q231 : Obj := { cls := Value.none, data := Data.fields #[] }
noncomputable def q232 : Obj := { cls := Value.type "tuple", data := Data.seq #[Value.str (Str.ofString "self") 444, Value.str (Str.ofString "bit") 445] }
noncomputable def q233 : Obj := { cls := Value.type "tuple", data := Data.seq #[] }
noncomputable def q234 : Obj := { cls := Value.none, data := Data.func { name := Str.ofString "child", qualname := Str.ofString "Branch.child", params := fP 15 2, body := FuncBody.stmts (fB 15 2), scope := fS 15 2, globals := 0, closure := [], defaults := Value.none, kwdefaults := Value.none } }
noncomputable def q235 : Obj := { cls := Value.type "code", data := Data.fields #[Value.str (Str.ofString "child") 441, Value.str (Str.ofString "Branch.child") 442, Value.str (Str.ofString "/claim/cut.py") 443, Value.int 74 0, Value.int 2 0, Value.int 0 0, Value.int 0 0, Value.int 3 0, Value.ref 182, Value.bool true, Value.int 181 0, Value.ref 183, Value.none, Value.ref 184, Value.ref 185, Value.ref 186, Value.int 446 0, Value.int 74 0, Value.str (Str.ofString "/claim/cut.py") 447] }
noncomputable def q236 : Obj := { cls := Value.type "function", data := Data.func { name := Str.ofString "child", qualname := Str.ofString "Branch.child", params := fP 15 2, body := FuncBody.stmts (fB 15 2), scope := fS 15 2, globals := 3, closure := [], defaults := Value.none, kwdefaults := Value.none, pyModule := Value.str (Str.ofString "thinstack.routes") 337, code := Value.ref 187 } }
noncomputable def q237 : Obj := { cls := Value.type "tuple", data := Data.seq #[] }
noncomputable def q238 : Obj := { cls := Value.none, data := Data.fields #[] }
noncomputable def q239 : Obj := { cls := Value.type "tuple", data := Data.seq #[Value.str (Str.ofString "self") 452, Value.str (Str.ofString "bit") 453, Value.str (Str.ofString "branch") 454] }
noncomputable def q240 : Obj := { cls := Value.type "tuple", data := Data.seq #[] }
noncomputable def q241 : Obj := { cls := Value.none, data := Data.func { name := Str.ofString "set_child", qualname := Str.ofString "Branch.set_child", params := fP 15 3, body := FuncBody.stmts (fB 15 3), scope := fS 15 3, globals := 0, closure := [], defaults := Value.none, kwdefaults := Value.none } }
noncomputable def q242 : Obj := { cls := Value.type "code", data := Data.fields #[Value.str (Str.ofString "set_child") 449, Value.str (Str.ofString "Branch.set_child") 450, Value.str (Str.ofString "/claim/cut.py") 451, Value.int 79 0, Value.int 3 0, Value.int 0 0, Value.int 0 0, Value.int 3 0, Value.ref 189, Value.bool true, Value.int 181 0, Value.ref 190, Value.none, Value.ref 191, Value.ref 192, Value.ref 193, Value.int 455 0, Value.int 79 0, Value.str (Str.ofString "/claim/cut.py") 456] }
noncomputable def q243 : Obj := { cls := Value.type "function", data := Data.func { name := Str.ofString "set_child", qualname := Str.ofString "Branch.set_child", params := fP 15 3, body := FuncBody.stmts (fB 15 3), scope := fS 15 3, globals := 3, closure := [], defaults := Value.none, kwdefaults := Value.none, pyModule := Value.str (Str.ofString "thinstack.routes") 337, code := Value.ref 194 } }
noncomputable def q244 : Obj := { cls := Value.type "tuple", data := Data.seq #[] }
noncomputable def q245 : Obj := { cls := Value.none, data := Data.fields #[] }
noncomputable def q246 : Obj := { cls := Value.type "tuple", data := Data.seq #[Value.str (Str.ofString "self") 461] }
noncomputable def q247 : Obj := { cls := Value.type "tuple", data := Data.seq #[] }
noncomputable def q248 : Obj := { cls := Value.none, data := Data.func { name := Str.ofString "is_bare", qualname := Str.ofString "Branch.is_bare", params := fP 15 4, body := FuncBody.stmts (fB 15 4), scope := fS 15 4, globals := 0, closure := [], defaults := Value.none, kwdefaults := Value.none } }
noncomputable def q249 : Obj := { cls := Value.type "code", data := Data.fields #[Value.str (Str.ofString "is_bare") 458, Value.str (Str.ofString "Branch.is_bare") 459, Value.str (Str.ofString "/claim/cut.py") 460, Value.int 85 0, Value.int 1 0, Value.int 0 0, Value.int 0 0, Value.int 3 0, Value.ref 196, Value.bool true, Value.int 181 0, Value.ref 197, Value.none, Value.ref 198, Value.ref 199, Value.ref 200, Value.int 462 0, Value.int 85 0, Value.str (Str.ofString "/claim/cut.py") 463] }
noncomputable def q250 : Obj := { cls := Value.type "function", data := Data.func { name := Str.ofString "is_bare", qualname := Str.ofString "Branch.is_bare", params := fP 15 4, body := FuncBody.stmts (fB 15 4), scope := fS 15 4, globals := 3, closure := [], defaults := Value.none, kwdefaults := Value.none, pyModule := Value.str (Str.ofString "thinstack.routes") 337, code := Value.ref 201 } }
noncomputable def q251 : Obj := { cls := Value.type "tuple", data := Data.seq #[] }
noncomputable def q252 : Obj := { cls := Value.none, data := Data.fields #[] }
noncomputable def q253 : Obj := { cls := Value.type "tuple", data := Data.seq #[Value.str (Str.ofString "self") 468, Value.str (Str.ofString "found") 469, Value.str (Str.ofString "route") 470] }
noncomputable def q254 : Obj := { cls := Value.type "tuple", data := Data.seq #[] }
noncomputable def q255 : Obj := { cls := Value.none, data := Data.func { name := Str.ofString "best", qualname := Str.ofString "Branch.best", params := fP 15 5, body := FuncBody.stmts (fB 15 5), scope := fS 15 5, globals := 0, closure := [], defaults := Value.none, kwdefaults := Value.none } }
noncomputable def q256 : Obj := { cls := Value.type "code", data := Data.fields #[Value.str (Str.ofString "best") 465, Value.str (Str.ofString "Branch.best") 466, Value.str (Str.ofString "/claim/cut.py") 467, Value.int 88 0, Value.int 1 0, Value.int 0 0, Value.int 0 0, Value.int 3 0, Value.ref 203, Value.bool true, Value.int 181 0, Value.ref 204, Value.none, Value.ref 205, Value.ref 206, Value.ref 207, Value.int 471 0, Value.int 88 0, Value.str (Str.ofString "/claim/cut.py") 472] }
noncomputable def q257 : Obj := { cls := Value.type "function", data := Data.func { name := Str.ofString "best", qualname := Str.ofString "Branch.best", params := fP 15 5, body := FuncBody.stmts (fB 15 5), scope := fS 15 5, globals := 3, closure := [], defaults := Value.none, kwdefaults := Value.none, pyModule := Value.str (Str.ofString "thinstack.routes") 337, code := Value.ref 208 } }
noncomputable def q258 : Obj := { cls := Value.type "tuple", data := Data.seq #[Value.str (Str.ofString "one") 474, Value.str (Str.ofString "routes") 475, Value.str (Str.ofString "zero") 476] }
noncomputable def q259 (P : Params) : Obj := { cls := Value.type "dict", data := Data.dict #[{ hash := PyData.keyHash P (Str.ofString "__module__"), key := Value.str (Str.ofString "__module__") 429, val := Value.str (Str.ofString "thinstack.routes") 337 }, { hash := PyData.keyHash P (Str.ofString "__firstlineno__"), key := Value.str (Str.ofString "__firstlineno__") 433, val := Value.int 67 432 }, { hash := PyData.keyHash P (Str.ofString "__init__"), key := Value.str (Str.ofString "__init__") 440, val := Value.ref 181 }, { hash := PyData.keyHash P (Str.ofString "child"), key := Value.str (Str.ofString "child") 448, val := Value.ref 188 }, { hash := PyData.keyHash P (Str.ofString "set_child"), key := Value.str (Str.ofString "set_child") 457, val := Value.ref 195 }, { hash := PyData.keyHash P (Str.ofString "is_bare"), key := Value.str (Str.ofString "is_bare") 464, val := Value.ref 202 }, { hash := PyData.keyHash P (Str.ofString "best"), key := Value.str (Str.ofString "best") 473, val := Value.ref 209 }, { hash := PyData.keyHash P (Str.ofString "__static_attributes__"), key := Value.str (Str.ofString "__static_attributes__") 477, val := Value.ref 210 }, { hash := PyData.keyHash P (Str.ofString "__dict__"), key := Value.str (Str.ofString "__dict__") 479, val := Value.ref 213 }, { hash := PyData.keyHash P (Str.ofString "__weakref__"), key := Value.str (Str.ofString "__weakref__") 481, val := Value.ref 214 }, { hash := PyData.keyHash P (Str.ofString "__doc__"), key := Value.str (Str.ofString "__doc__") 482, val := Value.none }] 4 }
noncomputable def q260 : Obj := { cls := Value.type "type", data := Data.cls { name := Str.ofString "Branch", bases := [Value.type "object"], mro := [Value.ref 212, Value.type "object"], ns := 211, qualname := Str.ofString "Branch" }, slots := #[none, none, some (Value.str (Str.ofString "Branch") 422), some (Value.str (Str.ofString "Branch") 430), some (Value.builtin "object.__new__"), some (Value.bool true)] }
noncomputable def q261 : Obj := { cls := Value.type "getset_descriptor", data := Data.fields #[Value.str (Str.ofString "__dict__") 478, Value.ref 212, Value.builtin "function.__dict__", Value.builtin "function.__dict__#set"] }
noncomputable def q262 : Obj := { cls := Value.type "getset_descriptor", data := Data.fields #[Value.str (Str.ofString "__weakref__") 480, Value.ref 212, Value.builtin "ExceptionGroup.__weakref__", Value.none] }
noncomputable def q263 : Obj := { cls := Value.type "super", data := Data.fields #[Value.ref 212, Value.ref 212, Value.ref 212] }
noncomputable def q264 : Obj := { cls := Value.type "builtin_function_or_method", data := Data.fields #[Value.builtin "object.__init_subclass__", Value.ref 212] }
noncomputable def q265 : Obj := { cls := Value.type "tuple", data := Data.seq #[] }
noncomputable def q266 : Obj := { cls := Value.none, data := Data.fields #[] }
noncomputable def q267 : Obj := { cls := Value.type "tuple", data := Data.seq #[Value.str (Str.ofString "address") 488, Value.str (Str.ofString "place") 489] }
noncomputable def q268 : Obj := { cls := Value.type "tuple", data := Data.seq #[] }
noncomputable def q269 : Obj := { cls := Value.none, data := Data.func { name := Str.ofString "bit_at", qualname := Str.ofString "bit_at", params := fP 16 0, body := FuncBody.stmts (fB 16 0), scope := fS 16 0, globals := 0, closure := [], defaults := Value.none, kwdefaults := Value.none } }
noncomputable def q270 : Obj := { cls := Value.type "code", data := Data.fields #[Value.str (Str.ofString "bit_at") 485, Value.str (Str.ofString "bit_at") 486, Value.str (Str.ofString "/claim/cut.py") 487, Value.int 94 0, Value.int 2 0, Value.int 0 0, Value.int 0 0, Value.int 3 0, Value.ref 217, Value.bool true, Value.int 181 0, Value.ref 218, Value.none, Value.ref 219, Value.ref 220, Value.ref 221, Value.int 490 0, Value.int 94 0, Value.str (Str.ofString "/claim/cut.py") 491] }
noncomputable def q271 : Obj := { cls := Value.type "function", data := Data.func { name := Str.ofString "bit_at", qualname := Str.ofString "bit_at", params := fP 16 0, body := FuncBody.stmts (fB 16 0), scope := fS 16 0, globals := 3, closure := [], defaults := Value.none, kwdefaults := Value.none, pyModule := Value.str (Str.ofString "thinstack.routes") 337, code := Value.ref 222 } }
noncomputable def q272 (P : Params) : Obj := { cls := Value.type "dict", data := Data.dict #[{ hash := PyData.keyHash P (Str.ofString "__name__"), key := Value.str (Str.ofString "__name__") 165, val := Value.str (Str.ofString "thinstack.routes") 337 }, { hash := PyData.keyHash P (Str.ofString "__doc__"), key := Value.str (Str.ofString "__doc__") 166, val := Value.none }, { hash := PyData.keyHash P (Str.ofString "__package__"), key := Value.str (Str.ofString "__package__") 167, val := Value.none }, { hash := PyData.keyHash P (Str.ofString "__loader__"), key := Value.str (Str.ofString "__loader__") 168, val := Value.builtin "__main__.__loader__#opaque" }, { hash := PyData.keyHash P (Str.ofString "__spec__"), key := Value.str (Str.ofString "__spec__") 169, val := Value.none }, { hash := PyData.keyHash P (Str.ofString "__annotations__"), key := Value.str (Str.ofString "__annotations__") 170, val := Value.ref 6 }, { hash := PyData.keyHash P (Str.ofString "__builtins__"), key := Value.str (Str.ofString "__builtins__") 171, val := Value.ref 4 }, { hash := PyData.keyHash P (Str.ofString "__file__"), key := Value.str (Str.ofString "__file__") 173, val := Value.str (Str.ofString "/claim/cut.py") 172 }, { hash := PyData.keyHash P (Str.ofString "__cached__"), key := Value.str (Str.ofString "__cached__") 174, val := Value.none }, { hash := PyData.keyHash P (Str.ofString "_wall"), key := Value.str (Str.ofString "_wall") 193, val := Value.ref 21 }, { hash := PyData.keyHash P (Str.ofString "StackError"), key := Value.str (Str.ofString "StackError") 224, val := Value.ref 38 }, { hash := PyData.keyHash P (Str.ofString "RouteError"), key := Value.str (Str.ofString "RouteError") 240, val := Value.ref 51 }, { hash := PyData.keyHash P (Str.ofString "LEAST_HEAD"), key := Value.str (Str.ofString "LEAST_HEAD") 244, val := Value.int 20 243 }, { hash := PyData.keyHash P (Str.ofString "MOST_TOTAL"), key := Value.str (Str.ofString "MOST_TOTAL") 246, val := Value.int 65535 245 }, { hash := PyData.keyHash P (Str.ofString "IpHeader"), key := Value.str (Str.ofString "IpHeader") 336, val := Value.ref 106 }, { hash := PyData.keyHash P (Str.ofString "BITS"), key := Value.str (Str.ofString "BITS") 340, val := Value.int 32 339 }, { hash := PyData.keyHash P (Str.ofString "ALL"), key := Value.str (Str.ofString "ALL") 346, val := Value.int 4294967295 345 }, { hash := PyData.keyHash P (Str.ofString "mask_of"), key := Value.str (Str.ofString "mask_of") 353, val := Value.ref 117 }, { hash := PyData.keyHash P (Str.ofString "net_of"), key := Value.str (Str.ofString "net_of") 361, val := Value.ref 124 }, { hash := PyData.keyHash P (Str.ofString "is_loop"), key := Value.str (Str.ofString "is_loop") 368, val := Value.ref 131 }, { hash := PyData.keyHash P (Str.ofString "Route"), key := Value.str (Str.ofString "Route") 421, val := Value.ref 163 }, { hash := PyData.keyHash P (Str.ofString "Branch"), key := Value.str (Str.ofString "Branch") 484, val := Value.ref 212 }, { hash := PyData.keyHash P (Str.ofString "bit_at"), key := Value.str (Str.ofString "bit_at") 492, val := Value.ref 223 }, { hash := PyData.keyHash P (Str.ofString "Routes"), key := Value.str (Str.ofString "Routes") 601, val := Value.ref 296 }] 24 }
noncomputable def q273 : Obj := { cls := Value.none, data := Data.fields #[Value.int 1 0, Value.int 0 0, Value.ref 20, Value.int 5 0, Value.int 0 0, Value.ref 27, Value.int 9 0, Value.int 0 0, Value.ref 47, Value.int 14 0, Value.int 0 0, Value.ref 59, Value.int 45 0, Value.int 0 0, Value.ref 116, Value.int 49 0, Value.int 0 0, Value.ref 123, Value.int 51 0, Value.int 0 0, Value.ref 130, Value.int 53 0, Value.int 0 0, Value.ref 137, Value.int 67 0, Value.int 0 0, Value.ref 173, Value.int 94 0, Value.int 0 0, Value.ref 222, Value.int 96 0, Value.int 0 0, Value.ref 229] }
noncomputable def q274 : Obj := { cls := Value.type "tuple", data := Data.seq #[] }
noncomputable def q275 : Obj := { cls := Value.type "builtin_function_or_method", data := Data.fields #[Value.builtin "type.__prepare__", Value.type "type"] }
noncomputable def q276 (P : Params) : Obj := { cls := Value.type "dict", data := Data.dict #[{ hash := PyData.keyHash P (Str.ofString "__module__"), key := Value.str (Str.ofString "__module__") 500, val := Value.str (Str.ofString "thinstack.routes") 337 }, { hash := PyData.keyHash P (Str.ofString "__qualname__"), key := Value.str (Str.ofString "__qualname__") 502, val := Value.str (Str.ofString "Routes") 501 }, { hash := PyData.keyHash P (Str.ofString "__firstlineno__"), key := Value.str (Str.ofString "__firstlineno__") 504, val := Value.int 96 503 }, { hash := PyData.keyHash P (Str.ofString "__init__"), key := Value.str (Str.ofString "__init__") 511, val := Value.ref 237 }, { hash := PyData.keyHash P (Str.ofString "size"), key := Value.str (Str.ofString "size") 518, val := Value.ref 244 }, { hash := PyData.keyHash P (Str.ofString "path"), key := Value.str (Str.ofString "path") 532, val := Value.ref 251 }, { hash := PyData.keyHash P (Str.ofString "add"), key := Value.str (Str.ofString "add") 544, val := Value.ref 258 }, { hash := PyData.keyHash P (Str.ofString "remove"), key := Value.str (Str.ofString "remove") 553, val := Value.ref 265 }, { hash := PyData.keyHash P (Str.ofString "remove_face"), key := Value.str (Str.ofString "remove_face") 561, val := Value.ref 272 }, { hash := PyData.keyHash P (Str.ofString "prune"), key := Value.str (Str.ofString "prune") 570, val := Value.ref 279 }, { hash := PyData.keyHash P (Str.ofString "find"), key := Value.str (Str.ofString "find") 581, val := Value.ref 286 }, { hash := PyData.keyHash P (Str.ofString "rows"), key := Value.str (Str.ofString "rows") 591, val := Value.ref 293 }, { hash := PyData.keyHash P (Str.ofString "__static_attributes__"), key := Value.str (Str.ofString "__static_attributes__") 594, val := Value.ref 294 }] 13 }
noncomputable def q277 : Obj := { cls := Value.type "tuple", data := Data.seq #[] }
noncomputable def q278 : Obj := { cls := Value.none, data := Data.fields #[Value.int 98 0, Value.int 4 0, Value.ref 236, Value.int 102 0, Value.int 4 0, Value.ref 243, Value.int 105 0, Value.int 4 0, Value.ref 250, Value.int 118 0, Value.int 4 0, Value.ref 257, Value.int 133 0, Value.int 4 0, Value.ref 264, Value.int 136 0, Value.int 4 0, Value.ref 271, Value.int 139 0, Value.int 4 0, Value.ref 278, Value.int 142 0, Value.int 4 0, Value.ref 285, Value.int 153 0, Value.int 4 0, Value.ref 292] }
noncomputable def q279 : Obj := { cls := Value.type "code", data := Data.fields #[Value.str (Str.ofString "Routes") 495, Value.str (Str.ofString "Routes") 496, Value.str (Str.ofString "/claim/cut.py") 497, Value.int 96 0, Value.int 0 0, Value.int 0 0, Value.int 0 0, Value.int 0 0, Value.ref 227, Value.bool false, Value.int 181 0, Value.ref 228, Value.none, Value.none, Value.none, Value.none, Value.int 498 0, Value.int 96 0, Value.str (Str.ofString "/claim/cut.py") 499] }
noncomputable def q280 : Obj := { cls := Value.type "frame", slots := #[some (Value.ref 229), some (Value.ref 3), some (Value.ref 226), none, some (Value.str (Str.ofString "thinstack.routes") 337), none, some (Value.ref 0)] }
noncomputable def q281 : Obj := { cls := Value.type "tuple", data := Data.seq #[] }
noncomputable def q282 : Obj := { cls := Value.none, data := Data.fields #[] }
noncomputable def q283 : Obj := { cls := Value.type "tuple", data := Data.seq #[Value.str (Str.ofString "self") 508] }
noncomputable def q284 : Obj := { cls := Value.type "tuple", data := Data.seq #[] }
noncomputable def q285 : Obj := { cls := Value.none, data := Data.func { name := Str.ofString "__init__", qualname := Str.ofString "Routes.__init__", params := fP 17 1, body := FuncBody.stmts (fB 17 1), scope := fS 17 1, globals := 0, closure := [], defaults := Value.none, kwdefaults := Value.none } }
noncomputable def q286 : Obj := { cls := Value.type "code", data := Data.fields #[Value.str (Str.ofString "__init__") 505, Value.str (Str.ofString "Routes.__init__") 506, Value.str (Str.ofString "/claim/cut.py") 507, Value.int 98 0, Value.int 1 0, Value.int 0 0, Value.int 0 0, Value.int 3 0, Value.ref 231, Value.bool true, Value.int 181 0, Value.ref 232, Value.none, Value.ref 233, Value.ref 234, Value.ref 235, Value.int 509 0, Value.int 98 0, Value.str (Str.ofString "/claim/cut.py") 510] }
noncomputable def q287 : Obj := { cls := Value.type "function", data := Data.func { name := Str.ofString "__init__", qualname := Str.ofString "Routes.__init__", params := fP 17 1, body := FuncBody.stmts (fB 17 1), scope := fS 17 1, globals := 3, closure := [], defaults := Value.none, kwdefaults := Value.none, pyModule := Value.str (Str.ofString "thinstack.routes") 337, code := Value.ref 236 } }
noncomputable def q288 : Obj := { cls := Value.type "tuple", data := Data.seq #[] }
noncomputable def q289 : Obj := { cls := Value.none, data := Data.fields #[] }
noncomputable def q290 : Obj := { cls := Value.type "tuple", data := Data.seq #[Value.str (Str.ofString "self") 515] }
noncomputable def q291 : Obj := { cls := Value.type "tuple", data := Data.seq #[] }
noncomputable def q292 : Obj := { cls := Value.none, data := Data.func { name := Str.ofString "size", qualname := Str.ofString "Routes.size", params := fP 17 2, body := FuncBody.stmts (fB 17 2), scope := fS 17 2, globals := 0, closure := [], defaults := Value.none, kwdefaults := Value.none } }
noncomputable def q293 : Obj := { cls := Value.type "code", data := Data.fields #[Value.str (Str.ofString "size") 512, Value.str (Str.ofString "Routes.size") 513, Value.str (Str.ofString "/claim/cut.py") 514, Value.int 102 0, Value.int 1 0, Value.int 0 0, Value.int 0 0, Value.int 3 0, Value.ref 238, Value.bool true, Value.int 181 0, Value.ref 239, Value.none, Value.ref 240, Value.ref 241, Value.ref 242, Value.int 516 0, Value.int 102 0, Value.str (Str.ofString "/claim/cut.py") 517] }
noncomputable def q294 : Obj := { cls := Value.type "function", data := Data.func { name := Str.ofString "size", qualname := Str.ofString "Routes.size", params := fP 17 2, body := FuncBody.stmts (fB 17 2), scope := fS 17 2, globals := 3, closure := [], defaults := Value.none, kwdefaults := Value.none, pyModule := Value.str (Str.ofString "thinstack.routes") 337, code := Value.ref 243 } }
noncomputable def q295 : Obj := { cls := Value.type "tuple", data := Data.seq #[] }
noncomputable def q296 : Obj := { cls := Value.none, data := Data.fields #[] }
noncomputable def q297 : Obj := { cls := Value.type "tuple", data := Data.seq #[Value.str (Str.ofString "self") 522, Value.str (Str.ofString "net") 523, Value.str (Str.ofString "prefix") 524, Value.str (Str.ofString "makes") 525, Value.str (Str.ofString "found") 526, Value.str (Str.ofString "place") 527, Value.str (Str.ofString "bit") 528, Value.str (Str.ofString "later") 529] }
noncomputable def q298 : Obj := { cls := Value.type "tuple", data := Data.seq #[] }
noncomputable def q299 : Obj := { cls := Value.none, data := Data.func { name := Str.ofString "path", qualname := Str.ofString "Routes.path", params := fP 17 3, body := FuncBody.stmts (fB 17 3), scope := fS 17 3, globals := 0, closure := [], defaults := Value.none, kwdefaults := Value.none } }
noncomputable def q300 : Obj := { cls := Value.type "code", data := Data.fields #[Value.str (Str.ofString "path") 519, Value.str (Str.ofString "Routes.path") 520, Value.str (Str.ofString "/claim/cut.py") 521, Value.int 105 0, Value.int 4 0, Value.int 0 0, Value.int 0 0, Value.int 3 0, Value.ref 245, Value.bool true, Value.int 181 0, Value.ref 246, Value.none, Value.ref 247, Value.ref 248, Value.ref 249, Value.int 530 0, Value.int 105 0, Value.str (Str.ofString "/claim/cut.py") 531] }
noncomputable def q301 : Obj := { cls := Value.type "function", data := Data.func { name := Str.ofString "path", qualname := Str.ofString "Routes.path", params := fP 17 3, body := FuncBody.stmts (fB 17 3), scope := fS 17 3, globals := 3, closure := [], defaults := Value.none, kwdefaults := Value.none, pyModule := Value.str (Str.ofString "thinstack.routes") 337, code := Value.ref 250 } }
noncomputable def q302 : Obj := { cls := Value.type "tuple", data := Data.seq #[] }
noncomputable def q303 : Obj := { cls := Value.none, data := Data.fields #[] }
noncomputable def q304 : Obj := { cls := Value.type "tuple", data := Data.seq #[Value.str (Str.ofString "self") 536, Value.str (Str.ofString "route") 537, Value.str (Str.ofString "net") 538, Value.str (Str.ofString "branch") 539, Value.str (Str.ofString "at") 540, Value.str (Str.ofString "other") 541] }
noncomputable def q305 : Obj := { cls := Value.type "tuple", data := Data.seq #[] }
noncomputable def q306 : Obj := { cls := Value.none, data := Data.func { name := Str.ofString "add", qualname := Str.ofString "Routes.add", params := fP 17 4, body := FuncBody.stmts (fB 17 4), scope := fS 17 4, globals := 0, closure := [], defaults := Value.none, kwdefaults := Value.none } }
noncomputable def q307 : Obj := { cls := Value.type "code", data := Data.fields #[Value.str (Str.ofString "add") 533, Value.str (Str.ofString "Routes.add") 534, Value.str (Str.ofString "/claim/cut.py") 535, Value.int 118 0, Value.int 2 0, Value.int 0 0, Value.int 0 0, Value.int 3 0, Value.ref 252, Value.bool true, Value.int 181 0, Value.ref 253, Value.none, Value.ref 254, Value.ref 255, Value.ref 256, Value.int 542 0, Value.int 118 0, Value.str (Str.ofString "/claim/cut.py") 543] }
noncomputable def q308 : Obj := { cls := Value.type "function", data := Data.func { name := Str.ofString "add", qualname := Str.ofString "Routes.add", params := fP 17 4, body := FuncBody.stmts (fB 17 4), scope := fS 17 4, globals := 3, closure := [], defaults := Value.none, kwdefaults := Value.none, pyModule := Value.str (Str.ofString "thinstack.routes") 337, code := Value.ref 257 } }
noncomputable def q309 : Obj := { cls := Value.type "tuple", data := Data.seq #[] }
noncomputable def q310 : Obj := { cls := Value.none, data := Data.fields #[] }
noncomputable def q311 : Obj := { cls := Value.type "tuple", data := Data.seq #[Value.str (Str.ofString "self") 548, Value.str (Str.ofString "net") 549, Value.str (Str.ofString "prefix") 550] }
noncomputable def q312 : Obj := { cls := Value.type "tuple", data := Data.seq #[] }
noncomputable def q313 : Obj := { cls := Value.none, data := Data.func { name := Str.ofString "remove", qualname := Str.ofString "Routes.remove", params := fP 17 5, body := FuncBody.stmts (fB 17 5), scope := fS 17 5, globals := 0, closure := [], defaults := Value.none, kwdefaults := Value.none } }
noncomputable def q314 : Obj := { cls := Value.type "code", data := Data.fields #[Value.str (Str.ofString "remove") 545, Value.str (Str.ofString "Routes.remove") 546, Value.str (Str.ofString "/claim/cut.py") 547, Value.int 133 0, Value.int 3 0, Value.int 0 0, Value.int 0 0, Value.int 3 0, Value.ref 259, Value.bool true, Value.int 181 0, Value.ref 260, Value.none, Value.ref 261, Value.ref 262, Value.ref 263, Value.int 551 0, Value.int 133 0, Value.str (Str.ofString "/claim/cut.py") 552] }
noncomputable def q315 : Obj := { cls := Value.type "function", data := Data.func { name := Str.ofString "remove", qualname := Str.ofString "Routes.remove", params := fP 17 5, body := FuncBody.stmts (fB 17 5), scope := fS 17 5, globals := 3, closure := [], defaults := Value.none, kwdefaults := Value.none, pyModule := Value.str (Str.ofString "thinstack.routes") 337, code := Value.ref 264 } }
noncomputable def q316 : Obj := { cls := Value.type "tuple", data := Data.seq #[] }
noncomputable def q317 : Obj := { cls := Value.none, data := Data.fields #[] }
noncomputable def q318 : Obj := { cls := Value.type "tuple", data := Data.seq #[Value.str (Str.ofString "self") 557, Value.str (Str.ofString "face") 558] }
noncomputable def q319 : Obj := { cls := Value.type "tuple", data := Data.seq #[] }
noncomputable def q320 : Obj := { cls := Value.none, data := Data.func { name := Str.ofString "remove_face", qualname := Str.ofString "Routes.remove_face", params := fP 17 6, body := FuncBody.stmts (fB 17 6), scope := fS 17 6, globals := 0, closure := [], defaults := Value.none, kwdefaults := Value.none } }
noncomputable def q321 : Obj := { cls := Value.type "code", data := Data.fields #[Value.str (Str.ofString "remove_face") 554, Value.str (Str.ofString "Routes.remove_face") 555, Value.str (Str.ofString "/claim/cut.py") 556, Value.int 136 0, Value.int 2 0, Value.int 0 0, Value.int 0 0, Value.int 3 0, Value.ref 266, Value.bool true, Value.int 181 0, Value.ref 267, Value.none, Value.ref 268, Value.ref 269, Value.ref 270, Value.int 559 0, Value.int 136 0, Value.str (Str.ofString "/claim/cut.py") 560] }
noncomputable def q322 : Obj := { cls := Value.type "function", data := Data.func { name := Str.ofString "remove_face", qualname := Str.ofString "Routes.remove_face", params := fP 17 6, body := FuncBody.stmts (fB 17 6), scope := fS 17 6, globals := 3, closure := [], defaults := Value.none, kwdefaults := Value.none, pyModule := Value.str (Str.ofString "thinstack.routes") 337, code := Value.ref 271 } }
noncomputable def q323 : Obj := { cls := Value.type "tuple", data := Data.seq #[] }
noncomputable def q324 : Obj := { cls := Value.none, data := Data.fields #[] }
noncomputable def q325 : Obj := { cls := Value.type "tuple", data := Data.seq #[Value.str (Str.ofString "self") 565, Value.str (Str.ofString "net") 566, Value.str (Str.ofString "path") 567] }
noncomputable def q326 : Obj := { cls := Value.type "tuple", data := Data.seq #[] }
noncomputable def q327 : Obj := { cls := Value.none, data := Data.func { name := Str.ofString "prune", qualname := Str.ofString "Routes.prune", params := fP 17 7, body := FuncBody.stmts (fB 17 7), scope := fS 17 7, globals := 0, closure := [], defaults := Value.none, kwdefaults := Value.none } }
noncomputable def q328 : Obj := { cls := Value.type "code", data := Data.fields #[Value.str (Str.ofString "prune") 562, Value.str (Str.ofString "Routes.prune") 563, Value.str (Str.ofString "/claim/cut.py") 564, Value.int 139 0, Value.int 3 0, Value.int 0 0, Value.int 0 0, Value.int 3 0, Value.ref 273, Value.bool true, Value.int 181 0, Value.ref 274, Value.none, Value.ref 275, Value.ref 276, Value.ref 277, Value.int 568 0, Value.int 139 0, Value.str (Str.ofString "/claim/cut.py") 569] }
noncomputable def q329 : Obj := { cls := Value.type "function", data := Data.func { name := Str.ofString "prune", qualname := Str.ofString "Routes.prune", params := fP 17 7, body := FuncBody.stmts (fB 17 7), scope := fS 17 7, globals := 3, closure := [], defaults := Value.none, kwdefaults := Value.none, pyModule := Value.str (Str.ofString "thinstack.routes") 337, code := Value.ref 278 } }
noncomputable def q330 : Obj := { cls := Value.type "tuple", data := Data.seq #[] }
noncomputable def q331 : Obj := { cls := Value.none, data := Data.fields #[] }
noncomputable def q332 : Obj := { cls := Value.type "tuple", data := Data.seq #[Value.str (Str.ofString "self") 574, Value.str (Str.ofString "address") 575, Value.str (Str.ofString "branch") 576, Value.str (Str.ofString "found") 577, Value.str (Str.ofString "place") 578] }
noncomputable def q333 : Obj := { cls := Value.type "tuple", data := Data.seq #[] }
noncomputable def q334 : Obj := { cls := Value.none, data := Data.func { name := Str.ofString "find", qualname := Str.ofString "Routes.find", params := fP 17 8, body := FuncBody.stmts (fB 17 8), scope := fS 17 8, globals := 0, closure := [], defaults := Value.none, kwdefaults := Value.none } }
noncomputable def q335 : Obj := { cls := Value.type "code", data := Data.fields #[Value.str (Str.ofString "find") 571, Value.str (Str.ofString "Routes.find") 572, Value.str (Str.ofString "/claim/cut.py") 573, Value.int 142 0, Value.int 2 0, Value.int 0 0, Value.int 0 0, Value.int 3 0, Value.ref 280, Value.bool true, Value.int 181 0, Value.ref 281, Value.none, Value.ref 282, Value.ref 283, Value.ref 284, Value.int 579 0, Value.int 142 0, Value.str (Str.ofString "/claim/cut.py") 580] }
noncomputable def q336 : Obj := { cls := Value.type "function", data := Data.func { name := Str.ofString "find", qualname := Str.ofString "Routes.find", params := fP 17 8, body := FuncBody.stmts (fB 17 8), scope := fS 17 8, globals := 3, closure := [], defaults := Value.none, kwdefaults := Value.none, pyModule := Value.str (Str.ofString "thinstack.routes") 337, code := Value.ref 285 } }
noncomputable def q337 : Obj := { cls := Value.type "tuple", data := Data.seq #[] }
noncomputable def q338 : Obj := { cls := Value.none, data := Data.fields #[] }
noncomputable def q339 : Obj := { cls := Value.type "tuple", data := Data.seq #[Value.str (Str.ofString "self") 585, Value.str (Str.ofString "found") 586, Value.str (Str.ofString "left") 587, Value.str (Str.ofString "branch") 588] }
noncomputable def q340 : Obj := { cls := Value.type "tuple", data := Data.seq #[] }
noncomputable def q341 : Obj := { cls := Value.none, data := Data.func { name := Str.ofString "rows", qualname := Str.ofString "Routes.rows", params := fP 17 9, body := FuncBody.stmts (fB 17 9), scope := fS 17 9, globals := 0, closure := [], defaults := Value.none, kwdefaults := Value.none } }
noncomputable def q342 : Obj := { cls := Value.type "code", data := Data.fields #[Value.str (Str.ofString "rows") 582, Value.str (Str.ofString "Routes.rows") 583, Value.str (Str.ofString "/claim/cut.py") 584, Value.int 153 0, Value.int 1 0, Value.int 0 0, Value.int 0 0, Value.int 3 0, Value.ref 287, Value.bool true, Value.int 181 0, Value.ref 288, Value.none, Value.ref 289, Value.ref 290, Value.ref 291, Value.int 589 0, Value.int 153 0, Value.str (Str.ofString "/claim/cut.py") 590] }
noncomputable def q343 : Obj := { cls := Value.type "function", data := Data.func { name := Str.ofString "rows", qualname := Str.ofString "Routes.rows", params := fP 17 9, body := FuncBody.stmts (fB 17 9), scope := fS 17 9, globals := 3, closure := [], defaults := Value.none, kwdefaults := Value.none, pyModule := Value.str (Str.ofString "thinstack.routes") 337, code := Value.ref 292 } }
noncomputable def q344 : Obj := { cls := Value.type "tuple", data := Data.seq #[Value.str (Str.ofString "many") 592, Value.str (Str.ofString "root") 593] }
noncomputable def q345 (P : Params) : Obj := { cls := Value.type "dict", data := Data.dict #[{ hash := PyData.keyHash P (Str.ofString "__module__"), key := Value.str (Str.ofString "__module__") 500, val := Value.str (Str.ofString "thinstack.routes") 337 }, { hash := PyData.keyHash P (Str.ofString "__firstlineno__"), key := Value.str (Str.ofString "__firstlineno__") 504, val := Value.int 96 503 }, { hash := PyData.keyHash P (Str.ofString "__init__"), key := Value.str (Str.ofString "__init__") 511, val := Value.ref 237 }, { hash := PyData.keyHash P (Str.ofString "size"), key := Value.str (Str.ofString "size") 518, val := Value.ref 244 }, { hash := PyData.keyHash P (Str.ofString "path"), key := Value.str (Str.ofString "path") 532, val := Value.ref 251 }, { hash := PyData.keyHash P (Str.ofString "add"), key := Value.str (Str.ofString "add") 544, val := Value.ref 258 }, { hash := PyData.keyHash P (Str.ofString "remove"), key := Value.str (Str.ofString "remove") 553, val := Value.ref 265 }, { hash := PyData.keyHash P (Str.ofString "remove_face"), key := Value.str (Str.ofString "remove_face") 561, val := Value.ref 272 }, { hash := PyData.keyHash P (Str.ofString "prune"), key := Value.str (Str.ofString "prune") 570, val := Value.ref 279 }, { hash := PyData.keyHash P (Str.ofString "find"), key := Value.str (Str.ofString "find") 581, val := Value.ref 286 }, { hash := PyData.keyHash P (Str.ofString "rows"), key := Value.str (Str.ofString "rows") 591, val := Value.ref 293 }, { hash := PyData.keyHash P (Str.ofString "__static_attributes__"), key := Value.str (Str.ofString "__static_attributes__") 594, val := Value.ref 294 }, { hash := PyData.keyHash P (Str.ofString "__dict__"), key := Value.str (Str.ofString "__dict__") 596, val := Value.ref 297 }, { hash := PyData.keyHash P (Str.ofString "__weakref__"), key := Value.str (Str.ofString "__weakref__") 598, val := Value.ref 298 }, { hash := PyData.keyHash P (Str.ofString "__doc__"), key := Value.str (Str.ofString "__doc__") 599, val := Value.none }] 4 }
noncomputable def q346 : Obj := { cls := Value.type "type", data := Data.cls { name := Str.ofString "Routes", bases := [Value.type "object"], mro := [Value.ref 296, Value.type "object"], ns := 295, qualname := Str.ofString "Routes" }, slots := #[none, none, some (Value.str (Str.ofString "Routes") 493), some (Value.str (Str.ofString "Routes") 501), some (Value.builtin "object.__new__"), some (Value.bool true)] }
noncomputable def q347 : Obj := { cls := Value.type "getset_descriptor", data := Data.fields #[Value.str (Str.ofString "__dict__") 595, Value.ref 296, Value.builtin "function.__dict__", Value.builtin "function.__dict__#set"] }
noncomputable def q348 : Obj := { cls := Value.type "getset_descriptor", data := Data.fields #[Value.str (Str.ofString "__weakref__") 597, Value.ref 296, Value.builtin "ExceptionGroup.__weakref__", Value.none] }
noncomputable def q349 : Obj := { cls := Value.type "super", data := Data.fields #[Value.ref 296, Value.ref 296, Value.ref 296] }
noncomputable def q350 : Obj := { cls := Value.type "builtin_function_or_method", data := Data.fields #[Value.builtin "object.__init_subclass__", Value.ref 296] }
noncomputable def q353 : Obj := { cls := Value.type "tuple", data := Data.seq #[] }
noncomputable def q354 : Obj := { cls := Value.type "builtin_function_or_method", data := Data.fields #[Value.builtin "type.__prepare__", Value.type "type"] }
noncomputable def q355 (P : Params) : Obj := { cls := Value.type "dict", data := Data.dict #[{ hash := PyData.keyHash P (Str.ofString "__module__"), key := Value.str (Str.ofString "__module__") 611, val := Value.str (Str.ofString "thinstack.ip_layer") 602 }, { hash := PyData.keyHash P (Str.ofString "__qualname__"), key := Value.str (Str.ofString "__qualname__") 613, val := Value.str (Str.ofString "FaceRow") 612 }, { hash := PyData.keyHash P (Str.ofString "__firstlineno__"), key := Value.str (Str.ofString "__firstlineno__") 615, val := Value.int 165 614 }, { hash := PyData.keyHash P (Str.ofString "__init__"), key := Value.str (Str.ofString "__init__") 625, val := Value.ref 314 }, { hash := PyData.keyHash P (Str.ofString "__static_attributes__"), key := Value.str (Str.ofString "__static_attributes__") 629, val := Value.ref 315 }] 5 }
noncomputable def q356 : Obj := { cls := Value.type "tuple", data := Data.seq #[] }
noncomputable def q357 : Obj := { cls := Value.none, data := Data.fields #[Value.int 167 0, Value.int 4 0, Value.ref 313] }
noncomputable def q358 : Obj := { cls := Value.type "code", data := Data.fields #[Value.str (Str.ofString "FaceRow") 606, Value.str (Str.ofString "FaceRow") 607, Value.str (Str.ofString "/claim/cut.py") 608, Value.int 165 0, Value.int 0 0, Value.int 0 0, Value.int 0 0, Value.int 0 0, Value.ref 304, Value.bool false, Value.int 181 0, Value.ref 305, Value.none, Value.none, Value.none, Value.none, Value.int 609 0, Value.int 165 0, Value.str (Str.ofString "/claim/cut.py") 610] }
noncomputable def q359 : Obj := { cls := Value.type "frame", slots := #[some (Value.ref 306), some (Value.ref 3), some (Value.ref 303), none, some (Value.str (Str.ofString "thinstack.ip_layer") 602), none, some (Value.ref 0)] }
noncomputable def q360 : Obj := { cls := Value.type "tuple", data := Data.seq #[] }
noncomputable def q361 : Obj := { cls := Value.none, data := Data.fields #[] }
noncomputable def q362 : Obj := { cls := Value.type "tuple", data := Data.seq #[Value.str (Str.ofString "self") 619, Value.str (Str.ofString "address") 620, Value.str (Str.ofString "prefix") 621, Value.str (Str.ofString "mtu") 622] }
noncomputable def q363 : Obj := { cls := Value.type "tuple", data := Data.seq #[] }
noncomputable def q364 : Obj := { cls := Value.none, data := Data.func { name := Str.ofString "__init__", qualname := Str.ofString "FaceRow.__init__", params := fP 19 1, body := FuncBody.stmts (fB 19 1), scope := fS 19 1, globals := 0, closure := [], defaults := Value.none, kwdefaults := Value.none } }
noncomputable def q365 : Obj := { cls := Value.type "code", data := Data.fields #[Value.str (Str.ofString "__init__") 616, Value.str (Str.ofString "FaceRow.__init__") 617, Value.str (Str.ofString "/claim/cut.py") 618, Value.int 167 0, Value.int 4 0, Value.int 0 0, Value.int 0 0, Value.int 3 0, Value.ref 308, Value.bool true, Value.int 181 0, Value.ref 309, Value.none, Value.ref 310, Value.ref 311, Value.ref 312, Value.int 623 0, Value.int 167 0, Value.str (Str.ofString "/claim/cut.py") 624] }
noncomputable def q366 : Obj := { cls := Value.type "function", data := Data.func { name := Str.ofString "__init__", qualname := Str.ofString "FaceRow.__init__", params := fP 19 1, body := FuncBody.stmts (fB 19 1), scope := fS 19 1, globals := 3, closure := [], defaults := Value.none, kwdefaults := Value.none, pyModule := Value.str (Str.ofString "thinstack.ip_layer") 602, code := Value.ref 313 } }
noncomputable def q367 : Obj := { cls := Value.type "tuple", data := Data.seq #[Value.str (Str.ofString "address") 626, Value.str (Str.ofString "mtu") 627, Value.str (Str.ofString "prefix") 628] }
noncomputable def q368 (P : Params) : Obj := { cls := Value.type "dict", data := Data.dict #[{ hash := PyData.keyHash P (Str.ofString "__module__"), key := Value.str (Str.ofString "__module__") 611, val := Value.str (Str.ofString "thinstack.ip_layer") 602 }, { hash := PyData.keyHash P (Str.ofString "__firstlineno__"), key := Value.str (Str.ofString "__firstlineno__") 615, val := Value.int 165 614 }, { hash := PyData.keyHash P (Str.ofString "__init__"), key := Value.str (Str.ofString "__init__") 625, val := Value.ref 314 }, { hash := PyData.keyHash P (Str.ofString "__static_attributes__"), key := Value.str (Str.ofString "__static_attributes__") 629, val := Value.ref 315 }, { hash := PyData.keyHash P (Str.ofString "__dict__"), key := Value.str (Str.ofString "__dict__") 631, val := Value.ref 318 }, { hash := PyData.keyHash P (Str.ofString "__weakref__"), key := Value.str (Str.ofString "__weakref__") 633, val := Value.ref 319 }, { hash := PyData.keyHash P (Str.ofString "__doc__"), key := Value.str (Str.ofString "__doc__") 634, val := Value.none }] 4 }
noncomputable def q369 : Obj := { cls := Value.type "type", data := Data.cls { name := Str.ofString "FaceRow", bases := [Value.type "object"], mro := [Value.ref 317, Value.type "object"], ns := 316, qualname := Str.ofString "FaceRow" }, slots := #[none, none, some (Value.str (Str.ofString "FaceRow") 604), some (Value.str (Str.ofString "FaceRow") 612), some (Value.builtin "object.__new__"), some (Value.bool true)] }
noncomputable def q370 : Obj := { cls := Value.type "getset_descriptor", data := Data.fields #[Value.str (Str.ofString "__dict__") 630, Value.ref 317, Value.builtin "function.__dict__", Value.builtin "function.__dict__#set"] }
noncomputable def q371 : Obj := { cls := Value.type "getset_descriptor", data := Data.fields #[Value.str (Str.ofString "__weakref__") 632, Value.ref 317, Value.builtin "ExceptionGroup.__weakref__", Value.none] }
noncomputable def q372 : Obj := { cls := Value.type "super", data := Data.fields #[Value.ref 317, Value.ref 317, Value.ref 317] }
noncomputable def q373 : Obj := { cls := Value.type "builtin_function_or_method", data := Data.fields #[Value.builtin "object.__init_subclass__", Value.ref 317] }
noncomputable def q374 (P : Params) : Obj := { cls := Value.type "dict", data := Data.dict #[{ hash := PyData.keyHash P (Str.ofString "__name__"), key := Value.str (Str.ofString "__name__") 165, val := Value.str (Str.ofString "thinstack.ip_layer") 602 }, { hash := PyData.keyHash P (Str.ofString "__doc__"), key := Value.str (Str.ofString "__doc__") 166, val := Value.none }, { hash := PyData.keyHash P (Str.ofString "__package__"), key := Value.str (Str.ofString "__package__") 167, val := Value.none }, { hash := PyData.keyHash P (Str.ofString "__loader__"), key := Value.str (Str.ofString "__loader__") 168, val := Value.builtin "__main__.__loader__#opaque" }, { hash := PyData.keyHash P (Str.ofString "__spec__"), key := Value.str (Str.ofString "__spec__") 169, val := Value.none }, { hash := PyData.keyHash P (Str.ofString "__annotations__"), key := Value.str (Str.ofString "__annotations__") 170, val := Value.ref 6 }, { hash := PyData.keyHash P (Str.ofString "__builtins__"), key := Value.str (Str.ofString "__builtins__") 171, val := Value.ref 4 }, { hash := PyData.keyHash P (Str.ofString "__file__"), key := Value.str (Str.ofString "__file__") 173, val := Value.str (Str.ofString "/claim/cut.py") 172 }, { hash := PyData.keyHash P (Str.ofString "__cached__"), key := Value.str (Str.ofString "__cached__") 174, val := Value.none }, { hash := PyData.keyHash P (Str.ofString "_wall"), key := Value.str (Str.ofString "_wall") 193, val := Value.ref 21 }, { hash := PyData.keyHash P (Str.ofString "StackError"), key := Value.str (Str.ofString "StackError") 224, val := Value.ref 38 }, { hash := PyData.keyHash P (Str.ofString "RouteError"), key := Value.str (Str.ofString "RouteError") 240, val := Value.ref 51 }, { hash := PyData.keyHash P (Str.ofString "LEAST_HEAD"), key := Value.str (Str.ofString "LEAST_HEAD") 244, val := Value.int 20 243 }, { hash := PyData.keyHash P (Str.ofString "MOST_TOTAL"), key := Value.str (Str.ofString "MOST_TOTAL") 246, val := Value.int 65535 245 }, { hash := PyData.keyHash P (Str.ofString "IpHeader"), key := Value.str (Str.ofString "IpHeader") 336, val := Value.ref 106 }, { hash := PyData.keyHash P (Str.ofString "BITS"), key := Value.str (Str.ofString "BITS") 340, val := Value.int 32 339 }, { hash := PyData.keyHash P (Str.ofString "ALL"), key := Value.str (Str.ofString "ALL") 346, val := Value.int 4294967295 345 }, { hash := PyData.keyHash P (Str.ofString "mask_of"), key := Value.str (Str.ofString "mask_of") 353, val := Value.ref 117 }, { hash := PyData.keyHash P (Str.ofString "net_of"), key := Value.str (Str.ofString "net_of") 361, val := Value.ref 124 }, { hash := PyData.keyHash P (Str.ofString "is_loop"), key := Value.str (Str.ofString "is_loop") 368, val := Value.ref 131 }, { hash := PyData.keyHash P (Str.ofString "Route"), key := Value.str (Str.ofString "Route") 421, val := Value.ref 163 }, { hash := PyData.keyHash P (Str.ofString "Branch"), key := Value.str (Str.ofString "Branch") 484, val := Value.ref 212 }, { hash := PyData.keyHash P (Str.ofString "bit_at"), key := Value.str (Str.ofString "bit_at") 492, val := Value.ref 223 }, { hash := PyData.keyHash P (Str.ofString "Routes"), key := Value.str (Str.ofString "Routes") 601, val := Value.ref 296 }, { hash := PyData.keyHash P (Str.ofString "FaceRow"), key := Value.str (Str.ofString "FaceRow") 636, val := Value.ref 317 }, { hash := PyData.keyHash P (Str.ofString "IpLayer"), key := Value.str (Str.ofString "IpLayer") 807, val := Value.ref 445 }] 26 }
noncomputable def q375 : Obj := { cls := Value.none, data := Data.fields #[Value.int 1 0, Value.int 0 0, Value.ref 20, Value.int 5 0, Value.int 0 0, Value.ref 27, Value.int 9 0, Value.int 0 0, Value.ref 47, Value.int 14 0, Value.int 0 0, Value.ref 59, Value.int 45 0, Value.int 0 0, Value.ref 116, Value.int 49 0, Value.int 0 0, Value.ref 123, Value.int 51 0, Value.int 0 0, Value.ref 130, Value.int 53 0, Value.int 0 0, Value.ref 137, Value.int 67 0, Value.int 0 0, Value.ref 173, Value.int 94 0, Value.int 0 0, Value.ref 222, Value.int 96 0, Value.int 0 0, Value.ref 229, Value.int 165 0, Value.int 0 0, Value.ref 306, Value.int 171 0, Value.int 0 0, Value.ref 327] }
noncomputable def q376 : Obj := { cls := Value.type "tuple", data := Data.seq #[] }
noncomputable def q377 : Obj := { cls := Value.type "builtin_function_or_method", data := Data.fields #[Value.builtin "type.__prepare__", Value.type "type"] }
noncomputable def q378 (P : Params) : Obj := { cls := Value.type "dict", data := Data.dict #[{ hash := PyData.keyHash P (Str.ofString "__module__"), key := Value.str (Str.ofString "__module__") 644, val := Value.str (Str.ofString "thinstack.ip_layer") 602 }, { hash := PyData.keyHash P (Str.ofString "__qualname__"), key := Value.str (Str.ofString "__qualname__") 646, val := Value.str (Str.ofString "IpLayer") 645 }, { hash := PyData.keyHash P (Str.ofString "__firstlineno__"), key := Value.str (Str.ofString "__firstlineno__") 648, val := Value.int 171 647 }, { hash := PyData.keyHash P (Str.ofString "__init__"), key := Value.str (Str.ofString "__init__") 659, val := Value.ref 336 }, { hash := PyData.keyHash P (Str.ofString "next_ident"), key := Value.str (Str.ofString "next_ident") 666, val := Value.ref 343 }, { hash := PyData.keyHash P (Str.ofString "is_own"), key := Value.str (Str.ofString "is_own") 674, val := Value.ref 350 }, { hash := PyData.keyHash P (Str.ofString "is_told_to_all"), key := Value.str (Str.ofString "is_told_to_all") 683, val := Value.ref 357 }, { hash := PyData.keyHash P (Str.ofString "is_for_all"), key := Value.str (Str.ofString "is_for_all") 691, val := Value.ref 364 }, { hash := PyData.keyHash P (Str.ofString "may_send"), key := Value.str (Str.ofString "may_send") 699, val := Value.ref 371 }, { hash := PyData.keyHash P (Str.ofString "input"), key := Value.str (Str.ofString "input") 709, val := Value.ref 378 }, { hash := PyData.keyHash P (Str.ofString "deliver"), key := Value.str (Str.ofString "deliver") 720, val := Value.ref 385 }, { hash := PyData.keyHash P (Str.ofString "forward"), key := Value.str (Str.ofString "forward") 729, val := Value.ref 392 }, { hash := PyData.keyHash P (Str.ofString "packets"), key := Value.str (Str.ofString "packets") 739, val := Value.ref 399 }, { hash := PyData.keyHash P (Str.ofString "route_to"), key := Value.str (Str.ofString "route_to") 748, val := Value.ref 406 }, { hash := PyData.keyHash P (Str.ofString "source_for"), key := Value.str (Str.ofString "source_for") 756, val := Value.ref 413 }, { hash := PyData.keyHash P (Str.ofString "want_one_host"), key := Value.str (Str.ofString "want_one_host") 764, val := Value.ref 420 }, { hash := PyData.keyHash P (Str.ofString "output"), key := Value.str (Str.ofString "output") 778, val := Value.ref 428 }, { hash := PyData.keyHash P (Str.ofString "given_up"), key := Value.str (Str.ofString "given_up") 786, val := Value.ref 435 }, { hash := PyData.keyHash P (Str.ofString "expire"), key := Value.str (Str.ofString "expire") 794, val := Value.ref 442 }, { hash := PyData.keyHash P (Str.ofString "__static_attributes__"), key := Value.str (Str.ofString "__static_attributes__") 800, val := Value.ref 443 }] 20 }
noncomputable def q379 : Obj := { cls := Value.type "tuple", data := Data.seq #[] }
noncomputable def q380 : Obj := { cls := Value.none, data := Data.fields #[Value.int 173 0, Value.int 4 0, Value.ref 335, Value.int 180 0, Value.int 4 0, Value.ref 342, Value.int 183 0, Value.int 4 0, Value.ref 349, Value.int 186 0, Value.int 4 0, Value.ref 356, Value.int 189 0, Value.int 4 0, Value.ref 363, Value.int 192 0, Value.int 4 0, Value.ref 370, Value.int 195 0, Value.int 4 0, Value.ref 377, Value.int 198 0, Value.int 4 0, Value.ref 384, Value.int 201 0, Value.int 4 0, Value.ref 391, Value.int 204 0, Value.int 4 0, Value.ref 398, Value.int 207 0, Value.int 4 0, Value.ref 405, Value.int 213 0, Value.int 4 0, Value.ref 412, Value.int 216 0, Value.int 4 0, Value.ref 419, Value.int 219 0, Value.int 4 0, Value.ref 427, Value.int 222 0, Value.int 4 0, Value.ref 434, Value.int 225 0, Value.int 4 0, Value.ref 441] }
noncomputable def q381 : Obj := { cls := Value.type "code", data := Data.fields #[Value.str (Str.ofString "IpLayer") 639, Value.str (Str.ofString "IpLayer") 640, Value.str (Str.ofString "/claim/cut.py") 641, Value.int 171 0, Value.int 0 0, Value.int 0 0, Value.int 0 0, Value.int 0 0, Value.ref 325, Value.bool false, Value.int 181 0, Value.ref 326, Value.none, Value.none, Value.none, Value.none, Value.int 642 0, Value.int 171 0, Value.str (Str.ofString "/claim/cut.py") 643] }
noncomputable def q382 : Obj := { cls := Value.type "frame", slots := #[some (Value.ref 327), some (Value.ref 3), some (Value.ref 324), none, some (Value.str (Str.ofString "thinstack.ip_layer") 602), none, some (Value.ref 0)] }
noncomputable def q383 : Obj := { cls := Value.type "tuple", data := Data.seq #[Value.bool false] }
noncomputable def q384 : Obj := { cls := Value.type "tuple", data := Data.seq #[] }
noncomputable def q385 : Obj := { cls := Value.none, data := Data.fields #[] }
noncomputable def q386 : Obj := { cls := Value.type "tuple", data := Data.seq #[Value.str (Str.ofString "self") 652, Value.str (Str.ofString "faces") 653, Value.str (Str.ofString "routes") 654, Value.str (Str.ofString "reassembly") 655, Value.str (Str.ofString "forwards") 656] }
noncomputable def q387 : Obj := { cls := Value.type "tuple", data := Data.seq #[] }
noncomputable def q388 : Obj := { cls := Value.none, data := Data.func { name := Str.ofString "__init__", qualname := Str.ofString "IpLayer.__init__", params := fP 20 1, body := FuncBody.stmts (fB 20 1), scope := fS 20 1, globals := 0, closure := [], defaults := Value.none, kwdefaults := Value.none } }
noncomputable def q389 : Obj := { cls := Value.type "code", data := Data.fields #[Value.str (Str.ofString "__init__") 649, Value.str (Str.ofString "IpLayer.__init__") 650, Value.str (Str.ofString "/claim/cut.py") 651, Value.int 173 0, Value.int 5 0, Value.int 0 0, Value.int 0 0, Value.int 3 0, Value.ref 330, Value.bool true, Value.int 181 0, Value.ref 331, Value.none, Value.ref 332, Value.ref 333, Value.ref 334, Value.int 657 0, Value.int 173 0, Value.str (Str.ofString "/claim/cut.py") 658] }
noncomputable def q390 : Obj := { cls := Value.type "function", data := Data.func { name := Str.ofString "__init__", qualname := Str.ofString "IpLayer.__init__", params := fP 20 1, body := FuncBody.stmts (fB 20 1), scope := fS 20 1, globals := 3, closure := [], defaults := Value.ref 329, kwdefaults := Value.none, pyModule := Value.str (Str.ofString "thinstack.ip_layer") 602, code := Value.ref 335 } }
noncomputable def q391 : Obj := { cls := Value.type "tuple", data := Data.seq #[] }
noncomputable def q392 : Obj := { cls := Value.none, data := Data.fields #[] }
noncomputable def q393 : Obj := { cls := Value.type "tuple", data := Data.seq #[Value.str (Str.ofString "self") 663] }
noncomputable def q394 : Obj := { cls := Value.type "tuple", data := Data.seq #[] }
noncomputable def q395 : Obj := { cls := Value.none, data := Data.func { name := Str.ofString "next_ident", qualname := Str.ofString "IpLayer.next_ident", params := fP 20 2, body := FuncBody.stmts (fB 20 2), scope := fS 20 2, globals := 0, closure := [], defaults := Value.none, kwdefaults := Value.none } }
noncomputable def q396 : Obj := { cls := Value.type "code", data := Data.fields #[Value.str (Str.ofString "next_ident") 660, Value.str (Str.ofString "IpLayer.next_ident") 661, Value.str (Str.ofString "/claim/cut.py") 662, Value.int 180 0, Value.int 1 0, Value.int 0 0, Value.int 0 0, Value.int 3 0, Value.ref 337, Value.bool true, Value.int 181 0, Value.ref 338, Value.none, Value.ref 339, Value.ref 340, Value.ref 341, Value.int 664 0, Value.int 180 0, Value.str (Str.ofString "/claim/cut.py") 665] }
noncomputable def q397 : Obj := { cls := Value.type "function", data := Data.func { name := Str.ofString "next_ident", qualname := Str.ofString "IpLayer.next_ident", params := fP 20 2, body := FuncBody.stmts (fB 20 2), scope := fS 20 2, globals := 3, closure := [], defaults := Value.none, kwdefaults := Value.none, pyModule := Value.str (Str.ofString "thinstack.ip_layer") 602, code := Value.ref 342 } }
noncomputable def q398 : Obj := { cls := Value.type "tuple", data := Data.seq #[] }
noncomputable def q399 : Obj := { cls := Value.none, data := Data.fields #[] }
noncomputable def q400 : Obj := { cls := Value.type "tuple", data := Data.seq #[Value.str (Str.ofString "self") 670, Value.str (Str.ofString "address") 671] }
noncomputable def q401 : Obj := { cls := Value.type "tuple", data := Data.seq #[] }
noncomputable def q402 : Obj := { cls := Value.none, data := Data.func { name := Str.ofString "is_own", qualname := Str.ofString "IpLayer.is_own", params := fP 20 3, body := FuncBody.stmts (fB 20 3), scope := fS 20 3, globals := 0, closure := [], defaults := Value.none, kwdefaults := Value.none } }
noncomputable def q403 : Obj := { cls := Value.type "code", data := Data.fields #[Value.str (Str.ofString "is_own") 667, Value.str (Str.ofString "IpLayer.is_own") 668, Value.str (Str.ofString "/claim/cut.py") 669, Value.int 183 0, Value.int 2 0, Value.int 0 0, Value.int 0 0, Value.int 3 0, Value.ref 344, Value.bool true, Value.int 181 0, Value.ref 345, Value.none, Value.ref 346, Value.ref 347, Value.ref 348, Value.int 672 0, Value.int 183 0, Value.str (Str.ofString "/claim/cut.py") 673] }
noncomputable def q404 : Obj := { cls := Value.type "function", data := Data.func { name := Str.ofString "is_own", qualname := Str.ofString "IpLayer.is_own", params := fP 20 3, body := FuncBody.stmts (fB 20 3), scope := fS 20 3, globals := 3, closure := [], defaults := Value.none, kwdefaults := Value.none, pyModule := Value.str (Str.ofString "thinstack.ip_layer") 602, code := Value.ref 349 } }
noncomputable def q405 : Obj := { cls := Value.type "tuple", data := Data.seq #[] }
noncomputable def q406 : Obj := { cls := Value.none, data := Data.fields #[] }
noncomputable def q407 : Obj := { cls := Value.type "tuple", data := Data.seq #[Value.str (Str.ofString "self") 678, Value.str (Str.ofString "address") 679, Value.str (Str.ofString "face") 680] }
noncomputable def q408 : Obj := { cls := Value.type "tuple", data := Data.seq #[] }
noncomputable def q409 : Obj := { cls := Value.none, data := Data.func { name := Str.ofString "is_told_to_all", qualname := Str.ofString "IpLayer.is_told_to_all", params := fP 20 4, body := FuncBody.stmts (fB 20 4), scope := fS 20 4, globals := 0, closure := [], defaults := Value.none, kwdefaults := Value.none } }
noncomputable def q410 : Obj := { cls := Value.type "code", data := Data.fields #[Value.str (Str.ofString "is_told_to_all") 675, Value.str (Str.ofString "IpLayer.is_told_to_all") 676, Value.str (Str.ofString "/claim/cut.py") 677, Value.int 186 0, Value.int 3 0, Value.int 0 0, Value.int 0 0, Value.int 3 0, Value.ref 351, Value.bool true, Value.int 181 0, Value.ref 352, Value.none, Value.ref 353, Value.ref 354, Value.ref 355, Value.int 681 0, Value.int 186 0, Value.str (Str.ofString "/claim/cut.py") 682] }
noncomputable def q411 : Obj := { cls := Value.type "function", data := Data.func { name := Str.ofString "is_told_to_all", qualname := Str.ofString "IpLayer.is_told_to_all", params := fP 20 4, body := FuncBody.stmts (fB 20 4), scope := fS 20 4, globals := 3, closure := [], defaults := Value.none, kwdefaults := Value.none, pyModule := Value.str (Str.ofString "thinstack.ip_layer") 602, code := Value.ref 356 } }
noncomputable def q412 : Obj := { cls := Value.type "tuple", data := Data.seq #[] }
noncomputable def q413 : Obj := { cls := Value.none, data := Data.fields #[] }
noncomputable def q414 : Obj := { cls := Value.type "tuple", data := Data.seq #[Value.str (Str.ofString "self") 687, Value.str (Str.ofString "address") 688] }
noncomputable def q415 : Obj := { cls := Value.type "tuple", data := Data.seq #[] }
noncomputable def q416 : Obj := { cls := Value.none, data := Data.func { name := Str.ofString "is_for_all", qualname := Str.ofString "IpLayer.is_for_all", params := fP 20 5, body := FuncBody.stmts (fB 20 5), scope := fS 20 5, globals := 0, closure := [], defaults := Value.none, kwdefaults := Value.none } }
noncomputable def q417 : Obj := { cls := Value.type "code", data := Data.fields #[Value.str (Str.ofString "is_for_all") 684, Value.str (Str.ofString "IpLayer.is_for_all") 685, Value.str (Str.ofString "/claim/cut.py") 686, Value.int 189 0, Value.int 2 0, Value.int 0 0, Value.int 0 0, Value.int 3 0, Value.ref 358, Value.bool true, Value.int 181 0, Value.ref 359, Value.none, Value.ref 360, Value.ref 361, Value.ref 362, Value.int 689 0, Value.int 189 0, Value.str (Str.ofString "/claim/cut.py") 690] }
noncomputable def q418 : Obj := { cls := Value.type "function", data := Data.func { name := Str.ofString "is_for_all", qualname := Str.ofString "IpLayer.is_for_all", params := fP 20 5, body := FuncBody.stmts (fB 20 5), scope := fS 20 5, globals := 3, closure := [], defaults := Value.none, kwdefaults := Value.none, pyModule := Value.str (Str.ofString "thinstack.ip_layer") 602, code := Value.ref 363 } }
noncomputable def q419 : Obj := { cls := Value.type "tuple", data := Data.seq #[] }
noncomputable def q420 : Obj := { cls := Value.none, data := Data.fields #[] }
noncomputable def q421 : Obj := { cls := Value.type "tuple", data := Data.seq #[Value.str (Str.ofString "self") 695, Value.str (Str.ofString "address") 696] }
noncomputable def q422 : Obj := { cls := Value.type "tuple", data := Data.seq #[] }
noncomputable def q423 : Obj := { cls := Value.none, data := Data.func { name := Str.ofString "may_send", qualname := Str.ofString "IpLayer.may_send", params := fP 20 6, body := FuncBody.stmts (fB 20 6), scope := fS 20 6, globals := 0, closure := [], defaults := Value.none, kwdefaults := Value.none } }
noncomputable def q424 : Obj := { cls := Value.type "code", data := Data.fields #[Value.str (Str.ofString "may_send") 692, Value.str (Str.ofString "IpLayer.may_send") 693, Value.str (Str.ofString "/claim/cut.py") 694, Value.int 192 0, Value.int 2 0, Value.int 0 0, Value.int 0 0, Value.int 3 0, Value.ref 365, Value.bool true, Value.int 181 0, Value.ref 366, Value.none, Value.ref 367, Value.ref 368, Value.ref 369, Value.int 697 0, Value.int 192 0, Value.str (Str.ofString "/claim/cut.py") 698] }
noncomputable def q425 : Obj := { cls := Value.type "function", data := Data.func { name := Str.ofString "may_send", qualname := Str.ofString "IpLayer.may_send", params := fP 20 6, body := FuncBody.stmts (fB 20 6), scope := fS 20 6, globals := 3, closure := [], defaults := Value.none, kwdefaults := Value.none, pyModule := Value.str (Str.ofString "thinstack.ip_layer") 602, code := Value.ref 370 } }
noncomputable def q426 : Obj := { cls := Value.type "tuple", data := Data.seq #[] }
noncomputable def q427 : Obj := { cls := Value.none, data := Data.fields #[] }
noncomputable def q428 : Obj := { cls := Value.type "tuple", data := Data.seq #[Value.str (Str.ofString "self") 703, Value.str (Str.ofString "octets") 704, Value.str (Str.ofString "face") 705, Value.str (Str.ofString "now") 706] }
noncomputable def q429 : Obj := { cls := Value.type "tuple", data := Data.seq #[] }
noncomputable def q430 : Obj := { cls := Value.none, data := Data.func { name := Str.ofString "input", qualname := Str.ofString "IpLayer.input", params := fP 20 7, body := FuncBody.stmts (fB 20 7), scope := fS 20 7, globals := 0, closure := [], defaults := Value.none, kwdefaults := Value.none } }
noncomputable def q431 : Obj := { cls := Value.type "code", data := Data.fields #[Value.str (Str.ofString "input") 700, Value.str (Str.ofString "IpLayer.input") 701, Value.str (Str.ofString "/claim/cut.py") 702, Value.int 195 0, Value.int 4 0, Value.int 0 0, Value.int 0 0, Value.int 3 0, Value.ref 372, Value.bool true, Value.int 181 0, Value.ref 373, Value.none, Value.ref 374, Value.ref 375, Value.ref 376, Value.int 707 0, Value.int 195 0, Value.str (Str.ofString "/claim/cut.py") 708] }
noncomputable def q432 : Obj := { cls := Value.type "function", data := Data.func { name := Str.ofString "input", qualname := Str.ofString "IpLayer.input", params := fP 20 7, body := FuncBody.stmts (fB 20 7), scope := fS 20 7, globals := 3, closure := [], defaults := Value.none, kwdefaults := Value.none, pyModule := Value.str (Str.ofString "thinstack.ip_layer") 602, code := Value.ref 377 } }
noncomputable def q433 : Obj := { cls := Value.type "tuple", data := Data.seq #[] }
noncomputable def q434 : Obj := { cls := Value.none, data := Data.fields #[] }
noncomputable def q435 : Obj := { cls := Value.type "tuple", data := Data.seq #[Value.str (Str.ofString "self") 713, Value.str (Str.ofString "header") 714, Value.str (Str.ofString "payload") 715, Value.str (Str.ofString "to_all") 716, Value.str (Str.ofString "now") 717] }
noncomputable def q436 : Obj := { cls := Value.type "tuple", data := Data.seq #[] }
noncomputable def q437 : Obj := { cls := Value.none, data := Data.func { name := Str.ofString "deliver", qualname := Str.ofString "IpLayer.deliver", params := fP 20 8, body := FuncBody.stmts (fB 20 8), scope := fS 20 8, globals := 0, closure := [], defaults := Value.none, kwdefaults := Value.none } }
noncomputable def q438 : Obj := { cls := Value.type "code", data := Data.fields #[Value.str (Str.ofString "deliver") 710, Value.str (Str.ofString "IpLayer.deliver") 711, Value.str (Str.ofString "/claim/cut.py") 712, Value.int 198 0, Value.int 5 0, Value.int 0 0, Value.int 0 0, Value.int 3 0, Value.ref 379, Value.bool true, Value.int 181 0, Value.ref 380, Value.none, Value.ref 381, Value.ref 382, Value.ref 383, Value.int 718 0, Value.int 198 0, Value.str (Str.ofString "/claim/cut.py") 719] }
noncomputable def q439 : Obj := { cls := Value.type "function", data := Data.func { name := Str.ofString "deliver", qualname := Str.ofString "IpLayer.deliver", params := fP 20 8, body := FuncBody.stmts (fB 20 8), scope := fS 20 8, globals := 3, closure := [], defaults := Value.none, kwdefaults := Value.none, pyModule := Value.str (Str.ofString "thinstack.ip_layer") 602, code := Value.ref 384 } }
noncomputable def q440 : Obj := { cls := Value.type "tuple", data := Data.seq #[] }
noncomputable def q441 : Obj := { cls := Value.none, data := Data.fields #[] }
noncomputable def q442 : Obj := { cls := Value.type "tuple", data := Data.seq #[Value.str (Str.ofString "self") 724, Value.str (Str.ofString "header") 725, Value.str (Str.ofString "payload") 726] }
noncomputable def q443 : Obj := { cls := Value.type "tuple", data := Data.seq #[] }
noncomputable def q444 : Obj := { cls := Value.none, data := Data.func { name := Str.ofString "forward", qualname := Str.ofString "IpLayer.forward", params := fP 20 9, body := FuncBody.stmts (fB 20 9), scope := fS 20 9, globals := 0, closure := [], defaults := Value.none, kwdefaults := Value.none } }
noncomputable def q445 : Obj := { cls := Value.type "code", data := Data.fields #[Value.str (Str.ofString "forward") 721, Value.str (Str.ofString "IpLayer.forward") 722, Value.str (Str.ofString "/claim/cut.py") 723, Value.int 201 0, Value.int 3 0, Value.int 0 0, Value.int 0 0, Value.int 3 0, Value.ref 386, Value.bool true, Value.int 181 0, Value.ref 387, Value.none, Value.ref 388, Value.ref 389, Value.ref 390, Value.int 727 0, Value.int 201 0, Value.str (Str.ofString "/claim/cut.py") 728] }
noncomputable def q446 : Obj := { cls := Value.type "function", data := Data.func { name := Str.ofString "forward", qualname := Str.ofString "IpLayer.forward", params := fP 20 9, body := FuncBody.stmts (fB 20 9), scope := fS 20 9, globals := 3, closure := [], defaults := Value.none, kwdefaults := Value.none, pyModule := Value.str (Str.ofString "thinstack.ip_layer") 602, code := Value.ref 391 } }
noncomputable def q447 : Obj := { cls := Value.type "tuple", data := Data.seq #[] }
noncomputable def q448 : Obj := { cls := Value.none, data := Data.fields #[] }
noncomputable def q449 : Obj := { cls := Value.type "tuple", data := Data.seq #[Value.str (Str.ofString "self") 733, Value.str (Str.ofString "header") 734, Value.str (Str.ofString "payload") 735, Value.str (Str.ofString "route") 736] }
noncomputable def q450 : Obj := { cls := Value.type "tuple", data := Data.seq #[] }
noncomputable def q451 : Obj := { cls := Value.none, data := Data.func { name := Str.ofString "packets", qualname := Str.ofString "IpLayer.packets", params := fP 20 10, body := FuncBody.stmts (fB 20 10), scope := fS 20 10, globals := 0, closure := [], defaults := Value.none, kwdefaults := Value.none } }
noncomputable def q452 : Obj := { cls := Value.type "code", data := Data.fields #[Value.str (Str.ofString "packets") 730, Value.str (Str.ofString "IpLayer.packets") 731, Value.str (Str.ofString "/claim/cut.py") 732, Value.int 204 0, Value.int 4 0, Value.int 0 0, Value.int 0 0, Value.int 3 0, Value.ref 393, Value.bool true, Value.int 181 0, Value.ref 394, Value.none, Value.ref 395, Value.ref 396, Value.ref 397, Value.int 737 0, Value.int 204 0, Value.str (Str.ofString "/claim/cut.py") 738] }
noncomputable def q453 : Obj := { cls := Value.type "function", data := Data.func { name := Str.ofString "packets", qualname := Str.ofString "IpLayer.packets", params := fP 20 10, body := FuncBody.stmts (fB 20 10), scope := fS 20 10, globals := 3, closure := [], defaults := Value.none, kwdefaults := Value.none, pyModule := Value.str (Str.ofString "thinstack.ip_layer") 602, code := Value.ref 398 } }
noncomputable def q454 : Obj := { cls := Value.type "tuple", data := Data.seq #[] }
noncomputable def q455 : Obj := { cls := Value.none, data := Data.fields #[] }
noncomputable def q456 : Obj := { cls := Value.type "tuple", data := Data.seq #[Value.str (Str.ofString "self") 743, Value.str (Str.ofString "target") 744, Value.str (Str.ofString "route") 745] }
noncomputable def q457 : Obj := { cls := Value.type "tuple", data := Data.seq #[] }
noncomputable def q458 : Obj := { cls := Value.none, data := Data.func { name := Str.ofString "route_to", qualname := Str.ofString "IpLayer.route_to", params := fP 20 11, body := FuncBody.stmts (fB 20 11), scope := fS 20 11, globals := 0, closure := [], defaults := Value.none, kwdefaults := Value.none } }
noncomputable def q459 : Obj := { cls := Value.type "code", data := Data.fields #[Value.str (Str.ofString "route_to") 740, Value.str (Str.ofString "IpLayer.route_to") 741, Value.str (Str.ofString "/claim/cut.py") 742, Value.int 207 0, Value.int 2 0, Value.int 0 0, Value.int 0 0, Value.int 3 0, Value.ref 400, Value.bool true, Value.int 181 0, Value.ref 401, Value.none, Value.ref 402, Value.ref 403, Value.ref 404, Value.int 746 0, Value.int 207 0, Value.str (Str.ofString "/claim/cut.py") 747] }
noncomputable def q460 : Obj := { cls := Value.type "function", data := Data.func { name := Str.ofString "route_to", qualname := Str.ofString "IpLayer.route_to", params := fP 20 11, body := FuncBody.stmts (fB 20 11), scope := fS 20 11, globals := 3, closure := [], defaults := Value.none, kwdefaults := Value.none, pyModule := Value.str (Str.ofString "thinstack.ip_layer") 602, code := Value.ref 405 } }
noncomputable def q461 : Obj := { cls := Value.type "tuple", data := Data.seq #[] }
noncomputable def q462 : Obj := { cls := Value.none, data := Data.fields #[] }
noncomputable def q463 : Obj := { cls := Value.type "tuple", data := Data.seq #[Value.str (Str.ofString "self") 752, Value.str (Str.ofString "target") 753] }
noncomputable def q464 : Obj := { cls := Value.type "tuple", data := Data.seq #[] }
noncomputable def q465 : Obj := { cls := Value.none, data := Data.func { name := Str.ofString "source_for", qualname := Str.ofString "IpLayer.source_for", params := fP 20 12, body := FuncBody.stmts (fB 20 12), scope := fS 20 12, globals := 0, closure := [], defaults := Value.none, kwdefaults := Value.none } }
noncomputable def q466 : Obj := { cls := Value.type "code", data := Data.fields #[Value.str (Str.ofString "source_for") 749, Value.str (Str.ofString "IpLayer.source_for") 750, Value.str (Str.ofString "/claim/cut.py") 751, Value.int 213 0, Value.int 2 0, Value.int 0 0, Value.int 0 0, Value.int 3 0, Value.ref 407, Value.bool true, Value.int 181 0, Value.ref 408, Value.none, Value.ref 409, Value.ref 410, Value.ref 411, Value.int 754 0, Value.int 213 0, Value.str (Str.ofString "/claim/cut.py") 755] }
noncomputable def q467 : Obj := { cls := Value.type "function", data := Data.func { name := Str.ofString "source_for", qualname := Str.ofString "IpLayer.source_for", params := fP 20 12, body := FuncBody.stmts (fB 20 12), scope := fS 20 12, globals := 3, closure := [], defaults := Value.none, kwdefaults := Value.none, pyModule := Value.str (Str.ofString "thinstack.ip_layer") 602, code := Value.ref 412 } }
noncomputable def q468 : Obj := { cls := Value.type "tuple", data := Data.seq #[] }
noncomputable def q469 : Obj := { cls := Value.none, data := Data.fields #[] }
noncomputable def q470 : Obj := { cls := Value.type "tuple", data := Data.seq #[Value.str (Str.ofString "self") 760, Value.str (Str.ofString "target") 761] }
noncomputable def q471 : Obj := { cls := Value.type "tuple", data := Data.seq #[] }
noncomputable def q472 : Obj := { cls := Value.none, data := Data.func { name := Str.ofString "want_one_host", qualname := Str.ofString "IpLayer.want_one_host", params := fP 20 13, body := FuncBody.stmts (fB 20 13), scope := fS 20 13, globals := 0, closure := [], defaults := Value.none, kwdefaults := Value.none } }
noncomputable def q473 : Obj := { cls := Value.type "code", data := Data.fields #[Value.str (Str.ofString "want_one_host") 757, Value.str (Str.ofString "IpLayer.want_one_host") 758, Value.str (Str.ofString "/claim/cut.py") 759, Value.int 216 0, Value.int 2 0, Value.int 0 0, Value.int 0 0, Value.int 3 0, Value.ref 414, Value.bool true, Value.int 181 0, Value.ref 415, Value.none, Value.ref 416, Value.ref 417, Value.ref 418, Value.int 762 0, Value.int 216 0, Value.str (Str.ofString "/claim/cut.py") 763] }
noncomputable def q474 : Obj := { cls := Value.type "function", data := Data.func { name := Str.ofString "want_one_host", qualname := Str.ofString "IpLayer.want_one_host", params := fP 20 13, body := FuncBody.stmts (fB 20 13), scope := fS 20 13, globals := 3, closure := [], defaults := Value.none, kwdefaults := Value.none, pyModule := Value.str (Str.ofString "thinstack.ip_layer") 602, code := Value.ref 419 } }
noncomputable def q475 : Obj := { cls := Value.type "tuple", data := Data.seq #[Value.int 64 765, Value.bool false] }
noncomputable def q476 : Obj := { cls := Value.type "tuple", data := Data.seq #[] }
noncomputable def q477 : Obj := { cls := Value.none, data := Data.fields #[] }
noncomputable def q478 : Obj := { cls := Value.type "tuple", data := Data.seq #[Value.str (Str.ofString "self") 769, Value.str (Str.ofString "protocol") 770, Value.str (Str.ofString "source") 771, Value.str (Str.ofString "target") 772, Value.str (Str.ofString "payload") 773, Value.str (Str.ofString "ttl") 774, Value.str (Str.ofString "dont") 775] }
noncomputable def q479 : Obj := { cls := Value.type "tuple", data := Data.seq #[] }
noncomputable def q480 : Obj := { cls := Value.none, data := Data.func { name := Str.ofString "output", qualname := Str.ofString "IpLayer.output", params := fP 20 14, body := FuncBody.stmts (fB 20 14), scope := fS 20 14, globals := 0, closure := [], defaults := Value.none, kwdefaults := Value.none } }
noncomputable def q481 : Obj := { cls := Value.type "code", data := Data.fields #[Value.str (Str.ofString "output") 766, Value.str (Str.ofString "IpLayer.output") 767, Value.str (Str.ofString "/claim/cut.py") 768, Value.int 219 0, Value.int 7 0, Value.int 0 0, Value.int 0 0, Value.int 3 0, Value.ref 422, Value.bool true, Value.int 181 0, Value.ref 423, Value.none, Value.ref 424, Value.ref 425, Value.ref 426, Value.int 776 0, Value.int 219 0, Value.str (Str.ofString "/claim/cut.py") 777] }
noncomputable def q482 : Obj := { cls := Value.type "function", data := Data.func { name := Str.ofString "output", qualname := Str.ofString "IpLayer.output", params := fP 20 14, body := FuncBody.stmts (fB 20 14), scope := fS 20 14, globals := 3, closure := [], defaults := Value.ref 421, kwdefaults := Value.none, pyModule := Value.str (Str.ofString "thinstack.ip_layer") 602, code := Value.ref 427 } }
noncomputable def q483 : Obj := { cls := Value.type "tuple", data := Data.seq #[] }
noncomputable def q484 : Obj := { cls := Value.none, data := Data.fields #[] }
noncomputable def q485 : Obj := { cls := Value.type "tuple", data := Data.seq #[Value.str (Str.ofString "self") 782, Value.str (Str.ofString "octets") 783] }
noncomputable def q486 : Obj := { cls := Value.type "tuple", data := Data.seq #[] }
noncomputable def q487 : Obj := { cls := Value.none, data := Data.func { name := Str.ofString "given_up", qualname := Str.ofString "IpLayer.given_up", params := fP 20 15, body := FuncBody.stmts (fB 20 15), scope := fS 20 15, globals := 0, closure := [], defaults := Value.none, kwdefaults := Value.none } }
noncomputable def q488 : Obj := { cls := Value.type "code", data := Data.fields #[Value.str (Str.ofString "given_up") 779, Value.str (Str.ofString "IpLayer.given_up") 780, Value.str (Str.ofString "/claim/cut.py") 781, Value.int 222 0, Value.int 2 0, Value.int 0 0, Value.int 0 0, Value.int 3 0, Value.ref 429, Value.bool true, Value.int 181 0, Value.ref 430, Value.none, Value.ref 431, Value.ref 432, Value.ref 433, Value.int 784 0, Value.int 222 0, Value.str (Str.ofString "/claim/cut.py") 785] }
noncomputable def q489 : Obj := { cls := Value.type "function", data := Data.func { name := Str.ofString "given_up", qualname := Str.ofString "IpLayer.given_up", params := fP 20 15, body := FuncBody.stmts (fB 20 15), scope := fS 20 15, globals := 3, closure := [], defaults := Value.none, kwdefaults := Value.none, pyModule := Value.str (Str.ofString "thinstack.ip_layer") 602, code := Value.ref 434 } }
noncomputable def q490 : Obj := { cls := Value.type "tuple", data := Data.seq #[] }
noncomputable def q491 : Obj := { cls := Value.none, data := Data.fields #[] }
noncomputable def q492 : Obj := { cls := Value.type "tuple", data := Data.seq #[Value.str (Str.ofString "self") 790, Value.str (Str.ofString "now") 791] }
noncomputable def q493 : Obj := { cls := Value.type "tuple", data := Data.seq #[] }
noncomputable def q494 : Obj := { cls := Value.none, data := Data.func { name := Str.ofString "expire", qualname := Str.ofString "IpLayer.expire", params := fP 20 16, body := FuncBody.stmts (fB 20 16), scope := fS 20 16, globals := 0, closure := [], defaults := Value.none, kwdefaults := Value.none } }
noncomputable def q495 : Obj := { cls := Value.type "code", data := Data.fields #[Value.str (Str.ofString "expire") 787, Value.str (Str.ofString "IpLayer.expire") 788, Value.str (Str.ofString "/claim/cut.py") 789, Value.int 225 0, Value.int 2 0, Value.int 0 0, Value.int 0 0, Value.int 3 0, Value.ref 436, Value.bool true, Value.int 181 0, Value.ref 437, Value.none, Value.ref 438, Value.ref 439, Value.ref 440, Value.int 792 0, Value.int 225 0, Value.str (Str.ofString "/claim/cut.py") 793] }
noncomputable def q496 : Obj := { cls := Value.type "function", data := Data.func { name := Str.ofString "expire", qualname := Str.ofString "IpLayer.expire", params := fP 20 16, body := FuncBody.stmts (fB 20 16), scope := fS 20 16, globals := 3, closure := [], defaults := Value.none, kwdefaults := Value.none, pyModule := Value.str (Str.ofString "thinstack.ip_layer") 602, code := Value.ref 441 } }
noncomputable def q497 : Obj := { cls := Value.type "tuple", data := Data.seq #[Value.str (Str.ofString "faces") 795, Value.str (Str.ofString "forwards") 796, Value.str (Str.ofString "last_ident") 797, Value.str (Str.ofString "reassembly") 798, Value.str (Str.ofString "routes") 799] }
noncomputable def q498 (P : Params) : Obj := { cls := Value.type "dict", data := Data.dict #[{ hash := PyData.keyHash P (Str.ofString "__module__"), key := Value.str (Str.ofString "__module__") 644, val := Value.str (Str.ofString "thinstack.ip_layer") 602 }, { hash := PyData.keyHash P (Str.ofString "__firstlineno__"), key := Value.str (Str.ofString "__firstlineno__") 648, val := Value.int 171 647 }, { hash := PyData.keyHash P (Str.ofString "__init__"), key := Value.str (Str.ofString "__init__") 659, val := Value.ref 336 }, { hash := PyData.keyHash P (Str.ofString "next_ident"), key := Value.str (Str.ofString "next_ident") 666, val := Value.ref 343 }, { hash := PyData.keyHash P (Str.ofString "is_own"), key := Value.str (Str.ofString "is_own") 674, val := Value.ref 350 }, { hash := PyData.keyHash P (Str.ofString "is_told_to_all"), key := Value.str (Str.ofString "is_told_to_all") 683, val := Value.ref 357 }, { hash := PyData.keyHash P (Str.ofString "is_for_all"), key := Value.str (Str.ofString "is_for_all") 691, val := Value.ref 364 }, { hash := PyData.keyHash P (Str.ofString "may_send"), key := Value.str (Str.ofString "may_send") 699, val := Value.ref 371 }, { hash := PyData.keyHash P (Str.ofString "input"), key := Value.str (Str.ofString "input") 709, val := Value.ref 378 }, { hash := PyData.keyHash P (Str.ofString "deliver"), key := Value.str (Str.ofString "deliver") 720, val := Value.ref 385 }, { hash := PyData.keyHash P (Str.ofString "forward"), key := Value.str (Str.ofString "forward") 729, val := Value.ref 392 }, { hash := PyData.keyHash P (Str.ofString "packets"), key := Value.str (Str.ofString "packets") 739, val := Value.ref 399 }, { hash := PyData.keyHash P (Str.ofString "route_to"), key := Value.str (Str.ofString "route_to") 748, val := Value.ref 406 }, { hash := PyData.keyHash P (Str.ofString "source_for"), key := Value.str (Str.ofString "source_for") 756, val := Value.ref 413 }, { hash := PyData.keyHash P (Str.ofString "want_one_host"), key := Value.str (Str.ofString "want_one_host") 764, val := Value.ref 420 }, { hash := PyData.keyHash P (Str.ofString "output"), key := Value.str (Str.ofString "output") 778, val := Value.ref 428 }, { hash := PyData.keyHash P (Str.ofString "given_up"), key := Value.str (Str.ofString "given_up") 786, val := Value.ref 435 }, { hash := PyData.keyHash P (Str.ofString "expire"), key := Value.str (Str.ofString "expire") 794, val := Value.ref 442 }, { hash := PyData.keyHash P (Str.ofString "__static_attributes__"), key := Value.str (Str.ofString "__static_attributes__") 800, val := Value.ref 443 }, { hash := PyData.keyHash P (Str.ofString "__dict__"), key := Value.str (Str.ofString "__dict__") 802, val := Value.ref 446 }, { hash := PyData.keyHash P (Str.ofString "__weakref__"), key := Value.str (Str.ofString "__weakref__") 804, val := Value.ref 447 }, { hash := PyData.keyHash P (Str.ofString "__doc__"), key := Value.str (Str.ofString "__doc__") 805, val := Value.none }] 4 }
noncomputable def q499 : Obj := { cls := Value.type "type", data := Data.cls { name := Str.ofString "IpLayer", bases := [Value.type "object"], mro := [Value.ref 445, Value.type "object"], ns := 444, qualname := Str.ofString "IpLayer" }, slots := #[none, none, some (Value.str (Str.ofString "IpLayer") 637), some (Value.str (Str.ofString "IpLayer") 645), some (Value.builtin "object.__new__"), some (Value.bool true)] }
noncomputable def q500 : Obj := { cls := Value.type "getset_descriptor", data := Data.fields #[Value.str (Str.ofString "__dict__") 801, Value.ref 445, Value.builtin "function.__dict__", Value.builtin "function.__dict__#set"] }
noncomputable def q501 : Obj := { cls := Value.type "getset_descriptor", data := Data.fields #[Value.str (Str.ofString "__weakref__") 803, Value.ref 445, Value.builtin "ExceptionGroup.__weakref__", Value.none] }
noncomputable def q502 : Obj := { cls := Value.type "super", data := Data.fields #[Value.ref 445, Value.ref 445, Value.ref 445] }
noncomputable def q503 : Obj := { cls := Value.type "builtin_function_or_method", data := Data.fields #[Value.builtin "object.__init_subclass__", Value.ref 445] }
noncomputable def q594 : Obj := { cls := Value.type "tuple", data := Data.seq #[] }
noncomputable def q595 : Obj := { cls := Value.type "builtin_function_or_method", data := Data.fields #[Value.builtin "type.__prepare__", Value.type "type"] }
noncomputable def q596 (P : Params) : Obj := { cls := Value.type "dict", data := Data.dict #[{ hash := PyData.keyHash P (Str.ofString "__module__"), key := Value.str (Str.ofString "__module__") 819, val := Value.str (Str.ofString "thinstack.reassembly") 808 }, { hash := PyData.keyHash P (Str.ofString "__qualname__"), key := Value.str (Str.ofString "__qualname__") 821, val := Value.str (Str.ofString "Holes") 820 }, { hash := PyData.keyHash P (Str.ofString "__firstlineno__"), key := Value.str (Str.ofString "__firstlineno__") 823, val := Value.int 229 822 }, { hash := PyData.keyHash P (Str.ofString "__init__"), key := Value.str (Str.ofString "__init__") 831, val := Value.ref 463 }, { hash := PyData.keyHash P (Str.ofString "fill"), key := Value.str (Str.ofString "fill") 846, val := Value.ref 470 }, { hash := PyData.keyHash P (Str.ofString "end_at"), key := Value.str (Str.ofString "end_at") 854, val := Value.ref 477 }, { hash := PyData.keyHash P (Str.ofString "reach"), key := Value.str (Str.ofString "reach") 861, val := Value.ref 484 }, { hash := PyData.keyHash P (Str.ofString "is_whole"), key := Value.str (Str.ofString "is_whole") 868, val := Value.ref 491 }, { hash := PyData.keyHash P (Str.ofString "__static_attributes__"), key := Value.str (Str.ofString "__static_attributes__") 871, val := Value.ref 492 }] 9 }
noncomputable def q597 : Obj := { cls := Value.type "tuple", data := Data.seq #[] }
noncomputable def q598 : Obj := { cls := Value.none, data := Data.fields #[Value.int 231 0, Value.int 4 0, Value.ref 462, Value.int 235 0, Value.int 4 0, Value.ref 469, Value.int 252 0, Value.int 4 0, Value.ref 476, Value.int 255 0, Value.int 4 0, Value.ref 483, Value.int 260 0, Value.int 4 0, Value.ref 490] }
noncomputable def q599 : Obj := { cls := Value.type "code", data := Data.fields #[Value.str (Str.ofString "Holes") 814, Value.str (Str.ofString "Holes") 815, Value.str (Str.ofString "/claim/cut.py") 816, Value.int 229 0, Value.int 0 0, Value.int 0 0, Value.int 0 0, Value.int 0 0, Value.ref 453, Value.bool false, Value.int 181 0, Value.ref 454, Value.none, Value.none, Value.none, Value.none, Value.int 817 0, Value.int 229 0, Value.str (Str.ofString "/claim/cut.py") 818] }
noncomputable def q600 : Obj := { cls := Value.type "frame", slots := #[some (Value.ref 455), some (Value.ref 3), some (Value.ref 452), none, some (Value.str (Str.ofString "thinstack.reassembly") 808), none, some (Value.ref 0)] }
noncomputable def q601 : Obj := { cls := Value.type "tuple", data := Data.seq #[] }
noncomputable def q602 : Obj := { cls := Value.none, data := Data.fields #[] }
noncomputable def q603 : Obj := { cls := Value.type "tuple", data := Data.seq #[Value.str (Str.ofString "self") 827, Value.str (Str.ofString "most") 828] }
noncomputable def q604 : Obj := { cls := Value.type "tuple", data := Data.seq #[] }
noncomputable def q605 : Obj := { cls := Value.none, data := Data.func { name := Str.ofString "__init__", qualname := Str.ofString "Holes.__init__", params := fP 23 1, body := FuncBody.stmts (fB 23 1), scope := fS 23 1, globals := 0, closure := [], defaults := Value.none, kwdefaults := Value.none } }
noncomputable def q606 : Obj := { cls := Value.type "code", data := Data.fields #[Value.str (Str.ofString "__init__") 824, Value.str (Str.ofString "Holes.__init__") 825, Value.str (Str.ofString "/claim/cut.py") 826, Value.int 231 0, Value.int 2 0, Value.int 0 0, Value.int 0 0, Value.int 3 0, Value.ref 457, Value.bool true, Value.int 181 0, Value.ref 458, Value.none, Value.ref 459, Value.ref 460, Value.ref 461, Value.int 829 0, Value.int 231 0, Value.str (Str.ofString "/claim/cut.py") 830] }
noncomputable def q607 : Obj := { cls := Value.type "function", data := Data.func { name := Str.ofString "__init__", qualname := Str.ofString "Holes.__init__", params := fP 23 1, body := FuncBody.stmts (fB 23 1), scope := fS 23 1, globals := 3, closure := [], defaults := Value.none, kwdefaults := Value.none, pyModule := Value.str (Str.ofString "thinstack.reassembly") 808, code := Value.ref 462 } }
noncomputable def q608 : Obj := { cls := Value.type "tuple", data := Data.seq #[] }
noncomputable def q609 : Obj := { cls := Value.none, data := Data.fields #[] }
noncomputable def q610 : Obj := { cls := Value.type "tuple", data := Data.seq #[Value.str (Str.ofString "self") 835, Value.str (Str.ofString "begin") 836, Value.str (Str.ofString "end") 837, Value.str (Str.ofString "found") 838, Value.str (Str.ofString "rows") 839, Value.str (Str.ofString "low") 840, Value.str (Str.ofString "high") 841, Value.str (Str.ofString "first") 842, Value.str (Str.ofString "last") 843] }
noncomputable def q611 : Obj := { cls := Value.type "tuple", data := Data.seq #[] }
noncomputable def q612 : Obj := { cls := Value.none, data := Data.func { name := Str.ofString "fill", qualname := Str.ofString "Holes.fill", params := fP 23 2, body := FuncBody.stmts (fB 23 2), scope := fS 23 2, globals := 0, closure := [], defaults := Value.none, kwdefaults := Value.none } }
noncomputable def q613 : Obj := { cls := Value.type "code", data := Data.fields #[Value.str (Str.ofString "fill") 832, Value.str (Str.ofString "Holes.fill") 833, Value.str (Str.ofString "/claim/cut.py") 834, Value.int 235 0, Value.int 3 0, Value.int 0 0, Value.int 0 0, Value.int 3 0, Value.ref 464, Value.bool true, Value.int 181 0, Value.ref 465, Value.none, Value.ref 466, Value.ref 467, Value.ref 468, Value.int 844 0, Value.int 235 0, Value.str (Str.ofString "/claim/cut.py") 845] }
noncomputable def q614 : Obj := { cls := Value.type "function", data := Data.func { name := Str.ofString "fill", qualname := Str.ofString "Holes.fill", params := fP 23 2, body := FuncBody.stmts (fB 23 2), scope := fS 23 2, globals := 3, closure := [], defaults := Value.none, kwdefaults := Value.none, pyModule := Value.str (Str.ofString "thinstack.reassembly") 808, code := Value.ref 469 } }
noncomputable def q615 : Obj := { cls := Value.type "tuple", data := Data.seq #[] }
noncomputable def q616 : Obj := { cls := Value.none, data := Data.fields #[] }
noncomputable def q617 : Obj := { cls := Value.type "tuple", data := Data.seq #[Value.str (Str.ofString "self") 850, Value.str (Str.ofString "end") 851] }
noncomputable def q618 : Obj := { cls := Value.type "tuple", data := Data.seq #[] }
noncomputable def q619 : Obj := { cls := Value.none, data := Data.func { name := Str.ofString "end_at", qualname := Str.ofString "Holes.end_at", params := fP 23 3, body := FuncBody.stmts (fB 23 3), scope := fS 23 3, globals := 0, closure := [], defaults := Value.none, kwdefaults := Value.none } }
noncomputable def q620 : Obj := { cls := Value.type "code", data := Data.fields #[Value.str (Str.ofString "end_at") 847, Value.str (Str.ofString "Holes.end_at") 848, Value.str (Str.ofString "/claim/cut.py") 849, Value.int 252 0, Value.int 2 0, Value.int 0 0, Value.int 0 0, Value.int 3 0, Value.ref 471, Value.bool true, Value.int 181 0, Value.ref 472, Value.none, Value.ref 473, Value.ref 474, Value.ref 475, Value.int 852 0, Value.int 252 0, Value.str (Str.ofString "/claim/cut.py") 853] }
noncomputable def q621 : Obj := { cls := Value.type "function", data := Data.func { name := Str.ofString "end_at", qualname := Str.ofString "Holes.end_at", params := fP 23 3, body := FuncBody.stmts (fB 23 3), scope := fS 23 3, globals := 3, closure := [], defaults := Value.none, kwdefaults := Value.none, pyModule := Value.str (Str.ofString "thinstack.reassembly") 808, code := Value.ref 476 } }
noncomputable def q622 : Obj := { cls := Value.type "tuple", data := Data.seq #[] }
noncomputable def q623 : Obj := { cls := Value.none, data := Data.fields #[] }
noncomputable def q624 : Obj := { cls := Value.type "tuple", data := Data.seq #[Value.str (Str.ofString "self") 858] }
noncomputable def q625 : Obj := { cls := Value.type "tuple", data := Data.seq #[] }
noncomputable def q626 : Obj := { cls := Value.none, data := Data.func { name := Str.ofString "reach", qualname := Str.ofString "Holes.reach", params := fP 23 4, body := FuncBody.stmts (fB 23 4), scope := fS 23 4, globals := 0, closure := [], defaults := Value.none, kwdefaults := Value.none } }
noncomputable def q627 : Obj := { cls := Value.type "code", data := Data.fields #[Value.str (Str.ofString "reach") 855, Value.str (Str.ofString "Holes.reach") 856, Value.str (Str.ofString "/claim/cut.py") 857, Value.int 255 0, Value.int 1 0, Value.int 0 0, Value.int 0 0, Value.int 3 0, Value.ref 478, Value.bool true, Value.int 181 0, Value.ref 479, Value.none, Value.ref 480, Value.ref 481, Value.ref 482, Value.int 859 0, Value.int 255 0, Value.str (Str.ofString "/claim/cut.py") 860] }
noncomputable def q628 : Obj := { cls := Value.type "function", data := Data.func { name := Str.ofString "reach", qualname := Str.ofString "Holes.reach", params := fP 23 4, body := FuncBody.stmts (fB 23 4), scope := fS 23 4, globals := 3, closure := [], defaults := Value.none, kwdefaults := Value.none, pyModule := Value.str (Str.ofString "thinstack.reassembly") 808, code := Value.ref 483 } }
noncomputable def q629 : Obj := { cls := Value.type "tuple", data := Data.seq #[] }
noncomputable def q630 : Obj := { cls := Value.none, data := Data.fields #[] }
noncomputable def q631 : Obj := { cls := Value.type "tuple", data := Data.seq #[Value.str (Str.ofString "self") 865] }
noncomputable def q632 : Obj := { cls := Value.type "tuple", data := Data.seq #[] }
noncomputable def q633 : Obj := { cls := Value.none, data := Data.func { name := Str.ofString "is_whole", qualname := Str.ofString "Holes.is_whole", params := fP 23 5, body := FuncBody.stmts (fB 23 5), scope := fS 23 5, globals := 0, closure := [], defaults := Value.none, kwdefaults := Value.none } }
noncomputable def q634 : Obj := { cls := Value.type "code", data := Data.fields #[Value.str (Str.ofString "is_whole") 862, Value.str (Str.ofString "Holes.is_whole") 863, Value.str (Str.ofString "/claim/cut.py") 864, Value.int 260 0, Value.int 1 0, Value.int 0 0, Value.int 0 0, Value.int 3 0, Value.ref 485, Value.bool true, Value.int 181 0, Value.ref 486, Value.none, Value.ref 487, Value.ref 488, Value.ref 489, Value.int 866 0, Value.int 260 0, Value.str (Str.ofString "/claim/cut.py") 867] }
noncomputable def q635 : Obj := { cls := Value.type "function", data := Data.func { name := Str.ofString "is_whole", qualname := Str.ofString "Holes.is_whole", params := fP 23 5, body := FuncBody.stmts (fB 23 5), scope := fS 23 5, globals := 3, closure := [], defaults := Value.none, kwdefaults := Value.none, pyModule := Value.str (Str.ofString "thinstack.reassembly") 808, code := Value.ref 490 } }
noncomputable def q636 : Obj := { cls := Value.type "tuple", data := Data.seq #[Value.str (Str.ofString "most") 869, Value.str (Str.ofString "rows") 870] }
noncomputable def q637 (P : Params) : Obj := { cls := Value.type "dict", data := Data.dict #[{ hash := PyData.keyHash P (Str.ofString "__module__"), key := Value.str (Str.ofString "__module__") 819, val := Value.str (Str.ofString "thinstack.reassembly") 808 }, { hash := PyData.keyHash P (Str.ofString "__firstlineno__"), key := Value.str (Str.ofString "__firstlineno__") 823, val := Value.int 229 822 }, { hash := PyData.keyHash P (Str.ofString "__init__"), key := Value.str (Str.ofString "__init__") 831, val := Value.ref 463 }, { hash := PyData.keyHash P (Str.ofString "fill"), key := Value.str (Str.ofString "fill") 846, val := Value.ref 470 }, { hash := PyData.keyHash P (Str.ofString "end_at"), key := Value.str (Str.ofString "end_at") 854, val := Value.ref 477 }, { hash := PyData.keyHash P (Str.ofString "reach"), key := Value.str (Str.ofString "reach") 861, val := Value.ref 484 }, { hash := PyData.keyHash P (Str.ofString "is_whole"), key := Value.str (Str.ofString "is_whole") 868, val := Value.ref 491 }, { hash := PyData.keyHash P (Str.ofString "__static_attributes__"), key := Value.str (Str.ofString "__static_attributes__") 871, val := Value.ref 492 }, { hash := PyData.keyHash P (Str.ofString "__dict__"), key := Value.str (Str.ofString "__dict__") 873, val := Value.ref 495 }, { hash := PyData.keyHash P (Str.ofString "__weakref__"), key := Value.str (Str.ofString "__weakref__") 875, val := Value.ref 496 }, { hash := PyData.keyHash P (Str.ofString "__doc__"), key := Value.str (Str.ofString "__doc__") 876, val := Value.none }] 4 }
noncomputable def q638 : Obj := { cls := Value.type "type", data := Data.cls { name := Str.ofString "Holes", bases := [Value.type "object"], mro := [Value.ref 494, Value.type "object"], ns := 493, qualname := Str.ofString "Holes" }, slots := #[none, none, some (Value.str (Str.ofString "Holes") 812), some (Value.str (Str.ofString "Holes") 820), some (Value.builtin "object.__new__"), some (Value.bool true)] }
noncomputable def q639 : Obj := { cls := Value.type "getset_descriptor", data := Data.fields #[Value.str (Str.ofString "__dict__") 872, Value.ref 494, Value.builtin "function.__dict__", Value.builtin "function.__dict__#set"] }
noncomputable def q640 : Obj := { cls := Value.type "getset_descriptor", data := Data.fields #[Value.str (Str.ofString "__weakref__") 874, Value.ref 494, Value.builtin "ExceptionGroup.__weakref__", Value.none] }
noncomputable def q641 : Obj := { cls := Value.type "super", data := Data.fields #[Value.ref 494, Value.ref 494, Value.ref 494] }
noncomputable def q642 : Obj := { cls := Value.type "builtin_function_or_method", data := Data.fields #[Value.builtin "object.__init_subclass__", Value.ref 494] }
noncomputable def q645 : Obj := { cls := Value.type "tuple", data := Data.seq #[] }
noncomputable def q646 : Obj := { cls := Value.type "builtin_function_or_method", data := Data.fields #[Value.builtin "type.__prepare__", Value.type "type"] }
noncomputable def q647 (P : Params) : Obj := { cls := Value.type "dict", data := Data.dict #[{ hash := PyData.keyHash P (Str.ofString "__module__"), key := Value.str (Str.ofString "__module__") 886, val := Value.str (Str.ofString "thinstack.reassembly") 808 }, { hash := PyData.keyHash P (Str.ofString "__qualname__"), key := Value.str (Str.ofString "__qualname__") 888, val := Value.str (Str.ofString "Datagram") 887 }, { hash := PyData.keyHash P (Str.ofString "__firstlineno__"), key := Value.str (Str.ofString "__firstlineno__") 890, val := Value.int 262 889 }, { hash := PyData.keyHash P (Str.ofString "__init__"), key := Value.str (Str.ofString "__init__") 899, val := Value.ref 512 }, { hash := PyData.keyHash P (Str.ofString "is_against"), key := Value.str (Str.ofString "is_against") 909, val := Value.ref 519 }, { hash := PyData.keyHash P (Str.ofString "put"), key := Value.str (Str.ofString "put") 922, val := Value.ref 526 }, { hash := PyData.keyHash P (Str.ofString "is_whole"), key := Value.str (Str.ofString "is_whole") 929, val := Value.ref 533 }, { hash := PyData.keyHash P (Str.ofString "octets"), key := Value.str (Str.ofString "octets") 935, val := Value.ref 538 }, { hash := PyData.keyHash P (Str.ofString "told_octets"), key := Value.str (Str.ofString "told_octets") 942, val := Value.ref 545 }, { hash := PyData.keyHash P (Str.ofString "__static_attributes__"), key := Value.str (Str.ofString "__static_attributes__") 951, val := Value.ref 546 }] 10 }
noncomputable def q648 : Obj := { cls := Value.type "tuple", data := Data.seq #[] }
noncomputable def q649 : Obj := { cls := Value.none, data := Data.fields #[Value.int 264 0, Value.int 4 0, Value.ref 511, Value.int 274 0, Value.int 4 0, Value.ref 518, Value.int 283 0, Value.int 4 0, Value.ref 525, Value.int 300 0, Value.int 4 0, Value.ref 532, Value.int 303 0, Value.int 4 0, Value.ref 537, Value.int 306 0, Value.int 4 0, Value.ref 544] }
noncomputable def q650 : Obj := { cls := Value.type "code", data := Data.fields #[Value.str (Str.ofString "Datagram") 881, Value.str (Str.ofString "Datagram") 882, Value.str (Str.ofString "/claim/cut.py") 883, Value.int 262 0, Value.int 0 0, Value.int 0 0, Value.int 0 0, Value.int 0 0, Value.ref 502, Value.bool false, Value.int 181 0, Value.ref 503, Value.none, Value.none, Value.none, Value.none, Value.int 884 0, Value.int 262 0, Value.str (Str.ofString "/claim/cut.py") 885] }
noncomputable def q651 : Obj := { cls := Value.type "frame", slots := #[some (Value.ref 504), some (Value.ref 3), some (Value.ref 501), none, some (Value.str (Str.ofString "thinstack.reassembly") 808), none, some (Value.ref 0)] }
noncomputable def q652 : Obj := { cls := Value.type "tuple", data := Data.seq #[] }
noncomputable def q653 : Obj := { cls := Value.none, data := Data.fields #[] }
noncomputable def q654 : Obj := { cls := Value.type "tuple", data := Data.seq #[Value.str (Str.ofString "self") 894, Value.str (Str.ofString "began") 895, Value.str (Str.ofString "most") 896] }
noncomputable def q655 : Obj := { cls := Value.type "tuple", data := Data.seq #[] }
noncomputable def q656 : Obj := { cls := Value.none, data := Data.func { name := Str.ofString "__init__", qualname := Str.ofString "Datagram.__init__", params := fP 24 1, body := FuncBody.stmts (fB 24 1), scope := fS 24 1, globals := 0, closure := [], defaults := Value.none, kwdefaults := Value.none } }
noncomputable def q657 : Obj := { cls := Value.type "code", data := Data.fields #[Value.str (Str.ofString "__init__") 891, Value.str (Str.ofString "Datagram.__init__") 892, Value.str (Str.ofString "/claim/cut.py") 893, Value.int 264 0, Value.int 3 0, Value.int 0 0, Value.int 0 0, Value.int 3 0, Value.ref 506, Value.bool true, Value.int 181 0, Value.ref 507, Value.none, Value.ref 508, Value.ref 509, Value.ref 510, Value.int 897 0, Value.int 264 0, Value.str (Str.ofString "/claim/cut.py") 898] }
noncomputable def q658 : Obj := { cls := Value.type "function", data := Data.func { name := Str.ofString "__init__", qualname := Str.ofString "Datagram.__init__", params := fP 24 1, body := FuncBody.stmts (fB 24 1), scope := fS 24 1, globals := 3, closure := [], defaults := Value.none, kwdefaults := Value.none, pyModule := Value.str (Str.ofString "thinstack.reassembly") 808, code := Value.ref 511 } }
noncomputable def q659 : Obj := { cls := Value.type "tuple", data := Data.seq #[] }
noncomputable def q660 : Obj := { cls := Value.none, data := Data.fields #[] }
noncomputable def q661 : Obj := { cls := Value.type "tuple", data := Data.seq #[Value.str (Str.ofString "self") 903, Value.str (Str.ofString "begin") 904, Value.str (Str.ofString "end") 905, Value.str (Str.ofString "more") 906] }
noncomputable def q662 : Obj := { cls := Value.type "tuple", data := Data.seq #[] }
noncomputable def q663 : Obj := { cls := Value.none, data := Data.func { name := Str.ofString "is_against", qualname := Str.ofString "Datagram.is_against", params := fP 24 2, body := FuncBody.stmts (fB 24 2), scope := fS 24 2, globals := 0, closure := [], defaults := Value.none, kwdefaults := Value.none } }
noncomputable def q664 : Obj := { cls := Value.type "code", data := Data.fields #[Value.str (Str.ofString "is_against") 900, Value.str (Str.ofString "Datagram.is_against") 901, Value.str (Str.ofString "/claim/cut.py") 902, Value.int 274 0, Value.int 4 0, Value.int 0 0, Value.int 0 0, Value.int 3 0, Value.ref 513, Value.bool true, Value.int 181 0, Value.ref 514, Value.none, Value.ref 515, Value.ref 516, Value.ref 517, Value.int 907 0, Value.int 274 0, Value.str (Str.ofString "/claim/cut.py") 908] }
noncomputable def q665 : Obj := { cls := Value.type "function", data := Data.func { name := Str.ofString "is_against", qualname := Str.ofString "Datagram.is_against", params := fP 24 2, body := FuncBody.stmts (fB 24 2), scope := fS 24 2, globals := 3, closure := [], defaults := Value.none, kwdefaults := Value.none, pyModule := Value.str (Str.ofString "thinstack.reassembly") 808, code := Value.ref 518 } }
noncomputable def q666 : Obj := { cls := Value.type "tuple", data := Data.seq #[] }
noncomputable def q667 : Obj := { cls := Value.none, data := Data.fields #[] }
noncomputable def q668 : Obj := { cls := Value.type "tuple", data := Data.seq #[Value.str (Str.ofString "self") 913, Value.str (Str.ofString "header") 914, Value.str (Str.ofString "payload") 915, Value.str (Str.ofString "begin") 916, Value.str (Str.ofString "end") 917, Value.str (Str.ofString "low") 918, Value.str (Str.ofString "high") 919] }
noncomputable def q669 : Obj := { cls := Value.type "tuple", data := Data.seq #[] }
noncomputable def q670 : Obj := { cls := Value.none, data := Data.func { name := Str.ofString "put", qualname := Str.ofString "Datagram.put", params := fP 24 3, body := FuncBody.stmts (fB 24 3), scope := fS 24 3, globals := 0, closure := [], defaults := Value.none, kwdefaults := Value.none } }
noncomputable def q671 : Obj := { cls := Value.type "code", data := Data.fields #[Value.str (Str.ofString "put") 910, Value.str (Str.ofString "Datagram.put") 911, Value.str (Str.ofString "/claim/cut.py") 912, Value.int 283 0, Value.int 3 0, Value.int 0 0, Value.int 0 0, Value.int 3 0, Value.ref 520, Value.bool true, Value.int 181 0, Value.ref 521, Value.none, Value.ref 522, Value.ref 523, Value.ref 524, Value.int 920 0, Value.int 283 0, Value.str (Str.ofString "/claim/cut.py") 921] }
noncomputable def q672 : Obj := { cls := Value.type "function", data := Data.func { name := Str.ofString "put", qualname := Str.ofString "Datagram.put", params := fP 24 3, body := FuncBody.stmts (fB 24 3), scope := fS 24 3, globals := 3, closure := [], defaults := Value.none, kwdefaults := Value.none, pyModule := Value.str (Str.ofString "thinstack.reassembly") 808, code := Value.ref 525 } }
noncomputable def q673 : Obj := { cls := Value.type "tuple", data := Data.seq #[] }
noncomputable def q674 : Obj := { cls := Value.none, data := Data.fields #[] }
noncomputable def q675 : Obj := { cls := Value.type "tuple", data := Data.seq #[Value.str (Str.ofString "self") 926] }
noncomputable def q676 : Obj := { cls := Value.type "tuple", data := Data.seq #[] }
noncomputable def q677 : Obj := { cls := Value.none, data := Data.func { name := Str.ofString "is_whole", qualname := Str.ofString "Datagram.is_whole", params := fP 24 4, body := FuncBody.stmts (fB 24 4), scope := fS 24 4, globals := 0, closure := [], defaults := Value.none, kwdefaults := Value.none } }
noncomputable def q678 : Obj := { cls := Value.type "code", data := Data.fields #[Value.str (Str.ofString "is_whole") 923, Value.str (Str.ofString "Datagram.is_whole") 924, Value.str (Str.ofString "/claim/cut.py") 925, Value.int 300 0, Value.int 1 0, Value.int 0 0, Value.int 0 0, Value.int 3 0, Value.ref 527, Value.bool true, Value.int 181 0, Value.ref 528, Value.none, Value.ref 529, Value.ref 530, Value.ref 531, Value.int 927 0, Value.int 300 0, Value.str (Str.ofString "/claim/cut.py") 928] }
noncomputable def q679 : Obj := { cls := Value.type "function", data := Data.func { name := Str.ofString "is_whole", qualname := Str.ofString "Datagram.is_whole", params := fP 24 4, body := FuncBody.stmts (fB 24 4), scope := fS 24 4, globals := 3, closure := [], defaults := Value.none, kwdefaults := Value.none, pyModule := Value.str (Str.ofString "thinstack.reassembly") 808, code := Value.ref 532 } }
noncomputable def q680 : Obj := { cls := Value.type "tuple", data := Data.seq #[] }
noncomputable def q681 : Obj := { cls := Value.none, data := Data.fields #[] }
noncomputable def q682 : Obj := { cls := Value.none, data := Data.func { name := Str.ofString "octets", qualname := Str.ofString "Datagram.octets", params := fP 24 5, body := FuncBody.stmts (fB 24 5), scope := fS 24 5, globals := 0, closure := [], defaults := Value.none, kwdefaults := Value.none } }
noncomputable def q683 : Obj := { cls := Value.type "code", data := Data.fields #[Value.str (Str.ofString "octets") 930, Value.str (Str.ofString "Datagram.octets") 931, Value.str (Str.ofString "/claim/cut.py") 932, Value.int 303 0, Value.int 1 0, Value.int 0 0, Value.int 0 0, Value.int 3 0, Value.ref 534, Value.bool true, Value.int 181 0, Value.ref 535, Value.none, Value.none, Value.none, Value.ref 536, Value.int 933 0, Value.int 303 0, Value.str (Str.ofString "/claim/cut.py") 934] }
noncomputable def q684 : Obj := { cls := Value.type "function", data := Data.func { name := Str.ofString "octets", qualname := Str.ofString "Datagram.octets", params := fP 24 5, body := FuncBody.stmts (fB 24 5), scope := fS 24 5, globals := 3, closure := [], defaults := Value.none, kwdefaults := Value.none, pyModule := Value.str (Str.ofString "thinstack.reassembly") 808, code := Value.ref 537 } }
noncomputable def q685 : Obj := { cls := Value.type "tuple", data := Data.seq #[] }
noncomputable def q686 : Obj := { cls := Value.none, data := Data.fields #[] }
noncomputable def q687 : Obj := { cls := Value.type "tuple", data := Data.seq #[Value.str (Str.ofString "self") 939] }
noncomputable def q688 : Obj := { cls := Value.type "tuple", data := Data.seq #[] }
noncomputable def q689 : Obj := { cls := Value.none, data := Data.func { name := Str.ofString "told_octets", qualname := Str.ofString "Datagram.told_octets", params := fP 24 6, body := FuncBody.stmts (fB 24 6), scope := fS 24 6, globals := 0, closure := [], defaults := Value.none, kwdefaults := Value.none } }
noncomputable def q690 : Obj := { cls := Value.type "code", data := Data.fields #[Value.str (Str.ofString "told_octets") 936, Value.str (Str.ofString "Datagram.told_octets") 937, Value.str (Str.ofString "/claim/cut.py") 938, Value.int 306 0, Value.int 1 0, Value.int 0 0, Value.int 0 0, Value.int 3 0, Value.ref 539, Value.bool true, Value.int 181 0, Value.ref 540, Value.none, Value.ref 541, Value.ref 542, Value.ref 543, Value.int 940 0, Value.int 306 0, Value.str (Str.ofString "/claim/cut.py") 941] }
noncomputable def q691 : Obj := { cls := Value.type "function", data := Data.func { name := Str.ofString "told_octets", qualname := Str.ofString "Datagram.told_octets", params := fP 24 6, body := FuncBody.stmts (fB 24 6), scope := fS 24 6, globals := 3, closure := [], defaults := Value.none, kwdefaults := Value.none, pyModule := Value.str (Str.ofString "thinstack.reassembly") 808, code := Value.ref 544 } }
noncomputable def q692 : Obj := { cls := Value.type "tuple", data := Data.seq #[Value.str (Str.ofString "ahead") 943, Value.str (Str.ofString "began") 944, Value.str (Str.ofString "end") 945, Value.str (Str.ofString "first") 946, Value.str (Str.ofString "holes") 947, Value.str (Str.ofString "most") 948, Value.str (Str.ofString "parts") 949, Value.str (Str.ofString "size") 950] }
noncomputable def q693 (P : Params) : Obj := { cls := Value.type "dict", data := Data.dict #[{ hash := PyData.keyHash P (Str.ofString "__module__"), key := Value.str (Str.ofString "__module__") 886, val := Value.str (Str.ofString "thinstack.reassembly") 808 }, { hash := PyData.keyHash P (Str.ofString "__firstlineno__"), key := Value.str (Str.ofString "__firstlineno__") 890, val := Value.int 262 889 }, { hash := PyData.keyHash P (Str.ofString "__init__"), key := Value.str (Str.ofString "__init__") 899, val := Value.ref 512 }, { hash := PyData.keyHash P (Str.ofString "is_against"), key := Value.str (Str.ofString "is_against") 909, val := Value.ref 519 }, { hash := PyData.keyHash P (Str.ofString "put"), key := Value.str (Str.ofString "put") 922, val := Value.ref 526 }, { hash := PyData.keyHash P (Str.ofString "is_whole"), key := Value.str (Str.ofString "is_whole") 929, val := Value.ref 533 }, { hash := PyData.keyHash P (Str.ofString "octets"), key := Value.str (Str.ofString "octets") 935, val := Value.ref 538 }, { hash := PyData.keyHash P (Str.ofString "told_octets"), key := Value.str (Str.ofString "told_octets") 942, val := Value.ref 545 }, { hash := PyData.keyHash P (Str.ofString "__static_attributes__"), key := Value.str (Str.ofString "__static_attributes__") 951, val := Value.ref 546 }, { hash := PyData.keyHash P (Str.ofString "__dict__"), key := Value.str (Str.ofString "__dict__") 953, val := Value.ref 549 }, { hash := PyData.keyHash P (Str.ofString "__weakref__"), key := Value.str (Str.ofString "__weakref__") 955, val := Value.ref 550 }, { hash := PyData.keyHash P (Str.ofString "__doc__"), key := Value.str (Str.ofString "__doc__") 956, val := Value.none }] 4 }
noncomputable def q694 : Obj := { cls := Value.type "type", data := Data.cls { name := Str.ofString "Datagram", bases := [Value.type "object"], mro := [Value.ref 548, Value.type "object"], ns := 547, qualname := Str.ofString "Datagram" }, slots := #[none, none, some (Value.str (Str.ofString "Datagram") 879), some (Value.str (Str.ofString "Datagram") 887), some (Value.builtin "object.__new__"), some (Value.bool true)] }
noncomputable def q695 : Obj := { cls := Value.type "getset_descriptor", data := Data.fields #[Value.str (Str.ofString "__dict__") 952, Value.ref 548, Value.builtin "function.__dict__", Value.builtin "function.__dict__#set"] }
noncomputable def q696 : Obj := { cls := Value.type "getset_descriptor", data := Data.fields #[Value.str (Str.ofString "__weakref__") 954, Value.ref 548, Value.builtin "ExceptionGroup.__weakref__", Value.none] }
noncomputable def q697 : Obj := { cls := Value.type "super", data := Data.fields #[Value.ref 548, Value.ref 548, Value.ref 548] }
noncomputable def q698 : Obj := { cls := Value.type "builtin_function_or_method", data := Data.fields #[Value.builtin "object.__init_subclass__", Value.ref 548] }
noncomputable def q699 (P : Params) : Obj := { cls := Value.type "dict", data := Data.dict #[{ hash := PyData.keyHash P (Str.ofString "__name__"), key := Value.str (Str.ofString "__name__") 165, val := Value.str (Str.ofString "thinstack.reassembly") 808 }, { hash := PyData.keyHash P (Str.ofString "__doc__"), key := Value.str (Str.ofString "__doc__") 166, val := Value.none }, { hash := PyData.keyHash P (Str.ofString "__package__"), key := Value.str (Str.ofString "__package__") 167, val := Value.none }, { hash := PyData.keyHash P (Str.ofString "__loader__"), key := Value.str (Str.ofString "__loader__") 168, val := Value.builtin "__main__.__loader__#opaque" }, { hash := PyData.keyHash P (Str.ofString "__spec__"), key := Value.str (Str.ofString "__spec__") 169, val := Value.none }, { hash := PyData.keyHash P (Str.ofString "__annotations__"), key := Value.str (Str.ofString "__annotations__") 170, val := Value.ref 6 }, { hash := PyData.keyHash P (Str.ofString "__builtins__"), key := Value.str (Str.ofString "__builtins__") 171, val := Value.ref 4 }, { hash := PyData.keyHash P (Str.ofString "__file__"), key := Value.str (Str.ofString "__file__") 173, val := Value.str (Str.ofString "/claim/cut.py") 172 }, { hash := PyData.keyHash P (Str.ofString "__cached__"), key := Value.str (Str.ofString "__cached__") 174, val := Value.none }, { hash := PyData.keyHash P (Str.ofString "_wall"), key := Value.str (Str.ofString "_wall") 193, val := Value.ref 21 }, { hash := PyData.keyHash P (Str.ofString "StackError"), key := Value.str (Str.ofString "StackError") 224, val := Value.ref 38 }, { hash := PyData.keyHash P (Str.ofString "RouteError"), key := Value.str (Str.ofString "RouteError") 240, val := Value.ref 51 }, { hash := PyData.keyHash P (Str.ofString "LEAST_HEAD"), key := Value.str (Str.ofString "LEAST_HEAD") 244, val := Value.int 20 243 }, { hash := PyData.keyHash P (Str.ofString "MOST_TOTAL"), key := Value.str (Str.ofString "MOST_TOTAL") 246, val := Value.int 65535 245 }, { hash := PyData.keyHash P (Str.ofString "IpHeader"), key := Value.str (Str.ofString "IpHeader") 336, val := Value.ref 106 }, { hash := PyData.keyHash P (Str.ofString "BITS"), key := Value.str (Str.ofString "BITS") 340, val := Value.int 32 339 }, { hash := PyData.keyHash P (Str.ofString "ALL"), key := Value.str (Str.ofString "ALL") 346, val := Value.int 4294967295 345 }, { hash := PyData.keyHash P (Str.ofString "mask_of"), key := Value.str (Str.ofString "mask_of") 353, val := Value.ref 117 }, { hash := PyData.keyHash P (Str.ofString "net_of"), key := Value.str (Str.ofString "net_of") 361, val := Value.ref 124 }, { hash := PyData.keyHash P (Str.ofString "is_loop"), key := Value.str (Str.ofString "is_loop") 368, val := Value.ref 131 }, { hash := PyData.keyHash P (Str.ofString "Route"), key := Value.str (Str.ofString "Route") 421, val := Value.ref 163 }, { hash := PyData.keyHash P (Str.ofString "Branch"), key := Value.str (Str.ofString "Branch") 484, val := Value.ref 212 }, { hash := PyData.keyHash P (Str.ofString "bit_at"), key := Value.str (Str.ofString "bit_at") 492, val := Value.ref 223 }, { hash := PyData.keyHash P (Str.ofString "Routes"), key := Value.str (Str.ofString "Routes") 601, val := Value.ref 296 }, { hash := PyData.keyHash P (Str.ofString "FaceRow"), key := Value.str (Str.ofString "FaceRow") 636, val := Value.ref 317 }, { hash := PyData.keyHash P (Str.ofString "IpLayer"), key := Value.str (Str.ofString "IpLayer") 807, val := Value.ref 445 }, { hash := PyData.keyHash P (Str.ofString "STEP"), key := Value.str (Str.ofString "STEP") 811, val := Value.int 8 810 }, { hash := PyData.keyHash P (Str.ofString "Holes"), key := Value.str (Str.ofString "Holes") 878, val := Value.ref 494 }, { hash := PyData.keyHash P (Str.ofString "Datagram"), key := Value.str (Str.ofString "Datagram") 958, val := Value.ref 548 }, { hash := PyData.keyHash P (Str.ofString "whole_header"), key := Value.str (Str.ofString "whole_header") 965, val := Value.ref 559 }, { hash := PyData.keyHash P (Str.ofString "key_of"), key := Value.str (Str.ofString "key_of") 972, val := Value.ref 566 }, { hash := PyData.keyHash P (Str.ofString "is_bad_piece"), key := Value.str (Str.ofString "is_bad_piece") 980, val := Value.ref 573 }] 32 }
noncomputable def q700 : Obj := { cls := Value.none, data := Data.fields #[Value.int 1 0, Value.int 0 0, Value.ref 20, Value.int 5 0, Value.int 0 0, Value.ref 27, Value.int 9 0, Value.int 0 0, Value.ref 47, Value.int 14 0, Value.int 0 0, Value.ref 59, Value.int 45 0, Value.int 0 0, Value.ref 116, Value.int 49 0, Value.int 0 0, Value.ref 123, Value.int 51 0, Value.int 0 0, Value.ref 130, Value.int 53 0, Value.int 0 0, Value.ref 137, Value.int 67 0, Value.int 0 0, Value.ref 173, Value.int 94 0, Value.int 0 0, Value.ref 222, Value.int 96 0, Value.int 0 0, Value.ref 229, Value.int 165 0, Value.int 0 0, Value.ref 306, Value.int 171 0, Value.int 0 0, Value.ref 327, Value.int 229 0, Value.int 0 0, Value.ref 455, Value.int 262 0, Value.int 0 0, Value.ref 504, Value.int 308 0, Value.int 0 0, Value.ref 558, Value.int 310 0, Value.int 0 0, Value.ref 565, Value.int 312 0, Value.int 0 0, Value.ref 572] }
noncomputable def q701 : Obj := { cls := Value.type "tuple", data := Data.seq #[] }
noncomputable def q702 : Obj := { cls := Value.none, data := Data.fields #[] }
noncomputable def q703 : Obj := { cls := Value.type "tuple", data := Data.seq #[Value.str (Str.ofString "header") 962] }
noncomputable def q704 : Obj := { cls := Value.type "tuple", data := Data.seq #[] }
noncomputable def q705 : Obj := { cls := Value.none, data := Data.func { name := Str.ofString "whole_header", qualname := Str.ofString "whole_header", params := fP 25 0, body := FuncBody.stmts (fB 25 0), scope := fS 25 0, globals := 0, closure := [], defaults := Value.none, kwdefaults := Value.none } }
noncomputable def q706 : Obj := { cls := Value.type "code", data := Data.fields #[Value.str (Str.ofString "whole_header") 959, Value.str (Str.ofString "whole_header") 960, Value.str (Str.ofString "/claim/cut.py") 961, Value.int 308 0, Value.int 1 0, Value.int 0 0, Value.int 0 0, Value.int 3 0, Value.ref 553, Value.bool true, Value.int 181 0, Value.ref 554, Value.none, Value.ref 555, Value.ref 556, Value.ref 557, Value.int 963 0, Value.int 308 0, Value.str (Str.ofString "/claim/cut.py") 964] }
noncomputable def q707 : Obj := { cls := Value.type "function", data := Data.func { name := Str.ofString "whole_header", qualname := Str.ofString "whole_header", params := fP 25 0, body := FuncBody.stmts (fB 25 0), scope := fS 25 0, globals := 3, closure := [], defaults := Value.none, kwdefaults := Value.none, pyModule := Value.str (Str.ofString "thinstack.reassembly") 808, code := Value.ref 558 } }
noncomputable def q708 : Obj := { cls := Value.type "tuple", data := Data.seq #[] }
noncomputable def q709 : Obj := { cls := Value.none, data := Data.fields #[] }
noncomputable def q710 : Obj := { cls := Value.type "tuple", data := Data.seq #[Value.str (Str.ofString "header") 969] }
noncomputable def q711 : Obj := { cls := Value.type "tuple", data := Data.seq #[] }
noncomputable def q712 : Obj := { cls := Value.none, data := Data.func { name := Str.ofString "key_of", qualname := Str.ofString "key_of", params := fP 26 0, body := FuncBody.stmts (fB 26 0), scope := fS 26 0, globals := 0, closure := [], defaults := Value.none, kwdefaults := Value.none } }
noncomputable def q713 : Obj := { cls := Value.type "code", data := Data.fields #[Value.str (Str.ofString "key_of") 966, Value.str (Str.ofString "key_of") 967, Value.str (Str.ofString "/claim/cut.py") 968, Value.int 310 0, Value.int 1 0, Value.int 0 0, Value.int 0 0, Value.int 3 0, Value.ref 560, Value.bool true, Value.int 181 0, Value.ref 561, Value.none, Value.ref 562, Value.ref 563, Value.ref 564, Value.int 970 0, Value.int 310 0, Value.str (Str.ofString "/claim/cut.py") 971] }
noncomputable def q714 : Obj := { cls := Value.type "function", data := Data.func { name := Str.ofString "key_of", qualname := Str.ofString "key_of", params := fP 26 0, body := FuncBody.stmts (fB 26 0), scope := fS 26 0, globals := 3, closure := [], defaults := Value.none, kwdefaults := Value.none, pyModule := Value.str (Str.ofString "thinstack.reassembly") 808, code := Value.ref 565 } }
noncomputable def q715 : Obj := { cls := Value.type "tuple", data := Data.seq #[] }
noncomputable def q716 : Obj := { cls := Value.none, data := Data.fields #[] }
noncomputable def q717 : Obj := { cls := Value.type "tuple", data := Data.seq #[Value.str (Str.ofString "header") 976, Value.str (Str.ofString "payload") 977] }
noncomputable def q718 : Obj := { cls := Value.type "tuple", data := Data.seq #[] }
noncomputable def q719 : Obj := { cls := Value.none, data := Data.func { name := Str.ofString "is_bad_piece", qualname := Str.ofString "is_bad_piece", params := fP 27 0, body := FuncBody.stmts (fB 27 0), scope := fS 27 0, globals := 0, closure := [], defaults := Value.none, kwdefaults := Value.none } }
noncomputable def q720 : Obj := { cls := Value.type "code", data := Data.fields #[Value.str (Str.ofString "is_bad_piece") 973, Value.str (Str.ofString "is_bad_piece") 974, Value.str (Str.ofString "/claim/cut.py") 975, Value.int 312 0, Value.int 2 0, Value.int 0 0, Value.int 0 0, Value.int 3 0, Value.ref 567, Value.bool true, Value.int 181 0, Value.ref 568, Value.none, Value.ref 569, Value.ref 570, Value.ref 571, Value.int 978 0, Value.int 312 0, Value.str (Str.ofString "/claim/cut.py") 979] }
noncomputable def q721 : Obj := { cls := Value.type "function", data := Data.func { name := Str.ofString "is_bad_piece", qualname := Str.ofString "is_bad_piece", params := fP 27 0, body := FuncBody.stmts (fB 27 0), scope := fS 27 0, globals := 3, closure := [], defaults := Value.none, kwdefaults := Value.none, pyModule := Value.str (Str.ofString "thinstack.reassembly") 808, code := Value.ref 572 } }
noncomputable def q724 : Obj := { cls := Value.type "tuple", data := Data.seq #[] }
noncomputable def q725 : Obj := { cls := Value.type "builtin_function_or_method", data := Data.fields #[Value.builtin "type.__prepare__", Value.type "type"] }
noncomputable def q726 (P : Params) : Obj := { cls := Value.type "dict", data := Data.dict #[{ hash := PyData.keyHash P (Str.ofString "__module__"), key := Value.str (Str.ofString "__module__") 988, val := Value.str (Str.ofString "thinstack.reassembly") 808 }, { hash := PyData.keyHash P (Str.ofString "__qualname__"), key := Value.str (Str.ofString "__qualname__") 990, val := Value.str (Str.ofString "Reassembly") 989 }, { hash := PyData.keyHash P (Str.ofString "__firstlineno__"), key := Value.str (Str.ofString "__firstlineno__") 992, val := Value.int 314 991 }, { hash := PyData.keyHash P (Str.ofString "__init__"), key := Value.str (Str.ofString "__init__") 1003, val := Value.ref 588 }, { hash := PyData.keyHash P (Str.ofString "put"), key := Value.str (Str.ofString "put") 1016, val := Value.ref 595 }, { hash := PyData.keyHash P (Str.ofString "stored"), key := Value.str (Str.ofString "stored") 1022, val := Value.ref 600 }, { hash := PyData.keyHash P (Str.ofString "count"), key := Value.str (Str.ofString "count") 1029, val := Value.ref 607 }, { hash := PyData.keyHash P (Str.ofString "make_room"), key := Value.str (Str.ofString "make_room") 1036, val := Value.ref 614 }, { hash := PyData.keyHash P (Str.ofString "expire"), key := Value.str (Str.ofString "expire") 1044, val := Value.ref 621 }, { hash := PyData.keyHash P (Str.ofString "next_time"), key := Value.str (Str.ofString "next_time") 1051, val := Value.ref 628 }, { hash := PyData.keyHash P (Str.ofString "__static_attributes__"), key := Value.str (Str.ofString "__static_attributes__") 1056, val := Value.ref 629 }] 11 }
noncomputable def q727 : Obj := { cls := Value.type "tuple", data := Data.seq #[] }
noncomputable def q728 : Obj := { cls := Value.none, data := Data.fields #[Value.int 316 0, Value.int 4 0, Value.ref 587, Value.int 322 0, Value.int 4 0, Value.ref 594, Value.int 341 0, Value.int 4 0, Value.ref 599, Value.int 344 0, Value.int 4 0, Value.ref 606, Value.int 347 0, Value.int 4 0, Value.ref 613, Value.int 351 0, Value.int 4 0, Value.ref 620, Value.int 354 0, Value.int 4 0, Value.ref 627] }
noncomputable def q729 : Obj := { cls := Value.type "code", data := Data.fields #[Value.str (Str.ofString "Reassembly") 983, Value.str (Str.ofString "Reassembly") 984, Value.str (Str.ofString "/claim/cut.py") 985, Value.int 314 0, Value.int 0 0, Value.int 0 0, Value.int 0 0, Value.int 0 0, Value.ref 577, Value.bool false, Value.int 181 0, Value.ref 578, Value.none, Value.none, Value.none, Value.none, Value.int 986 0, Value.int 314 0, Value.str (Str.ofString "/claim/cut.py") 987] }
noncomputable def q730 : Obj := { cls := Value.type "frame", slots := #[some (Value.ref 579), some (Value.ref 3), some (Value.ref 576), none, some (Value.str (Str.ofString "thinstack.reassembly") 808), none, some (Value.ref 0)] }
noncomputable def q731 : Obj := { cls := Value.type "tuple", data := Data.seq #[Value.int 65535 993] }
noncomputable def q732 : Obj := { cls := Value.type "tuple", data := Data.seq #[] }
noncomputable def q733 : Obj := { cls := Value.none, data := Data.fields #[] }
noncomputable def q734 : Obj := { cls := Value.type "tuple", data := Data.seq #[Value.str (Str.ofString "self") 997, Value.str (Str.ofString "time_limit") 998, Value.str (Str.ofString "most_octets") 999, Value.str (Str.ofString "most") 1000] }
noncomputable def q735 : Obj := { cls := Value.type "tuple", data := Data.seq #[] }
noncomputable def q736 : Obj := { cls := Value.none, data := Data.func { name := Str.ofString "__init__", qualname := Str.ofString "Reassembly.__init__", params := fP 28 1, body := FuncBody.stmts (fB 28 1), scope := fS 28 1, globals := 0, closure := [], defaults := Value.none, kwdefaults := Value.none } }
noncomputable def q737 : Obj := { cls := Value.type "code", data := Data.fields #[Value.str (Str.ofString "__init__") 994, Value.str (Str.ofString "Reassembly.__init__") 995, Value.str (Str.ofString "/claim/cut.py") 996, Value.int 316 0, Value.int 4 0, Value.int 0 0, Value.int 0 0, Value.int 3 0, Value.ref 582, Value.bool true, Value.int 181 0, Value.ref 583, Value.none, Value.ref 584, Value.ref 585, Value.ref 586, Value.int 1001 0, Value.int 316 0, Value.str (Str.ofString "/claim/cut.py") 1002] }
noncomputable def q738 : Obj := { cls := Value.type "function", data := Data.func { name := Str.ofString "__init__", qualname := Str.ofString "Reassembly.__init__", params := fP 28 1, body := FuncBody.stmts (fB 28 1), scope := fS 28 1, globals := 3, closure := [], defaults := Value.ref 581, kwdefaults := Value.none, pyModule := Value.str (Str.ofString "thinstack.reassembly") 808, code := Value.ref 587 } }
noncomputable def q739 : Obj := { cls := Value.type "tuple", data := Data.seq #[] }
noncomputable def q740 : Obj := { cls := Value.none, data := Data.fields #[] }
noncomputable def q741 : Obj := { cls := Value.type "tuple", data := Data.seq #[Value.str (Str.ofString "self") 1007, Value.str (Str.ofString "header") 1008, Value.str (Str.ofString "payload") 1009, Value.str (Str.ofString "now") 1010, Value.str (Str.ofString "key") 1011, Value.str (Str.ofString "found") 1012, Value.str (Str.ofString "is_too_great") 1013] }
noncomputable def q742 : Obj := { cls := Value.type "tuple", data := Data.seq #[] }
noncomputable def q743 : Obj := { cls := Value.none, data := Data.func { name := Str.ofString "put", qualname := Str.ofString "Reassembly.put", params := fP 28 2, body := FuncBody.stmts (fB 28 2), scope := fS 28 2, globals := 0, closure := [], defaults := Value.none, kwdefaults := Value.none } }
noncomputable def q744 : Obj := { cls := Value.type "code", data := Data.fields #[Value.str (Str.ofString "put") 1004, Value.str (Str.ofString "Reassembly.put") 1005, Value.str (Str.ofString "/claim/cut.py") 1006, Value.int 322 0, Value.int 4 0, Value.int 0 0, Value.int 0 0, Value.int 3 0, Value.ref 589, Value.bool true, Value.int 181 0, Value.ref 590, Value.none, Value.ref 591, Value.ref 592, Value.ref 593, Value.int 1014 0, Value.int 322 0, Value.str (Str.ofString "/claim/cut.py") 1015] }
noncomputable def q745 : Obj := { cls := Value.type "function", data := Data.func { name := Str.ofString "put", qualname := Str.ofString "Reassembly.put", params := fP 28 2, body := FuncBody.stmts (fB 28 2), scope := fS 28 2, globals := 3, closure := [], defaults := Value.none, kwdefaults := Value.none, pyModule := Value.str (Str.ofString "thinstack.reassembly") 808, code := Value.ref 594 } }
noncomputable def q746 : Obj := { cls := Value.type "tuple", data := Data.seq #[] }
noncomputable def q747 : Obj := { cls := Value.none, data := Data.fields #[] }
noncomputable def q748 : Obj := { cls := Value.none, data := Data.func { name := Str.ofString "stored", qualname := Str.ofString "Reassembly.stored", params := fP 28 3, body := FuncBody.stmts (fB 28 3), scope := fS 28 3, globals := 0, closure := [], defaults := Value.none, kwdefaults := Value.none } }
noncomputable def q749 : Obj := { cls := Value.type "code", data := Data.fields #[Value.str (Str.ofString "stored") 1017, Value.str (Str.ofString "Reassembly.stored") 1018, Value.str (Str.ofString "/claim/cut.py") 1019, Value.int 341 0, Value.int 1 0, Value.int 0 0, Value.int 0 0, Value.int 3 0, Value.ref 596, Value.bool true, Value.int 181 0, Value.ref 597, Value.none, Value.none, Value.none, Value.ref 598, Value.int 1020 0, Value.int 341 0, Value.str (Str.ofString "/claim/cut.py") 1021] }
noncomputable def q750 : Obj := { cls := Value.type "function", data := Data.func { name := Str.ofString "stored", qualname := Str.ofString "Reassembly.stored", params := fP 28 3, body := FuncBody.stmts (fB 28 3), scope := fS 28 3, globals := 3, closure := [], defaults := Value.none, kwdefaults := Value.none, pyModule := Value.str (Str.ofString "thinstack.reassembly") 808, code := Value.ref 599 } }
noncomputable def q751 : Obj := { cls := Value.type "tuple", data := Data.seq #[] }
noncomputable def q752 : Obj := { cls := Value.none, data := Data.fields #[] }
noncomputable def q753 : Obj := { cls := Value.type "tuple", data := Data.seq #[Value.str (Str.ofString "self") 1026] }
noncomputable def q754 : Obj := { cls := Value.type "tuple", data := Data.seq #[] }
noncomputable def q755 : Obj := { cls := Value.none, data := Data.func { name := Str.ofString "count", qualname := Str.ofString "Reassembly.count", params := fP 28 4, body := FuncBody.stmts (fB 28 4), scope := fS 28 4, globals := 0, closure := [], defaults := Value.none, kwdefaults := Value.none } }
noncomputable def q756 : Obj := { cls := Value.type "code", data := Data.fields #[Value.str (Str.ofString "count") 1023, Value.str (Str.ofString "Reassembly.count") 1024, Value.str (Str.ofString "/claim/cut.py") 1025, Value.int 344 0, Value.int 1 0, Value.int 0 0, Value.int 0 0, Value.int 3 0, Value.ref 601, Value.bool true, Value.int 181 0, Value.ref 602, Value.none, Value.ref 603, Value.ref 604, Value.ref 605, Value.int 1027 0, Value.int 344 0, Value.str (Str.ofString "/claim/cut.py") 1028] }
noncomputable def q757 : Obj := { cls := Value.type "function", data := Data.func { name := Str.ofString "count", qualname := Str.ofString "Reassembly.count", params := fP 28 4, body := FuncBody.stmts (fB 28 4), scope := fS 28 4, globals := 3, closure := [], defaults := Value.none, kwdefaults := Value.none, pyModule := Value.str (Str.ofString "thinstack.reassembly") 808, code := Value.ref 606 } }
noncomputable def q758 : Obj := { cls := Value.type "tuple", data := Data.seq #[] }
noncomputable def q759 : Obj := { cls := Value.none, data := Data.fields #[] }
noncomputable def q760 : Obj := { cls := Value.type "tuple", data := Data.seq #[Value.str (Str.ofString "self") 1033] }
noncomputable def q761 : Obj := { cls := Value.type "tuple", data := Data.seq #[] }
noncomputable def q762 : Obj := { cls := Value.none, data := Data.func { name := Str.ofString "make_room", qualname := Str.ofString "Reassembly.make_room", params := fP 28 5, body := FuncBody.stmts (fB 28 5), scope := fS 28 5, globals := 0, closure := [], defaults := Value.none, kwdefaults := Value.none } }
noncomputable def q763 : Obj := { cls := Value.type "code", data := Data.fields #[Value.str (Str.ofString "make_room") 1030, Value.str (Str.ofString "Reassembly.make_room") 1031, Value.str (Str.ofString "/claim/cut.py") 1032, Value.int 347 0, Value.int 1 0, Value.int 0 0, Value.int 0 0, Value.int 3 0, Value.ref 608, Value.bool true, Value.int 181 0, Value.ref 609, Value.none, Value.ref 610, Value.ref 611, Value.ref 612, Value.int 1034 0, Value.int 347 0, Value.str (Str.ofString "/claim/cut.py") 1035] }
noncomputable def q764 : Obj := { cls := Value.type "function", data := Data.func { name := Str.ofString "make_room", qualname := Str.ofString "Reassembly.make_room", params := fP 28 5, body := FuncBody.stmts (fB 28 5), scope := fS 28 5, globals := 3, closure := [], defaults := Value.none, kwdefaults := Value.none, pyModule := Value.str (Str.ofString "thinstack.reassembly") 808, code := Value.ref 613 } }
noncomputable def q765 : Obj := { cls := Value.type "tuple", data := Data.seq #[] }
noncomputable def q766 : Obj := { cls := Value.none, data := Data.fields #[] }
noncomputable def q767 : Obj := { cls := Value.type "tuple", data := Data.seq #[Value.str (Str.ofString "self") 1040, Value.str (Str.ofString "now") 1041] }
noncomputable def q768 : Obj := { cls := Value.type "tuple", data := Data.seq #[] }
noncomputable def q769 : Obj := { cls := Value.none, data := Data.func { name := Str.ofString "expire", qualname := Str.ofString "Reassembly.expire", params := fP 28 6, body := FuncBody.stmts (fB 28 6), scope := fS 28 6, globals := 0, closure := [], defaults := Value.none, kwdefaults := Value.none } }
noncomputable def q770 : Obj := { cls := Value.type "code", data := Data.fields #[Value.str (Str.ofString "expire") 1037, Value.str (Str.ofString "Reassembly.expire") 1038, Value.str (Str.ofString "/claim/cut.py") 1039, Value.int 351 0, Value.int 2 0, Value.int 0 0, Value.int 0 0, Value.int 3 0, Value.ref 615, Value.bool true, Value.int 181 0, Value.ref 616, Value.none, Value.ref 617, Value.ref 618, Value.ref 619, Value.int 1042 0, Value.int 351 0, Value.str (Str.ofString "/claim/cut.py") 1043] }
noncomputable def q771 : Obj := { cls := Value.type "function", data := Data.func { name := Str.ofString "expire", qualname := Str.ofString "Reassembly.expire", params := fP 28 6, body := FuncBody.stmts (fB 28 6), scope := fS 28 6, globals := 3, closure := [], defaults := Value.none, kwdefaults := Value.none, pyModule := Value.str (Str.ofString "thinstack.reassembly") 808, code := Value.ref 620 } }
noncomputable def q772 : Obj := { cls := Value.type "tuple", data := Data.seq #[] }
noncomputable def q773 : Obj := { cls := Value.none, data := Data.fields #[] }
noncomputable def q774 : Obj := { cls := Value.type "tuple", data := Data.seq #[Value.str (Str.ofString "self") 1048] }
noncomputable def q775 : Obj := { cls := Value.type "tuple", data := Data.seq #[] }
noncomputable def q776 : Obj := { cls := Value.none, data := Data.func { name := Str.ofString "next_time", qualname := Str.ofString "Reassembly.next_time", params := fP 28 7, body := FuncBody.stmts (fB 28 7), scope := fS 28 7, globals := 0, closure := [], defaults := Value.none, kwdefaults := Value.none } }
noncomputable def q777 : Obj := { cls := Value.type "code", data := Data.fields #[Value.str (Str.ofString "next_time") 1045, Value.str (Str.ofString "Reassembly.next_time") 1046, Value.str (Str.ofString "/claim/cut.py") 1047, Value.int 354 0, Value.int 1 0, Value.int 0 0, Value.int 0 0, Value.int 3 0, Value.ref 622, Value.bool true, Value.int 181 0, Value.ref 623, Value.none, Value.ref 624, Value.ref 625, Value.ref 626, Value.int 1049 0, Value.int 354 0, Value.str (Str.ofString "/claim/cut.py") 1050] }
noncomputable def q778 : Obj := { cls := Value.type "function", data := Data.func { name := Str.ofString "next_time", qualname := Str.ofString "Reassembly.next_time", params := fP 28 7, body := FuncBody.stmts (fB 28 7), scope := fS 28 7, globals := 3, closure := [], defaults := Value.none, kwdefaults := Value.none, pyModule := Value.str (Str.ofString "thinstack.reassembly") 808, code := Value.ref 627 } }
noncomputable def q779 : Obj := { cls := Value.type "tuple", data := Data.seq #[Value.str (Str.ofString "most") 1052, Value.str (Str.ofString "most_octets") 1053, Value.str (Str.ofString "time_limit") 1054, Value.str (Str.ofString "waiting") 1055] }
noncomputable def q780 (P : Params) : Obj := { cls := Value.type "dict", data := Data.dict #[{ hash := PyData.keyHash P (Str.ofString "__module__"), key := Value.str (Str.ofString "__module__") 988, val := Value.str (Str.ofString "thinstack.reassembly") 808 }, { hash := PyData.keyHash P (Str.ofString "__firstlineno__"), key := Value.str (Str.ofString "__firstlineno__") 992, val := Value.int 314 991 }, { hash := PyData.keyHash P (Str.ofString "__init__"), key := Value.str (Str.ofString "__init__") 1003, val := Value.ref 588 }, { hash := PyData.keyHash P (Str.ofString "put"), key := Value.str (Str.ofString "put") 1016, val := Value.ref 595 }, { hash := PyData.keyHash P (Str.ofString "stored"), key := Value.str (Str.ofString "stored") 1022, val := Value.ref 600 }, { hash := PyData.keyHash P (Str.ofString "count"), key := Value.str (Str.ofString "count") 1029, val := Value.ref 607 }, { hash := PyData.keyHash P (Str.ofString "make_room"), key := Value.str (Str.ofString "make_room") 1036, val := Value.ref 614 }, { hash := PyData.keyHash P (Str.ofString "expire"), key := Value.str (Str.ofString "expire") 1044, val := Value.ref 621 }, { hash := PyData.keyHash P (Str.ofString "next_time"), key := Value.str (Str.ofString "next_time") 1051, val := Value.ref 628 }, { hash := PyData.keyHash P (Str.ofString "__static_attributes__"), key := Value.str (Str.ofString "__static_attributes__") 1056, val := Value.ref 629 }, { hash := PyData.keyHash P (Str.ofString "__dict__"), key := Value.str (Str.ofString "__dict__") 1058, val := Value.ref 632 }, { hash := PyData.keyHash P (Str.ofString "__weakref__"), key := Value.str (Str.ofString "__weakref__") 1060, val := Value.ref 633 }, { hash := PyData.keyHash P (Str.ofString "__doc__"), key := Value.str (Str.ofString "__doc__") 1061, val := Value.none }] 4 }
noncomputable def q781 : Obj := { cls := Value.type "type", data := Data.cls { name := Str.ofString "Reassembly", bases := [Value.type "object"], mro := [Value.ref 631, Value.type "object"], ns := 630, qualname := Str.ofString "Reassembly" }, slots := #[none, none, some (Value.str (Str.ofString "Reassembly") 981), some (Value.str (Str.ofString "Reassembly") 989), some (Value.builtin "object.__new__"), some (Value.bool true)] }
noncomputable def q782 : Obj := { cls := Value.type "getset_descriptor", data := Data.fields #[Value.str (Str.ofString "__dict__") 1057, Value.ref 631, Value.builtin "function.__dict__", Value.builtin "function.__dict__#set"] }
noncomputable def q783 : Obj := { cls := Value.type "getset_descriptor", data := Data.fields #[Value.str (Str.ofString "__weakref__") 1059, Value.ref 631, Value.builtin "ExceptionGroup.__weakref__", Value.none] }
noncomputable def q784 : Obj := { cls := Value.type "super", data := Data.fields #[Value.ref 631, Value.ref 631, Value.ref 631] }
noncomputable def q785 : Obj := { cls := Value.type "builtin_function_or_method", data := Data.fields #[Value.builtin "object.__init_subclass__", Value.ref 631] }
noncomputable def q786 (P : Params) : Obj := { cls := Value.type "dict", data := Data.dict #[{ hash := PyData.keyHash P (Str.ofString "__name__"), key := Value.str (Str.ofString "__name__") 165, val := Value.str (Str.ofString "law_xw0341_01") 1064 }, { hash := PyData.keyHash P (Str.ofString "__doc__"), key := Value.str (Str.ofString "__doc__") 166, val := Value.none }, { hash := PyData.keyHash P (Str.ofString "__package__"), key := Value.str (Str.ofString "__package__") 167, val := Value.none }, { hash := PyData.keyHash P (Str.ofString "__loader__"), key := Value.str (Str.ofString "__loader__") 168, val := Value.builtin "__main__.__loader__#opaque" }, { hash := PyData.keyHash P (Str.ofString "__spec__"), key := Value.str (Str.ofString "__spec__") 169, val := Value.none }, { hash := PyData.keyHash P (Str.ofString "__annotations__"), key := Value.str (Str.ofString "__annotations__") 170, val := Value.ref 6 }, { hash := PyData.keyHash P (Str.ofString "__builtins__"), key := Value.str (Str.ofString "__builtins__") 171, val := Value.ref 4 }, { hash := PyData.keyHash P (Str.ofString "__file__"), key := Value.str (Str.ofString "__file__") 173, val := Value.str (Str.ofString "/claim/cut.py") 172 }, { hash := PyData.keyHash P (Str.ofString "__cached__"), key := Value.str (Str.ofString "__cached__") 174, val := Value.none }, { hash := PyData.keyHash P (Str.ofString "_wall"), key := Value.str (Str.ofString "_wall") 193, val := Value.ref 21 }, { hash := PyData.keyHash P (Str.ofString "StackError"), key := Value.str (Str.ofString "StackError") 224, val := Value.ref 38 }, { hash := PyData.keyHash P (Str.ofString "RouteError"), key := Value.str (Str.ofString "RouteError") 240, val := Value.ref 51 }, { hash := PyData.keyHash P (Str.ofString "LEAST_HEAD"), key := Value.str (Str.ofString "LEAST_HEAD") 244, val := Value.int 20 243 }, { hash := PyData.keyHash P (Str.ofString "MOST_TOTAL"), key := Value.str (Str.ofString "MOST_TOTAL") 246, val := Value.int 65535 245 }, { hash := PyData.keyHash P (Str.ofString "IpHeader"), key := Value.str (Str.ofString "IpHeader") 336, val := Value.ref 106 }, { hash := PyData.keyHash P (Str.ofString "BITS"), key := Value.str (Str.ofString "BITS") 340, val := Value.int 32 339 }, { hash := PyData.keyHash P (Str.ofString "ALL"), key := Value.str (Str.ofString "ALL") 346, val := Value.int 4294967295 345 }, { hash := PyData.keyHash P (Str.ofString "mask_of"), key := Value.str (Str.ofString "mask_of") 353, val := Value.ref 117 }, { hash := PyData.keyHash P (Str.ofString "net_of"), key := Value.str (Str.ofString "net_of") 361, val := Value.ref 124 }, { hash := PyData.keyHash P (Str.ofString "is_loop"), key := Value.str (Str.ofString "is_loop") 368, val := Value.ref 131 }, { hash := PyData.keyHash P (Str.ofString "Route"), key := Value.str (Str.ofString "Route") 421, val := Value.ref 163 }, { hash := PyData.keyHash P (Str.ofString "Branch"), key := Value.str (Str.ofString "Branch") 484, val := Value.ref 212 }, { hash := PyData.keyHash P (Str.ofString "bit_at"), key := Value.str (Str.ofString "bit_at") 492, val := Value.ref 223 }, { hash := PyData.keyHash P (Str.ofString "Routes"), key := Value.str (Str.ofString "Routes") 601, val := Value.ref 296 }, { hash := PyData.keyHash P (Str.ofString "FaceRow"), key := Value.str (Str.ofString "FaceRow") 636, val := Value.ref 317 }, { hash := PyData.keyHash P (Str.ofString "IpLayer"), key := Value.str (Str.ofString "IpLayer") 807, val := Value.ref 445 }, { hash := PyData.keyHash P (Str.ofString "STEP"), key := Value.str (Str.ofString "STEP") 811, val := Value.int 8 810 }, { hash := PyData.keyHash P (Str.ofString "Holes"), key := Value.str (Str.ofString "Holes") 878, val := Value.ref 494 }, { hash := PyData.keyHash P (Str.ofString "Datagram"), key := Value.str (Str.ofString "Datagram") 958, val := Value.ref 548 }, { hash := PyData.keyHash P (Str.ofString "whole_header"), key := Value.str (Str.ofString "whole_header") 965, val := Value.ref 559 }, { hash := PyData.keyHash P (Str.ofString "key_of"), key := Value.str (Str.ofString "key_of") 972, val := Value.ref 566 }, { hash := PyData.keyHash P (Str.ofString "is_bad_piece"), key := Value.str (Str.ofString "is_bad_piece") 980, val := Value.ref 573 }, { hash := PyData.keyHash P (Str.ofString "Reassembly"), key := Value.str (Str.ofString "Reassembly") 1063, val := Value.ref 631 }, { hash := PyData.keyHash P (Str.ofString "_law_pool"), key := Value.str (Str.ofString "_law_pool") 1076, val := Value.ref 642 }, { hash := PyData.keyHash P (Str.ofString "_law_take"), key := Value.str (Str.ofString "_law_take") 1085, val := Value.ref 649 }, { hash := PyData.keyHash P (Str.ofString "_law_one"), key := Value.str (Str.ofString "_law_one") 1093, val := Value.ref 656 }, { hash := PyData.keyHash P (Str.ofString "_law_places"), key := Value.str (Str.ofString "_law_places") 1100, val := Value.ref 663 }, { hash := PyData.keyHash P (Str.ofString "_law_found"), key := Value.str (Str.ofString "_law_found") 1108, val := Value.ref 670 }, { hash := PyData.keyHash P (Str.ofString "_law_due"), key := Value.str (Str.ofString "_law_due") 1123, val := Value.ref 677 }, { hash := PyData.keyHash P (Str.ofString "_law_layer"), key := Value.str (Str.ofString "_law_layer") 1131, val := Value.ref 684 }, { hash := PyData.keyHash P (Str.ofString "law"), key := Value.str (Str.ofString "law") 1137, val := Value.ref 689 }] 41 }
noncomputable def q787 : Obj := { cls := Value.none, data := Data.fields #[Value.int 1 0, Value.int 0 0, Value.ref 20, Value.int 5 0, Value.int 0 0, Value.ref 27, Value.int 9 0, Value.int 0 0, Value.ref 47, Value.int 14 0, Value.int 0 0, Value.ref 59, Value.int 45 0, Value.int 0 0, Value.ref 116, Value.int 49 0, Value.int 0 0, Value.ref 123, Value.int 51 0, Value.int 0 0, Value.ref 130, Value.int 53 0, Value.int 0 0, Value.ref 137, Value.int 67 0, Value.int 0 0, Value.ref 173, Value.int 94 0, Value.int 0 0, Value.ref 222, Value.int 96 0, Value.int 0 0, Value.ref 229, Value.int 165 0, Value.int 0 0, Value.ref 306, Value.int 171 0, Value.int 0 0, Value.ref 327, Value.int 229 0, Value.int 0 0, Value.ref 455, Value.int 262 0, Value.int 0 0, Value.ref 504, Value.int 308 0, Value.int 0 0, Value.ref 558, Value.int 310 0, Value.int 0 0, Value.ref 565, Value.int 312 0, Value.int 0 0, Value.ref 572, Value.int 314 0, Value.int 0 0, Value.ref 579, Value.int 357 0, Value.int 0 0, Value.ref 641, Value.int 362 0, Value.int 0 0, Value.ref 648, Value.int 369 0, Value.int 0 0, Value.ref 655, Value.int 371 0, Value.int 0 0, Value.ref 662, Value.int 374 0, Value.int 0 0, Value.ref 669, Value.int 379 0, Value.int 0 0, Value.ref 676, Value.int 388 0, Value.int 0 0, Value.ref 683, Value.int 391 0, Value.int 0 0, Value.ref 688] }
noncomputable def q788 : Obj := { cls := Value.type "tuple", data := Data.seq #[] }
noncomputable def q789 : Obj := { cls := Value.none, data := Data.fields #[] }
noncomputable def q790 : Obj := { cls := Value.type "tuple", data := Data.seq #[Value.str (Str.ofString "script") 1069, Value.str (Str.ofString "k") 1070, Value.str (Str.ofString "cell") 1071, Value.str (Str.ofString "great") 1072, Value.str (Str.ofString "mixed") 1073] }
noncomputable def q791 : Obj := { cls := Value.type "tuple", data := Data.seq #[] }
noncomputable def q792 : Obj := { cls := Value.none, data := Data.func { name := Str.ofString "_law_pool", qualname := Str.ofString "_law_pool", params := fP 30 0, body := FuncBody.stmts (fB 30 0), scope := fS 30 0, globals := 0, closure := [], defaults := Value.none, kwdefaults := Value.none } }
noncomputable def q793 : Obj := { cls := Value.type "code", data := Data.fields #[Value.str (Str.ofString "_law_pool") 1066, Value.str (Str.ofString "_law_pool") 1067, Value.str (Str.ofString "/claim/cut.py") 1068, Value.int 357 0, Value.int 2 0, Value.int 0 0, Value.int 0 0, Value.int 3 0, Value.ref 636, Value.bool true, Value.int 181 0, Value.ref 637, Value.none, Value.ref 638, Value.ref 639, Value.ref 640, Value.int 1074 0, Value.int 357 0, Value.str (Str.ofString "/claim/cut.py") 1075] }
noncomputable def q794 : Obj := { cls := Value.type "function", data := Data.func { name := Str.ofString "_law_pool", qualname := Str.ofString "_law_pool", params := fP 30 0, body := FuncBody.stmts (fB 30 0), scope := fS 30 0, globals := 3, closure := [], defaults := Value.none, kwdefaults := Value.none, pyModule := Value.str (Str.ofString "law_xw0341_01") 1064, code := Value.ref 641 } }
noncomputable def q795 : Obj := { cls := Value.type "tuple", data := Data.seq #[] }
noncomputable def q796 : Obj := { cls := Value.none, data := Data.fields #[] }
noncomputable def q797 : Obj := { cls := Value.type "tuple", data := Data.seq #[Value.str (Str.ofString "source") 1080, Value.str (Str.ofString "top") 1081, Value.str (Str.ofString "drawn") 1082] }
noncomputable def q798 : Obj := { cls := Value.type "tuple", data := Data.seq #[] }
noncomputable def q799 : Obj := { cls := Value.none, data := Data.func { name := Str.ofString "_law_take", qualname := Str.ofString "_law_take", params := fP 31 0, body := FuncBody.stmts (fB 31 0), scope := fS 31 0, globals := 0, closure := [], defaults := Value.none, kwdefaults := Value.none } }
noncomputable def q800 : Obj := { cls := Value.type "code", data := Data.fields #[Value.str (Str.ofString "_law_take") 1077, Value.str (Str.ofString "_law_take") 1078, Value.str (Str.ofString "/claim/cut.py") 1079, Value.int 362 0, Value.int 2 0, Value.int 0 0, Value.int 0 0, Value.int 3 0, Value.ref 643, Value.bool true, Value.int 181 0, Value.ref 644, Value.none, Value.ref 645, Value.ref 646, Value.ref 647, Value.int 1083 0, Value.int 362 0, Value.str (Str.ofString "/claim/cut.py") 1084] }
noncomputable def q801 : Obj := { cls := Value.type "function", data := Data.func { name := Str.ofString "_law_take", qualname := Str.ofString "_law_take", params := fP 31 0, body := FuncBody.stmts (fB 31 0), scope := fS 31 0, globals := 3, closure := [], defaults := Value.none, kwdefaults := Value.none, pyModule := Value.str (Str.ofString "law_xw0341_01") 1064, code := Value.ref 648 } }
noncomputable def q802 : Obj := { cls := Value.type "tuple", data := Data.seq #[] }
noncomputable def q803 : Obj := { cls := Value.none, data := Data.fields #[] }
noncomputable def q804 : Obj := { cls := Value.type "tuple", data := Data.seq #[Value.str (Str.ofString "source") 1089, Value.str (Str.ofString "things") 1090] }
noncomputable def q805 : Obj := { cls := Value.type "tuple", data := Data.seq #[] }
noncomputable def q806 : Obj := { cls := Value.none, data := Data.func { name := Str.ofString "_law_one", qualname := Str.ofString "_law_one", params := fP 32 0, body := FuncBody.stmts (fB 32 0), scope := fS 32 0, globals := 0, closure := [], defaults := Value.none, kwdefaults := Value.none } }
noncomputable def q807 : Obj := { cls := Value.type "code", data := Data.fields #[Value.str (Str.ofString "_law_one") 1086, Value.str (Str.ofString "_law_one") 1087, Value.str (Str.ofString "/claim/cut.py") 1088, Value.int 369 0, Value.int 2 0, Value.int 0 0, Value.int 0 0, Value.int 3 0, Value.ref 650, Value.bool true, Value.int 181 0, Value.ref 651, Value.none, Value.ref 652, Value.ref 653, Value.ref 654, Value.int 1091 0, Value.int 369 0, Value.str (Str.ofString "/claim/cut.py") 1092] }
noncomputable def q808 : Obj := { cls := Value.type "function", data := Data.func { name := Str.ofString "_law_one", qualname := Str.ofString "_law_one", params := fP 32 0, body := FuncBody.stmts (fB 32 0), scope := fS 32 0, globals := 3, closure := [], defaults := Value.none, kwdefaults := Value.none, pyModule := Value.str (Str.ofString "law_xw0341_01") 1064, code := Value.ref 655 } }
noncomputable def q809 : Obj := { cls := Value.type "tuple", data := Data.seq #[] }
noncomputable def q810 : Obj := { cls := Value.none, data := Data.fields #[] }
noncomputable def q811 : Obj := { cls := Value.type "tuple", data := Data.seq #[Value.str (Str.ofString "here") 1097] }
noncomputable def q812 : Obj := { cls := Value.type "tuple", data := Data.seq #[] }
noncomputable def q813 : Obj := { cls := Value.none, data := Data.func { name := Str.ofString "_law_places", qualname := Str.ofString "_law_places", params := fP 33 0, body := FuncBody.stmts (fB 33 0), scope := fS 33 0, globals := 0, closure := [], defaults := Value.none, kwdefaults := Value.none } }
noncomputable def q814 : Obj := { cls := Value.type "code", data := Data.fields #[Value.str (Str.ofString "_law_places") 1094, Value.str (Str.ofString "_law_places") 1095, Value.str (Str.ofString "/claim/cut.py") 1096, Value.int 371 0, Value.int 0 0, Value.int 0 0, Value.int 0 0, Value.int 3 0, Value.ref 657, Value.bool true, Value.int 181 0, Value.ref 658, Value.none, Value.ref 659, Value.ref 660, Value.ref 661, Value.int 1098 0, Value.int 371 0, Value.str (Str.ofString "/claim/cut.py") 1099] }
noncomputable def q815 : Obj := { cls := Value.type "function", data := Data.func { name := Str.ofString "_law_places", qualname := Str.ofString "_law_places", params := fP 33 0, body := FuncBody.stmts (fB 33 0), scope := fS 33 0, globals := 3, closure := [], defaults := Value.none, kwdefaults := Value.none, pyModule := Value.str (Str.ofString "law_xw0341_01") 1064, code := Value.ref 662 } }
noncomputable def q816 : Obj := { cls := Value.type "tuple", data := Data.seq #[] }
noncomputable def q817 : Obj := { cls := Value.none, data := Data.fields #[] }
noncomputable def q818 : Obj := { cls := Value.type "tuple", data := Data.seq #[Value.str (Str.ofString "layer") 1104, Value.str (Str.ofString "target") 1105] }
noncomputable def q819 : Obj := { cls := Value.type "tuple", data := Data.seq #[] }
noncomputable def q820 : Obj := { cls := Value.none, data := Data.func { name := Str.ofString "_law_found", qualname := Str.ofString "_law_found", params := fP 34 0, body := FuncBody.stmts (fB 34 0), scope := fS 34 0, globals := 0, closure := [], defaults := Value.none, kwdefaults := Value.none } }
noncomputable def q821 : Obj := { cls := Value.type "code", data := Data.fields #[Value.str (Str.ofString "_law_found") 1101, Value.str (Str.ofString "_law_found") 1102, Value.str (Str.ofString "/claim/cut.py") 1103, Value.int 374 0, Value.int 2 0, Value.int 0 0, Value.int 0 0, Value.int 3 0, Value.ref 664, Value.bool true, Value.int 181 0, Value.ref 665, Value.none, Value.ref 666, Value.ref 667, Value.ref 668, Value.int 1106 0, Value.int 374 0, Value.str (Str.ofString "/claim/cut.py") 1107] }
noncomputable def q822 : Obj := { cls := Value.type "function", data := Data.func { name := Str.ofString "_law_found", qualname := Str.ofString "_law_found", params := fP 34 0, body := FuncBody.stmts (fB 34 0), scope := fS 34 0, globals := 3, closure := [], defaults := Value.none, kwdefaults := Value.none, pyModule := Value.str (Str.ofString "law_xw0341_01") 1064, code := Value.ref 669 } }
noncomputable def q823 : Obj := { cls := Value.type "tuple", data := Data.seq #[] }
noncomputable def q824 : Obj := { cls := Value.none, data := Data.fields #[] }
noncomputable def q825 : Obj := { cls := Value.type "tuple", data := Data.seq #[Value.str (Str.ofString "rows") 1112, Value.str (Str.ofString "target") 1113, Value.str (Str.ofString "ranked") 1114, Value.str (Str.ofString "at") 1115, Value.str (Str.ofString "net") 1116, Value.str (Str.ofString "prefix") 1117, Value.str (Str.ofString "gateway") 1118, Value.str (Str.ofString "face") 1119, Value.str (Str.ofString "metric") 1120] }
noncomputable def q826 : Obj := { cls := Value.type "tuple", data := Data.seq #[] }
noncomputable def q827 : Obj := { cls := Value.none, data := Data.func { name := Str.ofString "_law_due", qualname := Str.ofString "_law_due", params := fP 35 0, body := FuncBody.stmts (fB 35 0), scope := fS 35 0, globals := 0, closure := [], defaults := Value.none, kwdefaults := Value.none } }
noncomputable def q828 : Obj := { cls := Value.type "code", data := Data.fields #[Value.str (Str.ofString "_law_due") 1109, Value.str (Str.ofString "_law_due") 1110, Value.str (Str.ofString "/claim/cut.py") 1111, Value.int 379 0, Value.int 2 0, Value.int 0 0, Value.int 0 0, Value.int 3 0, Value.ref 671, Value.bool true, Value.int 181 0, Value.ref 672, Value.none, Value.ref 673, Value.ref 674, Value.ref 675, Value.int 1121 0, Value.int 379 0, Value.str (Str.ofString "/claim/cut.py") 1122] }
noncomputable def q829 : Obj := { cls := Value.type "function", data := Data.func { name := Str.ofString "_law_due", qualname := Str.ofString "_law_due", params := fP 35 0, body := FuncBody.stmts (fB 35 0), scope := fS 35 0, globals := 3, closure := [], defaults := Value.none, kwdefaults := Value.none, pyModule := Value.str (Str.ofString "law_xw0341_01") 1064, code := Value.ref 676 } }
noncomputable def q830 : Obj := { cls := Value.type "tuple", data := Data.seq #[] }
noncomputable def q831 : Obj := { cls := Value.none, data := Data.fields #[] }
noncomputable def q832 : Obj := { cls := Value.type "tuple", data := Data.seq #[Value.str (Str.ofString "ways") 1127, Value.str (Str.ofString "faces") 1128] }
noncomputable def q833 : Obj := { cls := Value.type "tuple", data := Data.seq #[] }
noncomputable def q834 : Obj := { cls := Value.none, data := Data.func { name := Str.ofString "_law_layer", qualname := Str.ofString "_law_layer", params := fP 36 0, body := FuncBody.stmts (fB 36 0), scope := fS 36 0, globals := 0, closure := [], defaults := Value.none, kwdefaults := Value.none } }
noncomputable def q835 : Obj := { cls := Value.type "code", data := Data.fields #[Value.str (Str.ofString "_law_layer") 1124, Value.str (Str.ofString "_law_layer") 1125, Value.str (Str.ofString "/claim/cut.py") 1126, Value.int 388 0, Value.int 1 0, Value.int 0 0, Value.int 0 0, Value.int 3 0, Value.ref 678, Value.bool true, Value.int 181 0, Value.ref 679, Value.none, Value.ref 680, Value.ref 681, Value.ref 682, Value.int 1129 0, Value.int 388 0, Value.str (Str.ofString "/claim/cut.py") 1130] }
noncomputable def q836 : Obj := { cls := Value.type "function", data := Data.func { name := Str.ofString "_law_layer", qualname := Str.ofString "_law_layer", params := fP 36 0, body := FuncBody.stmts (fB 36 0), scope := fS 36 0, globals := 3, closure := [], defaults := Value.none, kwdefaults := Value.none, pyModule := Value.str (Str.ofString "law_xw0341_01") 1064, code := Value.ref 683 } }
noncomputable def q837 : Obj := { cls := Value.type "tuple", data := Data.seq #[] }
noncomputable def q838 : Obj := { cls := Value.none, data := Data.fields #[] }
noncomputable def q839 : Obj := { cls := Value.none, data := Data.func { name := Str.ofString "law", qualname := Str.ofString "law", params := fP 37 0, body := FuncBody.stmts (fB 37 0), scope := fS 37 0, globals := 0, closure := [], defaults := Value.none, kwdefaults := Value.none } }
noncomputable def q840 : Obj := { cls := Value.type "code", data := Data.fields #[Value.str (Str.ofString "law") 1132, Value.str (Str.ofString "law") 1133, Value.str (Str.ofString "/claim/cut.py") 1134, Value.int 391 0, Value.int 1 0, Value.int 0 0, Value.int 0 0, Value.int 3 0, Value.ref 685, Value.bool true, Value.int 181 0, Value.ref 686, Value.none, Value.none, Value.none, Value.ref 687, Value.int 1135 0, Value.int 391 0, Value.str (Str.ofString "/claim/cut.py") 1136] }
noncomputable def q841 : Obj := { cls := Value.type "function", data := Data.func { name := Str.ofString "law", qualname := Str.ofString "law", params := fP 37 0, body := FuncBody.stmts (fB 37 0), scope := fS 37 0, globals := 3, closure := [], defaults := Value.none, kwdefaults := Value.none, pyModule := Value.str (Str.ofString "law_xw0341_01") 1064, code := Value.ref 688 } }
noncomputable def tree175 (P : Params) : BT := .node (boot_o_0 P) (.node (boot_o_1 P) (.node (q153 P) (.node (boot_o_7 P) (.node q52 (.node q68 (.node q105 (.node q171 .nil .nil) .nil) (.node q137 .nil .nil)) (.node q87 (.node q121 .nil .nil) (.node q155 .nil .nil))) (.node q60 (.node q76 (.node q113 .nil .nil) (.node q145 .nil .nil)) (.node q97 (.node q129 .nil .nil) (.node q163 .nil .nil)))) (.node o11 (.node q56 (.node q72 (.node q109 (.node q175 .nil .nil) .nil) (.node q141 .nil .nil)) (.node q91 (.node q125 .nil .nil) (.node q159 .nil .nil))) (.node q64 (.node q83 (.node q117 .nil .nil) (.node q149 .nil .nil)) (.node q101 (.node q133 .nil .nil) (.node q167 .nil .nil))))) (.node (boot_o_5 P) (.node (boot_o_9 P) (.node q54 (.node q70 (.node q107 (.node q173 .nil .nil) .nil) (.node q139 .nil .nil)) (.node q89 (.node q123 .nil .nil) (.node q157 .nil .nil))) (.node q62 (.node q78 (.node q115 .nil .nil) (.node (q147 P) .nil .nil)) (.node q99 (.node q131 .nil .nil) (.node q165 .nil .nil)))) (.node o13 (.node q58 (.node (q74 P) (.node q111 .nil .nil) (.node q143 .nil .nil)) (.node q93 (.node q127 .nil .nil) (.node q161 .nil .nil))) (.node q66 (.node q85 (.node q119 .nil .nil) (.node q151 .nil .nil)) (.node q103 (.node q135 .nil .nil) (.node q169 .nil .nil)))))) (.node (q49 P) (.node (boot_o_4 P) (.node (boot_o_8 P) (.node q53 (.node q69 (.node q106 (.node q172 .nil .nil) .nil) (.node q138 .nil .nil)) (.node q88 (.node q122 .nil .nil) (.node q156 .nil .nil))) (.node (q61 P) (.node q77 (.node q114 .nil .nil) (.node q146 .nil .nil)) (.node (q98 P) (.node q130 .nil .nil) (.node q164 .nil .nil)))) (.node q154 (.node q57 (.node q73 (.node q110 .nil .nil) (.node q142 .nil .nil)) (.node q92 (.node q126 .nil .nil) (.node q160 .nil .nil))) (.node q65 (.node (q84 P) (.node q118 .nil .nil) (.node q150 .nil .nil)) (.node q102 (.node q134 .nil .nil) (.node q168 .nil .nil))))) (.node (boot_o_6 P) (.node (boot_o_10 P) (.node q55 (.node q71 (.node q108 (.node q174 .nil .nil) .nil) (.node q140 .nil .nil)) (.node (q90 P) (.node q124 .nil .nil) (.node q158 .nil .nil))) (.node q63 (.node q82 (.node q116 .nil .nil) (.node q148 .nil .nil)) (.node q100 (.node q132 .nil .nil) (.node q166 .nil .nil)))) (.node o14 (.node q59 (.node q81 (.node q112 .nil .nil) (.node q144 .nil .nil)) (.node q96 (.node q128 .nil .nil) (.node q162 .nil .nil))) (.node q67 (.node q86 (.node q120 .nil .nil) (.node q152 .nil .nil)) (.node q104 (.node q136 .nil .nil) (.node q170 .nil .nil))))))
noncomputable def tree350 (P : Params) : BT := .node (boot_o_0 P) (.node (boot_o_1 P) (.node (q272 P) (.node (boot_o_7 P) (.node q52 (.node q68 (.node q105 (.node q171 (.node q305 .nil .nil) .nil) (.node q239 .nil .nil)) (.node q137 (.node q205 (.node q337 .nil .nil) .nil) (.node q271 .nil .nil))) (.node q87 (.node q121 (.node q189 (.node q321 .nil .nil) .nil) (.node q255 .nil .nil)) (.node q155 (.node q223 .nil .nil) (.node q289 .nil .nil)))) (.node q60 (.node q76 (.node q113 (.node q181 (.node q313 .nil .nil) .nil) (.node q247 .nil .nil)) (.node q145 (.node q213 (.node (q345 P) .nil .nil) .nil) (.node q281 .nil .nil))) (.node q97 (.node q129 (.node q197 (.node q329 .nil .nil) .nil) (.node q263 .nil .nil)) (.node q163 (.node q231 .nil .nil) (.node q297 .nil .nil))))) (.node o11 (.node q56 (.node q72 (.node q109 (.node q175 (.node q309 .nil .nil) .nil) (.node q243 .nil .nil)) (.node q141 (.node q209 (.node q341 .nil .nil) .nil) (.node q277 .nil .nil))) (.node q91 (.node q125 (.node q193 (.node q325 .nil .nil) .nil) (.node (q259 P) .nil .nil)) (.node q159 (.node q227 .nil .nil) (.node q293 .nil .nil)))) (.node q64 (.node q83 (.node q117 (.node q185 (.node q317 .nil .nil) .nil) (.node q251 .nil .nil)) (.node q149 (.node q219 (.node q349 .nil .nil) .nil) (.node q285 .nil .nil))) (.node q101 (.node q133 (.node q201 (.node q333 .nil .nil) .nil) (.node q267 .nil .nil)) (.node q167 (.node q235 .nil .nil) (.node q301 .nil .nil)))))) (.node (boot_o_5 P) (.node (boot_o_9 P) (.node q54 (.node q70 (.node q107 (.node q173 (.node q307 .nil .nil) .nil) (.node q241 .nil .nil)) (.node q139 (.node q207 (.node q339 .nil .nil) .nil) (.node q275 .nil .nil))) (.node q89 (.node q123 (.node q191 (.node q323 .nil .nil) .nil) (.node q257 .nil .nil)) (.node q157 (.node q225 .nil .nil) (.node q291 .nil .nil)))) (.node q62 (.node q78 (.node q115 (.node q183 (.node q315 .nil .nil) .nil) (.node q249 .nil .nil)) (.node (q147 P) (.node q217 (.node q347 .nil .nil) .nil) (.node q283 .nil .nil))) (.node q99 (.node q131 (.node q199 (.node q331 .nil .nil) .nil) (.node q265 .nil .nil)) (.node q165 (.node q233 .nil .nil) (.node q299 .nil .nil))))) (.node o13 (.node q58 (.node (q74 P) (.node q111 (.node q179 (.node q311 .nil .nil) .nil) (.node q245 .nil .nil)) (.node q143 (.node q211 (.node q343 .nil .nil) .nil) (.node q279 .nil .nil))) (.node q93 (.node q127 (.node q195 (.node q327 .nil .nil) .nil) (.node q261 .nil .nil)) (.node q161 (.node q229 .nil .nil) (.node q295 .nil .nil)))) (.node q66 (.node q85 (.node q119 (.node q187 (.node q319 .nil .nil) .nil) (.node q253 .nil .nil)) (.node q151 (.node q221 .nil .nil) (.node q287 .nil .nil))) (.node q103 (.node q135 (.node q203 (.node q335 .nil .nil) .nil) (.node q269 .nil .nil)) (.node q169 (.node q237 .nil .nil) (.node q303 .nil .nil))))))) (.node (q49 P) (.node (boot_o_4 P) (.node (boot_o_8 P) (.node q53 (.node q69 (.node q106 (.node q172 (.node q306 .nil .nil) .nil) (.node q240 .nil .nil)) (.node q138 (.node q206 (.node q338 .nil .nil) .nil) (.node q274 .nil .nil))) (.node q88 (.node q122 (.node q190 (.node q322 .nil .nil) .nil) (.node q256 .nil .nil)) (.node q156 (.node q224 .nil .nil) (.node q290 .nil .nil)))) (.node (q61 P) (.node q77 (.node q114 (.node q182 (.node q314 .nil .nil) .nil) (.node q248 .nil .nil)) (.node q146 (.node q216 (.node q346 .nil .nil) .nil) (.node q282 .nil .nil))) (.node (q98 P) (.node q130 (.node q198 (.node q330 .nil .nil) .nil) (.node q264 .nil .nil)) (.node q164 (.node q232 .nil .nil) (.node q298 .nil .nil))))) (.node q273 (.node q57 (.node q73 (.node q110 (.node q178 (.node q310 .nil .nil) .nil) (.node q244 .nil .nil)) (.node q142 (.node q210 (.node q342 .nil .nil) .nil) (.node q278 .nil .nil))) (.node q92 (.node q126 (.node q194 (.node q326 .nil .nil) .nil) (.node q260 .nil .nil)) (.node q160 (.node q228 .nil .nil) (.node q294 .nil .nil)))) (.node q65 (.node (q84 P) (.node q118 (.node q186 (.node q318 .nil .nil) .nil) (.node q252 .nil .nil)) (.node q150 (.node q220 (.node q350 .nil .nil) .nil) (.node q286 .nil .nil))) (.node q102 (.node q134 (.node q202 (.node q334 .nil .nil) .nil) (.node q268 .nil .nil)) (.node q168 (.node q236 .nil .nil) (.node q302 .nil .nil)))))) (.node (boot_o_6 P) (.node (boot_o_10 P) (.node q55 (.node q71 (.node q108 (.node q174 (.node q308 .nil .nil) .nil) (.node q242 .nil .nil)) (.node q140 (.node (q208 P) (.node q340 .nil .nil) .nil) (.node (q276 P) .nil .nil))) (.node (q90 P) (.node q124 (.node q192 (.node q324 .nil .nil) .nil) (.node q258 .nil .nil)) (.node q158 (.node q226 .nil .nil) (.node q292 .nil .nil)))) (.node q63 (.node q82 (.node q116 (.node q184 (.node q316 .nil .nil) .nil) (.node q250 .nil .nil)) (.node q148 (.node (q218 P) (.node q348 .nil .nil) .nil) (.node q284 .nil .nil))) (.node q100 (.node q132 (.node q200 (.node q332 .nil .nil) .nil) (.node q266 .nil .nil)) (.node q166 (.node q234 .nil .nil) (.node q300 .nil .nil))))) (.node o14 (.node q59 (.node q81 (.node q112 (.node (q180 P) (.node q312 .nil .nil) .nil) (.node q246 .nil .nil)) (.node q144 (.node q212 (.node q344 .nil .nil) .nil) (.node q280 .nil .nil))) (.node q96 (.node q128 (.node q196 (.node q328 .nil .nil) .nil) (.node q262 .nil .nil)) (.node q162 (.node q230 .nil .nil) (.node q296 .nil .nil)))) (.node q67 (.node q86 (.node q120 (.node q188 (.node q320 .nil .nil) .nil) (.node q254 .nil .nil)) (.node q152 (.node q222 .nil .nil) (.node q288 .nil .nil))) (.node q104 (.node q136 (.node q204 (.node q336 .nil .nil) .nil) (.node q270 .nil .nil)) (.node q170 (.node q238 .nil .nil) (.node q304 .nil .nil)))))))
noncomputable def tree503 (P : Params) : BT := .node (boot_o_0 P) (.node (boot_o_1 P) (.node (q374 P) (.node (boot_o_7 P) (.node q52 (.node q68 (.node q105 (.node q171 (.node q305 .nil .nil) (.node q437 .nil .nil)) (.node q239 (.node q371 .nil .nil) (.node q501 .nil .nil))) (.node q137 (.node q205 (.node q337 .nil .nil) (.node q469 .nil .nil)) (.node q271 (.node q405 .nil .nil) .nil))) (.node q87 (.node q121 (.node q189 (.node q321 .nil .nil) (.node q453 .nil .nil)) (.node q255 (.node q389 .nil .nil) .nil)) (.node q155 (.node q223 (.node (q355 P) .nil .nil) (.node q485 .nil .nil)) (.node q289 (.node q421 .nil .nil) .nil)))) (.node q60 (.node q76 (.node q113 (.node q181 (.node q313 .nil .nil) (.node q445 .nil .nil)) (.node q247 (.node q381 .nil .nil) .nil)) (.node q145 (.node q213 (.node (q345 P) .nil .nil) (.node q477 .nil .nil)) (.node q281 (.node q413 .nil .nil) .nil))) (.node q97 (.node q129 (.node q197 (.node q329 .nil .nil) (.node q461 .nil .nil)) (.node q263 (.node q397 .nil .nil) .nil)) (.node q163 (.node q231 (.node q363 .nil .nil) (.node q493 .nil .nil)) (.node q297 (.node q429 .nil .nil) .nil))))) (.node o11 (.node q56 (.node q72 (.node q109 (.node q175 (.node q309 .nil .nil) (.node q441 .nil .nil)) (.node q243 (.node q377 .nil .nil) .nil)) (.node q141 (.node q209 (.node q341 .nil .nil) (.node q473 .nil .nil)) (.node q277 (.node q409 .nil .nil) .nil))) (.node q91 (.node q125 (.node q193 (.node q325 .nil .nil) (.node q457 .nil .nil)) (.node (q259 P) (.node q393 .nil .nil) .nil)) (.node q159 (.node q227 (.node q359 .nil .nil) (.node q489 .nil .nil)) (.node q293 (.node q425 .nil .nil) .nil)))) (.node q64 (.node q83 (.node q117 (.node q185 (.node q317 .nil .nil) (.node q449 .nil .nil)) (.node q251 (.node q385 .nil .nil) .nil)) (.node q149 (.node q219 (.node q349 .nil .nil) (.node q481 .nil .nil)) (.node q285 (.node q417 .nil .nil) .nil))) (.node q101 (.node q133 (.node q201 (.node q333 .nil .nil) (.node q465 .nil .nil)) (.node q267 (.node q401 .nil .nil) .nil)) (.node q167 (.node q235 (.node q367 .nil .nil) (.node q497 .nil .nil)) (.node q301 (.node q433 .nil .nil) .nil)))))) (.node (boot_o_5 P) (.node (boot_o_9 P) (.node q54 (.node q70 (.node q107 (.node q173 (.node q307 .nil .nil) (.node q439 .nil .nil)) (.node q241 (.node q373 .nil .nil) (.node q503 .nil .nil))) (.node q139 (.node q207 (.node q339 .nil .nil) (.node q471 .nil .nil)) (.node q275 (.node q407 .nil .nil) .nil))) (.node q89 (.node q123 (.node q191 (.node q323 .nil .nil) (.node q455 .nil .nil)) (.node q257 (.node q391 .nil .nil) .nil)) (.node q157 (.node q225 (.node q357 .nil .nil) (.node q487 .nil .nil)) (.node q291 (.node q423 .nil .nil) .nil)))) (.node q62 (.node q78 (.node q115 (.node q183 (.node q315 .nil .nil) (.node q447 .nil .nil)) (.node q249 (.node q383 .nil .nil) .nil)) (.node (q147 P) (.node q217 (.node q347 .nil .nil) (.node q479 .nil .nil)) (.node q283 (.node q415 .nil .nil) .nil))) (.node q99 (.node q131 (.node q199 (.node q331 .nil .nil) (.node q463 .nil .nil)) (.node q265 (.node q399 .nil .nil) .nil)) (.node q165 (.node q233 (.node q365 .nil .nil) (.node q495 .nil .nil)) (.node q299 (.node q431 .nil .nil) .nil))))) (.node o13 (.node q58 (.node (q74 P) (.node q111 (.node q179 (.node q311 .nil .nil) (.node q443 .nil .nil)) (.node q245 (.node q379 .nil .nil) .nil)) (.node q143 (.node q211 (.node q343 .nil .nil) (.node q475 .nil .nil)) (.node q279 (.node q411 .nil .nil) .nil))) (.node q93 (.node q127 (.node q195 (.node q327 .nil .nil) (.node q459 .nil .nil)) (.node q261 (.node q395 .nil .nil) .nil)) (.node q161 (.node q229 (.node q361 .nil .nil) (.node q491 .nil .nil)) (.node q295 (.node q427 .nil .nil) .nil)))) (.node q66 (.node q85 (.node q119 (.node q187 (.node q319 .nil .nil) (.node q451 .nil .nil)) (.node q253 (.node q387 .nil .nil) .nil)) (.node q151 (.node q221 (.node q353 .nil .nil) (.node q483 .nil .nil)) (.node q287 (.node q419 .nil .nil) .nil))) (.node q103 (.node q135 (.node q203 (.node q335 .nil .nil) (.node q467 .nil .nil)) (.node q269 (.node q403 .nil .nil) .nil)) (.node q169 (.node q237 (.node q369 .nil .nil) (.node q499 .nil .nil)) (.node q303 (.node q435 .nil .nil) .nil))))))) (.node (q49 P) (.node (boot_o_4 P) (.node (boot_o_8 P) (.node q53 (.node q69 (.node q106 (.node q172 (.node q306 .nil .nil) (.node q438 .nil .nil)) (.node q240 (.node q372 .nil .nil) (.node q502 .nil .nil))) (.node q138 (.node q206 (.node q338 .nil .nil) (.node q470 .nil .nil)) (.node q274 (.node q406 .nil .nil) .nil))) (.node q88 (.node q122 (.node q190 (.node q322 .nil .nil) (.node q454 .nil .nil)) (.node q256 (.node q390 .nil .nil) .nil)) (.node q156 (.node q224 (.node q356 .nil .nil) (.node q486 .nil .nil)) (.node q290 (.node q422 .nil .nil) .nil)))) (.node (q61 P) (.node q77 (.node q114 (.node q182 (.node q314 .nil .nil) (.node q446 .nil .nil)) (.node q248 (.node q382 .nil .nil) .nil)) (.node q146 (.node q216 (.node q346 .nil .nil) (.node q478 .nil .nil)) (.node q282 (.node q414 .nil .nil) .nil))) (.node (q98 P) (.node q130 (.node q198 (.node q330 .nil .nil) (.node q462 .nil .nil)) (.node q264 (.node q398 .nil .nil) .nil)) (.node q164 (.node q232 (.node q364 .nil .nil) (.node q494 .nil .nil)) (.node q298 (.node q430 .nil .nil) .nil))))) (.node q375 (.node q57 (.node q73 (.node q110 (.node q178 (.node q310 .nil .nil) (.node q442 .nil .nil)) (.node q244 (.node (q378 P) .nil .nil) .nil)) (.node q142 (.node q210 (.node q342 .nil .nil) (.node q474 .nil .nil)) (.node q278 (.node q410 .nil .nil) .nil))) (.node q92 (.node q126 (.node q194 (.node q326 .nil .nil) (.node q458 .nil .nil)) (.node q260 (.node q394 .nil .nil) .nil)) (.node q160 (.node q228 (.node q360 .nil .nil) (.node q490 .nil .nil)) (.node q294 (.node q426 .nil .nil) .nil)))) (.node q65 (.node (q84 P) (.node q118 (.node q186 (.node q318 .nil .nil) (.node q450 .nil .nil)) (.node q252 (.node q386 .nil .nil) .nil)) (.node q150 (.node q220 (.node q350 .nil .nil) (.node q482 .nil .nil)) (.node q286 (.node q418 .nil .nil) .nil))) (.node q102 (.node q134 (.node q202 (.node q334 .nil .nil) (.node q466 .nil .nil)) (.node q268 (.node q402 .nil .nil) .nil)) (.node q168 (.node q236 (.node (q368 P) .nil .nil) (.node (q498 P) .nil .nil)) (.node q302 (.node q434 .nil .nil) .nil)))))) (.node (boot_o_6 P) (.node (boot_o_10 P) (.node q55 (.node q71 (.node q108 (.node q174 (.node q308 .nil .nil) (.node q440 .nil .nil)) (.node q242 (.node q376 .nil .nil) .nil)) (.node q140 (.node (q208 P) (.node q340 .nil .nil) (.node q472 .nil .nil)) (.node (q276 P) (.node q408 .nil .nil) .nil))) (.node (q90 P) (.node q124 (.node q192 (.node q324 .nil .nil) (.node q456 .nil .nil)) (.node q258 (.node q392 .nil .nil) .nil)) (.node q158 (.node q226 (.node q358 .nil .nil) (.node q488 .nil .nil)) (.node q292 (.node q424 .nil .nil) .nil)))) (.node q63 (.node q82 (.node q116 (.node q184 (.node q316 .nil .nil) (.node q448 .nil .nil)) (.node q250 (.node q384 .nil .nil) .nil)) (.node q148 (.node (q218 P) (.node q348 .nil .nil) (.node q480 .nil .nil)) (.node q284 (.node q416 .nil .nil) .nil))) (.node q100 (.node q132 (.node q200 (.node q332 .nil .nil) (.node q464 .nil .nil)) (.node q266 (.node q400 .nil .nil) .nil)) (.node q166 (.node q234 (.node q366 .nil .nil) (.node q496 .nil .nil)) (.node q300 (.node q432 .nil .nil) .nil))))) (.node o14 (.node q59 (.node q81 (.node q112 (.node (q180 P) (.node q312 .nil .nil) (.node q444 .nil .nil)) (.node q246 (.node q380 .nil .nil) .nil)) (.node q144 (.node q212 (.node q344 .nil .nil) (.node q476 .nil .nil)) (.node q280 (.node q412 .nil .nil) .nil))) (.node q96 (.node q128 (.node q196 (.node q328 .nil .nil) (.node q460 .nil .nil)) (.node q262 (.node q396 .nil .nil) .nil)) (.node q162 (.node q230 (.node q362 .nil .nil) (.node q492 .nil .nil)) (.node q296 (.node q428 .nil .nil) .nil)))) (.node q67 (.node q86 (.node q120 (.node q188 (.node q320 .nil .nil) (.node q452 .nil .nil)) (.node q254 (.node q388 .nil .nil) .nil)) (.node q152 (.node q222 (.node q354 .nil .nil) (.node q484 .nil .nil)) (.node q288 (.node q420 .nil .nil) .nil))) (.node q104 (.node q136 (.node q204 (.node q336 .nil .nil) (.node q468 .nil .nil)) (.node q270 (.node q404 .nil .nil) .nil)) (.node q170 (.node q238 (.node q370 .nil .nil) (.node q500 .nil .nil)) (.node q304 (.node q436 .nil .nil) .nil)))))))
noncomputable def tree721 (P : Params) : BT := .node (boot_o_0 P) (.node (boot_o_1 P) (.node (q699 P) (.node (boot_o_7 P) (.node q52 (.node q68 (.node q105 (.node q171 (.node q305 (.node q657 .nil .nil) .nil) (.node q437 .nil .nil)) (.node q239 (.node q371 .nil .nil) (.node q501 .nil .nil))) (.node q137 (.node q205 (.node q337 (.node q689 .nil .nil) .nil) (.node q469 .nil .nil)) (.node q271 (.node q405 .nil .nil) (.node q623 .nil .nil)))) (.node q87 (.node q121 (.node q189 (.node q321 (.node q673 .nil .nil) .nil) (.node q453 .nil .nil)) (.node q255 (.node q389 .nil .nil) (.node q607 .nil .nil))) (.node q155 (.node q223 (.node (q355 P) (.node q707 .nil .nil) .nil) (.node q485 .nil .nil)) (.node q289 (.node q421 .nil .nil) (.node q639 .nil .nil))))) (.node q60 (.node q76 (.node q113 (.node q181 (.node q313 (.node q665 .nil .nil) .nil) (.node q445 .nil .nil)) (.node q247 (.node q381 .nil .nil) (.node q599 .nil .nil))) (.node q145 (.node q213 (.node (q345 P) (.node q697 .nil .nil) .nil) (.node q477 .nil .nil)) (.node q281 (.node q413 .nil .nil) (.node q631 .nil .nil)))) (.node q97 (.node q129 (.node q197 (.node q329 (.node q681 .nil .nil) .nil) (.node q461 .nil .nil)) (.node q263 (.node q397 .nil .nil) (.node q615 .nil .nil))) (.node q163 (.node q231 (.node q363 (.node q715 .nil .nil) .nil) (.node q493 .nil .nil)) (.node q297 (.node q429 .nil .nil) (.node q649 .nil .nil)))))) (.node o11 (.node q56 (.node q72 (.node q109 (.node q175 (.node q309 (.node q661 .nil .nil) .nil) (.node q441 .nil .nil)) (.node q243 (.node q377 .nil .nil) (.node q595 .nil .nil))) (.node q141 (.node q209 (.node q341 (.node (q693 P) .nil .nil) .nil) (.node q473 .nil .nil)) (.node q277 (.node q409 .nil .nil) (.node q627 .nil .nil)))) (.node q91 (.node q125 (.node q193 (.node q325 (.node q677 .nil .nil) .nil) (.node q457 .nil .nil)) (.node (q259 P) (.node q393 .nil .nil) (.node q611 .nil .nil))) (.node q159 (.node q227 (.node q359 (.node q711 .nil .nil) .nil) (.node q489 .nil .nil)) (.node q293 (.node q425 .nil .nil) (.node q645 .nil .nil))))) (.node q64 (.node q83 (.node q117 (.node q185 (.node q317 (.node q669 .nil .nil) .nil) (.node q449 .nil .nil)) (.node q251 (.node q385 .nil .nil) (.node q603 .nil .nil))) (.node q149 (.node q219 (.node q349 (.node q703 .nil .nil) .nil) (.node q481 .nil .nil)) (.node q285 (.node q417 .nil .nil) (.node q635 .nil .nil)))) (.node q101 (.node q133 (.node q201 (.node q333 (.node q685 .nil .nil) .nil) (.node q465 .nil .nil)) (.node q267 (.node q401 .nil .nil) (.node q619 .nil .nil))) (.node q167 (.node q235 (.node q367 (.node q719 .nil .nil) .nil) (.node q497 .nil .nil)) (.node q301 (.node q433 .nil .nil) (.node q653 .nil .nil))))))) (.node (boot_o_5 P) (.node (boot_o_9 P) (.node q54 (.node q70 (.node q107 (.node q173 (.node q307 (.node q659 .nil .nil) .nil) (.node q439 .nil .nil)) (.node q241 (.node q373 .nil .nil) (.node q503 .nil .nil))) (.node q139 (.node q207 (.node q339 (.node q691 .nil .nil) .nil) (.node q471 .nil .nil)) (.node q275 (.node q407 .nil .nil) (.node q625 .nil .nil)))) (.node q89 (.node q123 (.node q191 (.node q323 (.node q675 .nil .nil) .nil) (.node q455 .nil .nil)) (.node q257 (.node q391 .nil .nil) (.node q609 .nil .nil))) (.node q157 (.node q225 (.node q357 (.node q709 .nil .nil) .nil) (.node q487 .nil .nil)) (.node q291 (.node q423 .nil .nil) (.node q641 .nil .nil))))) (.node q62 (.node q78 (.node q115 (.node q183 (.node q315 (.node q667 .nil .nil) .nil) (.node q447 .nil .nil)) (.node q249 (.node q383 .nil .nil) (.node q601 .nil .nil))) (.node (q147 P) (.node q217 (.node q347 (.node q701 .nil .nil) .nil) (.node q479 .nil .nil)) (.node q283 (.node q415 .nil .nil) (.node q633 .nil .nil)))) (.node q99 (.node q131 (.node q199 (.node q331 (.node q683 .nil .nil) .nil) (.node q463 .nil .nil)) (.node q265 (.node q399 .nil .nil) (.node q617 .nil .nil))) (.node q165 (.node q233 (.node q365 (.node q717 .nil .nil) .nil) (.node q495 .nil .nil)) (.node q299 (.node q431 .nil .nil) (.node q651 .nil .nil)))))) (.node o13 (.node q58 (.node (q74 P) (.node q111 (.node q179 (.node q311 (.node q663 .nil .nil) .nil) (.node q443 .nil .nil)) (.node q245 (.node q379 .nil .nil) (.node q597 .nil .nil))) (.node q143 (.node q211 (.node q343 (.node q695 .nil .nil) .nil) (.node q475 .nil .nil)) (.node q279 (.node q411 .nil .nil) (.node q629 .nil .nil)))) (.node q93 (.node q127 (.node q195 (.node q327 (.node q679 .nil .nil) .nil) (.node q459 .nil .nil)) (.node q261 (.node q395 .nil .nil) (.node q613 .nil .nil))) (.node q161 (.node q229 (.node q361 (.node q713 .nil .nil) .nil) (.node q491 .nil .nil)) (.node q295 (.node q427 .nil .nil) (.node (q647 P) .nil .nil))))) (.node q66 (.node q85 (.node q119 (.node q187 (.node q319 (.node q671 .nil .nil) .nil) (.node q451 .nil .nil)) (.node q253 (.node q387 .nil .nil) (.node q605 .nil .nil))) (.node q151 (.node q221 (.node q353 (.node q705 .nil .nil) .nil) (.node q483 .nil .nil)) (.node q287 (.node q419 .nil .nil) (.node (q637 P) .nil .nil)))) (.node q103 (.node q135 (.node q203 (.node q335 (.node q687 .nil .nil) .nil) (.node q467 .nil .nil)) (.node q269 (.node q403 .nil .nil) (.node q621 .nil .nil))) (.node q169 (.node q237 (.node q369 (.node q721 .nil .nil) .nil) (.node q499 .nil .nil)) (.node q303 (.node q435 .nil .nil) (.node q655 .nil .nil)))))))) (.node (q49 P) (.node (boot_o_4 P) (.node (boot_o_8 P) (.node q53 (.node q69 (.node q106 (.node q172 (.node q306 (.node q658 .nil .nil) .nil) (.node q438 .nil .nil)) (.node q240 (.node q372 .nil .nil) (.node q502 .nil .nil))) (.node q138 (.node q206 (.node q338 (.node q690 .nil .nil) .nil) (.node q470 .nil .nil)) (.node q274 (.node q406 .nil .nil) (.node q624 .nil .nil)))) (.node q88 (.node q122 (.node q190 (.node q322 (.node q674 .nil .nil) .nil) (.node q454 .nil .nil)) (.node q256 (.node q390 .nil .nil) (.node q608 .nil .nil))) (.node q156 (.node q224 (.node q356 (.node q708 .nil .nil) .nil) (.node q486 .nil .nil)) (.node q290 (.node q422 .nil .nil) (.node q640 .nil .nil))))) (.node (q61 P) (.node q77 (.node q114 (.node q182 (.node q314 (.node q666 .nil .nil) .nil) (.node q446 .nil .nil)) (.node q248 (.node q382 .nil .nil) (.node q600 .nil .nil))) (.node q146 (.node q216 (.node q346 (.node q698 .nil .nil) .nil) (.node q478 .nil .nil)) (.node q282 (.node q414 .nil .nil) (.node q632 .nil .nil)))) (.node (q98 P) (.node q130 (.node q198 (.node q330 (.node q682 .nil .nil) .nil) (.node q462 .nil .nil)) (.node q264 (.node q398 .nil .nil) (.node q616 .nil .nil))) (.node q164 (.node q232 (.node q364 (.node q716 .nil .nil) .nil) (.node q494 .nil .nil)) (.node q298 (.node q430 .nil .nil) (.node q650 .nil .nil)))))) (.node q700 (.node q57 (.node q73 (.node q110 (.node q178 (.node q310 (.node q662 .nil .nil) .nil) (.node q442 .nil .nil)) (.node q244 (.node (q378 P) .nil .nil) (.node (q596 P) .nil .nil))) (.node q142 (.node q210 (.node q342 (.node q694 .nil .nil) .nil) (.node q474 .nil .nil)) (.node q278 (.node q410 .nil .nil) (.node q628 .nil .nil)))) (.node q92 (.node q126 (.node q194 (.node q326 (.node q678 .nil .nil) .nil) (.node q458 .nil .nil)) (.node q260 (.node q394 .nil .nil) (.node q612 .nil .nil))) (.node q160 (.node q228 (.node q360 (.node q712 .nil .nil) .nil) (.node q490 .nil .nil)) (.node q294 (.node q426 .nil .nil) (.node q646 .nil .nil))))) (.node q65 (.node (q84 P) (.node q118 (.node q186 (.node q318 (.node q670 .nil .nil) .nil) (.node q450 .nil .nil)) (.node q252 (.node q386 .nil .nil) (.node q604 .nil .nil))) (.node q150 (.node q220 (.node q350 (.node q704 .nil .nil) .nil) (.node q482 .nil .nil)) (.node q286 (.node q418 .nil .nil) (.node q636 .nil .nil)))) (.node q102 (.node q134 (.node q202 (.node q334 (.node q686 .nil .nil) .nil) (.node q466 .nil .nil)) (.node q268 (.node q402 .nil .nil) (.node q620 .nil .nil))) (.node q168 (.node q236 (.node (q368 P) (.node q720 .nil .nil) .nil) (.node (q498 P) .nil .nil)) (.node q302 (.node q434 .nil .nil) (.node q654 .nil .nil))))))) (.node (boot_o_6 P) (.node (boot_o_10 P) (.node q55 (.node q71 (.node q108 (.node q174 (.node q308 (.node q660 .nil .nil) .nil) (.node q440 .nil .nil)) (.node q242 (.node q376 .nil .nil) (.node q594 .nil .nil))) (.node q140 (.node (q208 P) (.node q340 (.node q692 .nil .nil) .nil) (.node q472 .nil .nil)) (.node (q276 P) (.node q408 .nil .nil) (.node q626 .nil .nil)))) (.node (q90 P) (.node q124 (.node q192 (.node q324 (.node q676 .nil .nil) .nil) (.node q456 .nil .nil)) (.node q258 (.node q392 .nil .nil) (.node q610 .nil .nil))) (.node q158 (.node q226 (.node q358 (.node q710 .nil .nil) .nil) (.node q488 .nil .nil)) (.node q292 (.node q424 .nil .nil) (.node q642 .nil .nil))))) (.node q63 (.node q82 (.node q116 (.node q184 (.node q316 (.node q668 .nil .nil) .nil) (.node q448 .nil .nil)) (.node q250 (.node q384 .nil .nil) (.node q602 .nil .nil))) (.node q148 (.node (q218 P) (.node q348 (.node q702 .nil .nil) .nil) (.node q480 .nil .nil)) (.node q284 (.node q416 .nil .nil) (.node q634 .nil .nil)))) (.node q100 (.node q132 (.node q200 (.node q332 (.node q684 .nil .nil) .nil) (.node q464 .nil .nil)) (.node q266 (.node q400 .nil .nil) (.node q618 .nil .nil))) (.node q166 (.node q234 (.node q366 (.node q718 .nil .nil) .nil) (.node q496 .nil .nil)) (.node q300 (.node q432 .nil .nil) (.node q652 .nil .nil)))))) (.node o14 (.node q59 (.node q81 (.node q112 (.node (q180 P) (.node q312 (.node q664 .nil .nil) .nil) (.node q444 .nil .nil)) (.node q246 (.node q380 .nil .nil) (.node q598 .nil .nil))) (.node q144 (.node q212 (.node q344 (.node q696 .nil .nil) .nil) (.node q476 .nil .nil)) (.node q280 (.node q412 .nil .nil) (.node q630 .nil .nil)))) (.node q96 (.node q128 (.node q196 (.node q328 (.node q680 .nil .nil) .nil) (.node q460 .nil .nil)) (.node q262 (.node q396 .nil .nil) (.node q614 .nil .nil))) (.node q162 (.node q230 (.node q362 (.node q714 .nil .nil) .nil) (.node q492 .nil .nil)) (.node q296 (.node q428 .nil .nil) (.node q648 .nil .nil))))) (.node q67 (.node q86 (.node q120 (.node q188 (.node q320 (.node q672 .nil .nil) .nil) (.node q452 .nil .nil)) (.node q254 (.node q388 .nil .nil) (.node q606 .nil .nil))) (.node q152 (.node q222 (.node q354 (.node q706 .nil .nil) .nil) (.node q484 .nil .nil)) (.node q288 (.node q420 .nil .nil) (.node q638 .nil .nil)))) (.node q104 (.node q136 (.node q204 (.node q336 (.node q688 .nil .nil) .nil) (.node q468 .nil .nil)) (.node q270 (.node q404 .nil .nil) (.node q622 .nil .nil))) (.node q170 (.node q238 (.node q370 .nil .nil) (.node q500 .nil .nil)) (.node q304 (.node q436 .nil .nil) (.node q656 .nil .nil))))))))
noncomputable def tree841 (P : Params) : BT := .node (boot_o_0 P) (.node (boot_o_1 P) (.node (q786 P) (.node (boot_o_7 P) (.node q52 (.node q68 (.node q105 (.node q171 (.node q305 (.node q657 .nil .nil) .nil) (.node q437 (.node q791 .nil .nil) .nil)) (.node q239 (.node q371 (.node q725 .nil .nil) .nil) (.node q501 .nil .nil))) (.node q137 (.node q205 (.node q337 (.node q689 .nil .nil) .nil) (.node q469 (.node q823 .nil .nil) .nil)) (.node q271 (.node q405 (.node q757 .nil .nil) .nil) (.node q623 .nil .nil)))) (.node q87 (.node q121 (.node q189 (.node q321 (.node q673 .nil .nil) .nil) (.node q453 (.node q807 .nil .nil) .nil)) (.node q255 (.node q389 (.node q741 .nil .nil) .nil) (.node q607 .nil .nil))) (.node q155 (.node q223 (.node (q355 P) (.node q707 .nil .nil) .nil) (.node q485 (.node q839 .nil .nil) .nil)) (.node q289 (.node q421 (.node q773 .nil .nil) .nil) (.node q639 .nil .nil))))) (.node q60 (.node q76 (.node q113 (.node q181 (.node q313 (.node q665 .nil .nil) .nil) (.node q445 (.node q799 .nil .nil) .nil)) (.node q247 (.node q381 (.node q733 .nil .nil) .nil) (.node q599 .nil .nil))) (.node q145 (.node q213 (.node (q345 P) (.node q697 .nil .nil) .nil) (.node q477 (.node q831 .nil .nil) .nil)) (.node q281 (.node q413 (.node q765 .nil .nil) .nil) (.node q631 .nil .nil)))) (.node q97 (.node q129 (.node q197 (.node q329 (.node q681 .nil .nil) .nil) (.node q461 (.node q815 .nil .nil) .nil)) (.node q263 (.node q397 (.node q749 .nil .nil) .nil) (.node q615 .nil .nil))) (.node q163 (.node q231 (.node q363 (.node q715 .nil .nil) .nil) (.node q493 .nil .nil)) (.node q297 (.node q429 (.node q781 .nil .nil) .nil) (.node q649 .nil .nil)))))) (.node o11 (.node q56 (.node q72 (.node q109 (.node q175 (.node q309 (.node q661 .nil .nil) .nil) (.node q441 (.node q795 .nil .nil) .nil)) (.node q243 (.node q377 (.node q729 .nil .nil) .nil) (.node q595 .nil .nil))) (.node q141 (.node q209 (.node q341 (.node (q693 P) .nil .nil) .nil) (.node q473 (.node q827 .nil .nil) .nil)) (.node q277 (.node q409 (.node q761 .nil .nil) .nil) (.node q627 .nil .nil)))) (.node q91 (.node q125 (.node q193 (.node q325 (.node q677 .nil .nil) .nil) (.node q457 (.node q811 .nil .nil) .nil)) (.node (q259 P) (.node q393 (.node q745 .nil .nil) .nil) (.node q611 .nil .nil))) (.node q159 (.node q227 (.node q359 (.node q711 .nil .nil) .nil) (.node q489 .nil .nil)) (.node q293 (.node q425 (.node q777 .nil .nil) .nil) (.node q645 .nil .nil))))) (.node q64 (.node q83 (.node q117 (.node q185 (.node q317 (.node q669 .nil .nil) .nil) (.node q449 (.node q803 .nil .nil) .nil)) (.node q251 (.node q385 (.node q737 .nil .nil) .nil) (.node q603 .nil .nil))) (.node q149 (.node q219 (.node q349 (.node q703 .nil .nil) .nil) (.node q481 (.node q835 .nil .nil) .nil)) (.node q285 (.node q417 (.node q769 .nil .nil) .nil) (.node q635 .nil .nil)))) (.node q101 (.node q133 (.node q201 (.node q333 (.node q685 .nil .nil) .nil) (.node q465 (.node q819 .nil .nil) .nil)) (.node q267 (.node q401 (.node q753 .nil .nil) .nil) (.node q619 .nil .nil))) (.node q167 (.node q235 (.node q367 (.node q719 .nil .nil) .nil) (.node q497 .nil .nil)) (.node q301 (.node q433 (.node q785 .nil .nil) .nil) (.node q653 .nil .nil))))))) (.node (boot_o_5 P) (.node (boot_o_9 P) (.node q54 (.node q70 (.node q107 (.node q173 (.node q307 (.node q659 .nil .nil) .nil) (.node q439 (.node q793 .nil .nil) .nil)) (.node q241 (.node q373 (.node q727 .nil .nil) .nil) (.node q503 .nil .nil))) (.node q139 (.node q207 (.node q339 (.node q691 .nil .nil) .nil) (.node q471 (.node q825 .nil .nil) .nil)) (.node q275 (.node q407 (.node q759 .nil .nil) .nil) (.node q625 .nil .nil)))) (.node q89 (.node q123 (.node q191 (.node q323 (.node q675 .nil .nil) .nil) (.node q455 (.node q809 .nil .nil) .nil)) (.node q257 (.node q391 (.node q743 .nil .nil) .nil) (.node q609 .nil .nil))) (.node q157 (.node q225 (.node q357 (.node q709 .nil .nil) .nil) (.node q487 (.node q841 .nil .nil) .nil)) (.node q291 (.node q423 (.node q775 .nil .nil) .nil) (.node q641 .nil .nil))))) (.node q62 (.node q78 (.node q115 (.node q183 (.node q315 (.node q667 .nil .nil) .nil) (.node q447 (.node q801 .nil .nil) .nil)) (.node q249 (.node q383 (.node q735 .nil .nil) .nil) (.node q601 .nil .nil))) (.node (q147 P) (.node q217 (.node q347 (.node q701 .nil .nil) .nil) (.node q479 (.node q833 .nil .nil) .nil)) (.node q283 (.node q415 (.node q767 .nil .nil) .nil) (.node q633 .nil .nil)))) (.node q99 (.node q131 (.node q199 (.node q331 (.node q683 .nil .nil) .nil) (.node q463 (.node q817 .nil .nil) .nil)) (.node q265 (.node q399 (.node q751 .nil .nil) .nil) (.node q617 .nil .nil))) (.node q165 (.node q233 (.node q365 (.node q717 .nil .nil) .nil) (.node q495 .nil .nil)) (.node q299 (.node q431 (.node q783 .nil .nil) .nil) (.node q651 .nil .nil)))))) (.node o13 (.node q58 (.node (q74 P) (.node q111 (.node q179 (.node q311 (.node q663 .nil .nil) .nil) (.node q443 (.node q797 .nil .nil) .nil)) (.node q245 (.node q379 (.node q731 .nil .nil) .nil) (.node q597 .nil .nil))) (.node q143 (.node q211 (.node q343 (.node q695 .nil .nil) .nil) (.node q475 (.node q829 .nil .nil) .nil)) (.node q279 (.node q411 (.node q763 .nil .nil) .nil) (.node q629 .nil .nil)))) (.node q93 (.node q127 (.node q195 (.node q327 (.node q679 .nil .nil) .nil) (.node q459 (.node q813 .nil .nil) .nil)) (.node q261 (.node q395 (.node q747 .nil .nil) .nil) (.node q613 .nil .nil))) (.node q161 (.node q229 (.node q361 (.node q713 .nil .nil) .nil) (.node q491 .nil .nil)) (.node q295 (.node q427 (.node q779 .nil .nil) .nil) (.node (q647 P) .nil .nil))))) (.node q66 (.node q85 (.node q119 (.node q187 (.node q319 (.node q671 .nil .nil) .nil) (.node q451 (.node q805 .nil .nil) .nil)) (.node q253 (.node q387 (.node q739 .nil .nil) .nil) (.node q605 .nil .nil))) (.node q151 (.node q221 (.node q353 (.node q705 .nil .nil) .nil) (.node q483 (.node q837 .nil .nil) .nil)) (.node q287 (.node q419 (.node q771 .nil .nil) .nil) (.node (q637 P) .nil .nil)))) (.node q103 (.node q135 (.node q203 (.node q335 (.node q687 .nil .nil) .nil) (.node q467 (.node q821 .nil .nil) .nil)) (.node q269 (.node q403 (.node q755 .nil .nil) .nil) (.node q621 .nil .nil))) (.node q169 (.node q237 (.node q369 (.node q721 .nil .nil) .nil) (.node q499 .nil .nil)) (.node q303 (.node q435 (.node q789 .nil .nil) .nil) (.node q655 .nil .nil)))))))) (.node (q49 P) (.node (boot_o_4 P) (.node (boot_o_8 P) (.node q53 (.node q69 (.node q106 (.node q172 (.node q306 (.node q658 .nil .nil) .nil) (.node q438 (.node q792 .nil .nil) .nil)) (.node q240 (.node q372 (.node (q726 P) .nil .nil) .nil) (.node q502 .nil .nil))) (.node q138 (.node q206 (.node q338 (.node q690 .nil .nil) .nil) (.node q470 (.node q824 .nil .nil) .nil)) (.node q274 (.node q406 (.node q758 .nil .nil) .nil) (.node q624 .nil .nil)))) (.node q88 (.node q122 (.node q190 (.node q322 (.node q674 .nil .nil) .nil) (.node q454 (.node q808 .nil .nil) .nil)) (.node q256 (.node q390 (.node q742 .nil .nil) .nil) (.node q608 .nil .nil))) (.node q156 (.node q224 (.node q356 (.node q708 .nil .nil) .nil) (.node q486 (.node q840 .nil .nil) .nil)) (.node q290 (.node q422 (.node q774 .nil .nil) .nil) (.node q640 .nil .nil))))) (.node (q61 P) (.node q77 (.node q114 (.node q182 (.node q314 (.node q666 .nil .nil) .nil) (.node q446 (.node q800 .nil .nil) .nil)) (.node q248 (.node q382 (.node q734 .nil .nil) .nil) (.node q600 .nil .nil))) (.node q146 (.node q216 (.node q346 (.node q698 .nil .nil) .nil) (.node q478 (.node q832 .nil .nil) .nil)) (.node q282 (.node q414 (.node q766 .nil .nil) .nil) (.node q632 .nil .nil)))) (.node (q98 P) (.node q130 (.node q198 (.node q330 (.node q682 .nil .nil) .nil) (.node q462 (.node q816 .nil .nil) .nil)) (.node q264 (.node q398 (.node q750 .nil .nil) .nil) (.node q616 .nil .nil))) (.node q164 (.node q232 (.node q364 (.node q716 .nil .nil) .nil) (.node q494 .nil .nil)) (.node q298 (.node q430 (.node q782 .nil .nil) .nil) (.node q650 .nil .nil)))))) (.node q787 (.node q57 (.node q73 (.node q110 (.node q178 (.node q310 (.node q662 .nil .nil) .nil) (.node q442 (.node q796 .nil .nil) .nil)) (.node q244 (.node (q378 P) (.node q730 .nil .nil) .nil) (.node (q596 P) .nil .nil))) (.node q142 (.node q210 (.node q342 (.node q694 .nil .nil) .nil) (.node q474 (.node q828 .nil .nil) .nil)) (.node q278 (.node q410 (.node q762 .nil .nil) .nil) (.node q628 .nil .nil)))) (.node q92 (.node q126 (.node q194 (.node q326 (.node q678 .nil .nil) .nil) (.node q458 (.node q812 .nil .nil) .nil)) (.node q260 (.node q394 (.node q746 .nil .nil) .nil) (.node q612 .nil .nil))) (.node q160 (.node q228 (.node q360 (.node q712 .nil .nil) .nil) (.node q490 .nil .nil)) (.node q294 (.node q426 (.node q778 .nil .nil) .nil) (.node q646 .nil .nil))))) (.node q65 (.node (q84 P) (.node q118 (.node q186 (.node q318 (.node q670 .nil .nil) .nil) (.node q450 (.node q804 .nil .nil) .nil)) (.node q252 (.node q386 (.node q738 .nil .nil) .nil) (.node q604 .nil .nil))) (.node q150 (.node q220 (.node q350 (.node q704 .nil .nil) .nil) (.node q482 (.node q836 .nil .nil) .nil)) (.node q286 (.node q418 (.node q770 .nil .nil) .nil) (.node q636 .nil .nil)))) (.node q102 (.node q134 (.node q202 (.node q334 (.node q686 .nil .nil) .nil) (.node q466 (.node q820 .nil .nil) .nil)) (.node q268 (.node q402 (.node q754 .nil .nil) .nil) (.node q620 .nil .nil))) (.node q168 (.node q236 (.node (q368 P) (.node q720 .nil .nil) .nil) (.node (q498 P) .nil .nil)) (.node q302 (.node q434 (.node q788 .nil .nil) .nil) (.node q654 .nil .nil))))))) (.node (boot_o_6 P) (.node (boot_o_10 P) (.node q55 (.node q71 (.node q108 (.node q174 (.node q308 (.node q660 .nil .nil) .nil) (.node q440 (.node q794 .nil .nil) .nil)) (.node q242 (.node q376 (.node q728 .nil .nil) .nil) (.node q594 .nil .nil))) (.node q140 (.node (q208 P) (.node q340 (.node q692 .nil .nil) .nil) (.node q472 (.node q826 .nil .nil) .nil)) (.node (q276 P) (.node q408 (.node q760 .nil .nil) .nil) (.node q626 .nil .nil)))) (.node (q90 P) (.node q124 (.node q192 (.node q324 (.node q676 .nil .nil) .nil) (.node q456 (.node q810 .nil .nil) .nil)) (.node q258 (.node q392 (.node q744 .nil .nil) .nil) (.node q610 .nil .nil))) (.node q158 (.node q226 (.node q358 (.node q710 .nil .nil) .nil) (.node q488 .nil .nil)) (.node q292 (.node q424 (.node q776 .nil .nil) .nil) (.node q642 .nil .nil))))) (.node q63 (.node q82 (.node q116 (.node q184 (.node q316 (.node q668 .nil .nil) .nil) (.node q448 (.node q802 .nil .nil) .nil)) (.node q250 (.node q384 (.node q736 .nil .nil) .nil) (.node q602 .nil .nil))) (.node q148 (.node (q218 P) (.node q348 (.node q702 .nil .nil) .nil) (.node q480 (.node q834 .nil .nil) .nil)) (.node q284 (.node q416 (.node q768 .nil .nil) .nil) (.node q634 .nil .nil)))) (.node q100 (.node q132 (.node q200 (.node q332 (.node q684 .nil .nil) .nil) (.node q464 (.node q818 .nil .nil) .nil)) (.node q266 (.node q400 (.node q752 .nil .nil) .nil) (.node q618 .nil .nil))) (.node q166 (.node q234 (.node q366 (.node q718 .nil .nil) .nil) (.node q496 .nil .nil)) (.node q300 (.node q432 (.node q784 .nil .nil) .nil) (.node q652 .nil .nil)))))) (.node o14 (.node q59 (.node q81 (.node q112 (.node (q180 P) (.node q312 (.node q664 .nil .nil) .nil) (.node q444 (.node q798 .nil .nil) .nil)) (.node q246 (.node q380 (.node q732 .nil .nil) .nil) (.node q598 .nil .nil))) (.node q144 (.node q212 (.node q344 (.node q696 .nil .nil) .nil) (.node q476 (.node q830 .nil .nil) .nil)) (.node q280 (.node q412 (.node q764 .nil .nil) .nil) (.node q630 .nil .nil)))) (.node q96 (.node q128 (.node q196 (.node q328 (.node q680 .nil .nil) .nil) (.node q460 (.node q814 .nil .nil) .nil)) (.node q262 (.node q396 (.node q748 .nil .nil) .nil) (.node q614 .nil .nil))) (.node q162 (.node q230 (.node q362 (.node q714 .nil .nil) .nil) (.node q492 .nil .nil)) (.node q296 (.node q428 (.node (q780 P) .nil .nil) .nil) (.node q648 .nil .nil))))) (.node q67 (.node q86 (.node q120 (.node q188 (.node q320 (.node q672 .nil .nil) .nil) (.node q452 (.node q806 .nil .nil) .nil)) (.node q254 (.node q388 (.node q740 .nil .nil) .nil) (.node q606 .nil .nil))) (.node q152 (.node q222 (.node q354 (.node q706 .nil .nil) .nil) (.node q484 (.node q838 .nil .nil) .nil)) (.node q288 (.node q420 (.node q772 .nil .nil) .nil) (.node q638 .nil .nil)))) (.node q104 (.node q136 (.node q204 (.node q336 (.node q688 .nil .nil) .nil) (.node q468 (.node q822 .nil .nil) .nil)) (.node q270 (.node q404 (.node q756 .nil .nil) .nil) (.node q622 .nil .nil))) (.node q170 (.node q238 (.node q370 (.node q724 .nil .nil) .nil) (.node q500 .nil .nil)) (.node q304 (.node q436 (.node q790 .nil .nil) .nil) (.node q656 .nil .nil))))))))
noncomputable abbrev stT (T : Params → BT) (n k : Nat) (w : World) (os : OsState) : SharedT := { tree := T w.params, n := n, life := {}, gens := #[], drawn := {}, toks := k, os := os }
noncomputable def ss (a n : Nat) : List Stmt := ((behindTheImports Pr).drop a).take n
theorem stretch1 (w : World) : (fun os => segRunT treeTable Pr w 11 (some (Value.ref 6)) 1 1038 (stT treeB 15 187 w os) (piecesOf (ss 0 14) hEnv cE p0 [topFrame p0])) = fun os => some (Flow.next, stT tree175 132 369 w os, cE, ⟨51, 0, 52, 36⟩) :=
  use2 (fun go tt => (fun os => go tt Pr w 11 (some (Value.ref 6)) 1 1038 (stT treeB 15 187 w os) (piecesOf (ss 0 14) hEnv cE p0 [topFrame p0])) = fun os => some (Flow.next, stT tree175 132 369 w os, cE, ⟨51, 0, 52, 36⟩)) Fast.te10110043849684766642 Fast.te14364793385576792824 (by kernel_rfl)
theorem stretch2 (w : World) : (fun os => segRunT treeTable Pr w 11 (some (Value.ref 6)) 1 1172 (stT tree175 132 369 w os) (piecesOf (ss 14 4) hEnv cE ⟨51, 0, 52, 36⟩ [topFrame p0])) = fun os => some (Flow.next, stT tree350 301 602 w os, cE, ⟨96, 0, 163, 20⟩) :=
  use2 (fun go tt => (fun os => go tt Pr w 11 (some (Value.ref 6)) 1 1172 (stT tree175 132 369 w os) (piecesOf (ss 14 4) hEnv cE ⟨51, 0, 52, 36⟩ [topFrame p0])) = fun os => some (Flow.next, stT tree350 301 602 w os, cE, ⟨96, 0, 163, 20⟩)) Fast.te10110043849684766642 Fast.te14364793385576792824 (by kernel_rfl)
theorem stretch3 (w : World) : (fun os => segRunT treeTable Pr w 11 (some (Value.ref 6)) 1 962 (stT tree350 301 602 w os) (piecesOf (ss 18 3) hEnv cE ⟨96, 0, 163, 20⟩ [topFrame p0])) = fun os => some (Flow.next, stT tree503 450 808 w os, cE, ⟨171, 0, 226, 17⟩) :=
  use2 (fun go tt => (fun os => go tt Pr w 11 (some (Value.ref 6)) 1 962 (stT tree350 301 602 w os) (piecesOf (ss 18 3) hEnv cE ⟨96, 0, 163, 20⟩ [topFrame p0])) = fun os => some (Flow.next, stT tree503 450 808 w os, cE, ⟨171, 0, 226, 17⟩)) Fast.te10110043849684766642 Fast.te14364793385576792824 (by kernel_rfl)
theorem stretch4 (w : World) : (fun os => segRunT treeTable Pr w 11 (some (Value.ref 6)) 1 854 (stT tree503 450 808 w os) (piecesOf (ss 21 7) hEnv cE ⟨171, 0, 226, 17⟩ [topFrame p0])) = fun os => some (Flow.next, stT tree721 574 981 w os, cE, ⟨312, 0, 313, 71⟩) :=
  use2 (fun go tt => (fun os => go tt Pr w 11 (some (Value.ref 6)) 1 854 (stT tree503 450 808 w os) (piecesOf (ss 21 7) hEnv cE ⟨171, 0, 226, 17⟩ [topFrame p0])) = fun os => some (Flow.next, stT tree721 574 981 w os, cE, ⟨312, 0, 313, 71⟩)) Fast.te10110043849684766642 Fast.te14364793385576792824 (by kernel_rfl)
theorem stretch5 (w : World) : (fun os => segRunT treeTable Pr w 11 (some (Value.ref 6)) 1 675 (stT tree721 574 981 w os) (piecesOf (ss 28 10) hEnv cE ⟨312, 0, 313, 71⟩ [topFrame p0])) = fun os => some (Flow.next, stT tree841 690 1138 w os, cE, p9) :=
  use2 (fun go tt => (fun os => go tt Pr w 11 (some (Value.ref 6)) 1 675 (stT tree721 574 981 w os) (piecesOf (ss 28 10) hEnv cE ⟨312, 0, 313, 71⟩ [topFrame p0])) = fun os => some (Flow.next, stT tree841 690 1138 w os, cE, p9)) Fast.te10110043849684766642 Fast.te14364793385576792824 (by kernel_rfl)
theorem ss_all : ss 0 14 ++ (ss 14 4 ++ (ss 18 3 ++ (ss 21 7 ++ (ss 28 10 ++ [])))) = behindTheImports Pr := by kernel_rfl
noncomputable abbrev stZ (w : World) (os : OsState) : Shared := (stT tree841 690 1138 w os).abs
theorem look1 (w : World) : (fun os => staticsOk (importedModules Pr.main.body) (boot_heap w.params) (stZ w os).heap && namesBound Pr (stZ w os).heap && gensDone (stZ w os) && laidKept (boot_heap w.params) (stZ w os).heap) = fun _ => true :=
  use2 (fun im (_ : Unit) => (fun os => staticsOk (im Pr.main.body) (boot_heap w.params) (stZ w os).heap && namesBound Pr (stZ w os).heap && gensDone (stZ w os) && laidKept (boot_heap w.params) (stZ w os).heap) = fun _ => true) Fast.te5923862056798008813 (rfl : () = ()) (by kernel_rfl)
theorem look2 (w : World) : (fun os => openSeen hd.view_39 Loo (importedModules Pr.main.body) (fun s => xlAt hd.view_39 Lv s && recOk PySem.Challenge.rw_xw0341_01.row.toRowW.records s) true (stZ w os)) = fun _ => openGood hd.view_39 Loo :=
  use2 (fun im sn => (fun os => sn hd.view_39 Loo (im Pr.main.body) (fun s => xlAt hd.view_39 Lv s && recOk PySem.Challenge.rw_xw0341_01.row.toRowW.records s) true (stZ w os)) = fun _ => openGood hd.view_39 Loo) Fast.te5923862056798008813 Fast.te4187177175401517315 (by kernel_rfl)
theorem look3 (w : World) : (fun os => hd.hook.obs (stZ w os)) = fun _ => hd.hook.val w := by kernel_rfl

theorem size0 (w : World) : ((boot_heap w.params).isNs mainGlobals && (#[] : Array GenState).size == 0, (boot_heap w.params).objs.size, (boot_heap w.params).nsMap mainGlobals "__annotations__") = (true, 11, some (.ref 6)) :=
  use2 (fun ns (_ : Unit) => ((boot_heap w.params).isNs mainGlobals && (#[] : Array GenState).size == 0, (boot_heap w.params).objs.size, ns (boot_heap w.params) mainGlobals "__annotations__") = (true, 11, some (Value.ref 6))) Fast.te8920871248978507458 (rfl : () = ()) (by kernel_rfl)
theorem open0 : ∀ w : World, (fencedOpening treeTable Pr w 9518).map (fun s => (s.heap, s.gens, s.drawn, s.toks)) = some (boot_heap w.params, Array.mk [], boot_drawn, boot_toks) :=
  boot_open (by kernel_rfl) (by kernel_rfl) fun s => by kernel_rfl
/-- the whole top: five stretches, its end looked at -/
theorem run_end (w : World) (os : OsState) : topRun treeTable Pr w 11 (some (.ref 6)) (12 + (1 + (1038 + (1172 + (962 + (854 + (675 + 2))))))) (stA0 w os) (topStub Pr) = some (stZ w os) := by
  have k5 := piece_app (rest := []) (segRun_of (congrFun (stretch5 w) os)) (piece_nil (run_fin w _))
  have k4 := piece_app (segRun_of (congrFun (stretch4 w) os)) k5
  have k3 := piece_app (segRun_of (congrFun (stretch3 w) os)) k4
  have k2 := piece_app (segRun_of (congrFun (stretch2 w) os)) k3
  have k1 := piece_app (segRun_of (congrFun (stretch1 w) os)) k2
  rw [ss_all] at k1
  exact go_top (congrFun (run_pre w) os) (piece_block (congrFun (run_block w) os) k1)
theorem left_end : LeftO Pr hd.view_39 Loo (fun s => xlAt hd.view_39 Lv s && recOk PySem.Challenge.rw_xw0341_01.row.toRowW.records s) hd.hook.obs hd.hook.val 9518 := fun w => by
  obtain ⟨⟨h, gs, d, k, os⟩, hs, hv⟩ := Option.map_eq_some_iff.mp (open0 w)
  obtain ⟨rfl, rfl, rfl, rfl⟩ : h = boot_heap w.params ∧ gs = Array.mk [] ∧ d = boot_drawn ∧ k = boot_toks := by simpa using hv
  obtain ⟨z1, z2, z3⟩ : _ ∧ _ ∧ _ := by simpa only [Prod.mk.injEq] using size0 w
  have hr := run_end w os
  have l1 := congrFun (look1 w) os
  have l2 := congrFun (look2 w) os
  have l3 := congrFun (look3 w) os
  generalize stZ w os = r at hr l1 l2 l3
  have hr' : topRun treeTable Pr w 11 (some (.ref 6)) 9518 (stA0 w os) (topStub Pr) = some r := by
    have := topRun_mono 4802 _ _ _ _ hr
    rwa [show 12 + (1 + (1038 + (1172 + (962 + (854 + (675 + 2)))))) + 4802 = 9518 from rfl] at this
  have ht : topFrom treeTable Pr w 9518 ⟨boot_heap w.params, Array.mk [], boot_drawn, boot_toks, os⟩ = some r := by
    unfold topFrom
    dsimp only
    rw [z1, z2, z3]
    show (topRun treeTable Pr w 11 (some (.ref 6)) 9518 (stA0 w os) (topStub Pr)).bind _ = some r
    rw [hr']
    show (match staticsOk (importedModules Pr.main.body) (boot_heap w.params) r.heap && namesBound Pr r.heap && gensDone r && laidKept (boot_heap w.params) r.heap with | true => some r | false => none) = some r
    rw [l1]
  unfold openEnds
  rw [hs, Option.bind_some, ht, Option.map_some, l2, l3]
theorem law_said : PySem.Challenge.rw_xw0341_01.wellSaid = true :=
  use2 (fun f (_ : Unit) => f PySem.Challenge.rw_xw0341_01 = true) Fast.te9446332074065402090 (rfl : () = ()) (by kernel_rfl)
theorem hd {d : DefRec} {kwd : List (PySem.Str × PySem.Expr)} (hdef : defOf hd.view_39 PySem.Challenge.rw_xw0341_01.row.name = some (d, kwd)) (hp : PySem.Challenge.rw_xw0341_01.row.prog.theDef PySem.Challenge.rw_xw0341_01.row.name = some (d.params, d.body, d.scope))
    (hk : kwWritten? d.params.kwonlyargs d.params.kw_defaults = some kwd)
    (call : WalkO hd.view_39 [Str.ofString "IpHeader", Str.ofString "ALL"] (XL hd.view_39 [(Str.ofString "ALL", WData.int 4294967295)]) (kHook hd.heap_39 (2 :: 3 :: 15 :: 17 :: 18 :: 20 :: 21 :: 22 :: 29 :: 31 :: 32 :: 34 :: 35 :: 36 :: 37 :: 38 :: 39 :: 42 :: 49 :: 50 :: 51 :: 61 :: 62 :: 64 :: 65 :: 67 :: 68 :: 69 :: 71 :: 72 :: 74 :: 75 :: 76 :: 78 :: 79 :: 81 :: 82 :: 83 :: 85 :: 86 :: 88 :: 89 :: 90 :: 92 :: 93 :: 95 :: 96 :: 97 :: 99 :: 100 :: 102 :: 103 :: 104 :: 105 :: 106 :: 107 :: 108 :: 111 :: 113 :: 114 :: 116 :: 117 :: 118 :: 120 :: 121 :: 123 :: 124 :: 125 :: 127 :: 128 :: 130 :: 131 :: 139 :: 140 :: 142 :: 143 :: 145 :: 146 :: 147 :: 149 :: 150 :: 152 :: 153 :: 154 :: 156 :: 157 :: 159 :: 160 :: 161 :: 162 :: 163 :: 164 :: 165 :: 175 :: 177 :: 178 :: 180 :: 181 :: 182 :: 184 :: 185 :: 187 :: 188 :: 189 :: 191 :: 192 :: 194 :: 195 :: 196 :: 198 :: 199 :: 201 :: 202 :: 203 :: 205 :: 206 :: 208 :: 209 :: 210 :: 211 :: 212 :: 213 :: 214 :: 217 :: 219 :: 220 :: 222 :: 223 :: 231 :: 233 :: 234 :: 236 :: 237 :: 238 :: 240 :: 241 :: 243 :: 244 :: 245 :: 247 :: 248 :: 250 :: 251 :: 252 :: 254 :: 255 :: 257 :: 258 :: 259 :: 261 :: 262 :: 264 :: 265 :: 266 :: 268 :: 269 :: 271 :: 272 :: 273 :: 275 :: 276 :: 278 :: 279 :: 280 :: 282 :: 283 :: 285 :: 286 :: 287 :: 289 :: 290 :: 292 :: 293 :: 294 :: 295 :: 296 :: 297 :: 298 :: 308 :: 310 :: 311 :: 313 :: 314 :: 315 :: 316 :: 317 :: 318 :: 319 :: 329 :: 330 :: 332 :: 333 :: 335 :: 336 :: 337 :: 339 :: 340 :: 342 :: 343 :: 344 :: 346 :: 347 :: 349 :: 350 :: 351 :: 353 :: 354 :: 356 :: 357 :: 358 :: 360 :: 361 :: 363 :: 364 :: 365 :: 367 :: 368 :: 370 :: 371 :: 372 :: 374 :: 375 :: 377 :: 378 :: 379 :: 381 :: 382 :: 384 :: 385 :: 386 :: 388 :: 389 :: 391 :: 392 :: 393 :: 395 :: 396 :: 398 :: 399 :: 400 :: 402 :: 403 :: 405 :: 406 :: 407 :: 409 :: 410 :: 412 :: 413 :: 414 :: 416 :: 417 :: 419 :: 420 :: 421 :: 422 :: 424 :: 425 :: 427 :: 428 :: 429 :: 431 :: 432 :: 434 :: 435 :: 436 :: 438 :: 439 :: 441 :: 442 :: 443 :: 444 :: 445 :: 446 :: 447 :: 457 :: 459 :: 460 :: 462 :: 463 :: 464 :: 466 :: 467 :: 469 :: 470 :: 471 :: 473 :: 474 :: 476 :: 477 :: 478 :: 480 :: 481 :: 483 :: 484 :: 485 :: 487 :: 488 :: 490 :: 491 :: 492 :: 493 :: 494 :: 495 :: 496 :: 506 :: 508 :: 509 :: 511 :: 512 :: 513 :: 515 :: 516 :: 518 :: 519 :: 520 :: 522 :: 523 :: 525 :: 526 :: 527 :: 529 :: 530 :: 532 :: 533 :: 534 :: 537 :: 538 :: 539 :: 541 :: 542 :: 544 :: 545 :: 546 :: 547 :: 548 :: 549 :: 550 :: 553 :: 555 :: 556 :: 558 :: 559 :: 560 :: 562 :: 563 :: 565 :: 566 :: 567 :: 569 :: 570 :: 572 :: 573 :: 581 :: 582 :: 584 :: 585 :: 587 :: 588 :: 589 :: 591 :: 592 :: 594 :: 595 :: 596 :: 599 :: 600 :: 601 :: 603 :: 604 :: 606 :: 607 :: 608 :: 610 :: 611 :: 613 :: 614 :: 615 :: 617 :: 618 :: 620 :: 621 :: 622 :: 624 :: 625 :: 627 :: 628 :: 629 :: 630 :: 631 :: 632 :: 633 :: 636 :: 638 :: 639 :: 641 :: 642 :: 643 :: 645 :: 646 :: 648 :: 649 :: 650 :: 652 :: 653 :: 655 :: 656 :: 657 :: 659 :: 660 :: 662 :: 663 :: 664 :: 666 :: 667 :: 669 :: 670 :: 671 :: 673 :: 674 :: 676 :: 677 :: 678 :: 680 :: 681 :: 683 :: 684 :: 685 :: 688 :: 689 :: []) hd.keys).says PySem.Challenge.rw_xw0341_01.row.toRowW d kwd fun f vs => PySem.call f vs) : PySem.Challenge.rw_xw0341_01.Holds := by
  refine holds_law law_said fun said => ?_
  refine holds_open (q := hd.view_39) (loose := Loo) (Xt := fun s => xlAt hd.view_39 Lv s && recOk PySem.Challenge.rw_xw0341_01.row.toRowW.records s) (XP := XL hd.view_39 Lv) (Yf := hd.hook.obs) (Ya := hd.hook.val) (YP := hd.hook.says) (N := 9518) left_end (Hook.of hd.hook) (Hook.keeps hd.hook)
    (fun s e => xl_of s (Bool.and_eq_true_iff.mp e).1) XL.keeps hdef hp hk (fun s e => recFacts_of (Bool.and_eq_true_iff.mp e).2) rfl said (by decide +kernel) ⟨rfl, rfl, rfl, rfl, rfl, by decide +kernel⟩ ?hw call
  case hw => w_witness2

end Mine
end

section
set_option Elab.async false
set_option maxRecDepth 100000
set_option maxHeartbeats 8000000
set_option linter.all false
namespace Mine
open PySem PySem.W PyProof.Rows

noncomputable abbrev VW := hd.view_39
noncomputable abbrev LS : List Str := looseW VW [Str.ofString "IpHeader", Str.ofString "ALL"]
def Fn (w : World) (mean : ExcName → Option Value) (mg mb : Str → Option Value) (f : Addr) (d u : Nat) (args : List Value) (news : Ledger) (post : Value → Ledger → Prop) : Prop :=
  ∀ (dp un : Nat) (gd : Option (List Code)) (cn : Str) (cs : Scope) (a : Addr) (ccd : Value) (cl : List (Str × Addr)) (outer : List Env) (A₀ : Around) (base h₀ : Heap) (L : Addr) (m : Str → Option Value) (s : Shared)
    (Q E : Value → Shared → Prop),
    Below A₀ base outer h₀ → Fr h₀ L s.heap m → (hd.heap_39 w.params).In h₀ → News h₀ L s.heap news → Top VW LS mean mg mb h₀ → cs.kind = .function → dp + d < recursionLimit → un + u < cLine →
    (∀ r news' h' tk', Fr h₀ L h' m → News h₀ L h' news' → post r news' → Q r { s with heap := h', toks := tk' }) →
    wpAny (model PySem.Challenge.rw_xw0341_01.row.prog w) (ktrTop dp un gd cn cs L a ccd cl outer) (call (.ref f) args) Q E s

section
variable {w : World} {mean : ExcName → Option Value} {mg mb : Str → Option Value} {f : Addr} {d u : Nat} {args : List Value} {news : Ledger} {post : Value → Ledger → Prop}
theorem fn_use {dp un : Nat} {gd : Option (List Code)} {cn : Str} {cs : Scope} {a : Addr} {ccd : Value} {cl : List (Str × Addr)} {outer : List Env} {A₀ : Around} {base h₀ : Heap} {L : Addr} {m : Str → Option Value} {s : Shared}
    {Q E : Value → Shared → Prop} (C : Fn w mean mg mb f d u args news post)
    (B : Below A₀ base outer h₀) (F : Fr h₀ L s.heap m) (X : (hd.heap_39 w.params).In h₀) (N : News h₀ L s.heap news) (T : Top VW LS mean mg mb h₀) (hk : cs.kind = .function) (hd : dp + d < recursionLimit) (hu : un + u < cLine)
    (ret : ∀ r news' h' tk', Fr h₀ L h' m → News h₀ L h' news' → post r news' → Q r { s with heap := h', toks := tk' }) :
    wpAny (model PySem.Challenge.rw_xw0341_01.row.prog w) (ktrTop dp un gd cn cs L a ccd cl outer) (call (.ref f) args) Q E s := C _ _ _ _ _ _ _ _ _ _ _ _ _ _ _ _ _ B F X N T hk hd hu ret
end

/-- a text's entry in an object's dict -/
abbrev ent (P : Params) (x : Str) (t : Tok) (v : Value) : DictEntry := ⟨PyData.keyHash P x, .str x t, v⟩
abbrev brObj (P : Params) (k0 k1 k2 : Tok) (zv ov rv : Value) : Obj := dictOf [ent P "zero" k0 zv, ent P "one" k1 ov, ent P "routes" k2 rv] 3
/-- a route's data -/
structure Rt where
  net : Int
  pre : Int
  gw : Int
  face : Int
  met : Int
/-- a route as an object: its place, its dict's, its tokens -/
structure Ro where
  a : Addr
  d : Addr
  r : Rt
  k0 : Tok
  k1 : Tok
  k2 : Tok
  k3 : Tok
  k4 : Tok
  t0 : Tok
  t1 : Tok
  t2 : Tok
  t3 : Tok
  t4 : Tok
abbrev Ro.obj (P : Params) (o : Ro) : Obj := dictOf [ent P "net" o.k0 (.int o.r.net o.t0), ent P "prefix" o.k1 (.int o.r.pre o.t1), ent P "gateway" o.k2 (.int o.r.gw o.t2), ent P "face" o.k3 (.int o.r.face o.t3), ent P "metric" o.k4 (.int o.r.met o.t4)] 5
/-- the route stands in the ledger -/
def Ro.In (P : Params) (o : Ro) (l : Ledger) : Prop := (o.a, instObj 163 o.d) ∈ l ∧ (o.d, o.obj P) ∈ l
/-- the first route of least metric -/
def best? : List Ro → Option Ro
  | [] => none
  | r :: l => some (l.foldl (fun b o => if o.r.met < b.r.met then o else b) r)
def refO : Option Ro → Value
  | none => .none
  | some o => .ref o.a

end Mine
end

section
set_option Elab.async false
set_option maxRecDepth 100000
set_option maxHeartbeats 8000000
set_option linter.all false
namespace Mine
open PySem PySem.W PyProof.Rows

local macro_rules | `(tactic| k_handed) => `(tactic| assumption)
local macro_rules | `(tactic| k_mem) => `(tactic| assumption)
local macro_rules | `(tactic| k_all) => `(tactic| exact wo_ne)
local macro_rules | `(tactic| k_room) => `(tactic| ktr_room)
local macro_rules | `(tactic| units_room) => `(tactic| ktr_units)
local macro_rules | `(tactic| k_enter) => `(tactic| (refine' code_def ?k1 ?k2 ?k3 ?k4 ?k5 ?kA ?kF ?kK ?k6 ?k7 ?k8 ?k9 ?kB ?_ ?c2 ?c3 ?c4 ?c5; (case kA => exact rfl); (case kF => exact rfl); (case kK => first | exact rfl | assumption); (case k1 => k_asm); (case k2 => k_asm); (case k3 => k_asm); (case k4 => k_asm); (case k5 => k_asm); (case k6 => k_is); (case k7 => k_is); (case k8 => ktr_room); (case k9 => first | exact BindsTo.of_eq rfl | exact binds_K (by k_in) rfl (by k_is) rfl rfl rfl); (case c5 => decide); (case kB => exact locs rfl); (case c2 => exact rfl); (case c3 => exact rfl); (case c4 => exact rfl); k_whole; intro g' L' h' FG' F' N' B' X' T'; (try dsimp only); (try k_fold)))
local macro_rules | `(tactic| walk_at "subscriptTail") => `(tactic| (k_here; (with_reducible show wpAny _ _ (subscriptTail _ _ (Value.ref _) (Value.int _ _)) _ _ _); first
  | ((with_reducible show wpAny _ _ (subscriptTail _ (PySem.Expr.UnaryOp _ _ _) (Value.ref _) (Value.int _ _)) _ _ _); refine' item_last ?k1 ?k2 ?_ ?k7; (case k1 => k_asm); (case k2 => k_mem); (case k7 => with_unfolding_all rfl); k_whole)
  | (refine' item_P ?k1 ?k2 ?k3 ?k4 ?k5 ?_ ?k7; (case k1 => k_asm); (case k2 => k_mem); (case k3 => omega); (case k4 => omega); (case k5 => first | with_reducible assumption | ((with_reducible rw [Int.toNat_natCast]); with_reducible assumption) | exact rfl); (case k7 => with_unfolding_all rfl); k_whole)
  | (refine' tupItem_P ?k1 ?k2 ?k3 ?k4 ?k5 ?_ ?k7; (case k1 => k_asm); (case k2 => k_mem); (case k3 => omega); (case k4 => omega); (case k5 => first | with_reducible assumption | ((with_reducible rw [Int.toNat_natCast]); with_reducible assumption) | exact rfl); (case k7 => with_unfolding_all rfl); k_whole)))
local macro_rules | `(tactic| walk_at "setItem ref int") => `(tactic| (k_here; k_dflt (refine' setAt_P ?k1 ?k2 ?k3 ?k4 ?k5 ?k6 ?_; (case k1 => k_asm); (case k2 => k_asm); (case k3 => k_mem); (case k4 => omega); (case k5 => omega); (case k6 => first | (simp; done) | (simp only [Int.toNat_natCast, List.length_map]; omega) | (simp; omega)); k_whole; intro h' F' N')))
local macro_rules | `(tactic| walk_at "call builtin:list.append") => `(tactic| (k_here; (with_reducible show wpAny _ _ (call (Value.builtin _) [Value.ref _, _]) _ _ _); k_dflt (refine' append_P ?k1 ?k2 ?k3 ?_ ?z; (case k1 => k_asm); (case k2 => k_asm); (case k3 => k_mem); (case z => simp only [sizeLine_eq, List.size_toArray, List.length_append, List.length_map, List.length_cons, List.length_nil]; omega); k_whole; intro h' F' N')))
local macro_rules | `(tactic| walk_at "call builtin:len") => `(tactic| (k_here; (with_reducible show wpAny _ _ (call (Value.builtin "len") [Value.ref _]) _ _ _); k_dflt (refine' len_P ?k1 ?k2 ?k3 ?_; (case k1 => k_asm); (case k2 => k_mem); (case k3 => (try simp only [List.length_map, List.length_append, List.length_cons, List.length_nil]); omega); k_whole); (try simp only [List.length_map])))
local macro_rules | `(tactic| walk_at "compareOp NotEq ref ref") => `(tactic| (k_here; (refine' ne_empty_P ?k1 ?k2 ?k3 ?k4 ?_; (case k1 => k_asm); (case k3 => k_mem); (case k2 => k_mem); (case k4 => units_room); k_whole)))
local macro_rules | `(tactic| walk_at "compareOp Eq ref ref") => `(tactic| (k_here; (refine' eq_empty_P ?k1 ?k2 ?k3 ?k4 ?_; (case k1 => k_asm); (case k3 => k_mem); (case k2 => k_mem); (case k4 => units_room); k_whole)))




theorem c_bit_at (w mean mg mb) (x p : Int) (t1 t2 : Tok) (news : Ledger) (hp : 0 ≤ p) (hp' : p ≤ 31) :
    Fn w mean mg mb 223 3 20 [.int x t1, .int p t2] news (fun r n' => (∃ t, r = .int ((x.fdiv (2 ^ (32 - 1 - p).toNat)).fmod 2) t) ∧ n' = news) := by
  unfold Fn; k_fill; intro dp un gd cn cs a ccd cl outer A₀ base h₀ L m s Q E B F X N T hk hdp hun hret
  (refine wpAny_call ?_; ktr_enter; k_steps)
  exact hret _ _ _ _ (by k_asm) (by k_asm) ⟨⟨_, rfl⟩, rfl⟩

theorem c_child (w mean mg mb) (b bd : Addr) (k0 k1 k2 : Tok) (zv ov rv : Value) (i : Int) (t : Tok) (news : Ledger) (h1 : (b, instObj 212 bd) ∈ news) (h2 : (bd, brObj w.params k0 k1 k2 zv ov rv) ∈ news) (hz : handedIn zv = true) (ho : handedIn ov = true) :
    Fn w mean mg mb 188 3 20 [.ref b, .int i t] news (fun r n' => r = (if i = 0 then zv else ov) ∧ n' = news) := by
  unfold Fn; k_fill; intro dp un gd cn cs a ccd cl outer A₀ base h₀ L m s Q E B F X N T hk hdp hun hret
  (refine wpAny_call ?_; ktr_enter; k_steps)
  all_goals exact hret _ _ _ _ (by k_asm) (by k_asm) ⟨by simp [*], rfl⟩

theorem c_set_child (w mean mg mb) (b bd : Addr) (k0 k1 k2 : Tok) (zv ov rv v : Value) (i : Int) (t : Tok) (news : Ledger) (h1 : (b, instObj 212 bd) ∈ news) (h2 : (bd, brObj w.params k0 k1 k2 zv ov rv) ∈ news) (hne : b ≠ bd) :
    Fn w mean mg mb 195 3 20 [.ref b, .int i t, v] news (fun r n' => r = .none ∧ n' = put bd (brObj w.params k0 k1 k2 (if i = 0 then v else zv) (if i = 0 then ov else v) rv) news) := by
  unfold Fn; k_fill; intro dp un gd cn cs a ccd cl outer A₀ base h₀ L m s Q E B F X N T hk hdp hun hret
  replace N := news_focus N h2
  have h1' : (b, instObj 212 bd) ∈ wo bd news := mem_wo.mpr ⟨h1, hne⟩
  clear h1 h2
  (refine wpAny_call ?_; ktr_enter; k_steps)
  all_goals (refine hret _ _ _ _ (by k_asm) (by k_asm) ⟨rfl, ?_⟩; simp [*, put])
end Mine
end

section
set_option Elab.async false
set_option maxRecDepth 100000
set_option maxHeartbeats 8000000
set_option linter.all false
namespace Mine
open PySem PySem.W PyProof.Rows

local macro_rules | `(tactic| k_handed) => `(tactic| assumption)
local macro_rules | `(tactic| k_mem) => `(tactic| assumption)
local macro_rules | `(tactic| k_all) => `(tactic| exact wo_ne)
local macro_rules | `(tactic| k_room) => `(tactic| ktr_room)
local macro_rules | `(tactic| units_room) => `(tactic| ktr_units)
local macro_rules | `(tactic| k_enter) => `(tactic| (refine' code_def ?k1 ?k2 ?k3 ?k4 ?k5 ?kA ?kF ?kK ?k6 ?k7 ?k8 ?k9 ?kB ?_ ?c2 ?c3 ?c4 ?c5; (case kA => exact rfl); (case kF => exact rfl); (case kK => first | exact rfl | assumption); (case k1 => k_asm); (case k2 => k_asm); (case k3 => k_asm); (case k4 => k_asm); (case k5 => k_asm); (case k6 => k_is); (case k7 => k_is); (case k8 => ktr_room); (case k9 => first | exact BindsTo.of_eq rfl | exact binds_K (by k_in) rfl (by k_is) rfl rfl rfl); (case c5 => decide); (case kB => exact locs rfl); (case c2 => exact rfl); (case c3 => exact rfl); (case c4 => exact rfl); k_whole; intro g' L' h' FG' F' N' B' X' T'; (try dsimp only); (try k_fold)))
local macro_rules | `(tactic| walk_at "subscriptTail") => `(tactic| (k_here; (with_reducible show wpAny _ _ (subscriptTail _ _ (Value.ref _) (Value.int _ _)) _ _ _); first
  | ((with_reducible show wpAny _ _ (subscriptTail _ (PySem.Expr.UnaryOp _ _ _) (Value.ref _) (Value.int _ _)) _ _ _); refine' item_last ?k1 ?k2 ?_ ?k7; (case k1 => k_asm); (case k2 => k_mem); (case k7 => with_unfolding_all rfl); k_whole)
  | (refine' item_P ?k1 ?k2 ?k3 ?k4 ?k5 ?_ ?k7; (case k1 => k_asm); (case k2 => k_mem); (case k3 => omega); (case k4 => omega); (case k5 => first | with_reducible assumption | ((with_reducible rw [Int.toNat_natCast]); with_reducible assumption) | exact rfl); (case k7 => with_unfolding_all rfl); k_whole)
  | (refine' tupItem_P ?k1 ?k2 ?k3 ?k4 ?k5 ?_ ?k7; (case k1 => k_asm); (case k2 => k_mem); (case k3 => omega); (case k4 => omega); (case k5 => first | with_reducible assumption | ((with_reducible rw [Int.toNat_natCast]); with_reducible assumption) | exact rfl); (case k7 => with_unfolding_all rfl); k_whole)))
local macro_rules | `(tactic| walk_at "setItem ref int") => `(tactic| (k_here; k_dflt (refine' setAt_P ?k1 ?k2 ?k3 ?k4 ?k5 ?k6 ?_; (case k1 => k_asm); (case k2 => k_asm); (case k3 => k_mem); (case k4 => omega); (case k5 => omega); (case k6 => first | (simp; done) | (simp only [Int.toNat_natCast, List.length_map]; omega) | (simp; omega)); k_whole; intro h' F' N')))
local macro_rules | `(tactic| walk_at "call builtin:list.append") => `(tactic| (k_here; (with_reducible show wpAny _ _ (call (Value.builtin _) [Value.ref _, _]) _ _ _); k_dflt (refine' append_P ?k1 ?k2 ?k3 ?_ ?z; (case k1 => k_asm); (case k2 => k_asm); (case k3 => k_mem); (case z => simp only [sizeLine_eq, List.size_toArray, List.length_append, List.length_map, List.length_cons, List.length_nil]; omega); k_whole; intro h' F' N')))
local macro_rules | `(tactic| walk_at "call builtin:len") => `(tactic| (k_here; (with_reducible show wpAny _ _ (call (Value.builtin "len") [Value.ref _]) _ _ _); k_dflt (refine' len_P ?k1 ?k2 ?k3 ?_; (case k1 => k_asm); (case k2 => k_mem); (case k3 => (try simp only [List.length_map, List.length_append, List.length_cons, List.length_nil]); omega); k_whole); (try simp only [List.length_map])))
local macro_rules | `(tactic| walk_at "compareOp NotEq ref ref") => `(tactic| (k_here; (refine' ne_empty_P ?k1 ?k2 ?k3 ?k4 ?_; (case k1 => k_asm); (case k3 => k_mem); (case k2 => k_mem); (case k4 => units_room); k_whole)))
local macro_rules | `(tactic| walk_at "compareOp Eq ref ref") => `(tactic| (k_here; (refine' eq_empty_P ?k1 ?k2 ?k3 ?k4 ?_; (case k1 => k_asm); (case k3 => k_mem); (case k2 => k_mem); (case k4 => units_room); k_whole)))

theorem best_foldl_mem : ∀ (l : List Ro) (b : Ro), l.foldl (fun b o => if o.r.met < b.r.met then o else b) b = b ∨ l.foldl (fun b o => if o.r.met < b.r.met then o else b) b ∈ l
  | [], b => .inl rfl
  | o :: l, b => by
    rw [List.foldl_cons]
    rcases best_foldl_mem l (if o.r.met < b.r.met then o else b) with h | h
    · rw [h]
      split
      · exact .inr (.head _)
      · exact .inl rfl
    · exact .inr (.tail _ h)
theorem best_mem {l : List Ro} {q : Ro} (h : best? l = some q) : q ∈ l := by
  cases l with
  | nil => cases h
  | cons b l =>
    have e := Option.some.inj h
    rcases best_foldl_mem l b with h2 | h2
    · rw [← e, h2]; exact .head _
    · rw [← e]; exact .tail _ h2
theorem best_mem_take {l : List Ro} {q : Ro} {i : Nat} (h : best? (l.take i) = some q) : q ∈ l := List.mem_of_mem_take (best_mem h)
theorem best_snoc (l : List Ro) (o : Ro) : best? (l ++ [o]) = match best? l with | none => some o | some q => some (if o.r.met < q.r.met then o else q) := by
  cases l with
  | nil => rfl
  | cons b l => simp only [best?, List.cons_append, List.foldl_append, List.foldl_cons, List.foldl_nil]
theorem best_next {l : List Ro} {o : Ro} {i : Nat} (h : l[i]? = some o) : best? (l.take (i + 1)) = match best? (l.take i) with | none => some o | some q => some (if o.r.met < q.r.met then o else q) := by
  rw [List.take_add_one, h]; exact best_snoc _ _
theorem c_best (w mean mg mb) (b bd rl : Addr) (k0 k1 k2 : Tok) (zv ov : Value) (rs : List Ro) (n : Nat) (news : Ledger) (h1 : (b, instObj 212 bd) ∈ news) (h2 : (bd, brObj w.params k0 k1 k2 zv ov (.ref rl)) ∈ news)
    (h3 : (rl, listOf (rs.map fun o => Value.ref o.a).toArray n) ∈ news) (h4 : ∀ o ∈ rs, o.In w.params news) :
    Fn w mean mg mb 209 3 20 [.ref b] news (fun r n' => r = refO (best? rs) ∧ n' = news) := by
  unfold Fn; k_fill; intro dp un gd cn cs a ccd cl outer A₀ base h₀ L m s Q E B F X N T hk hdp hun hret
  refine wpAny_call ?_; ktr_enter; repeat' ((fail_if_success (with_reducible show wpAny _ _ (exec (Stmt.For _ _ _ _ _) _) _ _ _)); (fail_if_success (with_reducible show wpAny _ _ (pyIter _) _ _ _)); (fail_if_success (with_reducible show wpAny _ _ (exec (Stmt.Raise _ _ _) _) _ _ _)); (fail_if_success (with_reducible show wpAny _ _ (exec (Stmt.While _ _ _ _) _) _ _ _)); first | (k_unfold; (try dsimp only)) | walk1 | (dsimp only; walk1) | (leave1; (try dsimp only)))
  (rename Fr _ _ _ _ => lF); with_unfolding_all refine' For_invVF lF ?k1 ?k2 ?_; (case k1 => exact rfl); (case k2 => exact rfl)
  repeat' ((fail_if_success (with_reducible show wpAny _ _ (exec (Stmt.For _ _ _ _ _) _) _ _ _)); (fail_if_success (with_reducible show wpAny _ _ (pyIter _) _ _ _)); (fail_if_success (with_reducible show wpAny _ _ (exec (Stmt.Raise _ _ _) _) _ _ _)); (fail_if_success (with_reducible show wpAny _ _ (exec (Stmt.While _ _ _ _) _) _ _ _)); first | (k_unfold; (try dsimp only)) | walk1 | (dsimp only; walk1) | (leave1; (try dsimp only)))
  (rename Fr _ _ _ _ => F1)
  (rename News _ _ _ _ => N1)
  refine it_list (fun i m nx => nx = news ∧ m "found" = some (refO (best? (rs.take i)))) rfl h3 F1 N1 ⟨rfl, rfl⟩ ?_ ?_
  · rintro i v m₁ news₁ h tk I io hv ⟨rfl, hf⟩ hl hI hio F2 N2
    obtain ⟨o, ho, rfl⟩ : ∃ o, rs[i]? = some o ∧ v = .ref o.a := by
      rw [List.getElem?_map] at hv
      obtain ⟨o, h1, h2⟩ := Option.map_eq_some_iff.mp hv
      exact ⟨o, h1, h2.symm⟩
    obtain ⟨ho1, ho2⟩ := h4 o (List.mem_of_getElem? ho)
    rcases hb : best? (rs.take i) with _ | q
    · replace F2 := fr_know F2 (y0 := "found") (v0 := .none) (by rw [if_neg (by decide), hf, hb]; rfl)
      clear F1 N1
      k_steps
      refine turn_end news₁ (by k_asm) (by k_asm) hI ⟨hl, rfl, ?_⟩
      rw [best_next ho, hb]; rfl
    · replace F2 := fr_know F2 (y0 := "found") (v0 := .ref q.a) (by rw [if_neg (by decide), hf, hb]; rfl)
      obtain ⟨hq1, hq2⟩ := h4 q (best_mem_take hb)
      clear F1 N1
      k_steps
      all_goals refine turn_end news₁ (by k_asm) (by k_asm) hI ⟨hl, rfl, ?_⟩
      all_goals rw [best_next ho, hb]
      all_goals simp [*, refO]
  · rintro m₁ news₁ h tk ⟨rfl, hf⟩ F2 N2
    replace F2 := fr_know F2 (y0 := "found") hf
    k_steps
    exact hret _ _ _ _ (by k_asm) (by k_asm) ⟨by simp, rfl⟩
end Mine
end

section
set_option Elab.async false
set_option maxRecDepth 100000
set_option maxHeartbeats 8000000
set_option linter.all false
namespace Mine
open PySem PySem.W PyProof.Rows

abbrev rsObj (P : Params) (k0 k1 t : Tok) (root : Addr) (many : Int) : Obj := dictOf [ent P "root" k0 (.ref root), ent P "many" k1 (.int many t)] 2
def bitAt (x : Int) (i : Nat) : Bool := decide ((x.fdiv (2 ^ (31 - i))).fmod 2 = 1)
def bits (x : Int) (n : Nat) : List Bool := (List.range n).map (bitAt x)
theorem bits_zero (x : Int) : bits x 0 = [] := rfl
theorem bits_succ (x : Int) (n : Nat) : bits x (n + 1) = bits x n ++ [bitAt x n] := by
  unfold bits; rw [List.range_succ, List.map_append]; rfl
theorem bits_length (x : Int) (n : Nat) : (bits x n).length = n := by simp [bits]
/-- a branch of the tree: its place, its dict's, its list's, the tokens, its routes -/
structure Nd where
  b : Addr
  bd : Addr
  rl : Addr
  k0 : Tok
  k1 : Tok
  k2 : Tok
  rs : List Ro
  n : Nat
abbrev Tr := List Bool → Option Nd
def Tr.val (T : Tr) (p : List Bool) : Value := match T p with
  | none => .none
  | some d => .ref d.b
structure NdIn (P : Params) (T : Tr) (p : List Bool) (d : Nd) (l : Ledger) : Prop where
  hb : (d.b, instObj 212 d.bd) ∈ l
  hd : (d.bd, brObj P d.k0 d.k1 d.k2 (T.val (p ++ [false])) (T.val (p ++ [true])) (.ref d.rl)) ∈ l
  hr : (d.rl, listOf (d.rs.map fun o => Value.ref o.a).toArray d.n) ∈ l
  ho : ∀ o ∈ d.rs, o.In P l
structure TrIn (P : Params) (T : Tr) (l : Ledger) : Prop where
  nd : ∀ p d, T p = some d → NdIn P T p d l
  apart : ∀ p q d e, T p = some d → T q = some e → (d.bd = e.bd ∨ d.rl = e.rl) → p = q
  root : ∃ d, T [] = some d
  closed : ∀ p b d, T (p ++ [b]) = some d → ∃ e, T p = some e
/-- the ledger tells one object of each place -/
def One (l : Ledger) : Prop := ∀ a o o', (a, o) ∈ l → (a, o') ∈ l → o = o'
theorem one_of {h₀ h : Heap} {L : Addr} {l : Ledger} (N : News h₀ L h l) : One l := fun _ _ _ h1 h2 => news_one N h1 h2
theorem One.ne {l : Ledger} (U : One l) {a b : Addr} {o o' : Obj} (h1 : (a, o) ∈ l) (h2 : (b, o') ∈ l) (n : o ≠ o') : a ≠ b := fun e => by
  subst e; exact n (U _ _ _ h1 h2)
theorem One.sub {l l' : Ledger} (U : One l) (h : ∀ p ∈ l', p ∈ l) : One l' := fun a o o' h1 h2 => U a o o' (h _ h1) (h _ h2)
theorem one_put {l : Ledger} (U : One l) (a : Addr) (o : Obj) : One (put a o l) := fun x o1 o2 h1 h2 => by
  rcases List.mem_cons.mp h1 with e1 | h1 <;> rcases List.mem_cons.mp h2 with e2 | h2
  · rw [(Prod.mk.inj e1).2, (Prod.mk.inj e2).2]
  · exact absurd (Prod.mk.inj e1).1 (mem_wo.mp h2).2
  · exact absurd (Prod.mk.inj e2).1 (mem_wo.mp h1).2
  · exact U _ _ _ (mem_wo.mp h1).1 (mem_wo.mp h2).1
theorem inst_ne_br {P : Params} {C d : Addr} {k0 k1 k2 : Tok} {z o r : Value} : instObj C d ≠ brObj P k0 k1 k2 z o r := fun e => by
  have := congrArg Obj.cls e; cases this
theorem list_ne_br {P : Params} {vs : Array Value} {n : Nat} {k0 k1 k2 : Tok} {z o r : Value} : listOf vs n ≠ brObj P k0 k1 k2 z o r := fun e => by
  have := congrArg Obj.cls e; injection this with h; exact absurd h (by decide)
theorem ro_ne_br {P : Params} {q : Ro} {k0 k1 k2 : Tok} {z o r : Value} : q.obj P ≠ brObj P k0 k1 k2 z o r := fun e => by
  have h := congrArg Obj.data e
  simp only [Ro.obj, brObj, dictOf] at h
  injection h with h1
  have := congrArg Array.size h1
  simp at this
theorem inst_ne_list {C d : Addr} {vs : Array Value} {n : Nat} : instObj C d ≠ listOf vs n := fun e => by
  have := congrArg Obj.cls e; cases this
theorem ro_ne_list {P : Params} {q : Ro} {vs : Array Value} {n : Nat} : q.obj P ≠ listOf vs n := fun e => by
  have := congrArg Obj.cls e; injection this with h; exact absurd h (by decide)
/-- the tree with one more branch -/
def Tr.add (T : Tr) (p : List Bool) (d : Nd) : Tr := fun q => if q = p then some d else T q
theorem Tr.val_add_ne {T : Tr} {p q : List Bool} {d : Nd} (h : q ≠ p) : (T.add p d).val q = T.val q := by unfold Tr.val Tr.add; rw [if_neg h]
theorem Tr.val_add_eq {T : Tr} {p : List Bool} {d : Nd} : (T.add p d).val p = .ref d.b := by unfold Tr.val Tr.add; rw [if_pos rfl]
theorem Tr.val_none {T : Tr} {p : List Bool} (h : T p = none) : T.val p = .none := by unfold Tr.val; rw [h]
theorem Tr.val_some {T : Tr} {p : List Bool} {d : Nd} (h : T p = some d) : T.val p = .ref d.b := by unfold Tr.val; rw [h]
theorem snoc_inj {p q : List Bool} {a b : Bool} (h : p ++ [a] = q ++ [b]) : p = q ∧ a = b := by simpa using List.append_inj' h rfl
theorem snoc_ne {p : List Bool} {a : Bool} : p ++ [a] ≠ p := fun h => by
  have := congrArg List.length h; simp at this
theorem tr_add {P : Params} {T : Tr} {l l₁ : Ledger} {p : List Bool} {d e : Nd} {bt : Bool} (I : TrIn P T l) (U : One l₁) (hp : T p = some d) (hq : T (p ++ [bt]) = none) (hs : ∀ x ∈ l, x ∈ l₁)
    (he : e.rs = [] ∧ e.n = 0) (eb : (e.b, instObj 212 e.bd) ∈ l₁) (ed : (e.bd, brObj P e.k0 e.k1 e.k2 .none .none (.ref e.rl)) ∈ l₁) (er : (e.rl, listOf #[] 0) ∈ l₁) (o2 : Off l e.bd) (o3 : Off l e.rl) :
    TrIn P (T.add (p ++ [bt]) e) (put d.bd (brObj P d.k0 d.k1 d.k2 (if bt then T.val (p ++ [false]) else .ref e.b) (if bt then .ref e.b else T.val (p ++ [true])) (.ref d.rl)) l₁) := by
  have D := I.nd p d hp
  have dd := hs _ D.hd
  have no : ∀ c x, T (p ++ [bt] ++ [c]) = some x → False := fun c x hx => by
    obtain ⟨y, hy⟩ := I.closed _ _ _ hx
    rw [hq] at hy; cases hy
  have noV : ∀ c, (T.add (p ++ [bt]) e).val (p ++ [bt] ++ [c]) = .none := fun c => by
    rw [Tr.val_add_ne snoc_ne]
    exact Tr.val_none (by cases h : T (p ++ [bt] ++ [c]) with | none => rfl | some x => exact (no c x h).elim)
  have keep : ∀ {a : Addr} {o : Obj}, (a, o) ∈ l₁ → o ≠ brObj P d.k0 d.k1 d.k2 (T.val (p ++ [false])) (T.val (p ++ [true])) (.ref d.rl) → (a, o) ∈ put d.bd (brObj P d.k0 d.k1 d.k2 (if bt then T.val (p ++ [false]) else .ref e.b) (if bt then .ref e.b else T.val (p ++ [true])) (.ref d.rl)) l₁ :=
    fun h n => mem_put_ne h (U.ne h dd n)
  refine ⟨fun q x hx => ?_, fun q r x y hx hy h => ?_, ?_, fun q c x hx => ?_⟩
  · by_cases hqe : q = p ++ [bt]
    · subst hqe
      obtain rfl : e = x := by unfold Tr.add at hx; rw [if_pos rfl] at hx; exact Option.some.inj hx
      refine ⟨keep eb inst_ne_br, ?_, keep (by rw [he.1, he.2]; exact er) list_ne_br, fun o ho => by rw [he.1] at ho; cases ho⟩
      rw [noV, noV]
      exact mem_put_ne ed (fun h => o2 _ D.hd h.symm)
    · have hx' : T q = some x := by unfold Tr.add at hx; rw [if_neg hqe] at hx; exact hx
      have X := I.nd q x hx'
      refine ⟨keep (hs _ X.hb) inst_ne_br, ?_, keep (hs _ X.hr) list_ne_br, fun o ho => ⟨keep (hs _ (X.ho o ho).1) inst_ne_br, keep (hs _ (X.ho o ho).2) ro_ne_br⟩⟩
      by_cases hqp : q = p
      · subst hqp
        obtain rfl : d = x := by rw [hp] at hx'; exact Option.some.inj hx'
        cases bt
        · rw [Tr.val_add_eq, Tr.val_add_ne (fun h => by cases (snoc_inj h).2)]
          exact mem_put
        · rw [Tr.val_add_eq, Tr.val_add_ne (fun h => by cases (snoc_inj h).2)]
          exact mem_put
      · rw [Tr.val_add_ne (fun h => hqp (snoc_inj h).1), Tr.val_add_ne (fun h => hqp (snoc_inj h).1)]
        exact mem_put_ne (hs _ X.hd) (fun h => hqp (I.apart _ _ _ _ hx' hp (.inl h)))
  · have key : ∀ {r : List Bool} {y : Nd}, T r = some y → (e.bd = y.bd ∨ e.rl = y.rl) → False := fun hy h => by
      have Y := I.nd _ _ hy
      rcases h with h | h
      · exact o2 _ Y.hd h.symm
      · exact o3 _ Y.hr h.symm
    unfold Tr.add at hx hy
    split at hx <;> split at hy
    · simp [*]
    · obtain rfl := Option.some.inj hx
      exact (key hy h).elim
    · obtain rfl := Option.some.inj hy
      exact (key hx (h.imp Eq.symm Eq.symm)).elim
    · exact I.apart _ _ _ _ hx hy h
  · obtain ⟨r, hr⟩ := I.root
    exact ⟨r, by unfold Tr.add; rw [if_neg (by simp)]; exact hr⟩
  · unfold Tr.add at hx ⊢
    split at hx
    · rename_i h
      obtain ⟨rfl, rfl⟩ := snoc_inj h
      rw [if_neg (fun h => snoc_ne h.symm)]
      exact ⟨_, hp⟩
    · obtain ⟨y, hy⟩ := I.closed _ _ _ hx
      split
      · exact ⟨_, rfl⟩
      · exact ⟨_, hy⟩
/-- a branch's list turned -/
def Nd.with (d : Nd) (rs : List Ro) (n : Nat) : Nd := { d with rs := rs, n := n }
theorem tr_list {P : Params} {T : Tr} {l : Ledger} {p : List Bool} {d : Nd} {rs : List Ro} {n : Nat} (I : TrIn P T l) (U : One l) (hp : T p = some d) (hr : ∀ o ∈ rs, o.In P l) :
    TrIn P (T.add p (d.with rs n)) (put d.rl (listOf (rs.map fun o => Value.ref o.a).toArray n) l) := by
  have D := I.nd p d hp
  have V : ∀ q, (T.add p (d.with rs n)).val q = T.val q := fun q => by
    by_cases h : q = p
    · subst h; rw [Tr.val_add_eq, Tr.val_some hp]; rfl
    · exact Tr.val_add_ne h
  have keep : ∀ {a : Addr} {o : Obj}, (a, o) ∈ l → o ≠ listOf (d.rs.map fun o => Value.ref o.a).toArray d.n → (a, o) ∈ put d.rl (listOf (rs.map fun o => Value.ref o.a).toArray n) l :=
    fun h n => mem_put_ne h (U.ne h D.hr n)
  have back : ∀ {q : List Bool} {x : Nd}, (T.add p (d.with rs n)) q = some x → ∃ y, T q = some y ∧ y.bd = x.bd ∧ y.rl = x.rl ∧ y.b = x.b ∧ y.k0 = x.k0 ∧ y.k1 = x.k1 ∧ y.k2 = x.k2 ∧ (q = p ∧ x = d.with rs n ∨ q ≠ p ∧ x = y) := fun {q x} hx => by
    unfold Tr.add at hx
    split at hx
    · rename_i h; subst h
      obtain rfl := Option.some.inj hx
      exact ⟨d, hp, rfl, rfl, rfl, rfl, rfl, rfl, .inl ⟨rfl, rfl⟩⟩
    · rename_i h
      exact ⟨x, hx, rfl, rfl, rfl, rfl, rfl, rfl, .inr ⟨h, rfl⟩⟩
  refine ⟨fun q x hx => ?_, fun q r x y hx hy h => ?_, ?_, fun q c x hx => ?_⟩
  · obtain ⟨y, hy, e1, e2, e3, e4, e5, e6, h⟩ := back hx
    have Y := I.nd q y hy
    have nb : (x.bd, brObj P x.k0 x.k1 x.k2 (T.val (q ++ [false])) (T.val (q ++ [true])) (.ref x.rl)) ∈ l := by rw [← e1, ← e2, ← e4, ← e5, ← e6]; exact Y.hd
    refine ⟨keep (by rw [← e1, ← e3]; exact Y.hb) inst_ne_list, ?_, ?_, ?_⟩
    · rw [V, V]; exact keep nb (fun h => list_ne_br h.symm)
    · rcases h with ⟨rfl, rfl⟩ | ⟨hq, rfl⟩
      · exact mem_put
      · exact mem_put_ne Y.hr (fun h => hq (I.apart _ _ _ _ hy hp (.inr h)))
    · rcases h with ⟨rfl, rfl⟩ | ⟨hq, rfl⟩
      · exact fun o ho => ⟨keep (hr o ho).1 inst_ne_list, keep (hr o ho).2 ro_ne_list⟩
      · exact fun o ho => ⟨keep (Y.ho o ho).1 inst_ne_list, keep (Y.ho o ho).2 ro_ne_list⟩
  · obtain ⟨x', hx', e1, e2, _⟩ := back hx
    obtain ⟨y', hy', f1, f2, _⟩ := back hy
    exact I.apart _ _ _ _ hx' hy' (by rw [e1, e2, f1, f2]; exact h)
  · obtain ⟨r, hr⟩ := I.root
    unfold Tr.add
    by_cases h : [] = p
    · exact ⟨_, if_pos h⟩
    · exact ⟨r, (if_neg h).trans hr⟩
  · obtain ⟨y, hy, _⟩ := back hx
    obtain ⟨z, hz⟩ := I.closed _ _ _ hy
    unfold Tr.add
    by_cases h : q = p
    · exact ⟨_, if_pos h⟩
    · exact ⟨z, (if_neg h).trans hz⟩

end Mine
end

section
set_option Elab.async false
set_option maxRecDepth 100000
set_option maxHeartbeats 8000000
set_option linter.all false
namespace Mine
open PySem PySem.W PyProof.Rows

local macro_rules | `(tactic| k_handed) => `(tactic| assumption)
local macro_rules | `(tactic| k_mem) => `(tactic| assumption)
local macro_rules | `(tactic| k_all) => `(tactic| exact wo_ne)
local macro_rules | `(tactic| k_room) => `(tactic| ktr_room)
local macro_rules | `(tactic| units_room) => `(tactic| ktr_units)
local macro_rules | `(tactic| k_enter) => `(tactic| (refine' code_def ?k1 ?k2 ?k3 ?k4 ?k5 ?kA ?kF ?kK ?k6 ?k7 ?k8 ?k9 ?kB ?_ ?c2 ?c3 ?c4 ?c5; (case kA => exact rfl); (case kF => exact rfl); (case kK => first | exact rfl | assumption); (case k1 => k_asm); (case k2 => k_asm); (case k3 => k_asm); (case k4 => k_asm); (case k5 => k_asm); (case k6 => k_is); (case k7 => k_is); (case k8 => ktr_room); (case k9 => first | exact BindsTo.of_eq rfl | exact binds_K (by k_in) rfl (by k_is) rfl rfl rfl); (case c5 => decide); (case kB => exact locs rfl); (case c2 => exact rfl); (case c3 => exact rfl); (case c4 => exact rfl); k_whole; intro g' L' h' FG' F' N' B' X' T'; (try dsimp only); (try k_fold)))
local macro_rules | `(tactic| walk_at "subscriptTail") => `(tactic| (k_here; (with_reducible show wpAny _ _ (subscriptTail _ _ (Value.ref _) (Value.int _ _)) _ _ _); first
  | ((with_reducible show wpAny _ _ (subscriptTail _ (PySem.Expr.UnaryOp _ _ _) (Value.ref _) (Value.int _ _)) _ _ _); refine' item_last ?k1 ?k2 ?_ ?k7; (case k1 => k_asm); (case k2 => k_mem); (case k7 => with_unfolding_all rfl); k_whole)
  | (refine' item_P ?k1 ?k2 ?k3 ?k4 ?k5 ?_ ?k7; (case k1 => k_asm); (case k2 => k_mem); (case k3 => omega); (case k4 => omega); (case k5 => first | with_reducible assumption | ((with_reducible rw [Int.toNat_natCast]); with_reducible assumption) | exact rfl); (case k7 => with_unfolding_all rfl); k_whole)
  | (refine' tupItem_P ?k1 ?k2 ?k3 ?k4 ?k5 ?_ ?k7; (case k1 => k_asm); (case k2 => k_mem); (case k3 => omega); (case k4 => omega); (case k5 => first | with_reducible assumption | ((with_reducible rw [Int.toNat_natCast]); with_reducible assumption) | exact rfl); (case k7 => with_unfolding_all rfl); k_whole)))
local macro_rules | `(tactic| walk_at "setItem ref int") => `(tactic| (k_here; k_dflt (refine' setAt_P ?k1 ?k2 ?k3 ?k4 ?k5 ?k6 ?_; (case k1 => k_asm); (case k2 => k_asm); (case k3 => k_mem); (case k4 => omega); (case k5 => omega); (case k6 => first | (simp; done) | (simp only [Int.toNat_natCast, List.length_map]; omega) | (simp; omega)); k_whole; intro h' F' N')))
local macro_rules | `(tactic| walk_at "call builtin:list.append") => `(tactic| (k_here; (with_reducible show wpAny _ _ (call (Value.builtin _) [Value.ref _, _]) _ _ _); k_dflt (refine' append_P ?k1 ?k2 ?k3 ?_ ?z; (case k1 => k_asm); (case k2 => k_asm); (case k3 => k_mem); (case z => simp only [sizeLine_eq, List.size_toArray, List.length_append, List.length_map, List.length_cons, List.length_nil]; omega); k_whole; intro h' F' N')))
local macro_rules | `(tactic| walk_at "call builtin:len") => `(tactic| (k_here; (with_reducible show wpAny _ _ (call (Value.builtin "len") [Value.ref _]) _ _ _); k_dflt (refine' len_P ?k1 ?k2 ?k3 ?_; (case k1 => k_asm); (case k2 => k_mem); (case k3 => (try simp only [List.length_map, List.length_append, List.length_cons, List.length_nil]); omega); k_whole); (try simp only [List.length_map])))
local macro_rules | `(tactic| walk_at "compareOp NotEq ref ref") => `(tactic| (k_here; (refine' ne_empty_P ?k1 ?k2 ?k3 ?k4 ?_; (case k1 => k_asm); (case k3 => k_mem); (case k2 => k_mem); (case k4 => units_room); k_whole)))
local macro_rules | `(tactic| walk_at "compareOp Eq ref ref") => `(tactic| (k_here; (refine' eq_empty_P ?k1 ?k2 ?k3 ?k4 ?_; (case k1 => k_asm); (case k3 => k_mem); (case k2 => k_mem); (case k4 => units_room); k_whole)))


theorem c_branch (w mean mg mb) (news : Ledger) :
    Fn w mean mg mb 212 4 30 [] news (fun r n' => ∃ b bd rl k0 k1 k2, r = .ref b ∧ (∀ p ∈ news, p ∈ n') ∧ (b, instObj 212 bd) ∈ n' ∧ (bd, brObj w.params k0 k1 k2 .none .none (.ref rl)) ∈ n' ∧ (rl, listOf #[] 0) ∈ n' ∧ Off news b ∧ Off news bd ∧ Off news rl) := by
  unfold Fn; k_fill; intro dp un gd cn cs a ccd cl outer A₀ base h₀ L m s Q E B F X N T hk hdp hun hret
  k_steps
  rename (∀ p ∈ news, p.1 < _) => l1
  rename (_ ∧ _ ∧ AllLt _ _) => l3
  have l4 := allLt_out l3.2.2
  rename @LT.lt Addr _ _ _ => l2
  exact hret _ _ _ _ (by k_asm) (by k_asm) ⟨_, _, _, _, _, _, rfl, fun p hp => .tail _ (.tail _ (.tail _ hp)), .tail _ (.head _), .tail _ (.tail _ (.head _)), .head _, off_lt l1 (Nat.le_of_lt l2), off_lt l1 (Nat.le_refl _), off_lt l4 (Nat.le_refl _)⟩
end Mine
end

section
set_option Elab.async false
set_option maxRecDepth 100000
set_option maxHeartbeats 8000000
set_option linter.all false
namespace Mine
open PySem PySem.W PyProof.Rows

local macro_rules | `(tactic| k_handed) => `(tactic| assumption)
local macro_rules | `(tactic| k_mem) => `(tactic| assumption)
local macro_rules | `(tactic| k_all) => `(tactic| exact wo_ne)
local macro_rules | `(tactic| k_room) => `(tactic| ktr_room)
local macro_rules | `(tactic| units_room) => `(tactic| ktr_units)
local macro_rules | `(tactic| k_enter) => `(tactic| (refine' code_def ?k1 ?k2 ?k3 ?k4 ?k5 ?kA ?kF ?kK ?k6 ?k7 ?k8 ?k9 ?kB ?_ ?c2 ?c3 ?c4 ?c5; (case kA => exact rfl); (case kF => exact rfl); (case kK => first | exact rfl | assumption); (case k1 => k_asm); (case k2 => k_asm); (case k3 => k_asm); (case k4 => k_asm); (case k5 => k_asm); (case k6 => k_is); (case k7 => k_is); (case k8 => ktr_room); (case k9 => first | exact BindsTo.of_eq rfl | exact binds_K (by k_in) rfl (by k_is) rfl rfl rfl); (case c5 => decide); (case kB => exact locs rfl); (case c2 => exact rfl); (case c3 => exact rfl); (case c4 => exact rfl); k_whole; intro g' L' h' FG' F' N' B' X' T'; (try dsimp only); (try k_fold)))
local macro_rules | `(tactic| walk_at "subscriptTail") => `(tactic| (k_here; (with_reducible show wpAny _ _ (subscriptTail _ _ (Value.ref _) (Value.int _ _)) _ _ _); first
  | ((with_reducible show wpAny _ _ (subscriptTail _ (PySem.Expr.UnaryOp _ _ _) (Value.ref _) (Value.int _ _)) _ _ _); refine' item_last ?k1 ?k2 ?_ ?k7; (case k1 => k_asm); (case k2 => k_mem); (case k7 => with_unfolding_all rfl); k_whole)
  | (refine' item_P ?k1 ?k2 ?k3 ?k4 ?k5 ?_ ?k7; (case k1 => k_asm); (case k2 => k_mem); (case k3 => omega); (case k4 => omega); (case k5 => first | with_reducible assumption | ((with_reducible rw [Int.toNat_natCast]); with_reducible assumption) | exact rfl); (case k7 => with_unfolding_all rfl); k_whole)
  | (refine' tupItem_P ?k1 ?k2 ?k3 ?k4 ?k5 ?_ ?k7; (case k1 => k_asm); (case k2 => k_mem); (case k3 => omega); (case k4 => omega); (case k5 => first | with_reducible assumption | ((with_reducible rw [Int.toNat_natCast]); with_reducible assumption) | exact rfl); (case k7 => with_unfolding_all rfl); k_whole)))
local macro_rules | `(tactic| walk_at "setItem ref int") => `(tactic| (k_here; k_dflt (refine' setAt_P ?k1 ?k2 ?k3 ?k4 ?k5 ?k6 ?_; (case k1 => k_asm); (case k2 => k_asm); (case k3 => k_mem); (case k4 => omega); (case k5 => omega); (case k6 => first | (simp; done) | (simp only [Int.toNat_natCast, List.length_map]; omega) | (simp; omega)); k_whole; intro h' F' N')))
local macro_rules | `(tactic| walk_at "call builtin:list.append") => `(tactic| (k_here; (with_reducible show wpAny _ _ (call (Value.builtin _) [Value.ref _, _]) _ _ _); k_dflt (refine' append_P ?k1 ?k2 ?k3 ?_ ?z; (case k1 => k_asm); (case k2 => k_asm); (case k3 => k_mem); (case z => simp only [sizeLine_eq, List.size_toArray, List.length_append, List.length_map, List.length_cons, List.length_nil]; omega); k_whole; intro h' F' N')))
local macro_rules | `(tactic| walk_at "call builtin:len") => `(tactic| (k_here; (with_reducible show wpAny _ _ (call (Value.builtin "len") [Value.ref _]) _ _ _); k_dflt (refine' len_P ?k1 ?k2 ?k3 ?_; (case k1 => k_asm); (case k2 => k_mem); (case k3 => (try simp only [List.length_map, List.length_append, List.length_cons, List.length_nil]); omega); k_whole); (try simp only [List.length_map])))
local macro_rules | `(tactic| walk_at "compareOp NotEq ref ref") => `(tactic| (k_here; (refine' ne_empty_P ?k1 ?k2 ?k3 ?k4 ?_; (case k1 => k_asm); (case k3 => k_mem); (case k2 => k_mem); (case k4 => units_room); k_whole)))
local macro_rules | `(tactic| walk_at "compareOp Eq ref ref") => `(tactic| (k_here; (refine' eq_empty_P ?k1 ?k2 ?k3 ?k4 ?_; (case k1 => k_asm); (case k3 => k_mem); (case k2 => k_mem); (case k4 => units_room); k_whole)))

theorem bit_val (x : Int) (i : Nat) (hi : i < 32) : (x.fdiv (2 ^ (32 - 1 - (i : Int)).toNat)).fmod 2 = if bitAt x i then 1 else 0 := by
  have e : (32 - 1 - (i : Int)).toNat = 31 - i := by omega
  rw [e]
  unfold bitAt
  have h0 : ((x.fdiv (2 ^ (31 - i))).fmod 2) = 0 ∨ ((x.fdiv (2 ^ (31 - i))).fmod 2) = 1 := by
    rw [Int.fmod_eq_emod_of_nonneg _ (by decide : (0:Int) ≤ 2)]; omega
  rcases h0 with h | h <;> simp [h]
theorem c_bit (w mean mg mb) (x : Int) (i : Nat) (t1 t2 : Tok) (news : Ledger) (hi : i < 32) :
    Fn w mean mg mb 223 3 20 [.int x t1, .int (i : Int) t2] news (fun r n' => (∃ t, r = .int (if bitAt x i then 1 else 0) t) ∧ n' = news) := by
  have := c_bit_at w mean mg mb x i t1 t2 news (by omega) (by omega)
  rw [bit_val x i hi] at this
  exact this
theorem bit_val2 {p : Int} (hp : 0 ≤ p) : ((p.toNat : Nat) : Int) = p := by omega
theorem c_child' (w mean mg mb) (T : Tr) (p : List Bool) (d : Nd) (bt : Bool) (v : Value) (t : Tok) (news : Ledger) (I : TrIn w.params T news) (hp : T p = some d) (hv : T.val (p ++ [bt]) = v) :
    Fn w mean mg mb 188 3 20 [.ref d.b, .int (if bt then 1 else 0) t] news (fun r n' => r = v ∧ n' = news) := by
  have D := I.nd p d hp
  have h : ∀ b, handedIn (T.val (p ++ [b])) = true := fun b => by unfold Tr.val; split <;> rfl
  have := c_child w mean mg mb d.b d.bd d.k0 d.k1 d.k2 _ _ _ (if bt then 1 else 0) t news D.hb D.hd (h _) (h _)
  cases bt <;> simpa [hv] using this
theorem c_set' (w mean mg mb) (T : Tr) (p : List Bool) (d : Nd) (bt : Bool) (v : Value) (t : Tok) (news : Ledger) (I : TrIn w.params T news) (hp : T p = some d) (hb : d.b ≠ d.bd) :
    Fn w mean mg mb 195 3 20 [.ref d.b, .int (if bt then 1 else 0) t, v] news (fun r n' => r = .none ∧ n' = put d.bd (brObj w.params d.k0 d.k1 d.k2 (if bt then T.val (p ++ [false]) else v) (if bt then v else T.val (p ++ [true])) (.ref d.rl)) news) := by
  have D := I.nd p d hp
  have := c_set_child w mean mg mb d.b d.bd d.k0 d.k1 d.k2 (T.val (p ++ [false])) (T.val (p ++ [true])) (.ref d.rl) v (if bt then 1 else 0) t news D.hb D.hd hb
  cases bt <;> simpa using this
end Mine
end

section
set_option Elab.async false
set_option maxRecDepth 100000
set_option maxHeartbeats 8000000
set_option linter.all false
namespace Mine
open PySem PySem.W PyProof.Rows

local macro_rules | `(tactic| k_handed) => `(tactic| assumption)
local macro_rules | `(tactic| k_mem) => `(tactic| assumption)
local macro_rules | `(tactic| k_all) => `(tactic| exact wo_ne)
local macro_rules | `(tactic| k_room) => `(tactic| ktr_room)
local macro_rules | `(tactic| units_room) => `(tactic| ktr_units)
local macro_rules | `(tactic| k_enter) => `(tactic| (refine' code_def ?k1 ?k2 ?k3 ?k4 ?k5 ?kA ?kF ?kK ?k6 ?k7 ?k8 ?k9 ?kB ?_ ?c2 ?c3 ?c4 ?c5; (case kA => exact rfl); (case kF => exact rfl); (case kK => first | exact rfl | assumption); (case k1 => k_asm); (case k2 => k_asm); (case k3 => k_asm); (case k4 => k_asm); (case k5 => k_asm); (case k6 => k_is); (case k7 => k_is); (case k8 => ktr_room); (case k9 => first | exact BindsTo.of_eq rfl | exact binds_K (by k_in) rfl (by k_is) rfl rfl rfl); (case c5 => decide); (case kB => exact locs rfl); (case c2 => exact rfl); (case c3 => exact rfl); (case c4 => exact rfl); k_whole; intro g' L' h' FG' F' N' B' X' T'; (try dsimp only); (try k_fold)))
local macro_rules | `(tactic| walk_at "subscriptTail") => `(tactic| (k_here; (with_reducible show wpAny _ _ (subscriptTail _ _ (Value.ref _) (Value.int _ _)) _ _ _); first
  | ((with_reducible show wpAny _ _ (subscriptTail _ (PySem.Expr.UnaryOp _ _ _) (Value.ref _) (Value.int _ _)) _ _ _); refine' item_last ?k1 ?k2 ?_ ?k7; (case k1 => k_asm); (case k2 => k_mem); (case k7 => with_unfolding_all rfl); k_whole)
  | (refine' item_P ?k1 ?k2 ?k3 ?k4 ?k5 ?_ ?k7; (case k1 => k_asm); (case k2 => k_mem); (case k3 => omega); (case k4 => omega); (case k5 => first | with_reducible assumption | ((with_reducible rw [Int.toNat_natCast]); with_reducible assumption) | exact rfl); (case k7 => with_unfolding_all rfl); k_whole)
  | (refine' tupItem_P ?k1 ?k2 ?k3 ?k4 ?k5 ?_ ?k7; (case k1 => k_asm); (case k2 => k_mem); (case k3 => omega); (case k4 => omega); (case k5 => first | with_reducible assumption | ((with_reducible rw [Int.toNat_natCast]); with_reducible assumption) | exact rfl); (case k7 => with_unfolding_all rfl); k_whole)))
local macro_rules | `(tactic| walk_at "setItem ref int") => `(tactic| (k_here; k_dflt (refine' setAt_P ?k1 ?k2 ?k3 ?k4 ?k5 ?k6 ?_; (case k1 => k_asm); (case k2 => k_asm); (case k3 => k_mem); (case k4 => omega); (case k5 => omega); (case k6 => first | (simp; done) | (simp only [Int.toNat_natCast, List.length_map]; omega) | (simp; omega)); k_whole; intro h' F' N')))
local macro_rules | `(tactic| walk_at "call builtin:list.append") => `(tactic| (k_here; (with_reducible show wpAny _ _ (call (Value.builtin _) [Value.ref _, _]) _ _ _); k_dflt (refine' append_P ?k1 ?k2 ?k3 ?_ ?z; (case k1 => k_asm); (case k2 => k_asm); (case k3 => k_mem); (case z => simp only [sizeLine_eq, List.size_toArray, List.length_append, List.length_map, List.length_cons, List.length_nil]; omega); k_whole; intro h' F' N')))
local macro_rules | `(tactic| walk_at "call builtin:len") => `(tactic| (k_here; (with_reducible show wpAny _ _ (call (Value.builtin "len") [Value.ref _]) _ _ _); k_dflt (refine' len_P ?k1 ?k2 ?k3 ?_; (case k1 => k_asm); (case k2 => k_mem); (case k3 => (try simp only [List.length_map, List.length_append, List.length_cons, List.length_nil]); omega); k_whole); (try simp only [List.length_map])))
local macro_rules | `(tactic| walk_at "compareOp NotEq ref ref") => `(tactic| (k_here; (refine' ne_empty_P ?k1 ?k2 ?k3 ?k4 ?_; (case k1 => k_asm); (case k3 => k_mem); (case k2 => k_mem); (case k4 => units_room); k_whole)))
local macro_rules | `(tactic| walk_at "compareOp Eq ref ref") => `(tactic| (k_here; (refine' eq_empty_P ?k1 ?k2 ?k3 ?k4 ?_; (case k1 => k_asm); (case k3 => k_mem); (case k2 => k_mem); (case k4 => units_room); k_whole)))

/-- how the tree T' has grown out of T: new bare branches on the way of x's first i bits; l is the ledger ahead of it -/
structure Grow (l : Ledger) (T T' : Tr) (x : Int) (i : Nat) : Prop where
  old : ∀ q e, T q = some e → T' q = some e
  new : ∀ q e, T' q = some e → T q = some e ∨ (e.rs = [] ∧ e.n = 0 ∧ Off l e.bd ∧ Off l e.rl ∧ ∃ j, j ≤ i ∧ q = bits x j)
theorem Grow.refl (l : Ledger) (T : Tr) (x : Int) (i : Nat) : Grow l T T x i := ⟨fun _ _ h => h, fun _ _ h => .inl h⟩
theorem Grow.step {l : Ledger} {T T' : Tr} {x : Int} {i : Nat} (G : Grow l T T' x i) : Grow l T T' x (i + 1) :=
  ⟨G.old, fun q e h => (G.new q e h).imp id fun ⟨a, b, c, d, j, hj, hq⟩ => ⟨a, b, c, d, j, Nat.le_succ_of_le hj, hq⟩⟩
theorem Grow.add {l : Ledger} {T T' : Tr} {x : Int} {i : Nat} {e : Nd} (G : Grow l T T' x i) (hn : T' (bits x (i + 1)) = none) (h1 : e.rs = []) (h2 : e.n = 0) (h3 : Off l e.bd) (h4 : Off l e.rl) : Grow l T (T'.add (bits x (i + 1)) e) x (i + 1) := by
  refine ⟨fun q e' h => ?_, fun q e' h => ?_⟩
  · unfold Tr.add
    rw [if_neg (fun hq => by have := G.old q e' h; rw [hq, hn] at this; cases this)]
    exact G.old q e' h
  · unfold Tr.add at h
    split at h
    · rename_i hq
      obtain rfl := Option.some.inj h
      exact .inr ⟨h1, h2, h3, h4, i + 1, Nat.le_refl _, hq⟩
    · exact G.step.new q e' h
/-- a is none of the tree's turned places -/
def Tr.Off (T : Tr) (a : Addr) : Prop := ∀ q e, T q = some e → a ≠ e.bd ∧ a ≠ e.rl
theorem off_mem {l : Ledger} {a b : Addr} {o : Obj} (h : Off l a) (hm : (b, o) ∈ l) : b ≠ a := h _ hm
theorem tr_grow {P : Params} {T : Tr} {l l' : Ledger} (I : TrIn P T l) (h : ∀ x ∈ l, x ∈ l') : TrIn P T l' :=
  ⟨fun p d hp => let D := I.nd p d hp; ⟨h _ D.hb, h _ D.hd, h _ D.hr, fun o ho => ⟨h _ (D.ho o ho).1, h _ (D.ho o ho).2⟩⟩, I.apart, I.root, I.closed⟩
/-- a list of the ledger that is none of the tree's is turned -/
theorem tr_putList {P : Params} {T : Tr} {l : Ledger} {a : Addr} {vs : Array Value} {n : Nat} {o' : Obj} (I : TrIn P T l) (U : One l) (ha : (a, listOf vs n) ∈ l) (ho : T.Off a) : TrIn P T (put a o' l) := by
  refine ⟨fun p d hp => ?_, I.apart, I.root, I.closed⟩
  have D := I.nd p d hp
  exact ⟨mem_put_ne D.hb (U.ne D.hb ha inst_ne_list), mem_put_ne D.hd (fun h => (ho _ _ hp).1 h.symm), mem_put_ne D.hr (fun h => (ho _ _ hp).2 h.symm),
    fun o h => ⟨mem_put_ne (D.ho o h).1 (U.ne (D.ho o h).1 ha inst_ne_list), mem_put_ne (D.ho o h).2 (U.ne (D.ho o h).2 ha ro_ne_list)⟩⟩
theorem cls_inst_ne {io : Obj} {C d : Addr} {T : String} (h : io.cls = .type T) : instObj C d ≠ io := fun e => by
  rw [← e] at h; cases h
theorem cls_ne {io o : Obj} {T T' : String} (h : io.cls = .type T) (h' : o.cls = .type T') (n : T' ≠ T) : o ≠ io := fun e => by
  rw [← e, h'] at h; injection h with h; exact n h
/-- the tree's own objects stand apart from any other kind of object -/
theorem tr_wo {P : Params} {T : Tr} {l : Ledger} {a : Addr} {io : Obj} {S : String} (I : TrIn P T l) (U : One l) (ha : (a, io) ∈ l) (hc : io.cls = .type S) (h1 : "dict" ≠ S) (h2 : "list" ≠ S) : TrIn P T (wo a l) := by
  refine ⟨fun p d hp => ?_, I.apart, I.root, I.closed⟩
  have D := I.nd p d hp
  have k : ∀ {b : Addr} {o : Obj}, (b, o) ∈ l → o ≠ io → (b, o) ∈ wo a l := fun h n => mem_wo.mpr ⟨h, U.ne h ha n⟩
  exact ⟨k D.hb (cls_inst_ne hc), k D.hd (cls_ne hc rfl h1), k D.hr (cls_ne hc rfl h2), fun o h => ⟨k (D.ho o h).1 (cls_inst_ne hc), k (D.ho o h).2 (cls_ne hc rfl h1)⟩⟩
theorem Tr.Off.add {T : Tr} {a : Addr} {p : List Bool} {d : Nd} (h : T.Off a) (h1 : a ≠ d.bd) (h2 : a ≠ d.rl) : (T.add p d).Off a := fun q e hq => by
  unfold Tr.add at hq
  split at hq
  · rw [← Option.some.inj hq]; exact ⟨h1, h2⟩
  · exact h q e hq
theorem off_back {P : Params} {l nx : Ledger} {Z Z' : Tr} {x : Int} {i : Nat} {a : Addr} (G : Grow l Z Z' x i) (I : TrIn P Z' nx) (hfr : ∀ p ∈ l, (∀ q e, Z q = some e → p.1 ≠ e.bd) → p ∈ nx) (h : Off nx a) : Off l a := fun p hp => by
  by_cases hq : ∀ q e, Z q = some e → p.1 ≠ e.bd
  · exact h p (hfr p hp hq)
  · simp only [Classical.not_forall, Decidable.not_not] at hq
    obtain ⟨q, e, hz, he⟩ := hq
    rw [he]
    exact h _ (I.nd q e (G.old q e hz)).hd

theorem c_path (w mean mg mb) (wy wd : Addr) (rt : Nd) (k0 k1 t : Tok) (many : Int) (Z : Tr) (x : Int) (pre : Nat) (t1 t2 : Tok) (news : Ledger) (h1 : (wy, instObj 296 wd) ∈ news) (h2 : (wd, rsObj w.params k0 k1 t rt.b many) ∈ news) (hr : Z [] = some rt)
    (I : TrIn w.params Z news) (hp : pre ≤ 32) :
    Fn w mean mg mb 251 9 90 [.ref wy, .int x t1, .int (pre : Int) t2, .bool true] news (fun r n' => ∃ Z' d fl vs n, r = .ref fl ∧ (fl, listOf (vs ++ [Value.ref d.b]).toArray n) ∈ n' ∧ Off news fl ∧ Z' (bits x pre) = some d ∧ TrIn w.params Z' n' ∧ Grow news Z Z' x pre ∧
      (∀ p ∈ news, (∀ q e, Z q = some e → p.1 ≠ e.bd) → p ∈ n')) := by
  unfold Fn; k_fill; intro dp un gd cn cs a ccd cl outer A₀ base h₀ L m s Q E B F X N T hk hdp hun hret
  refine wpAny_call ?_; ktr_enter; repeat' ((fail_if_success (with_reducible show wpAny _ _ (exec (Stmt.For _ _ _ _ _) _) _ _ _)); (fail_if_success (with_reducible show wpAny _ _ (pyIter _) _ _ _)); (fail_if_success (with_reducible show wpAny _ _ (exec (Stmt.Raise _ _ _) _) _ _ _)); (fail_if_success (with_reducible show wpAny _ _ (exec (Stmt.While _ _ _ _) _) _ _ _)); first | (k_unfold; (try dsimp only)) | walk1 | (dsimp only; walk1) | (leave1; (try dsimp only)))
  (rename Fr _ _ _ _ => lF); with_unfolding_all refine' For_invVF lF ?k1 ?k2 ?_; (case k1 => exact rfl); (case k2 => exact rfl)
  repeat' ((fail_if_success (with_reducible show wpAny _ _ (exec (Stmt.For _ _ _ _ _) _) _ _ _)); (fail_if_success (with_reducible show wpAny _ _ (pyIter _) _ _ _)); (fail_if_success (with_reducible show wpAny _ _ (exec (Stmt.Raise _ _ _) _) _ _ _)); (fail_if_success (with_reducible show wpAny _ _ (exec (Stmt.While _ _ _ _) _) _ _ _)); first | (k_unfold; (try dsimp only)) | walk1 | (dsimp only; walk1) | (leave1; (try dsimp only)))
  (rename IsRange _ _ _ _ _ _ _ _ => hRg)
  (rename Fr _ _ _ _ => F1)
  (rename (∀ p ∈ news, p.1 < _) => lf)
  (rename News _ _ _ _ => N1)
  obtain ⟨fl, rfl, lf⟩ := bound_name lf
  have U1 : One ((fl, listOf #[Value.ref rt.b] 0) :: news) := one_of N1
  have I1 : TrIn w.params Z ((fl, listOf #[Value.ref rt.b] 0) :: news) := tr_grow I fun _ h => .tail _ h
  have o1 : Z.Off fl := fun q e h => ⟨fun h2 => absurd h2.symm (off_lt lf (Nat.le_refl _) _ (I.nd q e h).hd), fun h2 => absurd h2.symm (off_lt lf (Nat.le_refl _) _ (I.nd q e h).hr)⟩
  refine it_upto (fun i m nx => ∃ Z' d vs n, m "found" = some (.ref fl) ∧ m "net" = some (.int x t1) ∧ m "makes" = some (.bool true) ∧ (fl, listOf (vs ++ [Value.ref d.b]).toArray n) ∈ nx ∧ vs.length = i ∧ Z' (bits x i) = some d ∧ TrIn w.params Z' nx ∧ Grow news Z Z' x i ∧
      Z'.Off fl ∧ (∀ p ∈ news, (∀ q e, Z q = some e → p.1 ≠ e.bd) → p ∈ nx)) hRg rfl (by omega) F1 N1 ⟨Z, rt, [], 0, rfl, rfl, rfl, .head _, rfl, hr, I1, Grow.refl .., o1, fun p h _ => .tail _ h⟩ ?_ ?_
  · rintro i ti m₁ nx h tk Ia io hi ⟨Z', d, vs, n, hfd, hnt, hmk, hfl, hlen, hZ, hI, hG, hof, hfr⟩ hoff hio F2 N2
    clear F1 N1 hRg U1 I1
    replace F2 := fr_know F2 (y0 := "found") (v0 := .ref fl) (by rw [if_neg (by decide)]; exact hfd)
    replace F2 := fr_know F2 (y0 := "net") (v0 := .int x t1) (by rw [if_neg (by decide), if_neg (by decide)]; exact hnt)
    replace F2 := fr_know F2 (y0 := "makes") (v0 := .bool true) (by rw [if_neg (by decide), if_neg (by decide), if_neg (by decide)]; exact hmk)
    have D := hI.nd _ _ hZ
    have Db := D.hb
    have Dd := D.hd
    repeat' ((fail_if_success (with_reducible show wpAny _ _ (exec (Stmt.For _ _ _ _ _) _) _ _ _)); (fail_if_success (with_reducible show wpAny _ _ (pyIter _) _ _ _)); (fail_if_success (with_reducible show wpAny _ _ (exec (Stmt.Raise _ _ _) _) _ _ _)); (fail_if_success (with_reducible show wpAny _ _ (exec (Stmt.While _ _ _ _) _) _ _ _)); (fail_if_success (with_reducible show wpAny _ _ (call (Value.ref 223) _) _ _ _)); first | (k_unfold; (try dsimp only)) | walk1 | (dsimp only; walk1) | (leave1; (try dsimp only)))
    refine fn_use (c_bit w mean mg mb x i _ _ _ (by omega)) (by k_asm) (by k_asm) (by k_asm) (by k_asm) (by k_asm) (by first | exact rfl | assumption) (by ktr_room) (by first | ktr_units | (have hcL9 := cLine_is; (try simp only [units_under_make, units_in1, units_deeper, Around.mark_units, units_caller] at *); (try dsimp only [ktrTop] at *); omega)) ?_
    rintro _ _ h' tk' F3 N3 ⟨⟨tb, rfl⟩, rfl⟩
    rcases hc : Z' (bits x i ++ [bitAt x i]) with _ | e
    · repeat' ((fail_if_success (with_reducible show wpAny _ _ (exec (Stmt.For _ _ _ _ _) _) _ _ _)); (fail_if_success (with_reducible show wpAny _ _ (pyIter _) _ _ _)); (fail_if_success (with_reducible show wpAny _ _ (exec (Stmt.Raise _ _ _) _) _ _ _)); (fail_if_success (with_reducible show wpAny _ _ (exec (Stmt.While _ _ _ _) _) _ _ _)); (fail_if_success (with_reducible show wpAny _ _ (call (Value.ref 188) _) _ _ _)); first | (k_unfold; (try dsimp only)) | walk1 | (dsimp only; walk1) | (leave1; (try dsimp only)))
      refine fn_use (c_child' w mean mg mb Z' (bits x i) d (bitAt x i) .none _ _ (tr_grow hI fun _ h => .tail _ h) hZ (Tr.val_none hc)) (by k_asm) (by k_asm) (by k_asm) (by k_asm) (by k_asm) (by first | exact rfl | assumption) (by ktr_room) (by first | ktr_units | (have hcL9 := cLine_is; (try simp only [units_under_make, units_in1, units_deeper, Around.mark_units, units_caller] at *); (try dsimp only [ktrTop] at *); omega)) ?_
      rintro _ _ h' tk' F4 N4 ⟨rfl, rfl⟩
      repeat' ((fail_if_success (with_reducible show wpAny _ _ (exec (Stmt.For _ _ _ _ _) _) _ _ _)); (fail_if_success (with_reducible show wpAny _ _ (pyIter _) _ _ _)); (fail_if_success (with_reducible show wpAny _ _ (exec (Stmt.Raise _ _ _) _) _ _ _)); (fail_if_success (with_reducible show wpAny _ _ (exec (Stmt.While _ _ _ _) _) _ _ _)); (fail_if_success (with_reducible show wpAny _ _ (call (Value.ref 212) _) _ _ _)); first | (k_unfold; (try dsimp only)) | walk1 | (dsimp only; walk1) | (leave1; (try dsimp only)))
      refine fn_use (c_branch w mean mg mb _) (by k_asm) (by k_asm) (by k_asm) (by k_asm) (by k_asm) (by first | exact rfl | assumption) (by ktr_room) (by first | ktr_units | (have hcL9 := cLine_is; (try simp only [units_under_make, units_in1, units_deeper, Around.mark_units, units_caller] at *); (try dsimp only [ktrTop] at *); omega)) ?_
      rintro _ n4 h' tk' F5 N5 ⟨b, bd, rl, q0, q1, q2, rfl, hs, eb, ed, er, o1, o2, o3⟩
      have U5 : One n4 := one_of N5
      have hI4 : TrIn w.params Z' n4 := tr_grow hI fun _ h => hs _ (.tail _ h)
      have Db4 := hs _ (.tail _ Db)
      have Dd4 := hs _ (.tail _ Dd)
      have hfl4 := hs _ (.tail _ hfl)
      repeat' ((fail_if_success (with_reducible show wpAny _ _ (exec (Stmt.For _ _ _ _ _) _) _ _ _)); (fail_if_success (with_reducible show wpAny _ _ (pyIter _) _ _ _)); (fail_if_success (with_reducible show wpAny _ _ (exec (Stmt.Raise _ _ _) _) _ _ _)); (fail_if_success (with_reducible show wpAny _ _ (exec (Stmt.While _ _ _ _) _) _ _ _)); (fail_if_success (with_reducible show wpAny _ _ (call (Value.ref 195) _) _ _ _)); first | (k_unfold; (try dsimp only)) | walk1 | (dsimp only; walk1) | (leave1; (try dsimp only)))
      refine fn_use (c_set' w mean mg mb Z' (bits x i) d (bitAt x i) (.ref b) _ n4 hI4 hZ (U5.ne Db4 Dd4 inst_ne_br)) (by k_asm) (by k_asm) (by k_asm) (by k_asm) (by k_asm) (by first | exact rfl | assumption) (by ktr_room) (by first | ktr_units | (have hcL9 := cLine_is; (try simp only [units_under_make, units_in1, units_deeper, Around.mark_units, units_caller] at *); (try dsimp only [ktrTop] at *); omega)) ?_
      rintro _ _ h' tk' F6 N6 ⟨rfl, rfl⟩
      have tr5 := tr_add (e := ⟨b, bd, rl, q0, q1, q2, [], 0⟩) hI U5 hZ hc (fun y hy => hs _ (.tail _ hy)) ⟨rfl, rfl⟩ eb ed er (fun p hp => o2 p (.tail _ hp)) (fun p hp => o3 p (.tail _ hp))
      have hfl5 := mem_put_ne (o := brObj w.params d.k0 d.k1 d.k2 (if bitAt x i then Z'.val (bits x i ++ [false]) else .ref b) (if bitAt x i then .ref b else Z'.val (bits x i ++ [true])) (.ref d.rl)) hfl4 (hof _ _ hZ).1
      have hof5 : (Z'.add (bits x i ++ [bitAt x i]) ⟨b, bd, rl, q0, q1, q2, [], 0⟩).Off fl := hof.add (o2 _ (.tail _ hfl)) (o3 _ (.tail _ hfl))
      repeat' ((fail_if_success (with_reducible show wpAny _ _ (exec (Stmt.For _ _ _ _ _) _) _ _ _)); (fail_if_success (with_reducible show wpAny _ _ (pyIter _) _ _ _)); (fail_if_success (with_reducible show wpAny _ _ (exec (Stmt.Raise _ _ _) _) _ _ _)); (fail_if_success (with_reducible show wpAny _ _ (exec (Stmt.While _ _ _ _) _) _ _ _)); first | (k_unfold; (try dsimp only)) | walk1 | (dsimp only; walk1) | (leave1; (try dsimp only)))
      rename News _ _ _ _ => N7
      have tr7 := tr_putList (o' := listOf ((vs ++ [Value.ref d.b]).toArray.push (Value.ref b)) (n + 1)) tr5 (one_put U5 _ _) hfl5 hof5
      have hIa := mem_put_ne (o := listOf ((vs ++ [Value.ref d.b]).toArray.push (Value.ref b)) (n + 1)) (mem_put_ne (o := brObj w.params d.k0 d.k1 d.k2 (if bitAt x i then Z'.val (bits x i ++ [false]) else .ref b) (if bitAt x i then .ref b else Z'.val (bits x i ++ [true])) (.ref d.rl)) (hs _ (.head _)) (fun h => hoff _ Dd h.symm)) (fun h => hoff _ hfl h.symm)
      refine turn_end' (by k_asm) N7 hIa ⟨_, ⟨b, bd, rl, q0, q1, q2, [], 0⟩, vs ++ [Value.ref d.b], n + 1, ?_, ?_, ?_, ?_, ?_, ?_, tr_wo tr7 (one_of N7) hIa hio (by decide) (by decide), ?_, hof5, ?_⟩
      · rfl
      · rfl
      · rfl
      · rw [show (vs ++ [Value.ref d.b] ++ [Value.ref b]).toArray = (vs ++ [Value.ref d.b]).toArray.push (Value.ref b) from by simp]
        exact mem_wo.mpr ⟨mem_put, fun h => hoff _ hfl h⟩
      · simp [hlen]
      · rw [bits_succ]; unfold Tr.add; rw [if_pos rfl]
      · rw [← bits_succ] at hc ⊢
        exact hG.add hc rfl rfl (off_back hG hI hfr fun p hp => o2 p (.tail _ hp)) (off_back hG hI hfr fun p hp => o3 p (.tail _ hp))
      · intro p hp hq
        refine mem_wo.mpr ⟨mem_put_ne (mem_put_ne (hs _ (.tail _ (hfr p hp hq))) ?_) (Nat.ne_of_lt (lf p hp)), hoff _ (hfr p hp hq)⟩
        rcases hG.new _ _ hZ with h | ⟨_, _, h, _⟩
        · exact hq _ _ h
        · exact h p hp
    · repeat' ((fail_if_success (with_reducible show wpAny _ _ (exec (Stmt.For _ _ _ _ _) _) _ _ _)); (fail_if_success (with_reducible show wpAny _ _ (pyIter _) _ _ _)); (fail_if_success (with_reducible show wpAny _ _ (exec (Stmt.Raise _ _ _) _) _ _ _)); (fail_if_success (with_reducible show wpAny _ _ (exec (Stmt.While _ _ _ _) _) _ _ _)); (fail_if_success (with_reducible show wpAny _ _ (call (Value.ref 188) _) _ _ _)); first | (k_unfold; (try dsimp only)) | walk1 | (dsimp only; walk1) | (leave1; (try dsimp only)))
      refine fn_use (c_child' w mean mg mb Z' (bits x i) d (bitAt x i) (.ref e.b) _ _ (tr_grow hI fun _ h => .tail _ h) hZ (Tr.val_some hc)) (by k_asm) (by k_asm) (by k_asm) (by k_asm) (by k_asm) (by first | exact rfl | assumption) (by ktr_room) (by first | ktr_units | (have hcL9 := cLine_is; (try simp only [units_under_make, units_in1, units_deeper, Around.mark_units, units_caller] at *); (try dsimp only [ktrTop] at *); omega)) ?_
      rintro _ _ h' tk' F4 N4 ⟨rfl, rfl⟩
      repeat' ((fail_if_success (with_reducible show wpAny _ _ (exec (Stmt.For _ _ _ _ _) _) _ _ _)); (fail_if_success (with_reducible show wpAny _ _ (pyIter _) _ _ _)); (fail_if_success (with_reducible show wpAny _ _ (exec (Stmt.Raise _ _ _) _) _ _ _)); (fail_if_success (with_reducible show wpAny _ _ (exec (Stmt.While _ _ _ _) _) _ _ _)); first | (k_unfold; (try dsimp only)) | walk1 | (dsimp only; walk1) | (leave1; (try dsimp only)))
      rename News _ _ _ _ => N7
      have tr7 := tr_putList (o' := listOf ((vs ++ [Value.ref d.b]).toArray.push (Value.ref e.b)) (n + 1)) hI (one_of (news_sub N2 fun _ h => .tail _ h)) hfl hof
      have hoff' : ∀ p ∈ put fl (listOf ((vs ++ [Value.ref d.b]).toArray.push (Value.ref e.b)) (n + 1)) nx, p.1 ≠ Ia := fun p hp => by
        rcases List.mem_cons.mp hp with rfl | hp
        · exact fun h => hoff _ hfl h
        · exact hoff _ (wo_sub _ hp)
      refine turn_end (put fl (listOf ((vs ++ [Value.ref d.b]).toArray.push (Value.ref e.b)) (n + 1)) nx) (by k_asm) (news_sub N7 fun p hp => ?_) hoff' ⟨Z', e, vs ++ [Value.ref d.b], n + 1, rfl, rfl, rfl, ?_, by simp [hlen], ?_, tr7, hG.step, hof, fun p hp hq => mem_put_ne (hfr p hp hq) (Nat.ne_of_lt (lf p hp))⟩
      · rcases List.mem_cons.mp hp with rfl | hp
        · exact mem_put_ne (.head _) (fun h => hoff _ hfl h.symm)
        · rcases List.mem_cons.mp hp with rfl | hp
          · exact mem_put
          · exact mem_put_ne (.tail _ (wo_sub _ hp)) (wo_ne _ hp)
      · rw [show (vs ++ [Value.ref d.b] ++ [Value.ref e.b]).toArray = (vs ++ [Value.ref d.b]).toArray.push (Value.ref e.b) from by simp]
        exact mem_put
      · rw [bits_succ]; exact hc
  · rintro m₁ nx h tk ⟨Z', d, vs, n, hfd, hnt, hmk, hfl, hlen, hZ, hI, hG, hof, hfr⟩ F2 N2
    replace F2 := fr_know F2 hfd
    k_steps
    exact hret _ _ _ _ (by k_asm) (by k_asm) ⟨Z', d, fl, vs, n, rfl, hfl, off_lt lf (Nat.le_refl _), hZ, hI, hG, hfr⟩
end Mine
end

section
set_option Elab.async false
set_option maxRecDepth 100000
set_option maxHeartbeats 8000000
set_option linter.all false
namespace Mine
open PySem PySem.W PyProof.Rows

local macro_rules | `(tactic| k_handed) => `(tactic| assumption)
local macro_rules | `(tactic| k_mem) => `(tactic| assumption)
local macro_rules | `(tactic| k_all) => `(tactic| exact wo_ne)
local macro_rules | `(tactic| k_room) => `(tactic| ktr_room)
local macro_rules | `(tactic| units_room) => `(tactic| ktr_units)
local macro_rules | `(tactic| k_enter) => `(tactic| (refine' code_def ?k1 ?k2 ?k3 ?k4 ?k5 ?kA ?kF ?kK ?k6 ?k7 ?k8 ?k9 ?kB ?_ ?c2 ?c3 ?c4 ?c5; (case kA => exact rfl); (case kF => exact rfl); (case kK => first | exact rfl | assumption); (case k1 => k_asm); (case k2 => k_asm); (case k3 => k_asm); (case k4 => k_asm); (case k5 => k_asm); (case k6 => k_is); (case k7 => k_is); (case k8 => ktr_room); (case k9 => first | exact BindsTo.of_eq rfl | exact binds_K (by k_in) rfl (by k_is) rfl rfl rfl); (case c5 => decide); (case kB => exact locs rfl); (case c2 => exact rfl); (case c3 => exact rfl); (case c4 => exact rfl); k_whole; intro g' L' h' FG' F' N' B' X' T'; (try dsimp only); (try k_fold)))
local macro_rules | `(tactic| walk_at "subscriptTail") => `(tactic| (k_here; (with_reducible show wpAny _ _ (subscriptTail _ _ (Value.ref _) (Value.int _ _)) _ _ _); first
  | ((with_reducible show wpAny _ _ (subscriptTail _ (PySem.Expr.UnaryOp _ _ _) (Value.ref _) (Value.int _ _)) _ _ _); refine' item_last ?k1 ?k2 ?_ ?k7; (case k1 => k_asm); (case k2 => k_mem); (case k7 => with_unfolding_all rfl); k_whole)
  | (refine' item_P ?k1 ?k2 ?k3 ?k4 ?k5 ?_ ?k7; (case k1 => k_asm); (case k2 => k_mem); (case k3 => omega); (case k4 => omega); (case k5 => first | with_reducible assumption | ((with_reducible rw [Int.toNat_natCast]); with_reducible assumption) | exact rfl); (case k7 => with_unfolding_all rfl); k_whole)
  | (refine' tupItem_P ?k1 ?k2 ?k3 ?k4 ?k5 ?_ ?k7; (case k1 => k_asm); (case k2 => k_mem); (case k3 => omega); (case k4 => omega); (case k5 => first | with_reducible assumption | ((with_reducible rw [Int.toNat_natCast]); with_reducible assumption) | exact rfl); (case k7 => with_unfolding_all rfl); k_whole)))
local macro_rules | `(tactic| walk_at "setItem ref int") => `(tactic| (k_here; k_dflt (refine' setAt_P ?k1 ?k2 ?k3 ?k4 ?k5 ?k6 ?_; (case k1 => k_asm); (case k2 => k_asm); (case k3 => k_mem); (case k4 => omega); (case k5 => omega); (case k6 => first | (simp; done) | (simp only [Int.toNat_natCast, List.length_map]; omega) | (simp; omega)); k_whole; intro h' F' N')))
local macro_rules | `(tactic| walk_at "call builtin:list.append") => `(tactic| (k_here; (with_reducible show wpAny _ _ (call (Value.builtin _) [Value.ref _, _]) _ _ _); k_dflt (refine' append_P ?k1 ?k2 ?k3 ?_ ?z; (case k1 => k_asm); (case k2 => k_asm); (case k3 => k_mem); (case z => simp only [sizeLine_eq, List.size_toArray, List.length_append, List.length_map, List.length_cons, List.length_nil]; omega); k_whole; intro h' F' N')))
local macro_rules | `(tactic| walk_at "call builtin:len") => `(tactic| (k_here; (with_reducible show wpAny _ _ (call (Value.builtin "len") [Value.ref _]) _ _ _); k_dflt (refine' len_P ?k1 ?k2 ?k3 ?_; (case k1 => k_asm); (case k2 => k_mem); (case k3 => (try simp only [List.length_map, List.length_append, List.length_cons, List.length_nil]); omega); k_whole); (try simp only [List.length_map])))
local macro_rules | `(tactic| walk_at "compareOp NotEq ref ref") => `(tactic| (k_here; (refine' ne_empty_P ?k1 ?k2 ?k3 ?k4 ?_; (case k1 => k_asm); (case k3 => k_mem); (case k2 => k_mem); (case k4 => units_room); k_whole)))
local macro_rules | `(tactic| walk_at "compareOp Eq ref ref") => `(tactic| (k_here; (refine' eq_empty_P ?k1 ?k2 ?k3 ?k4 ?_; (case k1 => k_asm); (case k3 => k_mem); (case k2 => k_mem); (case k4 => units_room); k_whole)))

theorem c_mask (w mean mg mb) (pre : Nat) (t : Tok) (news : Ledger) (hp : pre ≤ 32) :
    Fn w mean mg mb 117 3 20 [.int (pre : Int) t] news (fun r n' => (∃ t, r = .int (4294967295 - (2 ^ (32 - pre) - 1)) t) ∧ n' = news) := by
  unfold Fn; k_fill; intro dp un gd cn cs a ccd cl outer A₀ base h₀ L m s Q E B F X N T hk hdp hun hret
  (refine wpAny_call ?_; ktr_enter; k_steps)
  exact hret _ _ _ _ (by k_asm) (by k_asm) ⟨⟨_, by rw [show (32 - (pre : Int)).toNat = 32 - pre from by omega]⟩, rfl⟩
theorem c_isloop (w mean mg mb) (x : Int) (t : Tok) (news : Ledger) :
    Fn w mean mg mb 131 3 20 [.int x t] news (fun r n' => r = .bool (x.fdiv 16777216 == 127) ∧ n' = news) := by
  unfold Fn; k_fill; intro dp un gd cn cs a ccd cl outer A₀ base h₀ L m s Q E B F X N T hk hdp hun hret
  (refine wpAny_call ?_; ktr_enter; k_steps)
  exact hret _ _ _ _ (by k_asm) (by k_asm) ⟨rfl, rfl⟩
theorem c_net (w mean mg mb) (x : Int) (pre : Nat) (t t2 : Tok) (news : Ledger) (hp : pre ≤ 32) :
    Fn w mean mg mb 124 5 40 [.int x t, .int (pre : Int) t2] news (fun r n' => (∃ t, r = .int (Builtin.bitAnd x (4294967295 - (2 ^ (32 - pre) - 1))) t) ∧ n' = news) := by
  unfold Fn; k_fill; intro dp un gd cn cs a ccd cl outer A₀ base h₀ L m s Q E B F X N T hk hdp hun hret
  refine wpAny_call ?_; ktr_enter
  repeat' ((fail_if_success (with_reducible show wpAny _ _ (exec (Stmt.For _ _ _ _ _) _) _ _ _)); (fail_if_success (with_reducible show wpAny _ _ (pyIter _) _ _ _)); (fail_if_success (with_reducible show wpAny _ _ (exec (Stmt.Raise _ _ _) _) _ _ _)); (fail_if_success (with_reducible show wpAny _ _ (exec (Stmt.While _ _ _ _) _) _ _ _)); (fail_if_success (with_reducible show wpAny _ _ (call (Value.ref 117) _) _ _ _)); first | (k_unfold; (try dsimp only)) | walk1 | (dsimp only; walk1) | (leave1; (try dsimp only)))
  refine fn_use (c_mask w mean mg mb pre _ _ hp) (by k_asm) (by k_asm) (by k_asm) (by k_asm) (by k_asm) (by first | exact rfl | assumption) (by ktr_room) (by first | ktr_units | (have hcL9 := cLine_is; (try simp only [units_under_make, units_in1, units_deeper, Around.mark_units, units_caller] at *); (try dsimp only [ktrTop] at *); omega)) ?_
  rintro _ _ h' tk' F6 N6 ⟨⟨tb, rfl⟩, rfl⟩
  k_steps
  exact hret _ _ _ _ (by k_asm) (by k_asm) ⟨⟨_, rfl⟩, rfl⟩
theorem net_self {x : Int} {pre : Nat} (hp : pre ≤ 32) (h0 : 0 ≤ x) (h1 : x < 4294967296) (hd : x % 2 ^ (32 - pre) = 0) : Builtin.bitAnd x (4294967295 - (2 ^ (32 - pre) - 1)) = x := by
  obtain ⟨n, rfl⟩ : ∃ n : Nat, x = n := ⟨x.toNat, by omega⟩
  have hpow : (2 : Nat) ^ (32 - pre) * 2 ^ pre = 2 ^ 32 := by rw [← Nat.pow_add]; congr 1; omega
  have hle : (2 : Nat) ^ (32 - pre) ≤ 2 ^ 32 := Nat.pow_le_pow_right (by decide) (by omega)
  have hmask : (4294967295 - (2 ^ (32 - pre) - 1) : Int) = ((2 ^ (32 - pre) * (2 ^ pre - 1) : Nat) : Int) := by
    rw [Nat.mul_sub, hpow, Nat.mul_one]
    have : ((2 ^ (32 - pre) : Nat) : Int) = (2 : Int) ^ (32 - pre) := by simp
    rw [Int.ofNat_sub hle, this]
    omega
  rw [hmask, bitAnd_pp (by omega) (by omega)]
  congr 1
  simp only [Int.toNat_natCast]
  have hn : n < 2 ^ 32 := by omega
  have hdv : n % 2 ^ (32 - pre) = 0 := by
    have h := hd
    rw [show (2 : Int) ^ (32 - pre) = ((2 ^ (32 - pre) : Nat) : Int) from by simp] at h
    exact_mod_cast h
  obtain ⟨q, rfl⟩ : ∃ q, n = 2 ^ (32 - pre) * q := ⟨n / 2 ^ (32 - pre), by
    have := Nat.div_add_mod n (2 ^ (32 - pre)); omega⟩
  have hq : q < 2 ^ pre := by
    rw [← hpow] at hn
    exact Nat.lt_of_mul_lt_mul_left hn
  apply Nat.eq_of_testBit_eq
  intro i
  rw [Nat.testBit_and, Nat.testBit_two_pow_mul, Nat.testBit_two_pow_mul, Nat.testBit_two_pow_sub_one]
  by_cases hi : i - (32 - pre) < pre
  · simp [hi]; intro h _; exact h
  · rw [Nat.testBit_lt_two_pow (Nat.lt_of_lt_of_le hq (Nat.pow_le_pow_right (by decide) (Nat.le_of_not_lt hi)))]
    simp
end Mine
end

section
set_option Elab.async false
set_option maxRecDepth 100000
set_option maxHeartbeats 8000000
set_option linter.all false
namespace Mine
open PySem PySem.W PyProof.Rows

local macro_rules | `(tactic| k_handed) => `(tactic| assumption)
local macro_rules | `(tactic| k_mem) => `(tactic| assumption)
local macro_rules | `(tactic| k_all) => `(tactic| exact wo_ne)
local macro_rules | `(tactic| k_room) => `(tactic| ktr_room)
local macro_rules | `(tactic| units_room) => `(tactic| ktr_units)
local macro_rules | `(tactic| k_enter) => `(tactic| (refine' code_def ?k1 ?k2 ?k3 ?k4 ?k5 ?kA ?kF ?kK ?k6 ?k7 ?k8 ?k9 ?kB ?_ ?c2 ?c3 ?c4 ?c5; (case kA => exact rfl); (case kF => exact rfl); (case kK => first | exact rfl | assumption); (case k1 => k_asm); (case k2 => k_asm); (case k3 => k_asm); (case k4 => k_asm); (case k5 => k_asm); (case k6 => k_is); (case k7 => k_is); (case k8 => ktr_room); (case k9 => first | exact BindsTo.of_eq rfl | exact binds_K (by k_in) rfl (by k_is) rfl rfl rfl); (case c5 => decide); (case kB => exact locs rfl); (case c2 => exact rfl); (case c3 => exact rfl); (case c4 => exact rfl); k_whole; intro g' L' h' FG' F' N' B' X' T'; (try dsimp only); (try k_fold)))
local macro_rules | `(tactic| walk_at "subscriptTail") => `(tactic| (k_here; (with_reducible show wpAny _ _ (subscriptTail _ _ (Value.ref _) (Value.int _ _)) _ _ _); first
  | ((with_reducible show wpAny _ _ (subscriptTail _ (PySem.Expr.UnaryOp _ _ _) (Value.ref _) (Value.int _ _)) _ _ _); refine' item_last ?k1 ?k2 ?_ ?k7; (case k1 => k_asm); (case k2 => k_mem); (case k7 => with_unfolding_all rfl); k_whole)
  | (refine' item_P ?k1 ?k2 ?k3 ?k4 ?k5 ?_ ?k7; (case k1 => k_asm); (case k2 => k_mem); (case k3 => omega); (case k4 => omega); (case k5 => first | with_reducible assumption | ((with_reducible rw [Int.toNat_natCast]); with_reducible assumption) | exact rfl); (case k7 => with_unfolding_all rfl); k_whole)
  | (refine' tupItem_P ?k1 ?k2 ?k3 ?k4 ?k5 ?_ ?k7; (case k1 => k_asm); (case k2 => k_mem); (case k3 => omega); (case k4 => omega); (case k5 => first | with_reducible assumption | ((with_reducible rw [Int.toNat_natCast]); with_reducible assumption) | exact rfl); (case k7 => with_unfolding_all rfl); k_whole)))
local macro_rules | `(tactic| walk_at "setItem ref int") => `(tactic| (k_here; k_dflt (refine' setAt_P ?k1 ?k2 ?k3 ?k4 ?k5 ?k6 ?_; (case k1 => k_asm); (case k2 => k_asm); (case k3 => k_mem); (case k4 => omega); (case k5 => omega); (case k6 => first | (simp; done) | (simp only [Int.toNat_natCast, List.length_map]; omega) | (simp; omega)); k_whole; intro h' F' N')))
local macro_rules | `(tactic| walk_at "call builtin:list.append") => `(tactic| (k_here; (with_reducible show wpAny _ _ (call (Value.builtin _) [Value.ref _, _]) _ _ _); k_dflt (refine' append_P ?k1 ?k2 ?k3 ?_ ?z; (case k1 => k_asm); (case k2 => k_asm); (case k3 => k_mem); (case z => simp only [sizeLine_eq, List.size_toArray, List.length_append, List.length_map, List.length_cons, List.length_nil]; omega); k_whole; intro h' F' N')))
local macro_rules | `(tactic| walk_at "call builtin:len") => `(tactic| (k_here; (with_reducible show wpAny _ _ (call (Value.builtin "len") [Value.ref _]) _ _ _); k_dflt (refine' len_P ?k1 ?k2 ?k3 ?_; (case k1 => k_asm); (case k2 => k_mem); (case k3 => (try simp only [List.length_map, List.length_append, List.length_cons, List.length_nil]); omega); k_whole); (try simp only [List.length_map])))
local macro_rules | `(tactic| walk_at "compareOp NotEq ref ref") => `(tactic| (k_here; (refine' ne_empty_P ?k1 ?k2 ?k3 ?k4 ?_; (case k1 => k_asm); (case k3 => k_mem); (case k2 => k_mem); (case k4 => units_room); k_whole)))
local macro_rules | `(tactic| walk_at "compareOp Eq ref ref") => `(tactic| (k_here; (refine' eq_empty_P ?k1 ?k2 ?k3 ?k4 ?_; (case k1 => k_asm); (case k3 => k_mem); (case k2 => k_mem); (case k4 => units_room); k_whole)))

theorem c_route (w mean mg mb) (r : Rt) (t1 t2 t3 t4 t5 : Tok) (news : Ledger) :
    Fn w mean mg mb 163 4 30 [.int r.net t1, .int r.pre t2, .int r.gw t3, .int r.face t4, .int r.met t5] news (fun v n' => ∃ o : Ro, v = .ref o.a ∧ o.r = r ∧ (∀ p ∈ news, p ∈ n') ∧ o.In w.params n' ∧ Off news o.a ∧ Off news o.d) := by
  unfold Fn; k_fill; intro dp un gd cn cs a ccd cl outer A₀ base h₀ L m s Q E B F X N T hk hdp hun hret
  k_steps
  rename (∀ p ∈ news, p.1 < _) => l1
  rename @LT.lt Addr _ _ _ => l2
  exact hret _ _ _ _ (by k_asm) (by k_asm) ⟨⟨_, _, r, _, _, _, _, _, _, _, _, _, _⟩, rfl, rfl, fun p hp => .tail _ (.tail _ hp), ⟨.head _, .tail _ (.head _)⟩, off_lt l1 (Nat.le_of_lt l2), off_lt l1 (Nat.le_refl _)⟩
theorem c_route4 (w mean mg mb) (r : Rt) (t1 t2 t3 t4 : Tok) (news : Ledger) (h0 : r.met = 0) :
    Fn w mean mg mb 163 4 30 [.int r.net t1, .int r.pre t2, .int r.gw t3, .int r.face t4] news (fun v n' => ∃ o : Ro, v = .ref o.a ∧ o.r = r ∧ (∀ p ∈ news, p ∈ n') ∧ o.In w.params n' ∧ Off news o.a ∧ Off news o.d) := by
  unfold Fn; k_fill; intro dp un gd cn cs a ccd cl outer A₀ base h₀ L m s Q E B F X N T hk hdp hun hret
  k_steps
  rename (∀ p ∈ news, p.1 < _) => l1
  rename @LT.lt Addr _ _ _ => l2
  exact hret _ _ _ _ (by k_asm) (by k_asm) ⟨⟨_, _, r, _, _, _, _, _, _, _, _, _, _⟩, rfl, rfl, fun p hp => .tail _ (.tail _ hp), ⟨.head _, .tail _ (by rw [Ro.obj, h0]; exact .head _)⟩, off_lt l1 (Nat.le_of_lt l2), off_lt l1 (Nat.le_refl _)⟩
abbrev tupObj (vs : List Value) : Obj := { cls := .type "tuple", data := .seq vs.toArray }
theorem c_row (w mean mg mb) (o : Ro) (news : Ledger) (h : o.In w.params news) :
    Fn w mean mg mb 160 4 30 [.ref o.a] news (fun v n' => ∃ t, v = .ref t ∧ n' = (t, tupObj [.int o.r.net o.t0, .int o.r.pre o.t1, .int o.r.gw o.t2, .int o.r.face o.t3, .int o.r.met o.t4]) :: news ∧ ∀ p ∈ news, p.1 < t) := by
  unfold Fn; k_fill; intro dp un gd cn cs a ccd cl outer A₀ base h₀ L m s Q E B F X N T hk hdp hun hret
  obtain ⟨h1, h2⟩ := h
  refine wpAny_call ?_; ktr_enter
  k_steps
  rename (∀ p ∈ news, p.1 < _) => l1
  exact hret _ _ _ _ (by k_asm) (by k_asm) ⟨_, rfl, rfl, l1⟩
end Mine
end

section
set_option Elab.async false
set_option maxRecDepth 100000
set_option maxHeartbeats 8000000
set_option linter.all false
namespace Mine
open PySem PySem.W PyProof.Rows

/-- where a route of the same gateway and face stands it is told anew; else it stands last -/
def upd : List Ro → Ro → List Ro
  | [], o => [o]
  | x :: l, o => if x.r.gw = o.r.gw ∧ x.r.face = o.r.face then o :: l else x :: upd l o
theorem upd_set : ∀ {l : List Ro} {o x : Ro} {i : Nat}, l[i]? = some x → (∀ (j : Nat) (y : Ro), j < i → l[j]? = some y → ¬ (y.r.gw = o.r.gw ∧ y.r.face = o.r.face)) → x.r.gw = o.r.gw ∧ x.r.face = o.r.face → upd l o = l.set i o
  | [], _, _, _, h, _, _ => by cases h
  | y :: l, o, x, 0, h, _, hx => by
    obtain rfl := Option.some.inj h
    unfold upd; rw [if_pos hx]; rfl
  | y :: l, o, x, i + 1, h, hn, hx => by
    unfold upd
    rw [if_neg (hn 0 y (Nat.succ_pos _) rfl)]
    show _ = y :: l.set i o
    rw [upd_set (i := i) (by simpa using h) (fun j z hj hz => hn (j + 1) z (Nat.succ_lt_succ hj) (by simpa using hz)) hx]
theorem upd_app : ∀ {l : List Ro} {o : Ro}, (∀ (j : Nat) (y : Ro), l[j]? = some y → ¬ (y.r.gw = o.r.gw ∧ y.r.face = o.r.face)) → upd l o = l ++ [o]
  | [], _, _ => rfl
  | y :: l, o, h => by
    unfold upd
    rw [if_neg (h 0 y rfl), upd_app fun j z hz => h (j + 1) z (by simpa using hz)]; rfl
theorem upd_len : ∀ (l : List Ro) (o : Ro), (upd l o).length ≤ l.length + 1
  | [], _ => Nat.le_refl _
  | y :: l, o => by
    unfold upd
    split
    · simp
    · simp only [List.length_cons]; exact Nat.succ_le_succ (upd_len l o)
theorem upd_mem : ∀ {l : List Ro} {o x : Ro}, x ∈ upd l o → x ∈ l ∨ x = o
  | [], _, _, h => .inr (List.mem_singleton.mp h)
  | y :: l, o, x, h => by
    unfold upd at h
    split at h
    · rcases List.mem_cons.mp h with rfl | h
      · exact .inr rfl
      · exact .inl (.tail _ h)
    · rcases List.mem_cons.mp h with rfl | h
      · exact .inl (.head _)
      · exact (upd_mem h).imp (.tail _) id
theorem rs_ne_br {P : Params} {q0 q1 t : Tok} {rt : Addr} {many : Int} {k0 k1 k2 : Tok} {z o r : Value} : rsObj P q0 q1 t rt many ≠ brObj P k0 k1 k2 z o r := fun e => by
  have h := congrArg Obj.data e
  simp only [rsObj, brObj, dictOf] at h
  injection h with h1
  have := congrArg Array.size h1
  simp at this
theorem rs_ne_ro {P : Params} {q0 q1 t : Tok} {rt : Addr} {many : Int} {q : Ro} : rsObj P q0 q1 t rt many ≠ q.obj P := fun e => by
  have h := congrArg Obj.data e
  simp only [rsObj, Ro.obj, dictOf] at h
  injection h with h1
  have := congrArg Array.size h1
  simp at this
theorem rs_ne_list {P : Params} {q0 q1 t : Tok} {rt : Addr} {many : Int} {vs : Array Value} {n : Nat} : rsObj P q0 q1 t rt many ≠ listOf vs n := fun e => by
  have := congrArg Obj.cls e; injection this with h; exact absurd h (by decide)
theorem inst_ne_rs {P : Params} {q0 q1 t : Tok} {rt : Addr} {many : Int} {C d : Addr} : instObj C d ≠ rsObj P q0 q1 t rt many := fun e => by
  have := congrArg Obj.cls e; cases this
/-- the routes at a place -/
def Tr.rs (T : Tr) (q : List Bool) : List Ro := match T q with
  | none => []
  | some d => d.rs
theorem tr_rs_some {T : Tr} {q : List Bool} {d : Nd} (h : T q = some d) : T.rs q = d.rs := by unfold Tr.rs; rw [h]
theorem tr_rs_none {T : Tr} {q : List Bool} (h : T q = none) : T.rs q = [] := by unfold Tr.rs; rw [h]
/-- a Routes object with its tree in the ledger -/
structure Ways (P : Params) (wy wd : Addr) (k0 k1 : Tok) (Z : Tr) (many : Int) (l : Ledger) : Prop where
  inst : (wy, instObj 296 wd) ∈ l
  dict : ∃ rt t, Z [] = some rt ∧ (wd, rsObj P k0 k1 t rt.b many) ∈ l
  tree : TrIn P Z l
/-- the tree with a route more -/
structure Added (l : Ledger) (Z Z' : Tr) (o : Ro) (x : Int) (pre : Nat) : Prop where
  rs : ∀ q, Z'.rs q = if q = bits x pre then upd (Z.rs q) o else Z.rs q
  ex : ∀ q, (∃ d, Z' q = some d) ↔ (∃ d, Z q = some d) ∨ ∃ j, j ≤ pre ∧ q = bits x j
  own : ∀ q e, Z' q = some e → (∃ e₀, Z q = some e₀ ∧ e₀.bd = e.bd ∧ e₀.rl = e.rl) ∨ (Off l e.bd ∧ Off l e.rl)
theorem closed_bits {P : Params} {Z : Tr} {l : Ledger} (I : TrIn P Z l) {x : Int} {n : Nat} (h : ∃ d, Z (bits x n) = some d) : ∀ {j : Nat}, j ≤ n → ∃ d, Z (bits x j) = some d := by
  have key : ∀ k, k ≤ n → ∃ d, Z (bits x (n - k)) = some d := fun k => by
    induction k with
    | zero => exact fun _ => h
    | succ k ih =>
      intro hk
      obtain ⟨d, hd⟩ := ih (Nat.le_of_succ_le hk)
      have e : n - k = (n - (k + 1)) + 1 := by omega
      rw [e, bits_succ] at hd
      exact I.closed _ _ _ hd
  intro j hj
  have := key (n - j) (Nat.sub_le _ _)
  rwa [show n - (n - j) = j from by omega] at this
/-- a path made, then the list at its end turned -/
theorem added_of {P : Params} {l l₁ : Ledger} {Z Z₁ : Tr} {o : Ro} {x : Int} {pre n : Nat} {d : Nd} (I : TrIn P Z l) (G : Grow l Z Z₁ x pre) (I₁ : TrIn P Z₁ l₁) (hd : Z₁ (bits x pre) = some d) :
    Added l Z (Z₁.add (bits x pre) (d.with (upd d.rs o) n)) o x pre := by
  have back : ∀ q e, Z₁ q = some e → Z.rs q = e.rs := fun q e h => by
    rcases G.new q e h with h | ⟨h1, _, _, _, _⟩
    · exact tr_rs_some h
    · cases hz : Z q with
      | none => rw [tr_rs_none hz, h1]
      | some e' =>
        have := G.old q e' hz
        rw [h] at this
        rw [tr_rs_some hz, Option.some.inj this]
  refine ⟨fun q => ?_, fun q => ⟨?_, ?_⟩, fun q e h => ?_⟩
  · by_cases hq : q = bits x pre
    · subst hq
      rw [if_pos rfl, back _ _ hd]
      have e : (Z₁.add (bits x pre) (d.with (upd d.rs o) n)) (bits x pre) = some (d.with (upd d.rs o) n) := by unfold Tr.add; rw [if_pos rfl]
      exact tr_rs_some e
    · rw [if_neg hq]
      have e : (Z₁.add (bits x pre) (d.with (upd d.rs o) n)) q = Z₁ q := by unfold Tr.add; rw [if_neg hq]
      unfold Tr.rs
      rw [e]
      cases h1 : Z₁ q with
      | none =>
        cases h : Z q with
        | none => rfl
        | some e' => have := G.old q e' h; rw [h1] at this; cases this
      | some e' => exact (back q e' h1).symm
  · rintro ⟨e, he⟩
    have : ∃ e, Z₁ q = some e := by
      unfold Tr.add at he
      split at he
      · rename_i h; rw [h]; exact ⟨_, hd⟩
      · exact ⟨_, he⟩
    obtain ⟨e, he⟩ := this
    rcases G.new q e he with h | ⟨_, _, _, _, h⟩
    · exact .inl ⟨_, h⟩
    · exact .inr h
  · intro h
    have : ∃ e, Z₁ q = some e := by
      rcases h with ⟨e, he⟩ | ⟨j, hj, rfl⟩
      · exact ⟨_, G.old _ _ he⟩
      · exact closed_bits I₁ ⟨_, hd⟩ hj
    obtain ⟨e, he⟩ := this
    unfold Tr.add
    split
    · exact ⟨_, rfl⟩
    · exact ⟨_, he⟩
  · have : ∃ e₁, Z₁ q = some e₁ ∧ e₁.bd = e.bd ∧ e₁.rl = e.rl := by
      unfold Tr.add at h
      split at h
      · rename_i hq
        obtain rfl := Option.some.inj h
        exact ⟨d, by rw [hq]; exact hd, rfl, rfl⟩
      · exact ⟨e, h, rfl, rfl⟩
    obtain ⟨e₁, h1, h2, h3⟩ := this
    rcases G.new _ _ h1 with h | ⟨_, _, h4, h5, _⟩
    · exact .inl ⟨_, h, h2, h3⟩
    · exact .inr ⟨h2 ▸ h4, h3 ▸ h5⟩

theorem add_end {P : Params} {wy wd : Addr} {k0 k1 tm : Tok} {Z Z1 : Tr} {many : Int} {o : Ro} {x : Int} {pre k : Nat} {d rt : Nd} {news n1 : Ledger} (W : Ways P wy wd k0 k1 Z many news) (UN : One news) (U1 : One n1) (hrt : Z [] = some rt)
    (G1 : Grow news Z Z1 x pre) (I1 : TrIn P Z1 n1) (hZ1 : Z1 (bits x pre) = some d) (p1 : (o.a, instObj 163 o.d) ∈ n1) (p2 : (o.d, o.obj P) ∈ n1) (q1 : (wy, instObj 296 wd) ∈ n1) (q2 : (wd, rsObj P k0 k1 tm rt.b many) ∈ n1)
    (fr1 : ∀ p ∈ news, (∀ q e, Z q = some e → p.1 ≠ e.bd) → p ∈ n1) :
    Ways P wy wd k0 k1 (Z1.add (bits x pre) (d.with (upd d.rs o) k)) many (put d.rl (listOf ((upd d.rs o).map fun o => Value.ref o.a).toArray k) n1) ∧
      Added news Z (Z1.add (bits x pre) (d.with (upd d.rs o) k)) o x pre ∧ (∀ p ∈ news, Z.Off p.1 → p ∈ put d.rl (listOf ((upd d.rs o).map fun o => Value.ref o.a).toArray k) n1) := by
  have D := I1.nd _ _ hZ1
  have root : ∃ rt', (Z1.add (bits x pre) (d.with (upd d.rs o) k)) [] = some rt' ∧ rt'.b = rt.b := by
    have h1 := G1.old _ _ hrt
    unfold Tr.add
    by_cases h : [] = bits x pre
    · rw [if_pos h]
      rw [← h, h1] at hZ1
      exact ⟨_, rfl, by rw [Option.some.inj hZ1]; rfl⟩
    · rw [if_neg h]; exact ⟨rt, h1, rfl⟩
  obtain ⟨rt', hr1, hr2⟩ := root
  refine ⟨⟨mem_put_ne q1 (U1.ne q1 D.hr inst_ne_list), ⟨rt', tm, hr1, by rw [hr2]; exact mem_put_ne q2 (U1.ne q2 D.hr rs_ne_list)⟩, tr_list I1 U1 hZ1 fun y hy => ?_⟩, added_of W.tree G1 I1 hZ1, fun p hp ho => mem_put_ne (fr1 p hp fun q e h => (ho q e h).1) ?_⟩
  · rcases upd_mem hy with h | rfl
    · exact D.ho _ h
    · exact ⟨p1, p2⟩
  · rcases G1.new _ _ hZ1 with h | ⟨_, _, _, h, _⟩
    · exact (ho _ _ h).2
    · exact h p hp
theorem tr_putRs {P : Params} {T : Tr} {l : Ledger} {a : Addr} {q0 q1 t : Tok} {r : Addr} {many : Int} {o' : Obj} (I : TrIn P T l) (U : One l) (ha : (a, rsObj P q0 q1 t r many) ∈ l) : TrIn P T (put a o' l) := by
  refine ⟨fun p d hp => ?_, I.apart, I.root, I.closed⟩
  have D := I.nd p d hp
  exact ⟨mem_put_ne D.hb (U.ne D.hb ha inst_ne_rs), mem_put_ne D.hd (U.ne D.hd ha fun h => rs_ne_br h.symm), mem_put_ne D.hr (U.ne D.hr ha fun h => rs_ne_list h.symm),
    fun o h => ⟨mem_put_ne (D.ho o h).1 (U.ne (D.ho o h).1 ha inst_ne_rs), mem_put_ne (D.ho o h).2 (U.ne (D.ho o h).2 ha fun h => rs_ne_ro h.symm)⟩⟩
theorem ways_many {P : Params} {wy wd : Addr} {k0 k1 t' : Tok} {Z : Tr} {many many' : Int} {l : Ledger} (W : Ways P wy wd k0 k1 Z many l) (U : One l) {rt : Nd} (hrt : Z [] = some rt) : Ways P wy wd k0 k1 Z many' (put wd (rsObj P k0 k1 t' rt.b many') l) := by
  obtain ⟨rt', t, h1, h2⟩ := W.dict
  exact ⟨mem_put_ne W.inst (U.ne W.inst h2 inst_ne_rs), ⟨rt, t', hrt, mem_put⟩, tr_putRs W.tree U h2⟩
theorem put_mono {a : Addr} {o : Obj} {l l' : Ledger} (h : ∀ p ∈ l, p ∈ l') : ∀ p ∈ put a o l, p ∈ put a o l' := fun p hp => by
  rcases List.mem_cons.mp hp with rfl | hp
  · exact mem_put
  · exact mem_put_ne (h p (wo_sub _ hp)) (wo_ne p hp)

end Mine
end

section
set_option Elab.async false
set_option maxRecDepth 100000
set_option maxHeartbeats 8000000
set_option linter.all false
namespace Mine
open PySem PySem.W PyProof.Rows

local macro_rules | `(tactic| k_handed) => `(tactic| assumption)
local macro_rules | `(tactic| k_mem) => `(tactic| assumption)
local macro_rules | `(tactic| k_all) => `(tactic| exact wo_ne)
local macro_rules | `(tactic| k_room) => `(tactic| ktr_room)
local macro_rules | `(tactic| units_room) => `(tactic| ktr_units)
local macro_rules | `(tactic| k_enter) => `(tactic| (refine' code_def ?k1 ?k2 ?k3 ?k4 ?k5 ?kA ?kF ?kK ?k6 ?k7 ?k8 ?k9 ?kB ?_ ?c2 ?c3 ?c4 ?c5; (case kA => exact rfl); (case kF => exact rfl); (case kK => first | exact rfl | assumption); (case k1 => k_asm); (case k2 => k_asm); (case k3 => k_asm); (case k4 => k_asm); (case k5 => k_asm); (case k6 => k_is); (case k7 => k_is); (case k8 => ktr_room); (case k9 => first | exact BindsTo.of_eq rfl | exact binds_K (by k_in) rfl (by k_is) rfl rfl rfl); (case c5 => decide); (case kB => exact locs rfl); (case c2 => exact rfl); (case c3 => exact rfl); (case c4 => exact rfl); k_whole; intro g' L' h' FG' F' N' B' X' T'; (try dsimp only); (try k_fold)))
local macro_rules | `(tactic| walk_at "subscriptTail") => `(tactic| (k_here; (with_reducible show wpAny _ _ (subscriptTail _ _ (Value.ref _) (Value.int _ _)) _ _ _); first
  | ((with_reducible show wpAny _ _ (subscriptTail _ (PySem.Expr.UnaryOp _ _ _) (Value.ref _) (Value.int _ _)) _ _ _); refine' item_last ?k1 ?k2 ?_ ?k7; (case k1 => k_asm); (case k2 => k_mem); (case k7 => with_unfolding_all rfl); k_whole)
  | (refine' item_P ?k1 ?k2 ?k3 ?k4 ?k5 ?_ ?k7; (case k1 => k_asm); (case k2 => k_mem); (case k3 => omega); (case k4 => omega); (case k5 => first | with_reducible assumption | ((with_reducible rw [Int.toNat_natCast]); with_reducible assumption) | exact rfl); (case k7 => with_unfolding_all rfl); k_whole)
  | (refine' tupItem_P ?k1 ?k2 ?k3 ?k4 ?k5 ?_ ?k7; (case k1 => k_asm); (case k2 => k_mem); (case k3 => omega); (case k4 => omega); (case k5 => first | with_reducible assumption | ((with_reducible rw [Int.toNat_natCast]); with_reducible assumption) | exact rfl); (case k7 => with_unfolding_all rfl); k_whole)))
local macro_rules | `(tactic| walk_at "setItem ref int") => `(tactic| (k_here; k_dflt (refine' setAt_P ?k1 ?k2 ?k3 ?k4 ?k5 ?k6 ?_; (case k1 => k_asm); (case k2 => k_asm); (case k3 => k_mem); (case k4 => omega); (case k5 => omega); (case k6 => first | (simp; done) | (simp only [Int.toNat_natCast, List.length_map]; omega) | (simp; omega)); k_whole; intro h' F' N')))
local macro_rules | `(tactic| walk_at "call builtin:list.append") => `(tactic| (k_here; (with_reducible show wpAny _ _ (call (Value.builtin _) [Value.ref _, _]) _ _ _); k_dflt (refine' append_P ?k1 ?k2 ?k3 ?_ ?z; (case k1 => k_asm); (case k2 => k_asm); (case k3 => k_mem); (case z => simp only [sizeLine_eq, List.size_toArray, List.length_append, List.length_map, List.length_cons, List.length_nil]; omega); k_whole; intro h' F' N')))
local macro_rules | `(tactic| walk_at "call builtin:len") => `(tactic| (k_here; (with_reducible show wpAny _ _ (call (Value.builtin "len") [Value.ref _]) _ _ _); k_dflt (refine' len_P ?k1 ?k2 ?k3 ?_; (case k1 => k_asm); (case k2 => k_mem); (case k3 => (try simp only [List.length_map, List.length_append, List.length_cons, List.length_nil]); omega); k_whole); (try simp only [List.length_map])))
local macro_rules | `(tactic| walk_at "compareOp NotEq ref ref") => `(tactic| (k_here; (refine' ne_empty_P ?k1 ?k2 ?k3 ?k4 ?_; (case k1 => k_asm); (case k3 => k_mem); (case k2 => k_mem); (case k4 => units_room); k_whole)))
local macro_rules | `(tactic| walk_at "compareOp Eq ref ref") => `(tactic| (k_here; (refine' eq_empty_P ?k1 ?k2 ?k3 ?k4 ?_; (case k1 => k_asm); (case k3 => k_mem); (case k2 => k_mem); (case k4 => units_room); k_whole)))

local macro_rules | `(tactic| walk_at "setAttr ref") => `(tactic| (k_here; k_dflt (refine' set_dict_P ?k1 ?k2 ?k3 ?k4 ?k5 ?k12 ?k6 ?k7 ?k8 ?k9 ?k10 ?k11 ?k13 ?_; (case k1 => k_asm); (case k2 => k_asm); (case k3 => k_asm); (case k4 => k_inst); (case k5 => exact rfl); (case k6 => k_is); (case k7 => k_is); (case k8 => k_is); (case k9 => k_is); (case k10 => k_get); (case k11 => k_put); (case k12 => k_mem); (case k13 => exact Nat.le_of_ble_eq_true rfl); k_whole; intro h' F' N')))

theorem c_net' (w mean mg mb) (x : Int) (pre : Nat) (t t2 : Tok) (news : Ledger) (hp : pre ≤ 32) (h0 : 0 ≤ x) (h1 : x < 4294967296) (hd : x % 2 ^ (32 - pre) = 0) :
    Fn w mean mg mb 124 5 40 [.int x t, .int (pre : Int) t2] news (fun r n' => (∃ t, r = .int x t) ∧ n' = news) := by
  have := c_net w mean mg mb x pre t t2 news hp
  rwa [net_self hp h0 h1 hd] at this
theorem ways_frame {P : Params} {wy wd : Addr} {k0 k1 : Tok} {Z : Tr} {many : Int} {l l' : Ledger} (W : Ways P wy wd k0 k1 Z many l) (U : One l) (h : ∀ p ∈ l, (∀ q e, Z q = some e → p.1 ≠ e.bd) → p ∈ l') :
    (wy, instObj 296 wd) ∈ l' ∧ ∃ rt t, Z [] = some rt ∧ (wd, rsObj P k0 k1 t rt.b many) ∈ l' := by
  obtain ⟨rt, t, h1, h2⟩ := W.dict
  exact ⟨h _ W.inst fun q e hq => U.ne W.inst (W.tree.nd _ _ hq).hd inst_ne_br, rt, t, h1, h _ h2 fun q e hq => U.ne h2 (W.tree.nd _ _ hq).hd rs_ne_br⟩
theorem c_add (w mean mg mb) (wy wd : Addr) (k0 k1 : Tok) (Z : Tr) (many : Int) (o : Ro) (pre : Nat) (news : Ledger) (W : Ways w.params wy wd k0 k1 Z many news) (ho : o.In w.params news) (hpre : o.r.pre = (pre : Int)) (hp : pre ≤ 32)
    (h0 : 0 ≤ o.r.net) (h1 : o.r.net < 4294967296) (hd : o.r.net % 2 ^ (32 - pre) = 0) (g0 : 0 ≤ o.r.gw) (g1 : o.r.gw < 4294967296) (hlen : ∀ q, (Z.rs q).length < 1000) :
    Fn w mean mg mb 258 12 150 [.ref wy, .ref o.a] news (fun r n' => r = .none ∧ ∃ Z' many', Ways w.params wy wd k0 k1 Z' many' n' ∧ Added news Z Z' o o.r.net pre ∧ (∀ p ∈ news, p.1 ≠ wd → Z.Off p.1 → p ∈ n')) := by
  unfold Fn; k_fill; intro dp un gd cn cs a ccd cl outer A₀ base h₀ L m s Q E B F X N T hk hdp hun hret
  obtain ⟨o1, o2⟩ := ho
  have ⟨rt, tm, hrt, hw2⟩ := W.dict
  have hw1 := W.inst
  refine wpAny_call ?_; ktr_enter
  repeat' ((fail_if_success (with_reducible show wpAny _ _ (exec (Stmt.For _ _ _ _ _) _) _ _ _)); (fail_if_success (with_reducible show wpAny _ _ (pyIter _) _ _ _)); (fail_if_success (with_reducible show wpAny _ _ (exec (Stmt.Raise _ _ _) _) _ _ _)); (fail_if_success (with_reducible show wpAny _ _ (exec (Stmt.While _ _ _ _) _) _ _ _)); (fail_if_success (with_reducible show wpAny _ _ (call (Value.ref 124) _) _ _ _)); first | (k_unfold; (try dsimp only)) | walk1 | (dsimp only; walk1) | (leave1; (try dsimp only)))
  rw [hpre]
  refine fn_use (c_net' w mean mg mb o.r.net pre _ _ _ hp h0 h1 hd) (by k_asm) (by k_asm) (by k_asm) (by k_asm) (by k_asm) (by first | exact rfl | assumption) (by ktr_room) (by first | ktr_units | (have hcL9 := cLine_is; (try simp only [units_under_make, units_in1, units_deeper, Around.mark_units, units_caller] at *); (try dsimp only [ktrTop] at *); omega)) ?_
  rintro _ news h' tk' F6 N6 ⟨⟨tb, rfl⟩, rfl⟩
  repeat' ((fail_if_success (with_reducible show wpAny _ _ (exec (Stmt.For _ _ _ _ _) _) _ _ _)); (fail_if_success (with_reducible show wpAny _ _ (pyIter _) _ _ _)); (fail_if_success (with_reducible show wpAny _ _ (exec (Stmt.Raise _ _ _) _) _ _ _)); (fail_if_success (with_reducible show wpAny _ _ (exec (Stmt.While _ _ _ _) _) _ _ _)); (fail_if_success (with_reducible show wpAny _ _ (call (Value.ref 251) _) _ _ _)); first | (k_unfold; (try dsimp only)) | walk1 | (dsimp only; walk1) | (leave1; (try dsimp only)))
  · rename (o.r.net ≠ o.r.net) => hx
    exact absurd rfl hx
  rw [hpre]
  refine fn_use (c_path w mean mg mb wy wd rt k0 k1 tm many Z o.r.net pre _ _ news hw1 hw2 hrt W.tree hp) (by k_asm) (by k_asm) (by k_asm) (by k_asm) (by k_asm) (by first | exact rfl | assumption) (by ktr_room) (by first | ktr_units | (have hcL9 := cLine_is; (try simp only [units_under_make, units_in1, units_deeper, Around.mark_units, units_caller] at *); (try dsimp only [ktrTop] at *); omega)) ?_
  rintro _ n1 h' tk' F7 N7 ⟨Z1, d, fl, vs, n, rfl, hfl, hfo, hZ1, I1, G1, fr1⟩
  have UN := one_of N
  have p1 : (o.a, instObj 163 o.d) ∈ n1 := fr1 _ o1 fun q e hq => UN.ne o1 (W.tree.nd _ _ hq).hd inst_ne_br
  have p2 : (o.d, o.obj w.params) ∈ n1 := fr1 _ o2 fun q e hq => UN.ne o2 (W.tree.nd _ _ hq).hd ro_ne_br
  have q1 : (wy, instObj 296 wd) ∈ n1 := fr1 _ hw1 fun q e hq => UN.ne hw1 (W.tree.nd _ _ hq).hd inst_ne_br
  have q2 : (wd, rsObj w.params k0 k1 tm rt.b many) ∈ n1 := fr1 _ hw2 fun q e hq => UN.ne hw2 (W.tree.nd _ _ hq).hd rs_ne_br
  have D := I1.nd _ _ hZ1
  have Db := D.hb
  have Dd := D.hd
  have Dr := D.hr
  have hdl : d.rs.length < 1000 := by
    rcases G1.new _ _ hZ1 with h | ⟨h, _⟩
    · have := hlen (bits o.r.net pre)
      rwa [tr_rs_some h] at this
    · rw [h]; decide
  repeat' ((fail_if_success (with_reducible show wpAny _ _ (exec (Stmt.For _ _ _ _ _) _) _ _ _)); (fail_if_success (with_reducible show wpAny _ _ (pyIter _) _ _ _)); (fail_if_success (with_reducible show wpAny _ _ (exec (Stmt.Raise _ _ _) _) _ _ _)); (fail_if_success (with_reducible show wpAny _ _ (exec (Stmt.While _ _ _ _) _) _ _ _)); first | (k_unfold; (try dsimp only)) | walk1 | (dsimp only; walk1) | (leave1; (try dsimp only)))
  (rename Fr _ _ _ _ => lF); with_unfolding_all refine' For_invVF lF ?k1 ?k2 ?_; (case k1 => exact rfl); (case k2 => exact rfl)
  repeat' ((fail_if_success (with_reducible show wpAny _ _ (exec (Stmt.For _ _ _ _ _) _) _ _ _)); (fail_if_success (with_reducible show wpAny _ _ (pyIter _) _ _ _)); (fail_if_success (with_reducible show wpAny _ _ (exec (Stmt.Raise _ _ _) _) _ _ _)); (fail_if_success (with_reducible show wpAny _ _ (exec (Stmt.While _ _ _ _) _) _ _ _)); first | (k_unfold; (try dsimp only)) | walk1 | (dsimp only; walk1) | (leave1; (try dsimp only)))
  (rename IsRange _ _ _ _ _ _ _ _ => hRg)
  (rename Fr _ _ _ _ => F1)
  (rename News _ _ _ _ => N1)
  refine it_upto (fun i m nx => nx = n1 ∧ m "branch" = some (.ref d.b) ∧ m "route" = some (.ref o.a) ∧ m "self" = some (.ref wy) ∧ ∀ (j : Nat) (y : Ro), j < i → d.rs[j]? = some y → ¬ (y.r.gw = o.r.gw ∧ y.r.face = o.r.face)) hRg rfl (by omega) F1 N1 ⟨rfl, rfl, rfl, rfl, fun _ _ h => absurd h (Nat.not_lt_zero _)⟩ ?_ ?_
  · rintro i ti m₁ nx h tk Ia io hi ⟨rfl, hb, hr, hs, hno⟩ hoff hio F2 N2
    clear F1 N1 hRg
    replace F2 := fr_know F2 (y0 := "branch") (v0 := .ref d.b) (by rw [if_neg (by decide)]; exact hb)
    replace F2 := fr_know F2 (y0 := "route") (v0 := .ref o.a) (by rw [if_neg (by decide), if_neg (by decide)]; exact hr)
    replace F2 := fr_know F2 (y0 := "self") (v0 := .ref wy) (by rw [if_neg (by decide), if_neg (by decide), if_neg (by decide)]; exact hs)
    obtain ⟨y, hy⟩ : ∃ y, d.rs[i]? = some y := ⟨d.rs[i], by simp [hi]⟩
    have hyv : (d.rs.map fun o => Value.ref o.a)[i]? = some (.ref y.a) := by rw [List.getElem?_map, hy]; rfl
    have ⟨y1, y2⟩ := D.ho y (List.mem_of_getElem? hy)
    repeat' ((fail_if_success (with_reducible show wpAny _ _ (exec (Stmt.For _ _ _ _ _) _) _ _ _)); (fail_if_success (with_reducible show wpAny _ _ (pyIter _) _ _ _)); (fail_if_success (with_reducible show wpAny _ _ (exec (Stmt.Raise _ _ _) _) _ _ _)); (fail_if_success (with_reducible show wpAny _ _ (exec (Stmt.While _ _ _ _) _) _ _ _)); first | (k_unfold; (try dsimp only)) | walk1 | (dsimp only; walk1) | (leave1; (try dsimp only)))
    · dsimp only
      k_steps
      dsimp only [TurnEnd]
      k_steps
      rename (y.r.gw = o.r.gw) => e1
      rename (y.r.face = o.r.face) => e2
      have eu := upd_set hy hno ⟨e1, e2⟩
      have el : ((d.rs.map fun o => Value.ref o.a).set (i : Int).toNat (Value.ref o.a)).toArray = ((upd d.rs o).map fun o => Value.ref o.a).toArray := by
        rw [eu, Int.toNat_natCast, List.map_set]
      have ⟨w1, w2, w3⟩ := add_end (k := d.n) W UN (one_of (news_sub N2 fun _ h => .tail _ h)) hrt G1 I1 hZ1 p1 p2 q1 q2 fr1
      rename News h₀ _ _ _ => kN
      rw [el] at kN
      exact hret _ _ _ _ (by k_asm) (news_sub kN (put_mono fun _ h => .tail _ h)) ⟨rfl, _, _, w1, w2, fun p hp _ => w3 p hp⟩
    · refine turn_end nx (by k_asm) (by k_asm) hoff ⟨rfl, rfl, rfl, rfl, fun j z hj hz => ?_⟩
      rename (y.r.gw = o.r.gw) => e1
      rename (y.r.face ≠ o.r.face) => e2
      rcases Nat.lt_succ_iff_lt_or_eq.mp hj with hj | rfl
      · exact hno j z hj hz
      · rw [hy] at hz
        rw [← Option.some.inj hz]
        exact fun h => e2 h.2
    · refine turn_end nx (by k_asm) (by k_asm) hoff ⟨rfl, rfl, rfl, rfl, fun j z hj hz => ?_⟩
      rename (y.r.gw ≠ o.r.gw) => e1
      rcases Nat.lt_succ_iff_lt_or_eq.mp hj with hj | rfl
      · exact hno j z hj hz
      · rw [hy] at hz
        rw [← Option.some.inj hz]
        exact fun h => e1 h.1
  · rintro m₁ nx h tk ⟨rfl, hb, hr, hs, hno⟩ F2 N2
    replace F2 := fr_know F2 hb
    replace F2 := fr_know F2 (y0 := "route") (v0 := .ref o.a) (by rw [if_neg (by decide)]; exact hr)
    replace F2 := fr_know F2 (y0 := "self") (v0 := .ref wy) (by rw [if_neg (by decide), if_neg (by decide)]; exact hs)
    clear F1 N1 hRg
    have q1' := mem_put_ne (o := listOf ((d.rs.map fun o => Value.ref o.a).toArray.push (.ref o.a)) (d.n + 1)) q1 ((one_of N2).ne q1 Dr inst_ne_list)
    have q2' := mem_put_ne (o := listOf ((d.rs.map fun o => Value.ref o.a).toArray.push (.ref o.a)) (d.n + 1)) q2 ((one_of N2).ne q2 Dr rs_ne_list)
    repeat' ((fail_if_success (with_reducible show wpAny _ _ (exec (Stmt.For _ _ _ _ _) _) _ _ _)); (fail_if_success (with_reducible show wpAny _ _ (pyIter _) _ _ _)); (fail_if_success (with_reducible show wpAny _ _ (exec (Stmt.Raise _ _ _) _) _ _ _)); (fail_if_success (with_reducible show wpAny _ _ (exec (Stmt.While _ _ _ _) _) _ _ _)); first | (k_unfold; (try dsimp only)) | walk1 | (dsimp only; walk1) | (leave1; (try dsimp only)))
    have eu : upd d.rs o = d.rs ++ [o] := upd_app fun j y hy => hno j y (by
      rcases Nat.lt_or_ge j d.rs.length with h | h
      · exact h
      · rw [List.getElem?_eq_none h] at hy; cases hy) hy
    have el : (d.rs.map fun o => Value.ref o.a).toArray.push (Value.ref o.a) = ((upd d.rs o).map fun o => Value.ref o.a).toArray := by
      rw [eu]; simp
    rename News h₀ _ _ _ => kN
    rw [el] at kN q1' q2'
    have ⟨w1, w2, w3⟩ := add_end (k := d.n + 1) W UN (one_of N2) hrt G1 I1 hZ1 p1 p2 q1 q2 fr1
    have U2 : One (put d.rl (listOf ((upd d.rs o).map fun o => Value.ref o.a).toArray (d.n + 1)) nx) := one_put (one_of N2) _ _
    obtain ⟨rt', tm', hr', hd'⟩ := w1.dict
    have eb : rt'.b = rt.b := by
      have h := U2 _ _ _ hd' q2'
      have h := congrArg Obj.data h
      simp only [rsObj, dictOf] at h
      injection h with h1
      simp at h1
      exact h1.1
    rw [← eb] at kN
    exact hret _ _ _ _ (by k_asm) kN ⟨rfl, _, _, ways_many w1 U2 hr', w2, fun p hp hw ho => mem_put_ne (w3 p hp ho) hw⟩
end Mine
end

section
set_option Elab.async false
set_option maxRecDepth 100000
set_option maxHeartbeats 8000000
set_option linter.all false
namespace Mine
open PySem PySem.W PyProof.Rows

local macro_rules | `(tactic| k_handed) => `(tactic| assumption)
local macro_rules | `(tactic| k_mem) => `(tactic| assumption)
local macro_rules | `(tactic| k_all) => `(tactic| exact wo_ne)
local macro_rules | `(tactic| k_room) => `(tactic| ktr_room)
local macro_rules | `(tactic| units_room) => `(tactic| ktr_units)
local macro_rules | `(tactic| k_enter) => `(tactic| (refine' code_def ?k1 ?k2 ?k3 ?k4 ?k5 ?kA ?kF ?kK ?k6 ?k7 ?k8 ?k9 ?kB ?_ ?c2 ?c3 ?c4 ?c5; (case kA => exact rfl); (case kF => exact rfl); (case kK => first | exact rfl | assumption); (case k1 => k_asm); (case k2 => k_asm); (case k3 => k_asm); (case k4 => k_asm); (case k5 => k_asm); (case k6 => k_is); (case k7 => k_is); (case k8 => ktr_room); (case k9 => first | exact BindsTo.of_eq rfl | exact binds_K (by k_in) rfl (by k_is) rfl rfl rfl); (case c5 => decide); (case kB => exact locs rfl); (case c2 => exact rfl); (case c3 => exact rfl); (case c4 => exact rfl); k_whole; intro g' L' h' FG' F' N' B' X' T'; (try dsimp only); (try k_fold)))
local macro_rules | `(tactic| walk_at "subscriptTail") => `(tactic| (k_here; (with_reducible show wpAny _ _ (subscriptTail _ _ (Value.ref _) (Value.int _ _)) _ _ _); first
  | ((with_reducible show wpAny _ _ (subscriptTail _ (PySem.Expr.UnaryOp _ _ _) (Value.ref _) (Value.int _ _)) _ _ _); refine' item_last ?k1 ?k2 ?_ ?k7; (case k1 => k_asm); (case k2 => k_mem); (case k7 => with_unfolding_all rfl); k_whole)
  | (refine' item_P ?k1 ?k2 ?k3 ?k4 ?k5 ?_ ?k7; (case k1 => k_asm); (case k2 => k_mem); (case k3 => omega); (case k4 => omega); (case k5 => first | with_reducible assumption | ((with_reducible rw [Int.toNat_natCast]); with_reducible assumption) | exact rfl); (case k7 => with_unfolding_all rfl); k_whole)
  | (refine' tupItem_P ?k1 ?k2 ?k3 ?k4 ?k5 ?_ ?k7; (case k1 => k_asm); (case k2 => k_mem); (case k3 => omega); (case k4 => omega); (case k5 => first | with_reducible assumption | ((with_reducible rw [Int.toNat_natCast]); with_reducible assumption) | exact rfl); (case k7 => with_unfolding_all rfl); k_whole)))
local macro_rules | `(tactic| walk_at "setItem ref int") => `(tactic| (k_here; k_dflt (refine' setAt_P ?k1 ?k2 ?k3 ?k4 ?k5 ?k6 ?_; (case k1 => k_asm); (case k2 => k_asm); (case k3 => k_mem); (case k4 => omega); (case k5 => omega); (case k6 => first | (simp; done) | (simp only [Int.toNat_natCast, List.length_map]; omega) | (simp; omega)); k_whole; intro h' F' N')))
local macro_rules | `(tactic| walk_at "call builtin:list.append") => `(tactic| (k_here; (with_reducible show wpAny _ _ (call (Value.builtin _) [Value.ref _, _]) _ _ _); k_dflt (refine' append_P ?k1 ?k2 ?k3 ?_ ?z; (case k1 => k_asm); (case k2 => k_asm); (case k3 => k_mem); (case z => simp only [sizeLine_eq, List.size_toArray, List.length_append, List.length_map, List.length_cons, List.length_nil]; omega); k_whole; intro h' F' N')))
local macro_rules | `(tactic| walk_at "call builtin:len") => `(tactic| (k_here; (with_reducible show wpAny _ _ (call (Value.builtin "len") [Value.ref _]) _ _ _); k_dflt (refine' len_P ?k1 ?k2 ?k3 ?_; (case k1 => k_asm); (case k2 => k_mem); (case k3 => (try simp only [List.length_map, List.length_append, List.length_cons, List.length_nil]); omega); k_whole); (try simp only [List.length_map])))
local macro_rules | `(tactic| walk_at "compareOp NotEq ref ref") => `(tactic| (k_here; (refine' ne_empty_P ?k1 ?k2 ?k3 ?k4 ?_; (case k1 => k_asm); (case k3 => k_mem); (case k2 => k_mem); (case k4 => units_room); k_whole)))
local macro_rules | `(tactic| walk_at "compareOp Eq ref ref") => `(tactic| (k_here; (refine' eq_empty_P ?k1 ?k2 ?k3 ?k4 ?_; (case k1 => k_asm); (case k3 => k_mem); (case k2 => k_mem); (case k4 => units_room); k_whole)))

local macro_rules | `(tactic| walk_at "setAttr ref") => `(tactic| (k_here; k_dflt (refine' set_dict_P ?k1 ?k2 ?k3 ?k4 ?k5 ?k12 ?k6 ?k7 ?k8 ?k9 ?k10 ?k11 ?k13 ?_; (case k1 => k_asm); (case k2 => k_asm); (case k3 => k_asm); (case k4 => k_inst); (case k5 => exact rfl); (case k6 => k_is); (case k7 => k_is); (case k8 => k_is); (case k9 => k_is); (case k10 => k_get); (case k11 => k_put); (case k12 => k_mem); (case k13 => exact Nat.le_of_ble_eq_true rfl); k_whole; intro h' F' N')))

/-- the best route of the longest net among x's first i bits -/
def lookT (Z : Tr) (x : Int) : Nat → Option Ro
  | 0 => best? (Z.rs [])
  | i + 1 => if Z.rs (bits x (i + 1)) = [] then lookT Z x i else best? (Z.rs (bits x (i + 1)))
theorem look_stop {P : Params} {Z : Tr} {l : Ledger} (I : TrIn P Z l) {x : Int} {i : Nat} (h : Z (bits x i) = none) : ∀ j, i ≤ j → lookT Z x j = lookT Z x i := by
  intro j hj
  induction j with
  | zero => rw [Nat.le_zero.mp hj]
  | succ j ih =>
    rcases Nat.lt_or_ge j i with h1 | h1
    · rw [show j + 1 = i from by omega]
    · have hn : Z (bits x (j + 1)) = none := by
        cases hz : Z (bits x (j + 1)) with
        | none => rfl
        | some d =>
          obtain ⟨e, he⟩ := closed_bits I (x := x) (n := j + 1) ⟨d, hz⟩ hj
          rw [h] at he; cases he
      have e : lookT Z x (j + 1) = lookT Z x j := by
        rw [lookT, tr_rs_none hn, if_pos rfl]
      rw [e]
      exact ih h1
theorem look_skip {Z : Tr} {x : Int} {i : Nat} (h : Z.rs (bits x (i + 1)) = []) : lookT Z x (i + 1) = lookT Z x i := by rw [lookT, if_pos h]
theorem look_take {Z : Tr} {x : Int} {i : Nat} (h : Z.rs (bits x (i + 1)) ≠ []) : lookT Z x (i + 1) = best? (Z.rs (bits x (i + 1))) := by rw [lookT, if_neg h]
theorem look_mem {Z : Tr} {x : Int} {o : Ro} : ∀ {n : Nat}, lookT Z x n = some o → ∃ q, o ∈ Z.rs q
  | 0, h => ⟨_, best_mem h⟩
  | n + 1, h => by
    unfold lookT at h
    split at h
    · exact look_mem h
    · exact ⟨_, best_mem h⟩
theorem rs_in {P : Params} {Z : Tr} {l : Ledger} (I : TrIn P Z l) {q : List Bool} {o : Ro} (h : o ∈ Z.rs q) : o.In P l := by
  unfold Tr.rs at h
  split at h
  · cases h
  · rename_i d hd; exact (I.nd _ _ hd).ho o h

theorem c_best' (w mean mg mb) (Z : Tr) (p : List Bool) (d : Nd) (news : Ledger) (I : TrIn w.params Z news) (hp : Z p = some d) :
    Fn w mean mg mb 209 3 20 [.ref d.b] news (fun r n' => r = refO (best? (Z.rs p)) ∧ n' = news) := by
  have D := I.nd p d hp
  have := c_best w mean mg mb d.b d.bd d.rl d.k0 d.k1 d.k2 _ _ d.rs d.n news D.hb D.hd D.hr D.ho
  rwa [tr_rs_some hp]
theorem c_find (w mean mg mb) (wy wd : Addr) (k0 k1 : Tok) (Z : Tr) (many : Int) (x : Int) (t : Tok) (news : Ledger) (W : Ways w.params wy wd k0 k1 Z many news) (hlen : ∀ q, (Z.rs q).length < 1000) :
    Fn w mean mg mb 286 9 100 [.ref wy, .int x t] news (fun r n' => r = refO (lookT Z x 32) ∧ n' = news) := by
  unfold Fn; k_fill; intro dp un gd cn cs a ccd cl outer A₀ base h₀ L m s Q E B F X N T hk hdp hun hret
  have ⟨rt, tm, hrt, hw2⟩ := W.dict
  have hw1 := W.inst
  have I := W.tree
  have D := I.nd _ _ hrt
  have Db := D.hb
  have Dd := D.hd
  refine wpAny_call ?_; ktr_enter
  repeat' ((fail_if_success (with_reducible show wpAny _ _ (exec (Stmt.For _ _ _ _ _) _) _ _ _)); (fail_if_success (with_reducible show wpAny _ _ (pyIter _) _ _ _)); (fail_if_success (with_reducible show wpAny _ _ (exec (Stmt.Raise _ _ _) _) _ _ _)); (fail_if_success (with_reducible show wpAny _ _ (exec (Stmt.While _ _ _ _) _) _ _ _)); (fail_if_success (with_reducible show wpAny _ _ (call (Value.ref 209) _) _ _ _)); first | (k_unfold; (try dsimp only)) | walk1 | (dsimp only; walk1) | (leave1; (try dsimp only)))
  refine fn_use (c_best' w mean mg mb Z [] rt _ I hrt) (by k_asm) (by k_asm) (by k_asm) (by k_asm) (by k_asm) (by first | exact rfl | assumption) (by ktr_room) (by first | ktr_units | (have hcL9 := cLine_is; (try simp only [units_under_make, units_in1, units_deeper, Around.mark_units, units_caller] at *); (try dsimp only [ktrTop] at *); omega)) ?_
  rintro _ news h' tk' F6 N6 ⟨rfl, rfl⟩
  repeat' ((fail_if_success (with_reducible show wpAny _ _ (exec (Stmt.For _ _ _ _ _) _) _ _ _)); (fail_if_success (with_reducible show wpAny _ _ (pyIter _) _ _ _)); (fail_if_success (with_reducible show wpAny _ _ (exec (Stmt.Raise _ _ _) _) _ _ _)); (fail_if_success (with_reducible show wpAny _ _ (exec (Stmt.While _ _ _ _) _) _ _ _)); first | (k_unfold; (try dsimp only)) | walk1 | (dsimp only; walk1) | (leave1; (try dsimp only)))
  (rename Fr _ _ _ _ => F1)
  (rename News _ _ _ _ => N1)
  refine While_inv2 (n₀ := 32) (fun n m nx => nx = news ∧ ∃ i tp, n + i = 32 ∧ m "branch" = some (Z.val (bits x i)) ∧ m "found" = some (refO (lookT Z x i)) ∧ m "place" = some (.int (i : Int) tp) ∧ m "address" = some (.int x t)) F1 N1 ⟨rfl, 0, _, rfl, by rw [bits_zero, Tr.val_some hrt]; rfl, rfl, rfl, rfl⟩ ?_
  rintro n m₁ nx h tk F2 N2 ⟨rfl, i, tp, hi, hb, hf, hpl, hx⟩
  clear F1 N1
  replace F2 := fr_know F2 hf
  replace F2 := fr_know F2 (y0 := "place") (v0 := .int (i : Int) tp) (by rw [if_neg (by decide)]; exact hpl)
  replace F2 := fr_know F2 (y0 := "address") (v0 := .int x t) (by rw [if_neg (by decide), if_neg (by decide)]; exact hx)
  rcases hz : Z (bits x i) with _ | d
  · replace F2 := fr_know F2 (y0 := "branch") (v0 := .none) (by rw [if_neg (by decide), if_neg (by decide), if_neg (by decide), hb, Tr.val_none hz])
    repeat' ((fail_if_success (with_reducible show wpAny _ _ (exec (Stmt.For _ _ _ _ _) _) _ _ _)); (fail_if_success (with_reducible show wpAny _ _ (pyIter _) _ _ _)); (fail_if_success (with_reducible show wpAny _ _ (exec (Stmt.Raise _ _ _) _) _ _ _)); (fail_if_success (with_reducible show wpAny _ _ (exec (Stmt.While _ _ _ _) _) _ _ _)); first | (k_unfold; (try dsimp only)) | walk1 | (dsimp only; walk1) | (leave1; (try dsimp only)))
    exact hret _ _ _ _ (by k_asm) (by k_asm) ⟨by rw [look_stop I hz 32 (by omega)], rfl⟩
  · replace F2 := fr_know F2 (y0 := "branch") (v0 := .ref d.b) (by rw [if_neg (by decide), if_neg (by decide), if_neg (by decide), hb, Tr.val_some hz])
    have D := I.nd _ _ hz
    have Db := D.hb
    have Dd := D.hd
    repeat' ((fail_if_success (with_reducible show wpAny _ _ (exec (Stmt.For _ _ _ _ _) _) _ _ _)); (fail_if_success (with_reducible show wpAny _ _ (pyIter _) _ _ _)); (fail_if_success (with_reducible show wpAny _ _ (exec (Stmt.Raise _ _ _) _) _ _ _)); (fail_if_success (with_reducible show wpAny _ _ (exec (Stmt.While _ _ _ _) _) _ _ _)); (fail_if_success (with_reducible show wpAny _ _ (call (Value.ref 223) _) _ _ _)); first | (k_unfold; (try dsimp only)) | walk1 | (dsimp only; walk1) | (leave1; (try dsimp only)))
    · have hi32 : i < 32 := by omega
      refine fn_use (c_bit w mean mg mb x i _ _ _ hi32) (by k_asm) (by k_asm) (by k_asm) (by k_asm) (by k_asm) (by first | exact rfl | assumption) (by ktr_room) (by first | ktr_units | (have hcL9 := cLine_is; (try simp only [units_under_make, units_in1, units_deeper, Around.mark_units, units_caller] at *); (try dsimp only [ktrTop] at *); omega)) ?_
      rintro _ nx h' tk' F3 N3 ⟨⟨tb, rfl⟩, rfl⟩
      rcases hc : Z (bits x i ++ [bitAt x i]) with _ | e
      · repeat' ((fail_if_success (with_reducible show wpAny _ _ (exec (Stmt.For _ _ _ _ _) _) _ _ _)); (fail_if_success (with_reducible show wpAny _ _ (pyIter _) _ _ _)); (fail_if_success (with_reducible show wpAny _ _ (exec (Stmt.Raise _ _ _) _) _ _ _)); (fail_if_success (with_reducible show wpAny _ _ (exec (Stmt.While _ _ _ _) _) _ _ _)); (fail_if_success (with_reducible show wpAny _ _ (call (Value.ref 188) _) _ _ _)); first | (k_unfold; (try dsimp only)) | walk1 | (dsimp only; walk1) | (leave1; (try dsimp only)))
        refine fn_use (c_child' w mean mg mb Z (bits x i) d (bitAt x i) .none _ _ I hz (Tr.val_none hc)) (by k_asm) (by k_asm) (by k_asm) (by k_asm) (by k_asm) (by first | exact rfl | assumption) (by ktr_room) (by first | ktr_units | (have hcL9 := cLine_is; (try simp only [units_under_make, units_in1, units_deeper, Around.mark_units, units_caller] at *); (try dsimp only [ktrTop] at *); omega)) ?_
        rintro _ nx h' tk' F4 N4 ⟨rfl, rfl⟩
        repeat' ((fail_if_success (with_reducible show wpAny _ _ (exec (Stmt.For _ _ _ _ _) _) _ _ _)); (fail_if_success (with_reducible show wpAny _ _ (pyIter _) _ _ _)); (fail_if_success (with_reducible show wpAny _ _ (exec (Stmt.Raise _ _ _) _) _ _ _)); (fail_if_success (with_reducible show wpAny _ _ (exec (Stmt.While _ _ _ _) _) _ _ _)); first | (k_unfold; (try dsimp only)) | walk1 | (dsimp only; walk1) | (leave1; (try dsimp only)))
        rw [← bits_succ] at hc
        refine ⟨_, _, _, nx, n - 1, rfl, by k_asm, by k_asm, by omega, rfl, i + 1, _, by omega, ?_, ?_, rfl, rfl⟩
        · rw [Tr.val_none hc]; rfl
        · rw [look_skip (tr_rs_none hc)]; rfl
      · have De := I.nd _ _ hc
        have eb := De.hb
        have ed := De.hd
        have er := De.hr
        repeat' ((fail_if_success (with_reducible show wpAny _ _ (exec (Stmt.For _ _ _ _ _) _) _ _ _)); (fail_if_success (with_reducible show wpAny _ _ (pyIter _) _ _ _)); (fail_if_success (with_reducible show wpAny _ _ (exec (Stmt.Raise _ _ _) _) _ _ _)); (fail_if_success (with_reducible show wpAny _ _ (exec (Stmt.While _ _ _ _) _) _ _ _)); (fail_if_success (with_reducible show wpAny _ _ (call (Value.ref 188) _) _ _ _)); first | (k_unfold; (try dsimp only)) | walk1 | (dsimp only; walk1) | (leave1; (try dsimp only)))
        refine fn_use (c_child' w mean mg mb Z (bits x i) d (bitAt x i) (.ref e.b) _ _ I hz (Tr.val_some hc)) (by k_asm) (by k_asm) (by k_asm) (by k_asm) (by k_asm) (by first | exact rfl | assumption) (by ktr_room) (by first | ktr_units | (have hcL9 := cLine_is; (try simp only [units_under_make, units_in1, units_deeper, Around.mark_units, units_caller] at *); (try dsimp only [ktrTop] at *); omega)) ?_
        rintro _ nx h' tk' F4 N4 ⟨rfl, rfl⟩
        have hrs : (e.rs.map fun o => Value.ref o.a).isEmpty = e.rs.isEmpty := by cases e.rs <;> rfl
        rw [← bits_succ] at hc
        repeat' ((fail_if_success (with_reducible show wpAny _ _ (exec (Stmt.For _ _ _ _ _) _) _ _ _)); (fail_if_success (with_reducible show wpAny _ _ (pyIter _) _ _ _)); (fail_if_success (with_reducible show wpAny _ _ (exec (Stmt.Raise _ _ _) _) _ _ _)); (fail_if_success (with_reducible show wpAny _ _ (exec (Stmt.While _ _ _ _) _) _ _ _)); (fail_if_success (with_reducible show wpAny _ _ (call (Value.ref 209) _) _ _ _)); first | (k_unfold; (try dsimp only)) | walk1 | (dsimp only; walk1) | (leave1; (try dsimp only)))
        · rename ((e.rs.map fun o => Value.ref o.a).isEmpty = true) => hm
          rw [hrs, List.isEmpty_iff] at hm
          rename News _ _ _ _ => N9
          refine ⟨_, _, _, nx, n - 1, rfl, by k_asm, news_sub N9 fun _ h => .tail _ h, by omega, rfl, i + 1, _, by omega, ?_, ?_, rfl, rfl⟩
          · rw [Tr.val_some hc]; rfl
          · rw [look_skip (by rw [tr_rs_some hc, hm])]; rfl
        · rename ((e.rs.map fun o => Value.ref o.a).isEmpty = false) => hm
          have hm : Z.rs (bits x (i + 1)) ≠ [] := by
            rw [tr_rs_some hc]
            intro h
            rw [h] at hm
            cases hm
          refine fn_use (c_best' w mean mg mb Z (bits x (i + 1)) e _ (tr_grow I fun _ h => .tail _ h) hc) (by k_asm) (by k_asm) (by k_asm) (by k_asm) (by k_asm) (by first | exact rfl | assumption) (by ktr_room) (by first | ktr_units | (have hcL9 := cLine_is; (try simp only [units_under_make, units_in1, units_deeper, Around.mark_units, units_caller] at *); (try dsimp only [ktrTop] at *); omega)) ?_
          rintro _ ny h' tk' F5 N5 ⟨rfl, rfl⟩
          repeat' ((fail_if_success (with_reducible show wpAny _ _ (exec (Stmt.For _ _ _ _ _) _) _ _ _)); (fail_if_success (with_reducible show wpAny _ _ (pyIter _) _ _ _)); (fail_if_success (with_reducible show wpAny _ _ (exec (Stmt.Raise _ _ _) _) _ _ _)); (fail_if_success (with_reducible show wpAny _ _ (exec (Stmt.While _ _ _ _) _) _ _ _)); first | (k_unfold; (try dsimp only)) | walk1 | (dsimp only; walk1) | (leave1; (try dsimp only)))
          rename News _ _ _ _ => N9
          refine ⟨_, _, _, nx, n - 1, rfl, by k_asm, news_sub N9 fun _ h => .tail _ h, by omega, rfl, i + 1, _, by omega, ?_, ?_, rfl, rfl⟩
          · rw [Tr.val_some hc]; rfl
          · rw [look_take hm]; rfl
    · have hi32 : i = 32 := by omega
      subst hi32
      exact hret _ _ _ _ (by k_asm) (by k_asm) ⟨rfl, rfl⟩
end Mine
end

section
set_option Elab.async false
set_option maxRecDepth 100000
set_option maxHeartbeats 8000000
set_option linter.all false
namespace Mine
open PySem PySem.W PyProof.Rows

open PySem.Calls PySem.Builtin PySem.Builtin.ObjectAttr
section
variable {M : Model} {A : Around} {E : Value → Shared → Prop} {h : Heap} {g : Array GenState} {d : Drawn} {t : Nat} {os : OsState}
variable {nm q : Str} {C N : Addr} {bs bm bmB : List Value} {hdct : Bool} {sn : List Str} {sub : List Value} {ab : Bool} {col : Option Bool} {dd : Option Addr} {k0 k1 k2 k3 k5 : Option Value} {B newId initId : String}
theorem x_check_new (F : ExcBaseFacts B newId initId bmB) (cB : bm.contains (.type B) = true) {rest : List Value} {Q : Unit → Shared → Prop} (hC : h.get? C = some (excClassObj nm q C N bs bm hdct sn sub ab col dd k0 k1 k2 k3 k5 newId))
    (hq : Q () ⟨h, g, d, t, os⟩) : wpAny M A (checkBuiltinCall newId ⟨.ref C :: rest, []⟩) Q E ⟨h, g, d, t, os⟩ := by
  have hc : (Value.ref C :: bm).contains (.type B) = true := by rw [List.contains_cons, cB, Bool.or_true]
  have hs := F.noStar
  simp only [checkBuiltinCall, F.newKind, F.newSplit, F.newRow]
  repeat (first | refine wpAny_loadPart_at hC ?_ | (refine wpAny_isSubtype_exc hC ?_; rw [hc]) | refine wpAny_staticBase_exc hC ?_ | refine wpAny_madeBy_exc hC ?_ | simp only [bne_self_eq_false, Bool.false_eq_true, if_false] | wp_step)
  exact hq
end
section
variable {prog : Program} {w : World} {A : Around} {R : Result → Shared → Prop} {h : Heap} {g : Array GenState} {d : Drawn} {t : Nat} {os : OsState}
variable {nm q : Str} {C N : Addr} {bs bm bmB : List Value} {hdct : Bool} {sn : List Str} {sub : List Value} {ab : Bool} {col : Option Bool} {dd : Option Addr} {k0 k1 k2 k3 k5 : Option Value} {B newId initId : String}
theorem x_new (F : ExcBaseFacts B newId initId bmB) (cB : bm.contains (.type B) = true) (cA : bm.contains (.type "AttributeError") = false) (cN : bm.contains (.type "NameError") = false) {rest : List Value}
    (hC : h.get? C = some (excClassObj nm q C N bs bm hdct sn sub ab col dd k0 k1 k2 k3 k5 newId))
    (hq : R (.ok (.ret (.ref (h.objs.size + 1)))) ⟨(h.push { cls := .type "tuple", data := .seq rest.toArray }).push
      { cls := .ref C, data := .fields #[.ref h.objs.size, .none, .none, .none, .bool false, .none] }, g, d, t, os⟩) (hrest : rest.length ≤ sizeLine := by size_fits) :
    codeAny (model prog w) A (.builtin newId ⟨.ref C :: rest, []⟩) R ⟨h, g, d, t, os⟩ := by
  have he := F.ends
  have hcB : (Value.ref C :: bm).contains (.type B) = true := by rw [List.contains_cons, cB, Bool.or_true]
  have hcA : (Value.ref C :: bm).contains (.type "AttributeError") = false := by rw [List.contains_cons, cA]; rfl
  have hcN : (Value.ref C :: bm).contains (.type "NameError") = false := by rw [List.contains_cons, cN]; rfl
  refine codeAny_builtinAt F.entry ?_
  unfold Builtin.«BaseException.__new__»
  refine PySem.wpAt_bind ?_
  show PySem.wpAt _ _ _ (stack >>= _) _ _ _
  refine PySem.wpAt_bind (PySem.wpAt_stack fun p below => PySem.wpAt_of_wpAny ?_)
  wp_walk
  refine PySem.wpAt_of_wpAny ?_
  rw [F.owner]
  repeat (first | with_reducible refine wpAny_madeHere_exc F.canon hC ?_ | with_reducible refine wpAny_loadPart_at hC ?_ | (with_reducible refine wpAny_isSubtype_exc hC ?_; first | rw [hcB] | rw [hcA] | rw [hcN]) | wp_step)
  show R _ _
  rw [Heap.size_push]
  exact hq
abbrev exObj (C : Addr) (dd : Option Addr) (t : Addr) : Obj := { cls := .ref C, dict := dd, data := .fields #[.ref t, .none, .none, .none, .bool false, .none] }
abbrev tupOf (rest : List Value) : Obj := { cls := .type "tuple", data := .seq rest.toArray }
theorem x_core {K : Frag} {fI : Addr} {rest : List Value} {Q : Value → Shared → Prop} {E : Value → Shared → Prop} (X : K.In h) (F : ExcBaseFacts B newId initId bmB) (cB : bm.contains (.type B) = true) (cA : bm.contains (.type "AttributeError") = false) (cN : bm.contains (.type "NameError") = false)
    (hC : h.get? C = some (excClassObj nm q C N bs bm hdct sn sub ab col dd k0 k1 k2 k3 k5 newId)) (hi : findIn K (.ref C) "__init__" = some (some (.ref fI))) (hf : typeIn K (.ref fI) = some (.type "function"))
    (hrest : rest.length ≤ sizeLine)
    (hq : codeAny (model prog w) (A.under (.builtin "type.__call__" ⟨.ref C :: rest, []⟩)) (.call (.ref fI) ⟨.ref (h.objs.size + 1) :: rest, []⟩)
      (InitBack (h.objs.size + 1) fun r s' => match r with | .ok (.ret v) => Q v s' | .ok _ => False | .error e => E e s') ⟨(h.push (tupOf rest)).push (exObj C none h.objs.size), g, d, t, os⟩) :
    wpAny (model prog w) A (call (.ref C) rest) Q E ⟨h, g, d, t, os⟩ := by
  have f1 := tc_lookup
  have f2 := tc_bind (.ref C)
  have hT : (⟨h, g, d, t, os⟩ : Shared).TypeIs (.ref C) "type" := ⟨_, hC, rfl⟩
  refine wpAny_call (codeAny_of_tree ?_)
  show wpAny _ _ (callAny (.ref C) _) _ _ _
  repeat (any_goals (first | assumption | with_reducible refine wpAny_loadPart_at hC ?_ | wp_step))
  refine ⟨rfl, ?_⟩
  refine codeAny_call_builtin_at (Code.quiet_builtin _ (by decide +kernel)) entry_typeCall (wpAny_check_type_call_sub hC ?_)
  repeat (first | with_reducible refine wpAny_loadPart_at hC ?_ | with_reducible refine wpAny_madeBy_exc hC ?_ | wp_step)
  refine codeAny_call_builtin_code (Code.quiet_builtin _ F.quiet) (x_check_new F cB hC ?_)
  refine x_new F cB cA cN hC ?_ hrest
  show wpAny _ _ _ _ _ (⟨(h.push (tupOf rest)).push (exObj C none h.objs.size), g, d, t, os⟩ : Shared)
  have k : ∀ b o, h.get? b = some o → ((h.push (tupOf rest)).push (exObj C none h.objs.size)).get? b = some o := fun b o e => Heap.get?_push_of_some _ (Heap.get?_push_of_some _ e)
  have hC₁ := k _ _ hC
  have hget : ((h.push (tupOf rest)).push (exObj C none h.objs.size)).get? (h.objs.size + 1) = some (exObj C none h.objs.size) := by heap_get
  have hcC : (Value.ref C :: bm).contains (.ref C) = true := by simp
  have i1 : Looks (model prog w) ((h.push (tupOf rest)).push (exObj C none h.objs.size)) (typeLookup (.ref C) "__init__") (some (.ref fI)) := (looks_findIn X hi).keeps k
  have b1 : Looks (model prog w) ((h.push (tupOf rest)).push (exObj C none h.objs.size)) (bindSpecial (.ref fI) (.ref (h.objs.size + 1))) (.ref fI, [.ref (h.objs.size + 1)]) := (bind_fn X _ hf).keeps k
  unfold isInstance
  repeat (first | with_reducible refine wpAny_loadPart_at hget ?_ | wp_step)
  show wpAny _ _ (isSubtype (.ref C) (.ref C)) _ _ _
  refine wpAny_isSubtype_exc hC₁ ?_
  rw [hcC]
  have t1 : Looks (model prog w) ((h.push (tupOf rest)).push (exObj C none h.objs.size)) (typeOf (.ref (h.objs.size + 1))) (.ref C) := (Looks.ld hget).andThen .now
  unfold callSpecial? specialOf
  repeat (first | with_reducible refine wpAny_call ?_ | lk)
  refine codeAny_mono hq fun r s' z => ?_
  rcases r with e | (v | _ | _ | _) <;> first | exact z | exact z.elim | skip
  obtain ⟨rfl, z⟩ := z
  exact wpAny_pure (wpAny_pure z)
end
section
variable {prog : Program} {w : World} {A : Around} {E : Value → Shared → Prop} {s : Shared} {K : Frag} {h₀ : Heap} {L C e t : Addr} {m : Str → Option Value} {news : Ledger}
theorem x_set {cd : ClassData} {name : Str} {v : Value} {Q : Unit → Shared → Prop} (F : Fr h₀ L s.heap m) (N : News h₀ L s.heap ((e, exObj C none t) :: news)) (ho : ∀ p ∈ news, p.1 ≠ e) (X₀ : K.In h₀)
    (hs : findIn K (.ref C) "__setattr__" = some (some (.builtin "object.__setattr__"))) (hn : findIn K (.ref C) name = some none) (hc : clsIn K C = some cd) (hm : cd.mro.contains (.type "object") = true) (hne : cd.mro.isEmpty = false) (hd : cd.hasDict = true)
    (hp : ∀ self, refuseLoop self "__setattr__" cd.mro = pure ())
    (h : ∀ h' d tk, Fr h₀ L h' m → News h₀ L h' ((e, exObj C (some d) t) :: news) → Q () { s with heap := h', toks := tk }) :
    wpAny (model prog w) A (setAttr (.ref e) name v) Q E s := by
  have X := X₀.keeps F.keep
  have hx := (N _ (.head _)).1
  obtain ⟨hh, g, dr, tk, os⟩ := s
  dsimp only at F N X hx h ⊢
  have I : InstAt hh e (exObj C none t) C none := ⟨hx, rfl, rfl, trivial⟩
  refine set_plain X I hs ?_
  have SF := PySem.F.store_object
  have sub : Looks (model prog w) hh (isInstance (.ref e) (.type "object")) true := I.type.andThen (looks_mroIn X (by unfold mroIn; rw [hc, Option.bind_some, if_neg (by rw [hne]; decide), hm]))
  refine codeAny_call_builtin SF.slot.plain SF.entry (@check_slot (model prog w) _ _ ⟨hh, g, dr, tk + 1, os⟩ "object.__setattr__" "object" "__setattr__" (.ref e) [.str name tk, v] [] _ SF.kind SF.split sub (SF.args (.ref e) (.str name tk) v) ?_)
  have hmr : Looks (model prog w) hh (mroOf (.ref C)) cd.mro := (looks_clsIn X hc).andThen .now
  rw [osa_eq, refuse_eq]
  refine wpAny_bind (wpAny_bind (I.type.at (wpAny_bind (hmr.at ?_))))
  rw [hp]
  refine wpAny_pure (wpAny_bind (I.type.at (wpAny_bind ((looks_findIn X hn).at (wpAny_bind (wpAny_pure ?_))))))
  show wpAny _ _ (storeInOwnDict (.ref e) (.ref C) (.str name tk) name v false) _ _ _
  unfold storeInOwnDict ownStreamTells ownDictForStores instanceDict
  refine wpAny_bind (wpAny_pure (wpAny_bind (wpAny_bind (wpAny_loadPart hx (wpAny_bind ((looks_clsIn X hc).at ?_))))))
  rw [hd]
  have hx₁ : (hh.push { cls := .type "dict", data := .dict #[] }).get? e = some (exObj C none t) := Heap.get?_push_of_some _ hx
  have hxs : e ≠ hh.objs.size := Nat.ne_of_lt (Heap.lt_size hx)
  show wpAny _ _ (alloc { cls := .type "dict", data := .dict #[] } >>= fun d => (update e fun o => { cls := o.cls, dict := some d, data := o.data, slots := o.slots }) >>= fun _ => dictMade (.ref C) e d) _ _ _
  refine wpAny_bind (wpAny_alloc' (wpAny_bind (wpAny_update' hx₁ (wpAny_pure ?_))))
  have hgd : ((hh.push { cls := .type "dict", data := .dict #[] }).update e fun o => { cls := o.cls, dict := some hh.objs.size, data := o.data, slots := o.slots }).get? hh.objs.size
      = some { cls := .type "dict", data := .dict #[] } := (Heap.get?_update_ne _ _ _ _ hxs.symm).trans (Heap.get?_push_at rfl rfl)
  have hnd : ((hh.push { cls := .type "dict", data := .dict #[] }).update e fun o => { cls := o.cls, dict := some hh.objs.size, data := o.data, slots := o.slots }).Ns hh.objs.size (fun _ => none) :=
    ⟨_, #[], _, hgd, rfl, fun e he => absurd he (by simp), fun _ => rfl⟩
  show wpAny _ _ (storeInDict hh.objs.size (.str name tk) name v) _ _ _
  unfold storeInDict newKeyGuard
  refine wpAny_bind (wpAny_pure (wpAny_bind (wpAny_nsSet1 (Heap.Ns1.of_empty hnd) fun h' hn' hs => ?_)))
  obtain ⟨oD, esD, epD, hoD, hdD, hcD⟩ := hn'.count (Within.cons name v Within.nil)
  refine wpAny_bind (wpAny_lookBehind hoD (by rw [hdD]; exact pastItsLine_dict (Nat.le_trans hcD (by rw [List.length_cons, List.length_nil, sizeLine_eq]; omega))) ?_)
  have keep : ∀ b o, b ≠ e → hh.get? b = some o → h'.get? b = some o := fun b o hbe hb =>
    (hs.2 b (Nat.ne_of_lt (Heap.lt_size hb))).trans ((Heap.get?_update_ne _ _ _ _ hbe).trans (Heap.get?_push_of_some _ hb))
  have he' : h'.get? e = some (exObj C (some hh.objs.size) t) := (hs.2 e hxs).trans (Heap.get?_update_self _ hx₁ rfl)
  refine wpAny_pure (h h' hh.objs.size _ ?_ ?_)
  · obtain ⟨oL, es, ep, hL, r⟩ := F.ns
    exact ⟨⟨oL, es, ep, keep _ _ (fun q => (N _ (.head _)).2.1 q.symm) hL, r⟩, fun b o hb => keep b o (fun q => by have := (N _ (.head _)).2.2; dsimp only at this; rw [← q, hb] at this; cases this) (F.keep b o hb), F.above⟩
  · intro p hp
    rcases List.mem_cons.mp hp with rfl | hp
    · exact ⟨he', (N _ (.head _)).2⟩
    · exact ⟨keep _ _ (ho p hp) (N _ (.tail _ hp)).1, (N _ (.tail _ hp)).2⟩
end
section
variable {M : Model} {A : Around} {E : Value → Shared → Prop} {env : Env}
variable {nm q : Str} {C N : Addr} {bs bm : List Value} {hdct : Bool} {sn : List Str} {sub : List Value} {ab : Bool} {col : Option Bool} {dd : Option Addr} {k0 k1 k2 k3 k5 : Option Value} {newId : String}
theorem x_raise {s : Shared} {ex : PySem.Expr} {pos : Pos} {Q : Flow → Shared → Prop} (hbase : bm.contains (.type "BaseException") = true) (hh : A.handled = none)
    (h : wpAny M A (eval ex env) (fun v s₁ => ∃ a d t, v = .ref a ∧ s₁.heap.get? C = some (excClassObj nm q C N bs bm hdct sn sub ab col dd k0 k1 k2 k3 k5 newId) ∧
      s₁.heap.get? a = some (exObj C d t) ∧ E (.ref a) s₁) E s) :
    wpAny M A (exec (.Raise (some ex) none pos) env) Q E s := by
  have hcB : (Value.ref C :: bm).contains (.type "BaseException") = true := by rw [List.contains_cons, hbase, Bool.or_true]
  show wpAny M A (do standAt pos; raiseStmt env (some (do let v ← eval ex env; standAt pos; pure v)) none) Q E s
  refine wpAny_bind (wpAny_standAt ?_)
  unfold raiseStmt
  dsimp only
  refine wpAny_bind (wpAny_bind (wpAny_mono h (fun v s₁ h₁ => wpAny_bind (wpAny_standAt (wpAny_pure ?_))) fun _ _ x => x))
  obtain ⟨e, d', t, rfl, hC, he, hE⟩ := h₁
  obtain ⟨hp, g, d, tk, os⟩ := s₁
  repeat (first | with_reducible refine wpAny_loadPart_at he ?_ | with_reducible refine wpAny_loadPart_at hC ?_ | (with_reducible refine wpAny_isSubtype_exc hC ?_; rw [hcB]) | wp_step)
  exact wpAny_raiseNew_none hh hE
end
section
variable {M : Model} {A : Around} {s' : Shared} {base g : Heap} {outer : List Env} {L a C : Addr} {m : Str → Option Value} {name : Str} {scope : Scope} {cd : Value} {news : Ledger} {E : Value → Shared → Prop}
theorem x_leave {e t : Addr} {d : Option Addr} {vs : List Value} {news' : Ledger} {Q : Unit → Shared → Prop} (K : Below A base outer g) (F : Fr g L s'.heap m) (N : News g L s'.heap news) (he : (e, exObj C d t) ∈ news) (ht : (t, tupOf vs) ∈ news)
    (hn : ∀ p ∈ news', p ∈ news ∧ p.1 ≠ e ∧ p.1 ≠ t)
    (hQ : ∀ h', RaisedS base g outer e (.ref C) t vs news' h' → g.UpToSlots h' → Q () { s' with heap := h' }) (hk : scope.kind = .function := by rfl) :
    wpAny M (A.deeper (envOf name scope L a cd)) (leaving (envOf name scope L a cd) (.ref e)) Q E s' := by
  have K' := K.push (name := name) (a := a) (cd := cd) F hk
  generalize hFL : (envOf name scope L a cd :: outer).filterMap (·.frame) = FL
  have hin : ∀ env ∈ (envOf name scope L a cd :: outer), ∀ b, env.frame = some b → b ∈ e :: t :: FL := fun env he b hb => .tail _ (.tail _ (by rw [← hFL]; exact List.mem_filterMap.mpr ⟨env, he, hb⟩))
  have ne : base.get? e = none := fresh_of_stays K.stays (N _ he).2.2
  have nt : base.get? t = none := fresh_of_stays K.stays (N _ ht).2.2
  have st : base.StaysIn (hideAll s'.heap (e :: t :: FL)) := fun b o q => hideAll_get _ (K'.stays b o q) fun hm => by
    rcases List.mem_cons.mp hm with rfl | hm
    · rw [ne] at q; cases q
    · rcases List.mem_cons.mp hm with rfl | hm
      · rw [nt] at q; cases q
      · rw [← hFL] at hm
        rw [(K'.frames.mem hm).1] at q; cases q
  have sg : ∀ b o, g.get? b = some o → b ∉ outer.filterMap (·.frame) → (hideAll s'.heap (e :: t :: FL)).get? b = some o := fun b o q nm => hideAll_get _ (F.keep b o q) fun hm => by
    rcases List.mem_cons.mp hm with rfl | hm
    · have := (N _ he).2.2; dsimp only at this; rw [q] at this; cases this
    · rcases List.mem_cons.mp hm with rfl | hm
      · have := (N _ ht).2.2; dsimp only at this; rw [q] at this; cases this
      · rw [← hFL] at hm
        rcases kts_mem hm with z | z
        · rw [z, kts_self F] at q
          cases q
        · exact nm z
  have hl : ∀ q ∈ news', (hideAll s'.heap (e :: t :: FL)).get? q.1 = some q.2 ∧ g.get? q.1 = none ∧ base.get? q.1 = none := fun q hq => by
    obtain ⟨h1, h2, h3⟩ := hn q hq
    refine ⟨hideAll_get _ (N q h1).1 fun hm => ?_, (N q h1).2.2, fresh_of_stays K.stays (N q h1).2.2⟩
    rcases List.mem_cons.mp hm with h | hm
    · exact h2 h
    · rcases List.mem_cons.mp hm with h | hm
      · exact h3 h
      · rw [← hFL] at hm
        obtain ⟨env, he, hf⟩ := List.mem_filterMap.mp hm
        rcases List.mem_cons.mp he with rfl | he
        · exact (N q h1).2.1 (Option.some.inj hf).symm
        · obtain ⟨o, ho, _⟩ := (K.frames.mem (List.mem_filterMap.mpr ⟨env, he, hf⟩)).2
          rw [(N q h1).2.2] at ho; cases ho
  refine wpAny_leaving_firstW (base := hideAll s'.heap (e :: t :: FL)) (a0 := .ref t) K'.stack (funFrames_hide K'.frames hin) rfl (N _ he).1 (fun b o q => of_hideAll _ q) (hideAll_none _ (.head _)) rfl rfl rfl fun h' hL => ?_
  obtain ⟨k1, ⟨_, _, k2⟩, k3, k4⟩ := hL
  exact hQ h' ⟨⟨_, st, sg, hl, ⟨k1, hideAll_none _ (.head _), k2, k3⟩, hideAll_none _ (.tail _ (.head _))⟩, Heap.TupAt.of_slots ⟨_, _, (N _ ht).1, rfl, rfl⟩ k4⟩ ((Heap.UpToSlots.of_keeps F.keep).trans k4)
end
section
variable {prog : Program} {w : World} {A₀ A : Around} {s : Shared} {base h₀ : Heap} {env : Env} {L : Addr} {m : Str → Option Value} {news : Ledger} {K : Frag} {p : Program} {loose : List Str} {mean : ExcName → Option Value} {mg mb : Str → Option Value}
    {R : Result → Shared → Prop} {name qual : Str} {params : Arguments} {body : List Stmt} {scope : Scope} {dV kV doc pm cdv ct oc : Value} {an od : Option Addr} {osl : Array (Option Value)} {f : Addr} {args : Args} {binds : List (Str × Value)}
theorem x_def0 (B : Below A₀ base [] h₀) (F : Fr h₀ L s.heap m) (X₀ : K.In h₀) (N : News h₀ L s.heap news) (T : Top p loose mean mg mb h₀) (hA : A.frames = some [env]) (hf : env.frame = some L) (hke : env.scope.kind = .function)
    (ho : K.lookup f = some ⟨oc, od, .func (fnOf name qual params body scope dV kV doc pm an cdv ct), osl⟩) (hcd : codeIn K cdv qual = true) (hroom : A.depth < recursionLimit)
    (hbind : BindsTo s (fnOf name qual params body scope dV kV doc pm an cdv ct) args binds) (hloc : ∀ y ∈ binds, scope.names.lookup y.1 = some .local)
    (h : ∀ g L' h₁, Fr h₀ L g m → Fr g L' h₁ (fun y => binds.reverse.lookup y) → News g L' h₁ news → Below A base [env] g → K.In g → Top p loose mean mg mb g → KtsDicts ([env].filterMap (·.frame)) g →
      wpAny (model prog w) (A.deeper (envOf qual scope L' f cdv)) (execs body (envOf qual scope L' f cdv))
        (fun fl s' => LeaveS0 ([env].filterMap (·.frame)) h₀ L m g R (match fl with | .ret v => v | _ => .none) s')
        (fun e s' => wpAny (model prog w) (A.deeper (envOf qual scope L' f cdv)) (leaving (envOf qual scope L' f cdv) e) (fun _ s'' => R (.error e) s'') (fun e' s'' => R (.error e') s'') s')
        { s with heap := h₁, toks := s.toks + binds.length })
    (hco : scope.isCoroutine = false) (hgen : scope.isGenerator = false) (hk : scope.kind = .function)
    (hcell : ∀ x ∈ scope.names, x.2 ≠ .cell) : codeAny (model prog w) A (.call (.ref f) args) R s := by
  have X := X₀.keeps F.keep
  obtain ⟨FG, BG, st, _⟩ := groundX (R := R) B F N hA hf hke
  have FG' := FG
  obtain ⟨⟨oL, es, ep, hLg, hLd, hLk, hLf⟩, _, _⟩ := FG'
  have fm : [env].filterMap (·.frame) = [L] := by simp [hf]
  refine codeAny_call_def (fd := fnOf name qual params body scope dV kV doc pm an cdv ct) (body := body) (binds := binds) hroom (X _ _ ho) rfl (T.nolimit.keeps F.keep) (codeRec_of X hcd) rfl hbind hcell hloc (fun h₁ hns hk₁ => ?_) hco hgen hk
  refine wpAny_mono (h _ s.heap.objs.size h₁ FG ⟨hns, fun b o e => hk₁ b o (of_hideAll _ e), Nat.le_of_eq (hideAll_size _ _)⟩
    (fun p hp => ⟨hk₁ _ _ (N p hp).1, Nat.ne_of_lt (Heap.lt_size (N p hp).1), hideAll_none _ (List.mem_map_of_mem hp)⟩) BG (X₀.keeps st) (T.keeps st) (fun b hb => by
      rw [fm] at hb
      rw [List.mem_singleton.mp hb]
      exact ⟨oL, es, ep, hLg, hLd⟩)) (fun fl s' hl => ?_) fun _ _ y => y
  obtain ⟨g', L', m', news', T', F', N', k⟩ := hl
  have nL₀ : h₀.get? L = none := kts_self F
  obtain ⟨sl, hs⟩ := T'.up hLg
  refine k ⟨⟨_, es, ep, F'.keep _ _ hs, hLd, hLk, hLf⟩, fun b o e => F'.keep b o (T'.other b o (st b o e) (fun q => by
    rw [fm] at q
    rw [List.mem_singleton.mp q, nL₀] at e
    cases e)), F.above⟩ fun p hp => ⟨(N' p hp).1, fun q => ?_, ?_⟩
  · have := (N' p hp).2.2; rw [q, hs] at this; cases this
  · cases q : h₀.get? p.1 with
    | none => rfl
    | some o =>
      obtain ⟨sl', hs'⟩ := T'.up (st _ _ q)
      have := (N' p hp).2.2
      rw [hs'] at this
      cases this
end
def xIn (K : Frag) (C : Addr) : Bool := match K.lookup C with
  | some ⟨.type "type", _, .cls cd, sl⟩ => (match cd.mro, sl.toList with
    | .ref C' :: bm, [_, _, _, _, some (.builtin n), _] => C' == C && n == "Exception.__new__" && !cd.hasDel && bm.contains (.type "BaseException") && bm.contains (.type "Exception") && !bm.contains (.type "AttributeError") && !bm.contains (.type "NameError")
    | _, _ => false)
  | _ => false
theorem x_cls {K : Frag} {C : Addr} (q : xIn K C = true) : ∃ nm qn N bs bm hdct sn sub ab col dd k0 k1 k2 k3 k5,
    K.lookup C = some (excClassObj nm qn C N bs bm hdct sn sub ab col dd k0 k1 k2 k3 k5 "Exception.__new__") ∧ bm.contains (.type "BaseException") = true ∧ bm.contains (.type "Exception") = true ∧ bm.contains (.type "AttributeError") = false ∧ bm.contains (.type "NameError") = false := by
  unfold xIn at q
  split at q
  · rename_i dd cd sl ho
    split at q
    · rename_i C' bm k0 k1 k2 k3 n k5 hm hs
      simp only [Bool.and_eq_true, beq_iff_eq, Bool.not_eq_true'] at q
      obtain ⟨⟨⟨⟨⟨⟨rfl, rfl⟩, hdel⟩, hb⟩, ht⟩, ha⟩, hn⟩ := q
      obtain ⟨nm, bs, mro, ns, qn, hd, sn, sub, ab, col, del⟩ := cd
      dsimp only at hm hdel
      subst hm hdel
      have hsl : sl = #[k0, k1, k2, k3, some (.builtin "Exception.__new__"), k5] := by
        obtain ⟨l⟩ := sl
        simp only at hs
        rw [hs]
      subst hsl
      exact ⟨nm, qn, ns, bs, bm, hd, sn, sub, ab, col, dd, k0, k1, k2, k3, k5, ho, hb, ht, ha, hn⟩
    · cases q
  · cases q
section
variable {prog : Program} {w : World} {A : Around} {E : Value → Shared → Prop} {s : Shared} {K : Frag} {C L : Addr} {h₀ : Heap} {m : Str → Option Value} {news : Ledger}
theorem x_call {rest : List Value} {fI : Addr} {Q : Value → Shared → Prop} (F : Fr h₀ L s.heap m) (X₀ : K.In h₀) (N : News h₀ L s.heap news) (q : xIn K C = true) (hi : findIn K (.ref C) "__init__" = some (some (.ref fI))) (hf : typeIn K (.ref fI) = some (.type "function"))
    (hrest : rest.length ≤ sizeLine)
    (h : ∀ e t h', Fr h₀ L h' m → News h₀ L h' ((e, exObj C none t) :: (t, tupOf rest) :: news) → (∀ p ∈ news, p.1 < t) → t < e →
      codeAny (model prog w) (A.under (.builtin "type.__call__" ⟨.ref C :: rest, []⟩)) (.call (.ref fI) ⟨.ref e :: rest, []⟩) (InitBack e fun r s' => match r with | .ok (.ret v) => Q v s' | .ok _ => False | .error e => E e s') { s with heap := h' }) :
    wpAny (model prog w) A (call (.ref C) rest) Q E s := by
  obtain ⟨hh, g, d, tk, os⟩ := s
  have X := X₀.keeps F.keep
  obtain ⟨nm, qn, NS, bs, bm, hdct, sn, sub, ab, col, dd, k0, k1, k2, k3, k5, hC, hb, hE, hA, hN⟩ := x_cls q
  have N' := (N.push F (tupOf rest)).push (F.push _) (exObj C none hh.objs.size)
  rw [Heap.size_push] at N'
  exact x_core X PySem.F.excBase_Exception hE hA hN (X _ _ hC) hi hf hrest (h _ hh.objs.size _ ((F.push _).push _) N' (fun p hp => Heap.lt_size (N p hp).1) (Nat.lt_succ_self _))
def XRaised (K : Frag) (C : Addr) (E : Value → Shared → Prop) (v : Value) (s₁ : Shared) : Prop := ∃ a d t L₁ m₁ g, v = .ref a ∧ Fr g L₁ s₁.heap m₁ ∧ K.In g ∧ s₁.heap.get? a = some (exObj C d t) ∧ E (.ref a) s₁
theorem x_raised {a L₁ t : Addr} {d : Option Addr} {m₁ : Str → Option Value} {g : Heap} {s₁ : Shared} {news : Ledger} (F : Fr g L₁ s₁.heap m₁) (X : K.In g) (N : News g L₁ s₁.heap news) (hm : (a, exObj C d t) ∈ news) (h : E (.ref a) s₁) : XRaised K C E (.ref a) s₁ :=
  ⟨a, d, t, L₁, m₁, g, rfl, F, X, (N _ hm).1, h⟩
theorem x_raiseK {env : Env} {ex : PySem.Expr} {pos : Pos} {Q : Flow → Shared → Prop} (F : Fr h₀ L s.heap m) (X₀ : K.In h₀) (q : xIn K C = true) (hh : A.handled = none)
    (h : wpAny (model prog w) A (eval ex env) (XRaised K C E) E s) :
    wpAny (model prog w) A (exec (.Raise (some ex) none pos) env) Q E s := by
  obtain ⟨nm, qn, NS, bs, bm, hdct, sn, sub, ab, col, dd, k0, k1, k2, k3, k5, hC, hb, hE, hA, hN⟩ := x_cls q
  refine x_raise (C := C) (nm := nm) (q := qn) (N := NS) (bs := bs) (bm := bm) (hdct := hdct) (sn := sn) (sub := sub) (ab := ab) (col := col) (dd := dd) (k0 := k0) (k1 := k1) (k2 := k2) (k3 := k3) (k5 := k5) (newId := "Exception.__new__") hb hh (wpAny_mono h (fun v s₁ h₁ => ?_) fun _ _ x => x)
  obtain ⟨a, d, t, L₁, m₁, g, rfl, F₁, X₁, he, hE'⟩ := h₁
  exact ⟨a, d, t, rfl, X₁.keeps F₁.keep _ _ hC, he, hE'⟩
end

end Mine
end

section
set_option Elab.async false
set_option maxRecDepth 100000
set_option maxHeartbeats 8000000
set_option linter.all false
namespace Mine
open PySem PySem.W PyProof.Rows

local macro_rules | `(tactic| k_handed) => `(tactic| assumption)
local macro_rules | `(tactic| k_mem) => `(tactic| assumption)
local macro_rules | `(tactic| k_all) => `(tactic| exact wo_ne)
local macro_rules | `(tactic| k_room) => `(tactic| ktr_room)
local macro_rules | `(tactic| units_room) => `(tactic| ktr_units)
local macro_rules | `(tactic| k_enter) => `(tactic| (refine' code_def ?k1 ?k2 ?k3 ?k4 ?k5 ?kA ?kF ?kK ?k6 ?k7 ?k8 ?k9 ?kB ?_ ?c2 ?c3 ?c4 ?c5; (case kA => exact rfl); (case kF => exact rfl); (case kK => first | exact rfl | assumption); (case k1 => k_asm); (case k2 => k_asm); (case k3 => k_asm); (case k4 => k_asm); (case k5 => k_asm); (case k6 => k_is); (case k7 => k_is); (case k8 => ktr_room); (case k9 => first | exact BindsTo.of_eq rfl | exact binds_K (by k_in) rfl (by k_is) rfl rfl rfl); (case c5 => decide); (case kB => exact locs rfl); (case c2 => exact rfl); (case c3 => exact rfl); (case c4 => exact rfl); k_whole; intro g' L' h' FG' F' N' B' X' T'; (try dsimp only); (try k_fold)))
local macro_rules | `(tactic| walk_at "subscriptTail") => `(tactic| (k_here; (with_reducible show wpAny _ _ (subscriptTail _ _ (Value.ref _) (Value.int _ _)) _ _ _); first
  | ((with_reducible show wpAny _ _ (subscriptTail _ (PySem.Expr.UnaryOp _ _ _) (Value.ref _) (Value.int _ _)) _ _ _); refine' item_last ?k1 ?k2 ?_ ?k7; (case k1 => k_asm); (case k2 => k_mem); (case k7 => with_unfolding_all rfl); k_whole)
  | (refine' item_P ?k1 ?k2 ?k3 ?k4 ?k5 ?_ ?k7; (case k1 => k_asm); (case k2 => k_mem); (case k3 => omega); (case k4 => omega); (case k5 => first | with_reducible assumption | ((with_reducible rw [Int.toNat_natCast]); with_reducible assumption) | exact rfl); (case k7 => with_unfolding_all rfl); k_whole)
  | (refine' tupItem_P ?k1 ?k2 ?k3 ?k4 ?k5 ?_ ?k7; (case k1 => k_asm); (case k2 => k_mem); (case k3 => omega); (case k4 => omega); (case k5 => first | with_reducible assumption | ((with_reducible rw [Int.toNat_natCast]); with_reducible assumption) | exact rfl); (case k7 => with_unfolding_all rfl); k_whole)))
local macro_rules | `(tactic| walk_at "setItem ref int") => `(tactic| (k_here; k_dflt (refine' setAt_P ?k1 ?k2 ?k3 ?k4 ?k5 ?k6 ?_; (case k1 => k_asm); (case k2 => k_asm); (case k3 => k_mem); (case k4 => omega); (case k5 => omega); (case k6 => first | (simp; done) | (simp only [Int.toNat_natCast, List.length_map]; omega) | (simp; omega)); k_whole; intro h' F' N')))
local macro_rules | `(tactic| walk_at "call builtin:list.append") => `(tactic| (k_here; (with_reducible show wpAny _ _ (call (Value.builtin _) [Value.ref _, _]) _ _ _); k_dflt (refine' append_P ?k1 ?k2 ?k3 ?_ ?z; (case k1 => k_asm); (case k2 => k_asm); (case k3 => k_mem); (case z => simp only [sizeLine_eq, List.size_toArray, List.length_append, List.length_map, List.length_cons, List.length_nil]; omega); k_whole; intro h' F' N')))
local macro_rules | `(tactic| walk_at "call builtin:len") => `(tactic| (k_here; (with_reducible show wpAny _ _ (call (Value.builtin "len") [Value.ref _]) _ _ _); k_dflt (refine' len_P ?k1 ?k2 ?k3 ?_; (case k1 => k_asm); (case k2 => k_mem); (case k3 => (try simp only [List.length_map, List.length_append, List.length_cons, List.length_nil]); omega); k_whole); (try simp only [List.length_map])))
local macro_rules | `(tactic| walk_at "compareOp NotEq ref ref") => `(tactic| (k_here; (refine' ne_empty_P ?k1 ?k2 ?k3 ?k4 ?_; (case k1 => k_asm); (case k3 => k_mem); (case k2 => k_mem); (case k4 => units_room); k_whole)))
local macro_rules | `(tactic| walk_at "compareOp Eq ref ref") => `(tactic| (k_here; (refine' eq_empty_P ?k1 ?k2 ?k3 ?k4 ?_; (case k1 => k_asm); (case k3 => k_mem); (case k2 => k_mem); (case k4 => units_room); k_whole)))

def Fn0 (w : World) (mean : ExcName → Option Value) (mg mb : Str → Option Value) (f : Addr) (d u : Nat) (args : List Value) (news : Ledger) (post : Value → Ledger → Prop) : Prop :=
  ∀ (dp un : Nat) (gd : Option (List Code)) (cn : Str) (cs : Scope) (a : Addr) (ccd : Value) (cl : List (Str × Addr)) (A₀ : Around) (base h₀ : Heap) (L : Addr) (m : Str → Option Value) (s : Shared)
    (Q E : Value → Shared → Prop),
    Below A₀ base [] h₀ → (hd.heap_39 w.params).In base → Top VW LS mean mg mb base → Fr h₀ L s.heap m → (hd.heap_39 w.params).In h₀ → News h₀ L s.heap news → Top VW LS mean mg mb h₀ → cs.kind = .function → dp + d < recursionLimit → un + u < cLine →
    (∀ r news' h' tk', Fr h₀ L h' m → News h₀ L h' news' → post r news' → Q r { s with heap := h', toks := tk' }) →
    wpAny (model PySem.Challenge.rw_xw0341_01.row.prog w) (ktrTop dp un gd cn cs L a ccd cl []) (call (.ref f) args) Q E s
section
variable {w : World} {mean : ExcName → Option Value} {mg mb : Str → Option Value} {f : Addr} {d u : Nat} {args : List Value} {news : Ledger} {post : Value → Ledger → Prop}
theorem fn0_use {dp un : Nat} {gd : Option (List Code)} {cn : Str} {cs : Scope} {a : Addr} {ccd : Value} {cl : List (Str × Addr)} {A₀ : Around} {base h₀ : Heap} {L : Addr} {m : Str → Option Value} {s : Shared}
    {Q E : Value → Shared → Prop} (C : Fn0 w mean mg mb f d u args news post)
    (B : Below A₀ base [] h₀) (XB : (hd.heap_39 w.params).In base) (TB : Top VW LS mean mg mb base) (F : Fr h₀ L s.heap m) (X : (hd.heap_39 w.params).In h₀) (N : News h₀ L s.heap news) (T : Top VW LS mean mg mb h₀) (hk : cs.kind = .function) (hd : dp + d < recursionLimit) (hu : un + u < cLine)
    (ret : ∀ r news' h' tk', Fr h₀ L h' m → News h₀ L h' news' → post r news' → Q r { s with heap := h', toks := tk' }) :
    wpAny (model PySem.Challenge.rw_xw0341_01.row.prog w) (ktrTop dp un gd cn cs L a ccd cl []) (call (.ref f) args) Q E s := C _ _ _ _ _ _ _ _ _ _ _ _ _ _ _ _ B XB TB F X N T hk hd hu ret
end
abbrev lyObj (P : Params) (k0 k1 k2 k3 k4 t : Tok) (fa wy re : Addr) : Obj := dictOf [ent P "faces" k0 (.ref fa), ent P "routes" k1 (.ref wy), ent P "reassembly" k2 (.ref re), ent P "forwards" k3 (.bool false), ent P "last_ident" k4 (.int 0 t)] 5

theorem c_found (w mean mg mb) (ly ld fa wy re wd : Addr) (q0 q1 q2 q3 q4 qt k0 k1 : Tok) (Z : Tr) (many : Int) (x : Int) (t : Tok) (news : Ledger) (hl1 : (ly, instObj 445 ld) ∈ news) (hl2 : (ld, lyObj w.params q0 q1 q2 q3 q4 qt fa wy re) ∈ news)
    (W : Ways w.params wy wd k0 k1 Z many news) (hlen : ∀ q, (Z.rs q).length < 1000) (hx0 : 0 ≤ x) (hx1 : x < 4294967296) :
    Fn0 w mean mg mb 670 14 300 [.ref ly, .int x t] news (fun r n' => (∀ p ∈ news, p ∈ n') ∧
      if x.fdiv 16777216 = 127 then r = .none else match lookT Z x 32 with
        | none => r = .none
        | some o => ∃ tp, r = .ref tp ∧ (tp, tupObj [.int o.r.net o.t0, .int o.r.pre o.t1, .int o.r.gw o.t2, .int o.r.face o.t3, .int o.r.met o.t4]) ∈ n') := by
  unfold Fn0; k_fill; intro dp un gd cn cs a ccd cl A₀ base h₀ L m s Q E B XB TB F X N T hk hdp hun hret
  have hw1 := W.inst
  have ⟨rt, tm, hrt, hw2⟩ := W.dict
  refine wpAny_call ?_
  (refine' x_def0 ?k1 ?k2 ?k3 ?k4 ?k5 ?kA ?kF ?kK ?k6 ?k7 ?k8 ?k9 ?kB ?_ ?c2 ?c3 ?c4 ?c5; (case kA => exact rfl); (case kF => exact rfl); (case kK => assumption); (case k1 => k_asm); (case k2 => k_asm); (case k3 => exact X); (case k4 => k_asm); (case k5 => exact T); (case k6 => k_is); (case k7 => k_is); (case k8 => ktr_room); (case k9 => exact BindsTo.of_eq rfl); (case c5 => decide); (case kB => exact locs rfl); (case c2 => exact rfl); (case c3 => exact rfl); (case c4 => exact rfl); k_whole; intro g' L' h' FG' F' N' B' X' T' D'; (try dsimp only); (try k_fold))
  repeat' ((fail_if_success (with_reducible show wpAny _ _ (exec (Stmt.For _ _ _ _ _) _) _ _ _)); (fail_if_success (with_reducible show wpAny _ _ (pyIter _) _ _ _)); (fail_if_success (with_reducible show wpAny _ _ (exec (Stmt.Raise _ _ _) _) _ _ _)); (fail_if_success (with_reducible show wpAny _ _ (exec (Stmt.While _ _ _ _) _) _ _ _)); (fail_if_success (with_reducible show wpAny _ _ (call (Value.ref 286) _) _ _ _)); first | (k_unfold; (try dsimp only)) | walk1 | (dsimp only; walk1) | (leave1; (try dsimp only)))
  · rename (x.fdiv (2 ^ Int.toNat 24) = 127) => hlo
    have hlo' : x.fdiv 16777216 = 127 := hlo
    (refine x_raiseK (C := 51) (by k_asm) (by k_asm) (by kernel_rfl) rfl ?_)
    repeat' ((fail_if_success (with_reducible show wpAny _ _ (exec (Stmt.For _ _ _ _ _) _) _ _ _)); (fail_if_success (with_reducible show wpAny _ _ (pyIter _) _ _ _)); (fail_if_success (with_reducible show wpAny _ _ (exec (Stmt.Raise _ _ _) _) _ _ _)); (fail_if_success (with_reducible show wpAny _ _ (exec (Stmt.While _ _ _ _) _) _ _ _)); (fail_if_success (with_reducible show wpAny _ _ (call (Value.ref 51) _) _ _ _)); first | (k_unfold; (try dsimp only)) | walk1 | (dsimp only; walk1) | (leave1; (try dsimp only)))
    refine' x_call ?k1 ?k2 ?k3 ?k4 ?k5 ?k6 ?k7 ?_
    case k1 => k_asm
    case k2 => k_asm
    case k3 => k_asm
    case k4 => kernel_rfl
    case k5 => k_is
    case k6 => k_is
    case k7 => rw [sizeLine_eq]; exact Nat.le_of_ble_eq_true rfl
    intro e te h' F' N' le1 le2
    k_enter
    repeat' ((fail_if_success (with_reducible show wpAny _ _ (exec (Stmt.For _ _ _ _ _) _) _ _ _)); (fail_if_success (with_reducible show wpAny _ _ (pyIter _) _ _ _)); (fail_if_success (with_reducible show wpAny _ _ (exec (Stmt.Raise _ _ _) _) _ _ _)); (fail_if_success (with_reducible show wpAny _ _ (exec (Stmt.While _ _ _ _) _) _ _ _)); first | (k_unfold; (try dsimp only)) | walk1 | (dsimp only; walk1) | (leave1; (try dsimp only)))
    refine' x_set ?k1 ?k2 ?k3 ?k4 ?k5 ?k6 ?k7 ?k8 ?k9 ?k10 ?k11 ?_
    case k1 => k_asm
    case k2 => k_asm
    case k3 =>
      intro p hp
      rcases List.mem_cons.mp hp with rfl | hp
      · exact Nat.ne_of_lt le2
      · exact Nat.ne_of_lt (Nat.lt_trans (le1 p hp) le2)
    case k4 => k_asm
    case k5 => k_is
    case k6 => k_is
    case k7 => k_is
    case k8 => kernel_rfl
    case k9 => kernel_rfl
    case k10 => kernel_rfl
    case k11 => intro self; kernel_rfl
    k_whole
    intro h' de tk' F' N'
    repeat' ((fail_if_success (with_reducible show wpAny _ _ (exec (Stmt.For _ _ _ _ _) _) _ _ _)); (fail_if_success (with_reducible show wpAny _ _ (pyIter _) _ _ _)); (fail_if_success (with_reducible show wpAny _ _ (exec (Stmt.Raise _ _ _) _) _ _ _)); (fail_if_success (with_reducible show wpAny _ _ (exec (Stmt.While _ _ _ _) _) _ _ _)); first | (k_unfold; (try dsimp only)) | walk1 | (dsimp only; walk1) | (leave1; (try dsimp only)))
    refine x_raised (C := 51) (by k_asm) (by k_asm) (by k_asm) (.head _) ?_
    k_unfold
    refine x_leave (news' := news) (by k_asm) (by k_asm) (by k_asm) (.head _) (.tail _ (.head _)) (fun p hp => ⟨.tail _ (.tail _ hp), Nat.ne_of_lt (Nat.lt_trans (le1 p hp) le2), Nat.ne_of_lt (le1 p hp)⟩) (fun h' R9 hsm => ?_)
    repeat' ((fail_if_success (with_reducible show wpAny _ _ (exec (Stmt.For _ _ _ _ _) _) _ _ _)); (fail_if_success (with_reducible show wpAny _ _ (pyIter _) _ _ _)); (fail_if_success (with_reducible show wpAny _ _ (exec (Stmt.Raise _ _ _) _) _ _ _)); (fail_if_success (with_reducible show wpAny _ _ (exec (Stmt.While _ _ _ _) _) _ _ _)); first | (k_unfold; (try dsimp only)) | walk1 | (dsimp only; walk1) | (leave1; (try dsimp only)))
    exact hret _ news _ _ (by k_asm) (by k_asm) ⟨fun p hp => hp, by rw [if_pos hlo']⟩
  · rename (x.fdiv (2 ^ Int.toNat 24) ≠ 127) => hlo
    have hlo' : ¬ x.fdiv 16777216 = 127 := hlo
    refine fn_use (c_find w mean mg mb wy wd k0 k1 Z many x _ news W hlen) (by k_asm) (by k_asm) (by k_asm) (by k_asm) (by k_asm) (by first | exact rfl | assumption) (by ktr_room) (by first | ktr_units | (have hcL9 := cLine_is; (try simp only [units_under_make, units_in1, units_deeper, Around.mark_units, units_caller] at *); (try dsimp only [ktrTop] at *); omega)) ?_
    rintro _ news h' tk' F6 N6 ⟨rfl, rfl⟩
    rcases hlk : lookT Z x 32 with _ | o
    · dsimp only [refO]
      repeat' ((fail_if_success (with_reducible show wpAny _ _ (exec (Stmt.For _ _ _ _ _) _) _ _ _)); (fail_if_success (with_reducible show wpAny _ _ (pyIter _) _ _ _)); (fail_if_success (with_reducible show wpAny _ _ (exec (Stmt.Raise _ _ _) _) _ _ _)); (fail_if_success (with_reducible show wpAny _ _ (exec (Stmt.While _ _ _ _) _) _ _ _)); first | (k_unfold; (try dsimp only)) | walk1 | (dsimp only; walk1) | (leave1; (try dsimp only)))
      (refine x_raiseK (C := 51) (by k_asm) (by k_asm) (by kernel_rfl) rfl ?_)
      repeat' ((fail_if_success (with_reducible show wpAny _ _ (exec (Stmt.For _ _ _ _ _) _) _ _ _)); (fail_if_success (with_reducible show wpAny _ _ (pyIter _) _ _ _)); (fail_if_success (with_reducible show wpAny _ _ (exec (Stmt.Raise _ _ _) _) _ _ _)); (fail_if_success (with_reducible show wpAny _ _ (exec (Stmt.While _ _ _ _) _) _ _ _)); (fail_if_success (with_reducible show wpAny _ _ (call (Value.ref 51) _) _ _ _)); first | (k_unfold; (try dsimp only)) | walk1 | (dsimp only; walk1) | (leave1; (try dsimp only)))
      refine' x_call ?k1 ?k2 ?k3 ?k4 ?k5 ?k6 ?k7 ?_
      case k1 => k_asm
      case k2 => k_asm
      case k3 => k_asm
      case k4 => kernel_rfl
      case k5 => k_is
      case k6 => k_is
      case k7 => rw [sizeLine_eq]; exact Nat.le_of_ble_eq_true rfl
      intro e te h' F' N' le1 le2
      k_enter
      repeat' ((fail_if_success (with_reducible show wpAny _ _ (exec (Stmt.For _ _ _ _ _) _) _ _ _)); (fail_if_success (with_reducible show wpAny _ _ (pyIter _) _ _ _)); (fail_if_success (with_reducible show wpAny _ _ (exec (Stmt.Raise _ _ _) _) _ _ _)); (fail_if_success (with_reducible show wpAny _ _ (exec (Stmt.While _ _ _ _) _) _ _ _)); first | (k_unfold; (try dsimp only)) | walk1 | (dsimp only; walk1) | (leave1; (try dsimp only)))
      refine' x_set ?k1 ?k2 ?k3 ?k4 ?k5 ?k6 ?k7 ?k8 ?k9 ?k10 ?k11 ?_
      case k1 => k_asm
      case k2 => k_asm
      case k3 =>
        intro p hp
        rcases List.mem_cons.mp hp with rfl | hp
        · exact Nat.ne_of_lt le2
        · exact Nat.ne_of_lt (Nat.lt_trans (le1 p hp) le2)
      case k4 => k_asm
      case k5 => k_is
      case k6 => k_is
      case k7 => k_is
      case k8 => kernel_rfl
      case k9 => kernel_rfl
      case k10 => kernel_rfl
      case k11 => intro self; kernel_rfl
      k_whole
      intro h' de tk' F' N'
      repeat' ((fail_if_success (with_reducible show wpAny _ _ (exec (Stmt.For _ _ _ _ _) _) _ _ _)); (fail_if_success (with_reducible show wpAny _ _ (pyIter _) _ _ _)); (fail_if_success (with_reducible show wpAny _ _ (exec (Stmt.Raise _ _ _) _) _ _ _)); (fail_if_success (with_reducible show wpAny _ _ (exec (Stmt.While _ _ _ _) _) _ _ _)); first | (k_unfold; (try dsimp only)) | walk1 | (dsimp only; walk1) | (leave1; (try dsimp only)))
      refine x_raised (C := 51) (by k_asm) (by k_asm) (by k_asm) (.head _) ?_
      k_unfold
      refine x_leave (news' := news) (by k_asm) (by k_asm) (by k_asm) (.head _) (.tail _ (.head _)) (fun p hp => ⟨.tail _ (.tail _ hp), Nat.ne_of_lt (Nat.lt_trans (le1 p hp) le2), Nat.ne_of_lt (le1 p hp)⟩) (fun h' R9 hsm => ?_)
      repeat' ((fail_if_success (with_reducible show wpAny _ _ (exec (Stmt.For _ _ _ _ _) _) _ _ _)); (fail_if_success (with_reducible show wpAny _ _ (pyIter _) _ _ _)); (fail_if_success (with_reducible show wpAny _ _ (exec (Stmt.Raise _ _ _) _) _ _ _)); (fail_if_success (with_reducible show wpAny _ _ (exec (Stmt.While _ _ _ _) _) _ _ _)); first | (k_unfold; (try dsimp only)) | walk1 | (dsimp only; walk1) | (leave1; (try dsimp only)))
      exact hret _ news _ _ (by k_asm) (by k_asm) ⟨fun p hp => hp, by rw [if_neg hlo', hlk]⟩
    · dsimp only [refO]
      obtain ⟨q, hq⟩ := look_mem hlk
      have ho := rs_in W.tree hq
      have ⟨ho1, ho2⟩ := ho
      repeat' ((fail_if_success (with_reducible show wpAny _ _ (exec (Stmt.For _ _ _ _ _) _) _ _ _)); (fail_if_success (with_reducible show wpAny _ _ (pyIter _) _ _ _)); (fail_if_success (with_reducible show wpAny _ _ (exec (Stmt.Raise _ _ _) _) _ _ _)); (fail_if_success (with_reducible show wpAny _ _ (exec (Stmt.While _ _ _ _) _) _ _ _)); (fail_if_success (with_reducible show wpAny _ _ (call (Value.ref 160) _) _ _ _)); first | (k_unfold; (try dsimp only)) | walk1 | (dsimp only; walk1) | (leave1; (try dsimp only)))
      refine fn_use (c_row w mean mg mb o _ ho) (by k_asm) (by k_asm) (by k_asm) (by k_asm) (by k_asm) (by first | exact rfl | assumption) (by ktr_room) (by first | ktr_units | (have hcL9 := cLine_is; (try simp only [units_under_make, units_in1, units_deeper, Around.mark_units, units_caller] at *); (try dsimp only [ktrTop] at *); omega)) ?_
      rintro _ n9 h' tk' F9 N9 ⟨tp, rfl, rfl, hlt⟩
      repeat' ((fail_if_success (with_reducible show wpAny _ _ (exec (Stmt.For _ _ _ _ _) _) _ _ _)); (fail_if_success (with_reducible show wpAny _ _ (pyIter _) _ _ _)); (fail_if_success (with_reducible show wpAny _ _ (exec (Stmt.Raise _ _ _) _) _ _ _)); (fail_if_success (with_reducible show wpAny _ _ (exec (Stmt.While _ _ _ _) _) _ _ _)); first | (k_unfold; (try dsimp only)) | walk1 | (dsimp only; walk1) | (leave1; (try dsimp only)))
      exact hret _ _ _ _ (by k_asm) (by k_asm) ⟨fun p hp => .tail _ hp, by rw [if_neg hlo', hlk]; exact ⟨tp, rfl, .head _⟩⟩
end Mine
end

section
set_option Elab.async false
set_option maxRecDepth 100000
set_option maxHeartbeats 8000000
set_option linter.all false
namespace Mine
open PySem PySem.W PyProof.Rows

local macro_rules | `(tactic| k_handed) => `(tactic| assumption)
local macro_rules | `(tactic| k_mem) => `(tactic| assumption)
local macro_rules | `(tactic| k_all) => `(tactic| exact wo_ne)
local macro_rules | `(tactic| k_room) => `(tactic| ktr_room)
local macro_rules | `(tactic| units_room) => `(tactic| ktr_units)
local macro_rules | `(tactic| k_enter) => `(tactic| (refine' code_def ?k1 ?k2 ?k3 ?k4 ?k5 ?kA ?kF ?kK ?k6 ?k7 ?k8 ?k9 ?kB ?_ ?c2 ?c3 ?c4 ?c5; (case kA => exact rfl); (case kF => exact rfl); (case kK => first | exact rfl | assumption); (case k1 => k_asm); (case k2 => k_asm); (case k3 => k_asm); (case k4 => k_asm); (case k5 => k_asm); (case k6 => k_is); (case k7 => k_is); (case k8 => ktr_room); (case k9 => first | exact BindsTo.of_eq rfl | exact binds_K (by k_in) rfl (by k_is) rfl rfl rfl); (case c5 => decide); (case kB => exact locs rfl); (case c2 => exact rfl); (case c3 => exact rfl); (case c4 => exact rfl); k_whole; intro g' L' h' FG' F' N' B' X' T'; (try dsimp only); (try k_fold)))
local macro_rules | `(tactic| walk_at "subscriptTail") => `(tactic| (k_here; (with_reducible show wpAny _ _ (subscriptTail _ _ (Value.ref _) (Value.int _ _)) _ _ _); first
  | ((with_reducible show wpAny _ _ (subscriptTail _ (PySem.Expr.UnaryOp _ _ _) (Value.ref _) (Value.int _ _)) _ _ _); refine' item_last ?k1 ?k2 ?_ ?k7; (case k1 => k_asm); (case k2 => k_mem); (case k7 => with_unfolding_all rfl); k_whole)
  | (refine' item_P ?k1 ?k2 ?k3 ?k4 ?k5 ?_ ?k7; (case k1 => k_asm); (case k2 => k_mem); (case k3 => omega); (case k4 => omega); (case k5 => first | with_reducible assumption | ((with_reducible rw [Int.toNat_natCast]); with_reducible assumption) | exact rfl); (case k7 => with_unfolding_all rfl); k_whole)
  | (refine' tupItem_P ?k1 ?k2 ?k3 ?k4 ?k5 ?_ ?k7; (case k1 => k_asm); (case k2 => k_mem); (case k3 => omega); (case k4 => omega); (case k5 => first | with_reducible assumption | ((with_reducible rw [Int.toNat_natCast]); with_reducible assumption) | exact rfl); (case k7 => with_unfolding_all rfl); k_whole)))
local macro_rules | `(tactic| walk_at "setItem ref int") => `(tactic| (k_here; k_dflt (refine' setAt_P ?k1 ?k2 ?k3 ?k4 ?k5 ?k6 ?_; (case k1 => k_asm); (case k2 => k_asm); (case k3 => k_mem); (case k4 => omega); (case k5 => omega); (case k6 => first | (simp; done) | (simp only [Int.toNat_natCast, List.length_map]; omega) | (simp; omega)); k_whole; intro h' F' N')))
local macro_rules | `(tactic| walk_at "call builtin:list.append") => `(tactic| (k_here; (with_reducible show wpAny _ _ (call (Value.builtin _) [Value.ref _, _]) _ _ _); k_dflt (refine' append_P ?k1 ?k2 ?k3 ?_ ?z; (case k1 => k_asm); (case k2 => k_asm); (case k3 => k_mem); (case z => simp only [sizeLine_eq, List.size_toArray, List.length_append, List.length_map, List.length_cons, List.length_nil]; omega); k_whole; intro h' F' N')))
local macro_rules | `(tactic| walk_at "call builtin:len") => `(tactic| (k_here; (with_reducible show wpAny _ _ (call (Value.builtin "len") [Value.ref _]) _ _ _); k_dflt (refine' len_P ?k1 ?k2 ?k3 ?_; (case k1 => k_asm); (case k2 => k_mem); (case k3 => (try simp only [List.length_map, List.length_append, List.length_cons, List.length_nil]); omega); k_whole); (try simp only [List.length_map])))
local macro_rules | `(tactic| walk_at "compareOp NotEq ref ref") => `(tactic| (k_here; (refine' ne_empty_P ?k1 ?k2 ?k3 ?k4 ?_; (case k1 => k_asm); (case k3 => k_mem); (case k2 => k_mem); (case k4 => units_room); k_whole)))
local macro_rules | `(tactic| walk_at "compareOp Eq ref ref") => `(tactic| (k_here; (refine' eq_empty_P ?k1 ?k2 ?k3 ?k4 ?_; (case k1 => k_asm); (case k3 => k_mem); (case k2 => k_mem); (case k4 => units_room); k_whole)))

abbrev srcObj (x1 x2 : Int) (t1 t2 : Tok) (n : Nat) : Obj := listOf [Value.int x1 t1, Value.int x2 t2].toArray n
theorem c_take (w mean mg mb) (D : Addr) (x1 x2 : Int) (t1 t2 t : Tok) (n : Nat) (top : Int) (news : Ledger) (hD : (D, srcObj x1 x2 t1 t2 n) ∈ news) (h0 : 0 ≤ x1) (h1 : 0 ≤ x2) (h2 : x2 < 2147483647) (ht : 0 < top) (ht' : top ≤ 65536) :
    Fn w mean mg mb 649 3 30 [.ref D, .int top t] news (fun r n' => ∃ v y1 y2 tv u1 u2, r = .int v tv ∧ 0 ≤ v ∧ v < top ∧ 0 ≤ y1 ∧ 0 ≤ y2 ∧ y2 < 2147483647 ∧ n' = put D (srcObj y1 y2 u1 u2 n) news) := by
  unfold Fn; k_fill; intro dp un gd cn cs a ccd cl outer A₀ base h₀ L m s Q E B F X N T hk hdp hun hret
  refine wpAny_call ?_; ktr_enter
  repeat' ((fail_if_success (with_reducible show wpAny _ _ (exec (Stmt.For _ _ _ _ _) _) _ _ _)); (fail_if_success (with_reducible show wpAny _ _ (pyIter _) _ _ _)); (fail_if_success (with_reducible show wpAny _ _ (exec (Stmt.Raise _ _ _) _) _ _ _)); (fail_if_success (with_reducible show wpAny _ _ (exec (Stmt.While _ _ _ _) _) _ _ _)); first | (k_unfold; (try dsimp only)) | walk1 | (dsimp only; walk1) | (leave1; (try dsimp only)))
  · rename (0 < x1) => ha
    refine hret _ _ _ _ (by k_asm) (by k_asm) ⟨x1.fmod top, x1.fdiv top, x2, _, _, _, rfl, ?_, ?_, ?_, h1, h2, rfl⟩
    · rw [Int.fmod_eq_emod_of_nonneg _ (by omega)]; exact Int.emod_nonneg _ (by omega)
    · rw [Int.fmod_eq_emod_of_nonneg _ (by omega)]; exact Int.emod_lt_of_pos _ (by omega)
    · rw [Int.fdiv_eq_ediv_of_nonneg _ (by omega)]; exact Int.ediv_nonneg h0 (by omega)
  · refine hret _ _ _ _ (by k_asm) (by k_asm) ⟨((((x2 * 39373 + 7).fmod 2147483647 * (x2 * 39373 + 7).fmod 2147483647).fmod 2147483629).fdiv 32).fmod top, x1, (x2 * 39373 + 7).fmod 2147483647, _, _, _, rfl, ?_, ?_, h0, ?_, ?_, rfl⟩
    · rw [Int.fmod_eq_emod_of_nonneg _ (by omega)]; exact Int.emod_nonneg _ (by omega)
    · rw [Int.fmod_eq_emod_of_nonneg _ (by omega)]; exact Int.emod_lt_of_pos _ (by omega)
    · rw [Int.fmod_eq_emod_of_nonneg _ (by omega)]; exact Int.emod_nonneg _ (by omega)
    · rw [Int.fmod_eq_emod_of_nonneg _ (by omega)]; exact Int.emod_lt_of_pos _ (by omega)
/-- one of a list of ints is drawn -/
theorem c_one (w mean mg mb) (D G : Addr) (x1 x2 : Int) (t1 t2 : Tok) (n k : Nat) (vs : List Value) (news : Ledger) (hD : (D, srcObj x1 x2 t1 t2 n) ∈ news) (hG : (G, listOf vs.toArray k) ∈ news) (hne : G ≠ D) (h0 : 0 ≤ x1) (h1 : 0 ≤ x2) (h2 : x2 < 2147483647) (hv : 0 < vs.length) (hv' : vs.length ≤ 1000) :
    Fn w mean mg mb 656 5 50 [.ref D, .ref G] news (fun r n' => ∃ (i : Nat) (y1 y2 : Int) (u1 u2 : Tok), vs[i]? = some r ∧ 0 ≤ y1 ∧ 0 ≤ y2 ∧ y2 < 2147483647 ∧ n' = put D (srcObj y1 y2 u1 u2 n) news) := by
  unfold Fn; k_fill; intro dp un gd cn cs a ccd cl outer A₀ base h₀ L m s Q E B F X N T hk hdp hun hret
  refine wpAny_call ?_; ktr_enter
  repeat' ((fail_if_success (with_reducible show wpAny _ _ (exec (Stmt.For _ _ _ _ _) _) _ _ _)); (fail_if_success (with_reducible show wpAny _ _ (pyIter _) _ _ _)); (fail_if_success (with_reducible show wpAny _ _ (exec (Stmt.Raise _ _ _) _) _ _ _)); (fail_if_success (with_reducible show wpAny _ _ (exec (Stmt.While _ _ _ _) _) _ _ _)); (fail_if_success (with_reducible show wpAny _ _ (call (Value.ref 649) _) _ _ _)); first | (k_unfold; (try dsimp only)) | walk1 | (dsimp only; walk1) | (leave1; (try dsimp only)))
  refine fn_use (c_take w mean mg mb D x1 x2 t1 t2 _ n (vs.length : Int) news hD h0 h1 h2 (by omega) (by omega)) (by k_asm) (by k_asm) (by k_asm) (by k_asm) (by k_asm) (by first | exact rfl | assumption) (by ktr_room) (by first | ktr_units | (have hcL9 := cLine_is; (try simp only [units_under_make, units_in1, units_deeper, Around.mark_units, units_caller] at *); (try dsimp only [ktrTop] at *); omega)) ?_
  rintro _ _ h' tk' F6 N6 ⟨v, y1, y2, tv, u1, u2, rfl, hv0, hv1, hy1, hy2, hy3, rfl⟩
  have hG' := mem_put_ne (o := srcObj y1 y2 u1 u2 n) hG hne
  obtain ⟨r, hr⟩ : ∃ r, vs[v.toNat]? = some r := ⟨vs[v.toNat]'(by omega), by simp⟩
  repeat' ((fail_if_success (with_reducible show wpAny _ _ (exec (Stmt.For _ _ _ _ _) _) _ _ _)); (fail_if_success (with_reducible show wpAny _ _ (pyIter _) _ _ _)); (fail_if_success (with_reducible show wpAny _ _ (exec (Stmt.Raise _ _ _) _) _ _ _)); (fail_if_success (with_reducible show wpAny _ _ (exec (Stmt.While _ _ _ _) _) _ _ _)); first | (k_unfold; (try dsimp only)) | walk1 | (dsimp only; walk1) | (leave1; (try dsimp only)))
  exact hret _ _ _ _ (by k_asm) (by k_asm) ⟨_, y1, y2, u1, u2, hr, hy1, hy2, hy3, rfl⟩
end Mine
end

section
set_option Elab.async false
set_option maxRecDepth 100000
set_option maxHeartbeats 8000000
set_option linter.all false
namespace Mine
open PySem PySem.W PyProof.Rows

local macro_rules | `(tactic| k_handed) => `(tactic| assumption)
local macro_rules | `(tactic| k_mem) => `(tactic| assumption)
local macro_rules | `(tactic| k_all) => `(tactic| exact wo_ne)
local macro_rules | `(tactic| k_room) => `(tactic| ktr_room)
local macro_rules | `(tactic| units_room) => `(tactic| ktr_units)
local macro_rules | `(tactic| k_enter) => `(tactic| (refine' code_def ?k1 ?k2 ?k3 ?k4 ?k5 ?kA ?kF ?kK ?k6 ?k7 ?k8 ?k9 ?kB ?_ ?c2 ?c3 ?c4 ?c5; (case kA => exact rfl); (case kF => exact rfl); (case kK => first | exact rfl | assumption); (case k1 => k_asm); (case k2 => k_asm); (case k3 => k_asm); (case k4 => k_asm); (case k5 => k_asm); (case k6 => k_is); (case k7 => k_is); (case k8 => ktr_room); (case k9 => first | exact BindsTo.of_eq rfl | exact binds_K (by k_in) rfl (by k_is) rfl rfl rfl); (case c5 => decide); (case kB => exact locs rfl); (case c2 => exact rfl); (case c3 => exact rfl); (case c4 => exact rfl); k_whole; intro g' L' h' FG' F' N' B' X' T'; (try dsimp only); (try k_fold)))
local macro_rules | `(tactic| walk_at "subscriptTail") => `(tactic| (k_here; (with_reducible show wpAny _ _ (subscriptTail _ _ (Value.ref _) (Value.int _ _)) _ _ _); first
  | ((with_reducible show wpAny _ _ (subscriptTail _ (PySem.Expr.UnaryOp _ _ _) (Value.ref _) (Value.int _ _)) _ _ _); refine' item_last ?k1 ?k2 ?_ ?k7; (case k1 => k_asm); (case k2 => k_mem); (case k7 => with_unfolding_all rfl); k_whole)
  | (refine' item_P ?k1 ?k2 ?k3 ?k4 ?k5 ?_ ?k7; (case k1 => k_asm); (case k2 => k_mem); (case k3 => omega); (case k4 => omega); (case k5 => first | with_reducible assumption | ((with_reducible rw [Int.toNat_natCast]); with_reducible assumption) | exact rfl); (case k7 => with_unfolding_all rfl); k_whole)
  | (refine' tupItem_P ?k1 ?k2 ?k3 ?k4 ?k5 ?_ ?k7; (case k1 => k_asm); (case k2 => k_mem); (case k3 => omega); (case k4 => omega); (case k5 => first | with_reducible assumption | ((with_reducible rw [Int.toNat_natCast]); with_reducible assumption) | exact rfl); (case k7 => with_unfolding_all rfl); k_whole)))
local macro_rules | `(tactic| walk_at "setItem ref int") => `(tactic| (k_here; k_dflt (refine' setAt_P ?k1 ?k2 ?k3 ?k4 ?k5 ?k6 ?_; (case k1 => k_asm); (case k2 => k_asm); (case k3 => k_mem); (case k4 => omega); (case k5 => omega); (case k6 => first | (simp; done) | (simp only [Int.toNat_natCast, List.length_map]; omega) | (simp; omega)); k_whole; intro h' F' N')))
local macro_rules | `(tactic| walk_at "call builtin:list.append") => `(tactic| (k_here; (with_reducible show wpAny _ _ (call (Value.builtin _) [Value.ref _, _]) _ _ _); k_dflt (refine' append_P ?k1 ?k2 ?k3 ?_ ?z; (case k1 => k_asm); (case k2 => k_asm); (case k3 => k_mem); (case z => simp only [sizeLine_eq, List.size_toArray, List.length_append, List.length_map, List.length_cons, List.length_nil]; omega); k_whole; intro h' F' N')))
local macro_rules | `(tactic| walk_at "call builtin:len") => `(tactic| (k_here; (with_reducible show wpAny _ _ (call (Value.builtin "len") [Value.ref _]) _ _ _); k_dflt (refine' len_P ?k1 ?k2 ?k3 ?_; (case k1 => k_asm); (case k2 => k_mem); (case k3 => (try simp only [List.length_map, List.length_append, List.length_cons, List.length_nil]); omega); k_whole); (try simp only [List.length_map])))
local macro_rules | `(tactic| walk_at "compareOp NotEq ref ref") => `(tactic| (k_here; (refine' ne_empty_P ?k1 ?k2 ?k3 ?k4 ?_; (case k1 => k_asm); (case k3 => k_mem); (case k2 => k_mem); (case k4 => units_room); k_whole)))
local macro_rules | `(tactic| walk_at "compareOp Eq ref ref") => `(tactic| (k_here; (refine' eq_empty_P ?k1 ?k2 ?k3 ?k4 ?_; (case k1 => k_asm); (case k3 => k_mem); (case k2 => k_mem); (case k4 => units_room); k_whole)))

def places : List Int := [167772161, 176160775, 184549377, 2130706431, 2130706432, 2147483647, 2147483648, 3232235521, 4294967295]
theorem c_places (w mean mg mb) (news : Ledger) :
    Fn w mean mg mb 663 3 30 [] news (fun r n' => ∃ g vs n, r = .ref g ∧ (g, listOf vs.toArray n) ∈ n' ∧ IntsAre vs places ∧ (∀ p ∈ news, p ∈ n') ∧ Off news g) := by
  unfold Fn; k_fill; intro dp un gd cn cs a ccd cl outer A₀ base h₀ L m s Q E B F X N T hk hdp hun hret
  refine wpAny_call ?_; ktr_enter
  repeat' ((fail_if_success (with_reducible show wpAny _ _ (exec (Stmt.For _ _ _ _ _) _) _ _ _)); (fail_if_success (with_reducible show wpAny _ _ (pyIter _) _ _ _)); (fail_if_success (with_reducible show wpAny _ _ (exec (Stmt.Raise _ _ _) _) _ _ _)); (fail_if_success (with_reducible show wpAny _ _ (exec (Stmt.While _ _ _ _) _) _ _ _)); first | (k_unfold; (try dsimp only)) | walk1 | (dsimp only; walk1) | (leave1; (try dsimp only)))
  rename (_ ∧ _ ∧ AllLt _ news) => l3
  have l4 := allLt_out l3.2.2
  exact hret _ _ _ _ (by k_asm) (by k_asm) ⟨_, _, _, rfl, .head _, by repeat (first | exact .nil | refine .cons _ _ ?_), fun p hp => .tail _ (.tail _ (.tail _ hp)), off_lt l4 (Nat.le_refl _)⟩
theorem c_layer (w mean mg mb) (wy : Addr) (news : Ledger) :
    Fn w mean mg mb 684 9 90 [.ref wy] news (fun r n' => ∃ ly ld fa re q0 q1 q2 q3 q4 qt, r = .ref ly ∧ (ly, instObj 445 ld) ∈ n' ∧ (ld, lyObj w.params q0 q1 q2 q3 q4 qt fa wy re) ∈ n' ∧ (∀ p ∈ news, p ∈ n')) := by
  unfold Fn; k_fill; intro dp un gd cn cs a ccd cl outer A₀ base h₀ L m s Q E B F X N T hk hdp hun hret
  refine wpAny_call ?_; ktr_enter
  repeat' ((fail_if_success (with_reducible show wpAny _ _ (exec (Stmt.For _ _ _ _ _) _) _ _ _)); (fail_if_success (with_reducible show wpAny _ _ (pyIter _) _ _ _)); (fail_if_success (with_reducible show wpAny _ _ (exec (Stmt.Raise _ _ _) _) _ _ _)); (fail_if_success (with_reducible show wpAny _ _ (exec (Stmt.While _ _ _ _) _) _ _ _)); first | (k_unfold; (try dsimp only)) | walk1 | (dsimp only; walk1) | (leave1; (try dsimp only)))
  exact hret _ _ _ _ (by k_asm) (by k_asm) ⟨_, _, _, _, _, _, _, _, _, _, rfl, .head _, .tail _ (.head _), fun p hp => by repeat (first | exact hp | apply List.Mem.tail)⟩
end Mine
end

section
set_option Elab.async false
set_option maxRecDepth 100000
set_option maxHeartbeats 8000000
set_option linter.all false
namespace Mine
open PySem PySem.W PyProof.Rows

open PySem.Calls PySem.SeqAt
open MeetsSeq MeetsSeq2 MeetsSeq3
def lex3 (x y : Int × Int × Int) : Bool := decide (x.1 < y.1 ∨ x.1 = y.1 ∧ (x.2.1 < y.2.1 ∨ x.2.1 = y.2.1 ∧ x.2.2 < y.2.2))
abbrev tup3 (x1 x2 x3 : Int) (t1 t2 t3 : Tok) : Obj := { cls := .type "tuple", data := .seq [Value.int x1 t1, Value.int x2 t2, Value.int x3 t3].toArray }
section
variable {prog : Program} {w : World} {A : Around} {E : Value → Shared → Prop} {s : Shared}
theorem eqi_t {x y : Int} {t u : Tok} {Q : Bool → Shared → Prop} (e : x = y) (h : Q true s) : wpAny (model prog w) A (eqBool (.int x t) (.int y u)) Q E s :=
  EqAt.int_int x t y u prog w E Q (by rw [beq_iff_eq.mpr e]; exact h)
theorem eqi_f {x y : Int} {t u : Tok} {Q : Bool → Shared → Prop} (e : x ≠ y) (h : Q false s) : wpAny (model prog w) A (eqBool (.int x t) (.int y u)) Q E s :=
  EqAt.int_int x t y u prog w E Q (by rw [beq_eq_false_iff_ne.mpr e]; exact h)
theorem lti {x y : Int} {t u : Tok} {Q : Value → Shared → Prop} (h : Q (.bool (decide (x < y))) s) : wpAny (model prog w) A (richCompare .Lt (.int x t) (.int y u)) Q E s :=
  CmpOf.ints_lt (prog := prog) (w := w) (A := A) (P := fun i v => v = .int (if i = 0 then x else y) (if i = 0 then t else u)) (fun i => if i = 0 then x else y) (fun i v h => ⟨_, h⟩) 0 1 _ _ _ _ _ rfl rfl h
end
theorem tuple_lt3 (a b : Addr) (x1 x2 x3 y1 y2 y3 : Int) (t1 t2 t3 u1 u2 u3 : Tok) :
    Meets (Builtin.«tuple.__lt__» ⟨[.ref a, .ref b], []⟩)
      (fun _ R s => s.heap.get? a = some (tup3 x1 x2 x3 t1 t2 t3) ∧ s.heap.get? b = some (tup3 y1 y2 y3 u1 u2 u3) ∧ R (.ok (.ret (.bool (lex3 (x1, x2, x3) (y1, y2, y3))))) s) :=
  .of_wp fun prog w A R s h => by
    obtain ⟨hp, g, d, tk, os⟩ := s; obtain ⟨hl, hb, h⟩ := h
    have f2 := AutoSeq1.sub_tuple_tuple
    by_cases e1 : x1 = y1
    · by_cases e2 : x2 = y2
      · by_cases e3 : x3 = y3
        · wp_walk using AutoSeq1.wpAny_loadPart' hl, AutoSeq1.wpAny_loadPart' hb, eqi_t e1, eqi_t e2, eqi_t e3
          have e : lex3 (x1, x2, x3) (y1, y2, y3) = false := by simp [lex3, *]
          rw [e] at h
          exact ⟨_, rfl, h⟩
        · wp_walk using AutoSeq1.wpAny_loadPart' hl, AutoSeq1.wpAny_loadPart' hb, eqi_t e1, eqi_t e2, eqi_f e3, lti
          have e : lex3 (x1, x2, x3) (y1, y2, y3) = decide (x3 < y3) := by simp [lex3, *]
          rw [e] at h
          exact ⟨_, rfl, h⟩
      · wp_walk using AutoSeq1.wpAny_loadPart' hl, AutoSeq1.wpAny_loadPart' hb, eqi_t e1, eqi_f e2, lti
        have e : lex3 (x1, x2, x3) (y1, y2, y3) = decide (x2 < y2) := by simp [lex3, *]
        rw [e] at h
        exact ⟨_, rfl, h⟩
    · wp_walk using AutoSeq1.wpAny_loadPart' hl, AutoSeq1.wpAny_loadPart' hb, eqi_f e1, lti
      have e : lex3 (x1, x2, x3) (y1, y2, y3) = decide (x1 < y1) := by simp [lex3, *]
      rw [e] at h
      exact ⟨_, rfl, h⟩
section
variable {prog : Program} {w : World} {A : Around} {E : Value → Shared → Prop} {s : Shared}
theorem lt_tup3 {a b : Addr} {x1 x2 x3 y1 y2 y3 : Int} {t1 t2 t3 u1 u2 u3 : Tok} {Q : Value → Shared → Prop} (ha : s.heap.get? a = some (tup3 x1 x2 x3 t1 t2 t3)) (hb : s.heap.get? b = some (tup3 y1 y2 y3 u1 u2 u3)) (hu : A.units < cLine)
    (h : Q (.bool (lex3 (x1, x2, x3) (y1, y2, y3))) s) : wpAny (model prog w) A (richCompare .Lt (.ref a) (.ref b)) Q E s :=
  richCompare_meets_room (op := .Lt) ⟨_, ha, rfl⟩ ⟨_, hb, rfl⟩ F.slot_tuple_lt F.entry_tuple_lt (F.args_tuple_lt_2 _ _) (tuple_lt3 a b x1 x2 x3 y1 y2 y3 t1 t2 t3 u1 u2 u3)
    ⟨ha, hb, show Value.bool (lex3 (x1, x2, x3) (y1, y2, y3)) ≠ Value.notImplemented ∧ Q (.bool (lex3 (x1, x2, x3) (y1, y2, y3))) s from ⟨(fun x => nomatch x), h⟩⟩ hu
end
section
variable {prog : Program} {w : World} {A : Around} {R : Result → Shared → Prop} {I : Addr} {fp wr : List Addr} {n : Nat} {P : Nat → Value → Prop} {St : Nat → Heap → Prop}
/-- as CmpOf, where the heap's state is asked too -/
def CmpIn (prog : Program) (w : World) (A : Around) (op : CmpOp) (P : Nat → Value → Prop) (St : Nat → Heap → Prop) (bt : Nat → Nat → Bool) : Prop :=
  ∀ i j k vi vj (s : Shared) (Q : Value → Shared → Prop) (E : Value → Shared → Prop), St k s.heap → P i vi → P j vj → Q (.bool (bt i j)) s → wpAny (model prog w) A (richCompare op vi vj) Q E s
theorem walks_keep (W : Walks prog w A I fp wr n P St) (kept : Ledger) (h : ∀ p ∈ kept, p.1 ∉ wr) : Walks prog w A I (fp ++ kept.map (·.1)) wr n P (fun i h => St i h ∧ ∀ p ∈ kept, h.get? p.1 = some p.2) where
  sub := fun b hb => List.mem_append_left _ (W.sub b hb)
  frame := fun i h h' st k => ⟨W.frame i h h' st.1 fun b hb o e => k b (List.mem_append_left _ hb) o e, fun p hp => k p.1 (List.mem_append_right _ (List.mem_map_of_mem hp)) _ (st.2 p hp)⟩
  item := fun i s Q E hi st hQ => W.item i s Q E hi st.1 fun v h' tk hP hst hk => hQ v h' tk hP ⟨hst, fun p hp => hk p.1 p.2 (h p hp) (st.2 p hp)⟩ hk
  done := fun s Q E st hQ => W.done s Q E st.1 hQ
  self := fun i s Q E st hQ => W.self i s Q E st.1 hQ
theorem min_loop (W : Walks prog w A.in1 I fp wr n P St) (bt : Nat → Nat → Bool) (hcmp : CmpIn prog w A.in1 .Lt P St bt) (S : Addr) (hSf : S ∉ fp) :
    ∀ (k j : Nat) (s : Shared) (vb : Value) (c : Nat), n - (j + 1) = k → j + 1 ≤ n → St (j + 1) s.heap → P (argBest bt j) vb →
    s.heap.get? S = some { cls := .type "list", dict := none, data := .seq #[vb, vb] c, slots := #[] } →
    (∀ v h' tk, P (argBest bt (n - 1)) v → (∀ b o, b ∉ wr → b ≠ S → s.heap.get? b = some o → h'.get? b = some o) → R (.ok (.ret v)) { s with heap := h', toks := tk }) →
    codeAny (model prog w) A (.builtin "min.loop" ⟨[.ref I, .none, .ref S], []⟩) R s := by
  have hSw : S ∉ wr := fun h => hSf (W.sub _ h)
  have hname : (toString "min" ++ toString ".loop" : String) = "min.loop" := by decide
  intro k
  induction k with
  | zero =>
    intro j s vb c hk hj hst hPb hS hR
    have hin : j + 1 = n := by omega
    refine codeAny_builtin PySem.F.entry_min_loop ?_
    rw [Around.under_plainId PySem.F.plain_min_loop _]
    show wpAny _ A.in1 (seqItems? (.ref S) >>= _) _ _ s
    refine wpAny_bind (wpAny_seqItems hS rfl ?_)
    show wpAny _ A.in1 (tryCatch (pyNext (.ref I)) _ >>= _) _ _ s
    refine wpAny_bind (wpAny_tryCatch (W.done s _ _ (hin ▸ hst) fun h' tk hk' => ?_))
    have hS' := hk' S _ hSw hS
    show wpAny _ A.in1 (updateSeq S (fun _ => #[]) >>= _) _ _ _
    refine wpAny_bind ?_
    refine wpAny_updateSeq hS' rfl (wpAny_bind (wpAny_letGo (wpAny_pure ?_)))
    exact hR vb _ tk (by rw [← hin]; exact hPb) fun b o hbw hbS e => (Heap.get?_update_other _ _ (Ne.symm hbS)).trans (hk' b o hbw e)
  | succ k ih =>
    intro j s vb c hk hj hst hPb hS hR
    have hlt : j + 1 < n := by omega
    refine codeAny_builtin PySem.F.entry_min_loop ?_
    rw [Around.under_plainId PySem.F.plain_min_loop _]
    show wpAny _ A.in1 (seqItems? (.ref S) >>= _) _ _ s
    refine wpAny_bind (wpAny_seqItems hS rfl ?_)
    show wpAny _ A.in1 (tryCatch (pyNext (.ref I)) _ >>= _) _ _ s
    refine wpAny_bind (wpAny_tryCatch (W.item (j + 1) s _ _ hlt hst fun v h' tk hP hst' hk' => ?_))
    have hS' := hk' S _ hSw hS
    show wpAny _ A.in1 (tryCatch (holding [v, v] (richCompare .Lt v vb >>= _)) _ >>= _) _ _ _
    refine wpAny_bind (wpAny_tryCatch (wpAny_holding (wpAny_bind (hcmp (j + 1) (argBest bt j) (j + 1 + 1) v vb _ _ _ hst' hP hPb ?_))))
    refine wpAny_bind (wpAny_holding (wpAny_truthy_bool ?_))
    refine wpAny_bind (wpAny_letGo (wpAny_pure ?_))
    cases hb : bt (j + 1) (argBest bt j) with
    | true =>
      simp only [if_true]
      refine wpAny_bind ?_
      refine wpAny_updateSeq hS' rfl (wpAny_bind (wpAny_letGo ?_))
      rw [hname]
      refine wpAny_pure ⟨plainId_quiet PySem.F.plain_min_loop _, ih (j + 1) _ v _ (by omega) hlt (W.frame _ _ _ hst' fun b hbf o e => ?_) (by simp only [argBest, hb, if_true]; exact hP) (Heap.get?_update_self _ hS' rfl)
        fun v' h'' tk'' hP' hk'' => ?_⟩
      · exact (Heap.get?_update_other _ _ (fun h : S = b => hSf (by rw [h]; exact hbf))).trans e
      · exact hR v' h'' tk'' hP' fun b o hbw hbS e => hk'' b o hbw hbS ((Heap.get?_update_other _ _ (Ne.symm hbS)).trans (hk' b o hbw e))
    | false =>
      simp only [Bool.false_eq_true, if_false]
      refine wpAny_bind (wpAny_letGo ?_)
      rw [hname]
      refine wpAny_pure ⟨plainId_quiet PySem.F.plain_min_loop _, ih (j + 1) _ vb c (by omega) hlt hst' (by simp only [argBest, hb, Bool.false_eq_true, if_false]; exact hPb) hS' fun v' h'' tk'' hP' hk'' => ?_⟩
      exact hR v' h'' tk'' hP' fun b o hbw hbS e => hk'' b o hbw hbS (hk' b o hbw e)
theorem min_call {x : Value} {s : Shared} {E : Value → Shared → Prop} {Q : Value → Shared → Prop}
    (h : wpAny (model prog w) A.in1 (pyIter x) (fun it s₂ => ∃ I fp wr n P St bt, it = .ref I ∧ Walks prog w A.in1 I fp wr n P St ∧ St 0 s₂.heap ∧ (∀ b ∈ fp, b < s₂.heap.objs.size) ∧ 0 < n ∧ CmpIn prog w A.in1 .Lt P St bt ∧
      ∀ v h' tk, P (argBest bt (n - 1)) v → (∀ b o, b ∉ wr → s₂.heap.get? b = some o → h'.get? b = some o) → Q v { s₂ with heap := h', toks := tk }) E s) :
    wpAny (model prog w) A (call (.builtin "min") [x]) Q E s := by
  have hname : (toString "min" ++ toString ".loop" : String) = "min.loop" := by decide
  refine call_function_tree PySem.F.kind_min PySem.F.plain_min PySem.F.entry_min (PySem.F.args_min1 _) ?_
  show wpAny _ A.in1 (Builtin.Builtins.bindParams "min" ["key", "default"] 0 ⟨[], []⟩ >>= _) _ _ s
  refine wpAny_bind (wpAny_of_eq (show Builtin.Builtins.bindParams "min" ["key", "default"] 0 ⟨[], []⟩ = pure [none, none] from rfl) ?_)
  refine wpAny_bind (wpAny_pure ?_)
  refine wpAny_bind (wpAny_mono h (fun it s₂ h₂ => ?_) fun _ _ e => e)
  obtain ⟨I, fp, wr, n, P, St, bt, rfl, W, hst, hfp, hn, hcmp, hQ⟩ := h₂
  refine wpAny_bind (wpAny_newObj_type ?_)
  have hSf : s₂.heap.objs.size ∉ fp := fun hm => Nat.lt_irrefl _ (hfp _ hm)
  have hSw : s₂.heap.objs.size ∉ wr := fun h => hSf (W.sub _ h)
  rw [hname]
  have hst0 := W.frame _ _ _ hst fun b _ o e => Heap.get?_push_of_some ({ cls := .type "list", data := .seq #[] 0 } : Obj) e
  have hS := Heap.get?_push_size s₂.heap (o := { cls := .type "list", data := .seq #[] 0 }) rfl
  refine wpAny_pure ⟨plainId_quiet PySem.F.plain_min_loop _, ?_⟩
  refine codeAny_builtin PySem.F.entry_min_loop ?_
  rw [Around.under_plainId PySem.F.plain_min_loop _]
  show wpAny _ A.in1 (seqItems? (.ref s₂.heap.objs.size) >>= _) _ _ _
  refine wpAny_bind (wpAny_seqItems hS rfl ?_)
  show wpAny _ A.in1 (tryCatch (pyNext (.ref I)) _ >>= _) _ _ _
  refine wpAny_bind (wpAny_tryCatch (W.item 0 _ _ _ hn hst0 fun v h' tk hP hst' hk' => ?_))
  have hS' := hk' _ _ hSw hS
  show wpAny _ A.in1 (updateSeq s₂.heap.objs.size (fun _ => #[v, v]) >>= _) _ _ _
  refine wpAny_bind ?_
  refine wpAny_updateSeq hS' rfl ?_
  rw [hname]
  refine wpAny_pure ⟨plainId_quiet PySem.F.plain_min_loop _, min_loop W bt hcmp _ hSf _ 0 _ v _ rfl hn (W.frame _ _ _ hst' fun b hbf o e => ?_) hP (Heap.get?_update_self _ hS' rfl) fun v' h'' tk'' hP' hk'' => ?_⟩
  · exact (Heap.get?_update_other _ _ (fun h : s₂.heap.objs.size = b => hSf (by rw [h]; exact hbf))).trans e
  · exact hQ v' h'' tk'' hP' fun b o hbw e => hk'' b o hbw (Nat.ne_of_lt (Heap.lt_size e)) ((Heap.get?_update_other _ _ (Nat.ne_of_gt (Heap.lt_size e))).trans (hk' b o hbw (Heap.get?_push_of_some _ e)))
end
section
variable {prog : Program} {w : World} {A : Around} {E : Value → Shared → Prop} {s : Shared} {h₀ : Heap} {L l : Addr} {m : Str → Option Value} {news : Ledger}
/-- min of a list of triples of ints -/
theorem min_P {vs : List Value} {n : Nat} {Q : Value → Shared → Prop} (key : Nat → Int × Int × Int) (F : Fr h₀ L s.heap m) (N : News h₀ L s.heap news) (hl : (l, listOf vs.toArray n) ∈ news)
    (hk : ∀ i v, vs[i]? = some v → ∃ a t1 t2 t3, v = .ref a ∧ (a, tup3 (key i).1 (key i).2.1 (key i).2.2 t1 t2 t3) ∈ news) (hne : 0 < vs.length) (hh : A.handled = none) (hu : A.in1.units < cLine)
    (hQ : ∀ v h' tk', vs[argBest (fun i j => lex3 (key i) (key j)) (vs.length - 1)]? = some v → Fr h₀ L h' m → News h₀ L h' news → Q v { s with heap := h', toks := tk' }) :
    wpAny (model prog w) A (call (.builtin "min") [.ref l]) Q E s := by
  have hls : s.heap.IsList l vs.toArray := ⟨_, (N _ hl).1, rfl, n, rfl⟩
  have hne' : l ≠ s.heap.objs.size := Nat.ne_of_lt (Heap.lt_size (N _ hl).1)
  have hI : ∀ p ∈ news, p.1 ∉ [s.heap.objs.size] := fun p hp h => Nat.ne_of_lt (Heap.lt_size (N p hp).1) (List.mem_singleton.mp h)
  refine min_call (wpAny_pyIter_list hls ?_)
  have W := walks_keep (Walks.list (prog := prog) (w := w) (A := A.in1) hh s.heap.objs.size l hne' vs.toArray) news hI
  refine ⟨_, _, _, _, _, _, (fun i j => lex3 (key i) (key j)), rfl, W, ⟨⟨⟨_, Heap.get?_push_size _ rfl, rfl, rfl⟩, hls.at fun o e => Heap.get?_push_of_some _ e⟩, fun p hp => Heap.get?_push_of_some _ (N p hp).1⟩, ?_, by simpa using hne, ?_, ?_⟩
  · intro b hb
    rw [size_push']
    rcases List.mem_append.mp hb with hb | hb
    · rcases List.mem_cons.mp hb with rfl | hb
      · exact Nat.lt_succ_self _
      · rw [List.mem_singleton.mp hb]; exact Nat.lt_succ_of_lt (Heap.lt_size (N _ hl).1)
    · obtain ⟨p, hp, rfl⟩ := List.mem_map.mp hb
      exact Nat.lt_succ_of_lt (Heap.lt_size (N p hp).1)
  · intro i j k vi vj s' Q' E' st hi hj hq
    obtain ⟨a, t1, t2, t3, rfl, ha⟩ := hk i vi (by simpa using hi)
    obtain ⟨b, u1, u2, u3, rfl, hb⟩ := hk j vj (by simpa using hj)
    exact lt_tup3 (st.2 _ ha) (st.2 _ hb) hu hq
  · intro v h' tk hP hkk
    have F₁ := F.push { cls := .type "list_iterator", data := .fields #[.ref l, .int 0 0] }
    have N₁ : News h₀ L _ news := fun p hp => ⟨Heap.get?_push_of_some { cls := .type "list_iterator", data := .fields #[.ref l, .int 0 0] } (N p hp).1, (N p hp).2⟩
    exact hQ v h' tk (by simpa using hP) (kmb_fr F₁ hkk (Nat.ne_of_gt F.ns.lt) (next_is_new F)) (kmb_news N₁ hkk fun p hp h => hI p hp (by rw [h]; exact .head _))
end

end Mine
end

section
set_option Elab.async false
set_option maxRecDepth 100000
set_option maxHeartbeats 8000000
set_option linter.all false
namespace Mine
open PySem PySem.W PyProof.Rows

local macro_rules | `(tactic| k_handed) => `(tactic| assumption)
local macro_rules | `(tactic| k_mem) => `(tactic| assumption)
local macro_rules | `(tactic| k_all) => `(tactic| exact wo_ne)
local macro_rules | `(tactic| k_room) => `(tactic| ktr_room)
local macro_rules | `(tactic| units_room) => `(tactic| ktr_units)
local macro_rules | `(tactic| k_enter) => `(tactic| (refine' code_def ?k1 ?k2 ?k3 ?k4 ?k5 ?kA ?kF ?kK ?k6 ?k7 ?k8 ?k9 ?kB ?_ ?c2 ?c3 ?c4 ?c5; (case kA => exact rfl); (case kF => exact rfl); (case kK => first | exact rfl | assumption); (case k1 => k_asm); (case k2 => k_asm); (case k3 => k_asm); (case k4 => k_asm); (case k5 => k_asm); (case k6 => k_is); (case k7 => k_is); (case k8 => ktr_room); (case k9 => first | exact BindsTo.of_eq rfl | exact binds_K (by k_in) rfl (by k_is) rfl rfl rfl); (case c5 => decide); (case kB => exact locs rfl); (case c2 => exact rfl); (case c3 => exact rfl); (case c4 => exact rfl); k_whole; intro g' L' h' FG' F' N' B' X' T'; (try dsimp only); (try k_fold)))
local macro_rules | `(tactic| walk_at "subscriptTail") => `(tactic| (k_here; (with_reducible show wpAny _ _ (subscriptTail _ _ (Value.ref _) (Value.int _ _)) _ _ _); first
  | ((with_reducible show wpAny _ _ (subscriptTail _ (PySem.Expr.UnaryOp _ _ _) (Value.ref _) (Value.int _ _)) _ _ _); refine' item_last ?k1 ?k2 ?_ ?k7; (case k1 => k_asm); (case k2 => k_mem); (case k7 => with_unfolding_all rfl); k_whole)
  | (refine' item_P ?k1 ?k2 ?k3 ?k4 ?k5 ?_ ?k7; (case k1 => k_asm); (case k2 => k_mem); (case k3 => omega); (case k4 => omega); (case k5 => first | with_reducible assumption | ((with_reducible rw [Int.toNat_natCast]); with_reducible assumption) | exact rfl); (case k7 => with_unfolding_all rfl); k_whole)
  | (refine' tupItem_P ?k1 ?k2 ?k3 ?k4 ?k5 ?_ ?k7; (case k1 => k_asm); (case k2 => k_mem); (case k3 => omega); (case k4 => omega); (case k5 => first | with_reducible assumption | ((with_reducible rw [Int.toNat_natCast]); with_reducible assumption) | exact rfl); (case k7 => with_unfolding_all rfl); k_whole)))
local macro_rules | `(tactic| walk_at "setItem ref int") => `(tactic| (k_here; k_dflt (refine' setAt_P ?k1 ?k2 ?k3 ?k4 ?k5 ?k6 ?_; (case k1 => k_asm); (case k2 => k_asm); (case k3 => k_mem); (case k4 => omega); (case k5 => omega); (case k6 => first | (simp; done) | (simp only [Int.toNat_natCast, List.length_map]; omega) | (simp; omega)); k_whole; intro h' F' N')))
local macro_rules | `(tactic| walk_at "call builtin:list.append") => `(tactic| (k_here; (with_reducible show wpAny _ _ (call (Value.builtin _) [Value.ref _, _]) _ _ _); k_dflt (refine' append_P ?k1 ?k2 ?k3 ?_ ?z; (case k1 => k_asm); (case k2 => k_asm); (case k3 => k_mem); (case z => simp only [sizeLine_eq, List.size_toArray, List.length_append, List.length_map, List.length_cons, List.length_nil]; omega); k_whole; intro h' F' N')))
local macro_rules | `(tactic| walk_at "call builtin:len") => `(tactic| (k_here; (with_reducible show wpAny _ _ (call (Value.builtin "len") [Value.ref _]) _ _ _); k_dflt (refine' len_P ?k1 ?k2 ?k3 ?_; (case k1 => k_asm); (case k2 => k_mem); (case k3 => (try simp only [List.length_map, List.length_append, List.length_cons, List.length_nil]); omega); k_whole); (try simp only [List.length_map])))
local macro_rules | `(tactic| walk_at "compareOp NotEq ref ref") => `(tactic| (k_here; (refine' ne_empty_P ?k1 ?k2 ?k3 ?k4 ?_; (case k1 => k_asm); (case k3 => k_mem); (case k2 => k_mem); (case k4 => units_room); k_whole)))
local macro_rules | `(tactic| walk_at "compareOp Eq ref ref") => `(tactic| (k_here; (refine' eq_empty_P ?k1 ?k2 ?k3 ?k4 ?_; (case k1 => k_asm); (case k3 => k_mem); (case k2 => k_mem); (case k4 => units_room); k_whole)))

/-- the law's own row: a tuple -/
structure Rw where
  t : Addr
  r : Rt
  t0 : Tok
  t1 : Tok
  t2 : Tok
  t3 : Tok
  t4 : Tok
abbrev Rw.obj (q : Rw) : Obj := tupObj [.int q.r.net q.t0, .int q.r.pre q.t1, .int q.r.gw q.t2, .int q.r.face q.t3, .int q.r.met q.t4]
def inNet (r : Rt) (x : Int) : Bool := decide (r.net ≤ x ∧ x < r.net + 2 ^ (32 - r.pre).toNat)
def rtAt (rs : List Rt) (k : Nat) : Rt := rs.getD k ⟨0, 0, 0, 0, 0⟩
def hits (rs : List Rt) (x : Int) (i : Nat) : List Nat := (List.range i).filter fun k => inNet (rtAt rs k) x
def keyOf (rs : List Rt) (k : Nat) : Int × Int × Int := (0 - (rtAt rs k).pre, (rtAt rs k).met, (k : Int))
def hitKey (rs : List Rt) (x : Int) (j : Nat) : Int × Int × Int := keyOf rs ((hits rs x rs.length).getD j 0)
/-- the row that the law holds to be due -/
def dueIdx (rs : List Rt) (x : Int) : Option Nat :=
  if hits rs x rs.length = [] then none else some ((hits rs x rs.length).getD (argBest (fun i j => lex3 (hitKey rs x i) (hitKey rs x j)) ((hits rs x rs.length).length - 1)) 0)
theorem hits_succ (rs : List Rt) (x : Int) (i : Nat) : hits rs x (i + 1) = hits rs x i ++ if inNet (rtAt rs i) x then [i] else [] := by
  unfold hits
  rw [List.range_succ, List.filter_append, List.filter_cons]
  cases inNet (rtAt rs i) x <;> simp
theorem hits_len (rs : List Rt) (x : Int) (i : Nat) : (hits rs x i).length ≤ i := by
  unfold hits
  exact Nat.le_trans (List.length_filter_le _ _) (by simp)
theorem hits_lt {rs : List Rt} {x : Int} {i j k : Nat} (h : (hits rs x i)[j]? = some k) : k < i := by
  have := List.mem_of_getElem? h
  unfold hits at this
  exact List.mem_range.mp (List.mem_filter.mp this).1
theorem argBest_le (bt : Nat → Nat → Bool) : ∀ k, argBest bt k ≤ k
  | 0 => Nat.le_refl _
  | k + 1 => by
    unfold argBest
    split
    · exact Nat.le_refl _
    · exact Nat.le_succ_of_le (argBest_le bt k)
/-- the ranked triples in the ledger -/
def Ranked (rs : List Rt) (l : Ledger) (vs : List Value) (hs : List Nat) : Prop := vs.length = hs.length ∧ ∀ (j : Nat) (v : Value) (k : Nat), vs[j]? = some v → hs[j]? = some k → ∃ a t1 t2 t3, v = .ref a ∧ (a, tup3 (keyOf rs k).1 (keyOf rs k).2.1 (keyOf rs k).2.2 t1 t2 t3) ∈ l
theorem ranked_nil (rs : List Rt) (l : Ledger) : Ranked rs l [] [] := ⟨rfl, fun j v k h => by simp at h⟩
theorem ranked_mono {rs : List Rt} {l l' : Ledger} {vs : List Value} {hs : List Nat} (R : Ranked rs l vs hs) (h : ∀ a x1 x2 x3 t1 t2 t3, (a, tup3 x1 x2 x3 t1 t2 t3) ∈ l → (a, tup3 x1 x2 x3 t1 t2 t3) ∈ l') : Ranked rs l' vs hs :=
  ⟨R.1, fun j v k h1 h2 => let ⟨a, t1, t2, t3, e, m⟩ := R.2 j v k h1 h2; ⟨a, t1, t2, t3, e, h _ _ _ _ _ _ _ m⟩⟩
theorem ranked_snoc {rs : List Rt} {l : Ledger} {vs : List Value} {hs : List Nat} {a : Addr} {k : Nat} (R : Ranked rs l vs hs) (h : ∃ t1 t2 t3, (a, tup3 (keyOf rs k).1 (keyOf rs k).2.1 (keyOf rs k).2.2 t1 t2 t3) ∈ l) : Ranked rs l (vs ++ [Value.ref a]) (hs ++ [k]) := by
  refine ⟨by simp [R.1], fun j v k' h1 h2 => ?_⟩
  rcases Nat.lt_or_ge j vs.length with hj | hj
  · rw [List.getElem?_append_left hj] at h1
    rw [List.getElem?_append_left (by rw [← R.1]; exact hj)] at h2
    exact R.2 j v k' h1 h2
  · rw [List.getElem?_append_right hj] at h1
    rw [List.getElem?_append_right (by rw [← R.1]; exact hj)] at h2
    have e1 : j - vs.length = 0 := by
      rcases Nat.eq_zero_or_pos (j - vs.length) with h | h
      · exact h
      · rw [List.getElem?_eq_none (by simp; omega)] at h1; cases h1
    rw [e1] at h1
    rw [← R.1, e1] at h2
    simp at h1 h2
    subst h1 h2
    obtain ⟨t1, t2, t3, h⟩ := h
    exact ⟨a, t1, t2, t3, rfl, h⟩
theorem rtAt_map {rws : List Rw} {i : Nat} {q : Rw} (h : rws[i]? = some q) : rtAt (rws.map (·.r)) i = q.r := by
  unfold rtAt
  rw [List.getD_eq_getElem?_getD, List.getElem?_map, h]; rfl
theorem inNet_iff {r : Rt} {x : Int} : inNet r x = true ↔ r.net ≤ x ∧ x < r.net + 2 ^ (32 - r.pre).toNat := by unfold inNet; simp
theorem tup_ne_list {vs : List Value} {ws : Array Value} {n k : Nat} : ({ cls := .type "tuple", data := .seq vs.toArray n } : Obj) ≠ listOf ws k := fun e => by
  have := congrArg Obj.cls e; injection this with h; exact absurd h (by decide)

theorem c_due (w mean mg mb) (R : Addr) (rws : List Rw) (n : Nat) (x : Int) (t : Tok) (news : Ledger) (hR : (R, listOf (rws.map fun q => Value.ref q.t).toArray n) ∈ news) (hrw : ∀ q ∈ rws, (q.t, q.obj) ∈ news) (hlen : rws.length ≤ 100)
    (hpre : ∀ q ∈ rws, 0 ≤ q.r.pre ∧ q.r.pre ≤ 32) :
    Fn w mean mg mb 677 9 100 [.ref R, .int x t] news (fun r n' => (∀ p ∈ news, p ∈ n') ∧ r = if 2130706432 ≤ x ∧ x < 2147483648 then .none else match dueIdx (rws.map (·.r)) x with
      | none => .none
      | some k => ((rws[k]?).map fun q => Value.ref q.t).getD .none) := by
  unfold Fn; k_fill; intro dp un gd cn cs a ccd cl outer A₀ base h₀ L m s Q E B F X N T hk hdp hun hret
  refine wpAny_call ?_; ktr_enter
  repeat' ((fail_if_success (with_reducible show wpAny _ _ (exec (Stmt.For _ _ _ _ _) _) _ _ _)); (fail_if_success (with_reducible show wpAny _ _ (pyIter _) _ _ _)); (fail_if_success (with_reducible show wpAny _ _ (exec (Stmt.Raise _ _ _) _) _ _ _)); (fail_if_success (with_reducible show wpAny _ _ (exec (Stmt.While _ _ _ _) _) _ _ _)); first | (k_unfold; (try dsimp only)) | walk1 | (dsimp only; walk1) | (leave1; (try dsimp only)))
  · rename (2130706432 ≤ x) => g1
    rename (x < 2147483648) => g2
    exact hret _ _ _ _ (by k_asm) (by k_asm) ⟨fun p hp => hp, by rw [if_pos ⟨g1, g2⟩]⟩
  all_goals (have hnl : ¬ (2130706432 ≤ x ∧ x < 2147483648) := by omega)
  all_goals (
    (rename Fr _ _ _ _ => lF); with_unfolding_all refine' For_invVF lF ?k1 ?k2 ?_; (case k1 => exact rfl); (case k2 => exact rfl)
    repeat' ((fail_if_success (with_reducible show wpAny _ _ (exec (Stmt.For _ _ _ _ _) _) _ _ _)); (fail_if_success (with_reducible show wpAny _ _ (pyIter _) _ _ _)); (fail_if_success (with_reducible show wpAny _ _ (exec (Stmt.Raise _ _ _) _) _ _ _)); (fail_if_success (with_reducible show wpAny _ _ (exec (Stmt.While _ _ _ _) _) _ _ _)); first | (k_unfold; (try dsimp only)) | walk1 | (dsimp only; walk1) | (leave1; (try dsimp only)))
    (rename IsRange _ _ _ _ _ _ _ _ => hRg)
    (rename Fr _ _ _ _ => F1)
    (rename (∀ p ∈ news, p.1 < _) => lf)
    (rename News _ _ _ _ => N1)
    obtain ⟨rk, rfl, lf⟩ := bound_name lf
    refine it_upto (fun i m nx => ∃ vs c, m "ranked" = some (.ref rk) ∧ m "rows" = some (.ref R) ∧ m "target" = some (.int x t) ∧ (rk, listOf vs.toArray c) ∈ nx ∧ Ranked (rws.map (·.r)) nx vs (hits (rws.map (·.r)) x i) ∧ (∀ p ∈ news, p ∈ nx)) hRg rfl (by omega) F1 N1 ⟨[], 0, rfl, rfl, rfl, .head _, ranked_nil _ _, fun p hp => .tail _ hp⟩ ?_ ?_
    · rintro i ti m₁ nx h tk Ia io hi ⟨vs, c, hrk, hrs, htg, hl, hrd, hsub⟩ hoff hio F2 N2
      clear F1 N1 hRg
      replace F2 := fr_know F2 (y0 := "ranked") (v0 := .ref rk) (by rw [if_neg (by decide)]; exact hrk)
      replace F2 := fr_know F2 (y0 := "rows") (v0 := .ref R) (by rw [if_neg (by decide), if_neg (by decide)]; exact hrs)
      replace F2 := fr_know F2 (y0 := "target") (v0 := .int x t) (by rw [if_neg (by decide), if_neg (by decide), if_neg (by decide)]; exact htg)
      obtain ⟨q, hq⟩ : ∃ q, rws[i]? = some q := ⟨rws[i], by simp [hi]⟩
      have hqv : (rws.map fun q => Value.ref q.t)[i]? = some (.ref q.t) := by rw [List.getElem?_map, hq]; rfl
      have hqm := List.mem_of_getElem? hq
      have hq1 := hsub _ (hrw q hqm)
      have hR1 := hsub _ hR
      have ⟨hp1, hp2⟩ := hpre q hqm
      have hat := rtAt_map hq
      have UN := one_of N2
      have hvl : vs.length ≤ 100 := by rw [hrd.1]; exact Nat.le_trans (hits_len _ _ _) (by omega)
      repeat' ((fail_if_success (with_reducible show wpAny _ _ (exec (Stmt.For _ _ _ _ _) _) _ _ _)); (fail_if_success (with_reducible show wpAny _ _ (pyIter _) _ _ _)); (fail_if_success (with_reducible show wpAny _ _ (exec (Stmt.Raise _ _ _) _) _ _ _)); (fail_if_success (with_reducible show wpAny _ _ (exec (Stmt.While _ _ _ _) _) _ _ _)); first | (k_unfold; (try dsimp only)) | walk1 | (dsimp only; walk1) | (leave1; (try dsimp only)))
      · rename (q.r.net ≤ x) => g1
        rename (x < q.r.net + 2 ^ (32 - q.r.pre).toNat) => g2
        rename (_ ∧ AllLt _ nx) => l5
        have l6 := l5.1
        have l7 := allLt_out l5.2
        rename News _ _ _ _ => N7
        obtain ⟨tp, rfl, l7⟩ := bound_name l7
        have hIa := news_put_mem (p := (Ia, io)) N7 (.tail _ (.head _)) (fun h => hoff _ hl h.symm)
        refine turn_end' (by k_asm) N7 hIa ⟨vs ++ [.ref tp], c + 1, rfl, rfl, rfl, ?_, ?_, ?_⟩
        · rw [← List.push_toArray]
          exact mem_wo.mpr ⟨mem_put, fun h => hoff _ hl h⟩
        · rw [hits_succ, hat, inNet_iff.mpr ⟨g1, g2⟩, if_pos rfl]
          refine ranked_snoc (ranked_mono hrd fun a x1 x2 x3 t1 t2 t3 hm => mem_wo.mpr ⟨mem_put_ne (.tail _ (.tail _ hm)) (UN.ne (.tail _ hm) (.tail _ hl) tup_ne_list), hoff _ hm⟩) ?_
          simp only [keyOf, hat]
          exact ⟨_, _, _, mem_wo.mpr ⟨mem_put_ne (.head _) (Nat.ne_of_gt (l7 _ hl)), Nat.ne_of_gt l6⟩⟩
        · exact fun p hp => mem_wo.mpr ⟨mem_put_ne (.tail _ (.tail _ (hsub p hp))) (Nat.ne_of_lt (lf p hp)), hoff _ (hsub p hp)⟩
      all_goals (
        have hno : inNet q.r x = false := by
          rw [← Bool.not_eq_true, inNet_iff]
          omega
        refine turn_end nx (by k_asm) (by k_asm) hoff ⟨vs, c, rfl, rfl, rfl, hl, ?_, hsub⟩
        rw [hits_succ, hat, hno]
        simpa using hrd)
    · rintro m₁ nx h tk ⟨vs, c, hrk, hrs, htg, hl, hrd, hsub⟩ F2 N2
      clear F1 N1 hRg
      replace F2 := fr_know F2 hrk
      replace F2 := fr_know F2 (y0 := "rows") (v0 := .ref R) (by rw [if_neg (by decide)]; exact hrs)
      have hR1 := hsub _ hR
      have hvl : vs.length ≤ 100 := by rw [hrd.1]; exact Nat.le_trans (hits_len _ _ _) (by omega)
      have hlr : (rws.map (·.r)).length = rws.length := by simp
      rw [← hlr] at hrd
      repeat' ((fail_if_success (with_reducible show wpAny _ _ (exec (Stmt.For _ _ _ _ _) _) _ _ _)); (fail_if_success (with_reducible show wpAny _ _ (pyIter _) _ _ _)); (fail_if_success (with_reducible show wpAny _ _ (exec (Stmt.Raise _ _ _) _) _ _ _)); (fail_if_success (with_reducible show wpAny _ _ (exec (Stmt.While _ _ _ _) _) _ _ _)); first | (k_unfold; (try dsimp only)) | walk1 | (dsimp only; walk1) | (leave1; (try dsimp only)))
      · rename (vs.isEmpty = true) => hm
        rw [List.isEmpty_iff] at hm
        have hh : hits (rws.map (·.r)) x (rws.map (·.r)).length = [] := by
          have := hrd.1
          rw [hm] at this
          exact List.eq_nil_of_length_eq_zero this.symm
        rename News _ _ _ _ => N9
        refine hret _ nx _ _ (by k_asm) (news_sub N9 fun _ h => .tail _ h) ⟨hsub, ?_⟩
        rw [if_neg hnl, dueIdx, if_pos hh]
      · rename (vs.isEmpty = false) => hm
        have hvp : 0 < vs.length := by
          cases vs with
          | nil => cases hm
          | cons _ _ => exact Nat.succ_pos _
        refine' min_P (hitKey (rws.map (·.r)) x) ?k1 ?k2 ?k3 ?k4 hvp ?k6 ?k7 ?_
        case k1 => k_asm
        case k2 => k_asm
        case k3 => exact .tail _ hl
        case k4 =>
          intro i v hv
          have hi : i < (hits (rws.map (·.r)) x (rws.map (·.r)).length).length := by
            rw [← hrd.1]
            rcases Nat.lt_or_ge i vs.length with h | h
            · exact h
            · rw [List.getElem?_eq_none h] at hv; cases hv
          obtain ⟨a, t1, t2, t3, e, hm⟩ := hrd.2 i v _ hv (List.getElem?_eq_getElem hi)
          refine ⟨a, t1, t2, t3, e, .tail _ ?_⟩
          unfold hitKey
          rw [List.getD_eq_getElem?_getD, List.getElem?_eq_getElem hi]
          exact hm
        case k6 => rfl
        case k7 => units_room
        k_whole
        intro v h' tk' hv F7 N7
        rw [hrd.1] at hv hvp
        have hj : argBest (fun i j => lex3 (hitKey (rws.map (·.r)) x i) (hitKey (rws.map (·.r)) x j)) ((hits (rws.map (·.r)) x (rws.map (·.r)).length).length - 1) < (hits (rws.map (·.r)) x (rws.map (·.r)).length).length :=
          Nat.lt_of_le_of_lt (argBest_le _ _) (by omega)
        have hk := List.getElem?_eq_getElem hj
        obtain ⟨k, hk'⟩ : ∃ k, (hits (rws.map (·.r)) x (rws.map (·.r)).length)[argBest (fun i j => lex3 (hitKey (rws.map (·.r)) x i) (hitKey (rws.map (·.r)) x j)) ((hits (rws.map (·.r)) x (rws.map (·.r)).length).length - 1)]? = some k := ⟨_, hk⟩
        have hd : dueIdx (rws.map (·.r)) x = some k := by
          unfold dueIdx
          rw [if_neg (fun h => by rw [h] at hvp; exact absurd hvp (Nat.lt_irrefl _)), List.getD_eq_getElem?_getD, hk']; rfl
        obtain ⟨a, t1, t2, t3, rfl, hm⟩ := hrd.2 _ v k hv hk'
        have hm : (a, tup3 (keyOf (rws.map (·.r)) k).1 (keyOf (rws.map (·.r)) k).2.1 (k : Int) t1 t2 t3) ∈ nx := hm
        have hkl := hits_lt hk'
        rw [hlr] at hkl
        obtain ⟨q, hq⟩ : ∃ q, rws[k]? = some q := ⟨rws[k], by simp [hkl]⟩
        have hqv : (rws.map fun q => Value.ref q.t)[k]? = some (.ref q.t) := by rw [List.getElem?_map, hq]; rfl
        repeat' ((fail_if_success (with_reducible show wpAny _ _ (exec (Stmt.For _ _ _ _ _) _) _ _ _)); (fail_if_success (with_reducible show wpAny _ _ (pyIter _) _ _ _)); (fail_if_success (with_reducible show wpAny _ _ (exec (Stmt.Raise _ _ _) _) _ _ _)); (fail_if_success (with_reducible show wpAny _ _ (exec (Stmt.While _ _ _ _) _) _ _ _)); first | (k_unfold; (try dsimp only)) | walk1 | (dsimp only; walk1) | (leave1; (try dsimp only)))
        rename News _ _ _ _ => N9
        refine hret _ nx _ _ (by k_asm) (news_sub N9 fun _ h => .tail _ h) ⟨hsub, ?_⟩
        rw [if_neg hnl, hd]
        simp only [hq]
        rfl)
end Mine
end

section
set_option Elab.async false
set_option maxRecDepth 100000
set_option maxHeartbeats 8000000
set_option linter.all false
namespace Mine
open PySem PySem.W PyProof.Rows

local macro_rules | `(tactic| k_handed) => `(tactic| assumption)
local macro_rules | `(tactic| k_mem) => `(tactic| assumption)
local macro_rules | `(tactic| k_all) => `(tactic| exact wo_ne)
local macro_rules | `(tactic| k_room) => `(tactic| ktr_room)
local macro_rules | `(tactic| units_room) => `(tactic| ktr_units)
local macro_rules | `(tactic| k_enter) => `(tactic| (refine' code_def ?k1 ?k2 ?k3 ?k4 ?k5 ?kA ?kF ?kK ?k6 ?k7 ?k8 ?k9 ?kB ?_ ?c2 ?c3 ?c4 ?c5; (case kA => exact rfl); (case kF => exact rfl); (case kK => first | exact rfl | assumption); (case k1 => k_asm); (case k2 => k_asm); (case k3 => k_asm); (case k4 => k_asm); (case k5 => k_asm); (case k6 => k_is); (case k7 => k_is); (case k8 => ktr_room); (case k9 => first | exact BindsTo.of_eq rfl | exact binds_K (by k_in) rfl (by k_is) rfl rfl rfl); (case c5 => decide); (case kB => exact locs rfl); (case c2 => exact rfl); (case c3 => exact rfl); (case c4 => exact rfl); k_whole; intro g' L' h' FG' F' N' B' X' T'; (try dsimp only); (try k_fold)))
local macro_rules | `(tactic| walk_at "subscriptTail") => `(tactic| (k_here; (with_reducible show wpAny _ _ (subscriptTail _ _ (Value.ref _) (Value.int _ _)) _ _ _); first
  | ((with_reducible show wpAny _ _ (subscriptTail _ (PySem.Expr.UnaryOp _ _ _) (Value.ref _) (Value.int _ _)) _ _ _); refine' item_last ?k1 ?k2 ?_ ?k7; (case k1 => k_asm); (case k2 => k_mem); (case k7 => with_unfolding_all rfl); k_whole)
  | (refine' item_P ?k1 ?k2 ?k3 ?k4 ?k5 ?_ ?k7; (case k1 => k_asm); (case k2 => k_mem); (case k3 => omega); (case k4 => omega); (case k5 => first | with_reducible assumption | ((with_reducible rw [Int.toNat_natCast]); with_reducible assumption) | exact rfl); (case k7 => with_unfolding_all rfl); k_whole)
  | (refine' tupItem_P ?k1 ?k2 ?k3 ?k4 ?k5 ?_ ?k7; (case k1 => k_asm); (case k2 => k_mem); (case k3 => omega); (case k4 => omega); (case k5 => first | with_reducible assumption | ((with_reducible rw [Int.toNat_natCast]); with_reducible assumption) | exact rfl); (case k7 => with_unfolding_all rfl); k_whole)))
local macro_rules | `(tactic| walk_at "setItem ref int") => `(tactic| (k_here; k_dflt (refine' setAt_P ?k1 ?k2 ?k3 ?k4 ?k5 ?k6 ?_; (case k1 => k_asm); (case k2 => k_asm); (case k3 => k_mem); (case k4 => omega); (case k5 => omega); (case k6 => first | (simp; done) | (simp only [Int.toNat_natCast, List.length_map]; omega) | (simp; omega)); k_whole; intro h' F' N')))
local macro_rules | `(tactic| walk_at "call builtin:list.append") => `(tactic| (k_here; (with_reducible show wpAny _ _ (call (Value.builtin _) [Value.ref _, _]) _ _ _); k_dflt (refine' append_P ?k1 ?k2 ?k3 ?_ ?z; (case k1 => k_asm); (case k2 => k_asm); (case k3 => k_mem); (case z => simp only [sizeLine_eq, List.size_toArray, List.length_append, List.length_map, List.length_cons, List.length_nil]; omega); k_whole; intro h' F' N')))
local macro_rules | `(tactic| walk_at "call builtin:len") => `(tactic| (k_here; (with_reducible show wpAny _ _ (call (Value.builtin "len") [Value.ref _]) _ _ _); k_dflt (refine' len_P ?k1 ?k2 ?k3 ?_; (case k1 => k_asm); (case k2 => k_mem); (case k3 => (try simp only [List.length_map, List.length_append, List.length_cons, List.length_nil]); omega); k_whole); (try simp only [List.length_map])))
local macro_rules | `(tactic| walk_at "compareOp NotEq ref ref") => `(tactic| (k_here; (refine' ne_empty_P ?k1 ?k2 ?k3 ?k4 ?_; (case k1 => k_asm); (case k3 => k_mem); (case k2 => k_mem); (case k4 => units_room); k_whole)))
local macro_rules | `(tactic| walk_at "compareOp Eq ref ref") => `(tactic| (k_here; (refine' eq_empty_P ?k1 ?k2 ?k3 ?k4 ?_; (case k1 => k_asm); (case k3 => k_mem); (case k2 => k_mem); (case k4 => units_room); k_whole)))

local macro_rules | `(tactic| walk_at "setAttr ref") => `(tactic| (k_here; k_dflt (refine' set_dict_P ?k1 ?k2 ?k3 ?k4 ?k5 ?k12 ?k6 ?k7 ?k8 ?k9 ?k10 ?k11 ?k13 ?_; (case k1 => k_asm); (case k2 => k_asm); (case k3 => k_asm); (case k4 => k_inst); (case k5 => exact rfl); (case k6 => k_is); (case k7 => k_is); (case k8 => k_is); (case k9 => k_is); (case k10 => k_get); (case k11 => k_put); (case k12 => k_mem); (case k13 => exact Nat.le_of_ble_eq_true rfl); k_whole; intro h' F' N')))

/-- a tree of a root alone -/
def bare (e : Nd) : Tr := fun q => if q = [] then some e else none
theorem bare_val {e : Nd} {b : Bool} : (bare e).val [b] = .none := rfl
theorem bare_in {P : Params} {l : Ledger} {e : Nd} (h1 : (e.b, instObj 212 e.bd) ∈ l) (h2 : (e.bd, brObj P e.k0 e.k1 e.k2 .none .none (.ref e.rl)) ∈ l) (h3 : (e.rl, listOf #[] 0) ∈ l) (hr : e.rs = []) (hn : e.n = 0) : TrIn P (bare e) l := by
  refine ⟨fun p d hp => ?_, fun p q d f hp hq _ => ?_, ⟨e, rfl⟩, fun p b d hp => ?_⟩
  · unfold bare at hp
    split at hp
    · rename_i h; subst h
      obtain rfl := Option.some.inj hp
      exact ⟨h1, h2, by rw [hr, hn]; exact h3, fun o ho => by rw [hr] at ho; cases ho⟩
    · cases hp
  · unfold bare at hp hq
    split at hp <;> split at hq
    · simp [*]
    · cases hq
    · cases hp
    · cases hp
  · unfold bare at hp
    split at hp
    · rename_i h; simp at h
    · cases hp
/-- nothing of the tree stood in l -/
structure Fresh (l : Ledger) (wd : Addr) (Z : Tr) : Prop where
  wd : Off l wd
  own : ∀ q e, Z q = some e → Off l e.bd ∧ Off l e.rl

theorem c_routes (w mean mg mb) (news : Ledger) :
    Fn w mean mg mb 296 20 200 [] news (fun r n' => ∃ wy wd k0 k1 Z, r = .ref wy ∧ Ways w.params wy wd k0 k1 Z 0 n' ∧ (∀ q, Z.rs q = []) ∧ (∀ p ∈ news, p ∈ n') ∧ Fresh news wd Z) := by
  unfold Fn; k_fill; intro dp un gd cn cs a ccd cl outer A₀ base h₀ L m s Q E B F X N T hk hdp hun hret
  refine' call_cls ?k1 ?k2 ?k3 ?k4 ?k5 ?k6 ?_; (case k1 => k_asm); (case k2 => k_asm); (case k3 => k_asm); (case k4 => k_is); (case k5 => k_is); (case k6 => k_is); k_whole; intro wy wd h' F' N' l1 l2; k_enter
  repeat' ((fail_if_success (with_reducible show wpAny _ _ (exec (Stmt.For _ _ _ _ _) _) _ _ _)); (fail_if_success (with_reducible show wpAny _ _ (pyIter _) _ _ _)); (fail_if_success (with_reducible show wpAny _ _ (exec (Stmt.Raise _ _ _) _) _ _ _)); (fail_if_success (with_reducible show wpAny _ _ (exec (Stmt.While _ _ _ _) _) _ _ _)); (fail_if_success (with_reducible show wpAny _ _ (call (Value.ref 212) _) _ _ _)); first | (k_unfold; (try dsimp only)) | walk1 | (dsimp only; walk1) | (leave1; (try dsimp only)))
  refine fn_use (c_branch w mean mg mb _) (by k_asm) (by k_asm) (by k_asm) (by k_asm) (by k_asm) (by first | exact rfl | assumption) (by ktr_room) (by first | ktr_units | (have hcL9 := cLine_is; (try simp only [units_under_make, units_in1, units_deeper, Around.mark_units, units_caller] at *); (try dsimp only [ktrTop] at *); omega)) ?_
  rintro _ n4 h' tk' F5 N5 ⟨b, bd, rl, q0, q1, q2, rfl, hs, eb, ed, er, o1, o2, o3⟩
  have U5 := one_of N5
  have hy := hs _ (.head _)
  have hd := hs _ (.tail _ (.head _))
  have hne : wy ≠ wd := Nat.ne_of_gt l2
  have ob : bd ≠ wd := fun h => o2 _ (.tail _ (.head _)) h.symm
  have ol : rl ≠ wd := fun h => o3 _ (.tail _ (.head _)) h.symm
  have obb : b ≠ wd := fun h => o1 _ (.tail _ (.head _)) h.symm
  repeat' ((fail_if_success (with_reducible show wpAny _ _ (exec (Stmt.For _ _ _ _ _) _) _ _ _)); (fail_if_success (with_reducible show wpAny _ _ (pyIter _) _ _ _)); (fail_if_success (with_reducible show wpAny _ _ (exec (Stmt.Raise _ _ _) _) _ _ _)); (fail_if_success (with_reducible show wpAny _ _ (exec (Stmt.While _ _ _ _) _) _ _ _)); first | (k_unfold; (try dsimp only)) | walk1 | (dsimp only; walk1) | (leave1; (try dsimp only)))
  rename News _ _ _ _ => N7
  have hy7 := news_put_mem N7 hy hne
  repeat' ((fail_if_success (with_reducible show wpAny _ _ (exec (Stmt.For _ _ _ _ _) _) _ _ _)); (fail_if_success (with_reducible show wpAny _ _ (pyIter _) _ _ _)); (fail_if_success (with_reducible show wpAny _ _ (exec (Stmt.Raise _ _ _) _) _ _ _)); (fail_if_success (with_reducible show wpAny _ _ (exec (Stmt.While _ _ _ _) _) _ _ _)); first | (k_unfold; (try dsimp only)) | walk1 | (dsimp only; walk1) | (leave1; (try dsimp only)))
  rename News h₀ _ _ _ => kN
  have keep : ∀ p ∈ n4, p.1 ≠ wd → p ∈ _ := fun p hp hn => news_put_mem kN (mem_put_ne hp hn) hn
  refine hret _ _ _ _ (by k_asm) kN ⟨wy, wd, _, _, bare ⟨b, bd, rl, q0, q1, q2, [], 0⟩, rfl, ⟨keep _ hy hne, ⟨_, _, rfl, mem_put⟩, bare_in (keep _ eb obb) (keep _ ed ob) (keep _ er ol) rfl rfl⟩, fun q => ?_, fun p hp => keep _ (hs _ (.tail _ (.tail _ hp))) (Nat.ne_of_lt (l1 p hp)), ⟨off_lt l1 (Nat.le_refl _), fun q e hq => ?_⟩⟩
  · unfold Tr.rs bare
    split
    · rfl
    · rename_i h
      split at h
      · rw [← Option.some.inj h]
      · cases h
  · unfold bare at hq
    split at hq
    · rw [← Option.some.inj hq]
      exact ⟨fun p hp => o2 p (.tail _ (.tail _ hp)), fun p hp => o3 p (.tail _ (.tail _ hp))⟩
    · cases hq
end Mine
end

section
set_option Elab.async false
set_option maxRecDepth 100000
set_option maxHeartbeats 8000000
set_option linter.all false
namespace Mine
open PySem PySem.W PyProof.Rows

local macro_rules | `(tactic| k_handed) => `(tactic| assumption)
local macro_rules | `(tactic| k_mem) => `(tactic| assumption)
local macro_rules | `(tactic| k_all) => `(tactic| exact wo_ne)
local macro_rules | `(tactic| k_room) => `(tactic| ktr_room)
local macro_rules | `(tactic| units_room) => `(tactic| ktr_units)
local macro_rules | `(tactic| k_enter) => `(tactic| (refine' code_def ?k1 ?k2 ?k3 ?k4 ?k5 ?kA ?kF ?kK ?k6 ?k7 ?k8 ?k9 ?kB ?_ ?c2 ?c3 ?c4 ?c5; (case kA => exact rfl); (case kF => exact rfl); (case kK => first | exact rfl | assumption); (case k1 => k_asm); (case k2 => k_asm); (case k3 => k_asm); (case k4 => k_asm); (case k5 => k_asm); (case k6 => k_is); (case k7 => k_is); (case k8 => ktr_room); (case k9 => first | exact BindsTo.of_eq rfl | exact binds_K (by k_in) rfl (by k_is) rfl rfl rfl); (case c5 => decide); (case kB => exact locs rfl); (case c2 => exact rfl); (case c3 => exact rfl); (case c4 => exact rfl); k_whole; intro g' L' h' FG' F' N' B' X' T'; (try dsimp only); (try k_fold)))
local macro_rules | `(tactic| walk_at "subscriptTail") => `(tactic| (k_here; (with_reducible show wpAny _ _ (subscriptTail _ _ (Value.ref _) (Value.int _ _)) _ _ _); first
  | ((with_reducible show wpAny _ _ (subscriptTail _ (PySem.Expr.UnaryOp _ _ _) (Value.ref _) (Value.int _ _)) _ _ _); refine' item_last ?k1 ?k2 ?_ ?k7; (case k1 => k_asm); (case k2 => k_mem); (case k7 => with_unfolding_all rfl); k_whole)
  | (refine' item_P ?k1 ?k2 ?k3 ?k4 ?k5 ?_ ?k7; (case k1 => k_asm); (case k2 => k_mem); (case k3 => omega); (case k4 => omega); (case k5 => first | with_reducible assumption | ((with_reducible rw [Int.toNat_natCast]); with_reducible assumption) | exact rfl); (case k7 => with_unfolding_all rfl); k_whole)
  | (refine' tupItem_P ?k1 ?k2 ?k3 ?k4 ?k5 ?_ ?k7; (case k1 => k_asm); (case k2 => k_mem); (case k3 => omega); (case k4 => omega); (case k5 => first | with_reducible assumption | ((with_reducible rw [Int.toNat_natCast]); with_reducible assumption) | exact rfl); (case k7 => with_unfolding_all rfl); k_whole)))
local macro_rules | `(tactic| walk_at "setItem ref int") => `(tactic| (k_here; k_dflt (refine' setAt_P ?k1 ?k2 ?k3 ?k4 ?k5 ?k6 ?_; (case k1 => k_asm); (case k2 => k_asm); (case k3 => k_mem); (case k4 => omega); (case k5 => omega); (case k6 => first | (simp; done) | (simp only [Int.toNat_natCast, List.length_map]; omega) | (simp; omega)); k_whole; intro h' F' N')))
local macro_rules | `(tactic| walk_at "call builtin:list.append") => `(tactic| (k_here; (with_reducible show wpAny _ _ (call (Value.builtin _) [Value.ref _, _]) _ _ _); k_dflt (refine' append_P ?k1 ?k2 ?k3 ?_ ?z; (case k1 => k_asm); (case k2 => k_asm); (case k3 => k_mem); (case z => simp only [sizeLine_eq, List.size_toArray, List.length_append, List.length_map, List.length_cons, List.length_nil]; omega); k_whole; intro h' F' N')))
local macro_rules | `(tactic| walk_at "call builtin:len") => `(tactic| (k_here; (with_reducible show wpAny _ _ (call (Value.builtin "len") [Value.ref _]) _ _ _); k_dflt (refine' len_P ?k1 ?k2 ?k3 ?_; (case k1 => k_asm); (case k2 => k_mem); (case k3 => (try simp only [List.length_map, List.length_append, List.length_cons, List.length_nil]); omega); k_whole); (try simp only [List.length_map])))
local macro_rules | `(tactic| walk_at "compareOp NotEq ref ref") => `(tactic| (k_here; (refine' ne_empty_P ?k1 ?k2 ?k3 ?k4 ?_; (case k1 => k_asm); (case k3 => k_mem); (case k2 => k_mem); (case k4 => units_room); k_whole)))
local macro_rules | `(tactic| walk_at "compareOp Eq ref ref") => `(tactic| (k_here; (refine' eq_empty_P ?k1 ?k2 ?k3 ?k4 ?_; (case k1 => k_asm); (case k3 => k_mem); (case k2 => k_mem); (case k4 => units_room); k_whole)))

/-- the pool of draws from the script's first cell -/
def FnL (w : World) (mean : ExcName → Option Value) (mg mb : Str → Option Value) (f : Addr) (d u : Nat) (args : List Value) (l : Addr) (vs : List Value) (news : Ledger) (post : Value → Ledger → Prop) : Prop :=
  ∀ (dp un : Nat) (gd : Option (List Code)) (cn : Str) (cs : Scope) (a : Addr) (ccd : Value) (cl : List (Str × Addr)) (outer : List Env) (A₀ : Around) (base h₀ : Heap) (L : Addr) (m : Str → Option Value) (s : Shared)
    (Q E : Value → Shared → Prop),
    Below A₀ base outer h₀ → h₀.IsList l vs.toArray → Fr h₀ L s.heap m → (hd.heap_39 w.params).In h₀ → News h₀ L s.heap news → Top VW LS mean mg mb h₀ → cs.kind = .function → dp + d < recursionLimit → un + u < cLine →
    (∀ r news' h' tk', Fr h₀ L h' m → News h₀ L h' news' → post r news' → Q r { s with heap := h', toks := tk' }) →
    wpAny (model PySem.Challenge.rw_xw0341_01.row.prog w) (ktrTop dp un gd cn cs L a ccd cl outer) (call (.ref f) args) Q E s
theorem c_pool (w mean mg mb) (l : Addr) (vs : List Value) (ns : List Int) (t : Tok) (news : Ledger) (hi : IntsAre vs ns) (hlen : ns.length ≤ 63) :
    FnL w mean mg mb 642 5 50 [.ref l, .int 0 t] l vs news (fun r n' => ∃ D x1 x2 t1 t2, r = .ref D ∧ n' = (D, srcObj x1 x2 t1 t2 0) :: news ∧ (∀ p ∈ news, p.1 < D) ∧ 0 ≤ x1 ∧ 0 ≤ x2 ∧ x2 < 2147483647) := by
  unfold FnL; k_fill; intro dp un gd cn cs a ccd cl outer A₀ base h₀ L m s Q E B hl F X N T hk hdp hun hret
  refine wpAny_call ?_; ktr_enter
  rename Fr h₀ _ _ _ => FG
  have hl2 := hl.at (fun o e => FG.keep l o e)
  clear hl
  repeat' ((fail_if_success (with_reducible show wpAny _ _ (exec (Stmt.For _ _ _ _ _) _) _ _ _)); (fail_if_success (with_reducible show wpAny _ _ (pyIter _) _ _ _)); (fail_if_success (with_reducible show wpAny _ _ (exec (Stmt.Raise _ _ _) _) _ _ _)); (fail_if_success (with_reducible show wpAny _ _ (exec (Stmt.While _ _ _ _) _) _ _ _)); first | (k_unfold; (try dsimp only)) | walk1 | (dsimp only; walk1) | (leave1; (try dsimp only)))
  all_goals (
    rename (∀ p ∈ news, p.1 < _) => l1
    refine hret _ _ _ _ (by k_asm) (by k_asm) ⟨_, _, _, _, _, rfl, rfl, l1, ?_, ?_, ?_⟩
    · exact Int.mul_nonneg (by split <;> omega) (by split <;> omega)
    · rw [Int.fmod_eq_emod_of_nonneg _ (by omega)]; exact Int.emod_nonneg _ (by omega)
    · rw [Int.fmod_eq_emod_of_nonneg _ (by omega)]; exact Int.emod_lt_of_pos _ (by omega))
end Mine
end

section
set_option Elab.async false
set_option maxRecDepth 100000
set_option maxHeartbeats 8000000
set_option linter.all false
namespace Mine
open PySem PySem.W PyProof.Rows

theorem ways_grow {P : Params} {wy wd : Addr} {k0 k1 : Tok} {Z : Tr} {many : Int} {l l' : Ledger} (W : Ways P wy wd k0 k1 Z many l) (h : ∀ p ∈ l, p ∈ l') : Ways P wy wd k0 k1 Z many l' :=
  let ⟨rt, t, h1, h2⟩ := W.dict
  ⟨h _ W.inst, ⟨rt, t, h1, h _ h2⟩, tr_grow W.tree h⟩

theorem cell_ne_br {P : Params} {o : Obj} {v : Option Value} {k0 k1 k2 : Tok} {z a r : Value} (h : o.data = .cell v) : o ≠ brObj P k0 k1 k2 z a r := fun e => by rw [e] at h; cases h
theorem cell_ne_list {o : Obj} {v : Option Value} {vs : Array Value} {n : Nat} (h : o.data = .cell v) : o ≠ listOf vs n := fun e => by rw [e] at h; cases h
theorem cell_ne_inst {o : Obj} {v : Option Value} {C d : Addr} (h : o.data = .cell v) : o ≠ instObj C d := fun e => by rw [e] at h; cases h
theorem cell_ne_rs {P : Params} {o : Obj} {v : Option Value} {q0 q1 t : Tok} {rt : Addr} {many : Int} (h : o.data = .cell v) : o ≠ rsObj P q0 q1 t rt many := fun e => by rw [e] at h; cases h
theorem cell_ne_ro {P : Params} {o : Obj} {v : Option Value} {q : Ro} (h : o.data = .cell v) : o ≠ q.obj P := fun e => by rw [e] at h; cases h
theorem cell_ne_tup {o : Obj} {v : Option Value} {vs : List Value} (h : o.data = .cell v) : o ≠ tupObj vs := fun e => by rw [e] at h; cases h
theorem tup_ne_br {P : Params} {vs : List Value} {k0 k1 k2 : Tok} {z a r : Value} : tupObj vs ≠ brObj P k0 k1 k2 z a r := fun e => by
  have := congrArg Obj.cls e; injection this with h; exact absurd h (by decide)
theorem tup_ne_rs {P : Params} {vs : List Value} {q0 q1 t : Tok} {rt : Addr} {many : Int} : tupObj vs ≠ rsObj P q0 q1 t rt many := fun e => by
  have := congrArg Obj.cls e; injection this with h; exact absurd h (by decide)
theorem off_tup {P : Params} {Z : Tr} {l : Ledger} {a : Addr} {vs : List Value} (I : TrIn P Z l) (U : One l) (h : (a, tupObj vs) ∈ l) : Z.Off a := fun q e hq =>
  ⟨U.ne h (I.nd q e hq).hd tup_ne_br, U.ne h (I.nd q e hq).hr tup_ne_list⟩
theorem off_cell {P : Params} {Z : Tr} {l : Ledger} {a : Addr} {o : Obj} {v : Option Value} (I : TrIn P Z l) (U : One l) (h : (a, o) ∈ l) (hd : o.data = .cell v) : Z.Off a := fun q e hq =>
  ⟨U.ne h (I.nd q e hq).hd (cell_ne_br hd), U.ne h (I.nd q e hq).hr (cell_ne_list hd)⟩
/-- what stands in the ledger at each turn of the law's building loop -/
structure Lst (P : Params) (wy wd : Addr) (k0 k1 : Tok) (D R cR cr : Addr) (Z : Tr) (many : Int) (rws : List Rw) (l : Ledger) : Prop where
  ways : Ways P wy wd k0 k1 Z many l
  src : ∃ x1 x2 t1 t2 n, (D, srcObj x1 x2 t1 t2 n) ∈ l ∧ 0 ≤ x1 ∧ 0 ≤ x2 ∧ x2 < 2147483647
  rows : ∃ n, (R, listOf (rws.map fun q => Value.ref q.t).toArray n) ∈ l
  tups : ∀ q ∈ rws, (q.t, q.obj) ∈ l
  cell : ∃ o, (cR, o) ∈ l ∧ o.data = .cell (some (.ref R))
  row : ∃ o v, (cr, o) ∈ l ∧ o.data = .cell v
  offD : Z.Off D
  offR : Z.Off R
  ne : D ≠ R
  nc : cR ≠ cr
section
variable {P : Params} {wy wd : Addr} {k0 k1 : Tok} {D R cR cr : Addr} {Z : Tr} {many : Int} {rws : List Rw} {l l' : Ledger}
theorem Lst.grow (S : Lst P wy wd k0 k1 D R cR cr Z many rws l) (h : ∀ p ∈ l, p ∈ l') : Lst P wy wd k0 k1 D R cR cr Z many rws l' :=
  ⟨ways_grow S.ways h, let ⟨a, b, c, d, e, h1, h2⟩ := S.src; ⟨a, b, c, d, e, h _ h1, h2⟩, let ⟨n, h1⟩ := S.rows; ⟨n, h _ h1⟩, fun q hq => h _ (S.tups q hq), let ⟨o, h1, h2⟩ := S.cell; ⟨o, h _ h1, h2⟩, let ⟨o, v, h1, h2⟩ := S.row; ⟨o, v, h _ h1, h2⟩, S.offD, S.offR, S.ne, S.nc⟩
theorem ways_putList {a : Addr} {vs : Array Value} {n : Nat} {o' : Obj} (W : Ways P wy wd k0 k1 Z many l) (U : One l) (ha : (a, listOf vs n) ∈ l) (ho : Z.Off a) : Ways P wy wd k0 k1 Z many (put a o' l) :=
  let ⟨rt, t, h1, h2⟩ := W.dict
  ⟨mem_put_ne W.inst (U.ne W.inst ha inst_ne_list), ⟨rt, t, h1, mem_put_ne h2 (U.ne h2 ha rs_ne_list)⟩, tr_putList W.tree U ha ho⟩
theorem Lst.draw (S : Lst P wy wd k0 k1 D R cR cr Z many rws l) (U : One l) {y1 y2 : Int} {u1 u2 : Tok} {n : Nat} (h1 : 0 ≤ y1) (h2 : 0 ≤ y2) (h3 : y2 < 2147483647) : Lst P wy wd k0 k1 D R cR cr Z many rws (put D (srcObj y1 y2 u1 u2 n) l) := by
  obtain ⟨x1, x2, t1, t2, k, hD, _⟩ := S.src
  obtain ⟨nr, hR⟩ := S.rows
  obtain ⟨oc, hc, hcd⟩ := S.cell
  obtain ⟨or, v, hr, hrd⟩ := S.row
  exact ⟨ways_putList S.ways U hD S.offD, ⟨y1, y2, u1, u2, n, mem_put, h1, h2, h3⟩, ⟨nr, mem_put_ne hR (fun h => S.ne h.symm)⟩, fun q hq => mem_put_ne (S.tups q hq) (U.ne (S.tups q hq) hD tup_ne_list),
    ⟨oc, mem_put_ne hc (U.ne hc hD (cell_ne_list hcd)), hcd⟩, ⟨or, v, mem_put_ne hr (U.ne hr hD (cell_ne_list hrd)), hrd⟩, S.offD, S.offR, S.ne, S.nc⟩
theorem ways_putCell {a : Addr} {o o' : Obj} {v : Option Value} (W : Ways P wy wd k0 k1 Z many l) (U : One l) (ha : (a, o) ∈ l) (hd : o.data = .cell v) : Ways P wy wd k0 k1 Z many (put a o' l) := by
  obtain ⟨rt, t, h1, h2⟩ := W.dict
  refine ⟨mem_put_ne W.inst (U.ne W.inst ha fun e => cell_ne_inst hd e.symm), ⟨rt, t, h1, mem_put_ne h2 (U.ne h2 ha fun e => cell_ne_rs hd e.symm)⟩, ⟨fun p d hp => ?_, W.tree.apart, W.tree.root, W.tree.closed⟩⟩
  have X := W.tree.nd p d hp
  exact ⟨mem_put_ne X.hb (U.ne X.hb ha fun e => cell_ne_inst hd e.symm), mem_put_ne X.hd (U.ne X.hd ha fun e => cell_ne_br hd e.symm), mem_put_ne X.hr (U.ne X.hr ha fun e => cell_ne_list hd e.symm),
    fun q hq => ⟨mem_put_ne (X.ho q hq).1 (U.ne (X.ho q hq).1 ha fun e => cell_ne_inst hd e.symm), mem_put_ne (X.ho q hq).2 (U.ne (X.ho q hq).2 ha fun e => cell_ne_ro hd e.symm)⟩⟩
theorem Lst.setRow (S : Lst P wy wd k0 k1 D R cR cr Z many rws l) (U : One l) {o' : Obj} {v' : Value} (hv : o'.data = .cell (some v')) : Lst P wy wd k0 k1 D R cR cr Z many rws (put cr o' l) := by
  obtain ⟨x1, x2, t1, t2, k, hD, hb⟩ := S.src
  obtain ⟨nr, hR⟩ := S.rows
  obtain ⟨oc, hc, hcd⟩ := S.cell
  obtain ⟨or, v, hr, hrd⟩ := S.row
  exact ⟨ways_putCell S.ways U hr hrd, ⟨x1, x2, t1, t2, k, mem_put_ne hD (U.ne hD hr fun e => cell_ne_list hrd e.symm), hb⟩, ⟨nr, mem_put_ne hR (U.ne hR hr fun e => cell_ne_list hrd e.symm)⟩,
    fun q hq => mem_put_ne (S.tups q hq) (U.ne (S.tups q hq) hr fun e => cell_ne_tup hrd e.symm), ⟨oc, mem_put_ne hc S.nc, hcd⟩, ⟨o', _, mem_put, hv⟩, S.offD, S.offR, S.ne, S.nc⟩
theorem Lst.added (S : Lst P wy wd k0 k1 D R cR cr Z many rws l) (U : One l) {Z' : Tr} {many' : Int} {o : Ro} {x : Int} {pre : Nat} (W : Ways P wy wd k0 k1 Z' many' l') (A : Added l Z Z' o x pre) (fr : ∀ p ∈ l, p.1 ≠ wd → Z.Off p.1 → p ∈ l') :
    Lst P wy wd k0 k1 D R cR cr Z' many' rws l' := by
  obtain ⟨x1, x2, t1, t2, k, hD, hb⟩ := S.src
  obtain ⟨nr, hR⟩ := S.rows
  obtain ⟨oc, hc, hcd⟩ := S.cell
  obtain ⟨or, v, hr, hrd⟩ := S.row
  obtain ⟨rt, t, _, hw⟩ := S.ways.dict
  have off : ∀ {a : Addr} {o : Obj}, (a, o) ∈ l → Z.Off a → Z'.Off a := fun ha ho q e hq => by
    rcases A.own q e hq with ⟨e₀, h0, h1, h2⟩ | ⟨h1, h2⟩
    · rw [← h1, ← h2]; exact ho _ _ h0
    · exact ⟨h1 _ ha, h2 _ ha⟩
  exact ⟨W, ⟨x1, x2, t1, t2, k, fr _ hD (U.ne hD hw fun e => rs_ne_list e.symm) S.offD, hb⟩, ⟨nr, fr _ hR (U.ne hR hw fun e => rs_ne_list e.symm) S.offR⟩,
    fun q hq => fr _ (S.tups q hq) (U.ne (S.tups q hq) hw tup_ne_rs) (off_tup S.ways.tree U (S.tups q hq)), ⟨oc, fr _ hc (U.ne hc hw (cell_ne_rs hcd)) (off_cell S.ways.tree U hc hcd), hcd⟩,
    ⟨or, v, fr _ hr (U.ne hr hw (cell_ne_rs hrd)) (off_cell S.ways.tree U hr hrd), hrd⟩, off hD S.offD, off hR S.offR, S.ne, S.nc⟩
theorem Lst.setRows (S : Lst P wy wd k0 k1 D R cR cr Z many rws l) (U : One l) {rws' : List Rw} {n : Nat} (ht : ∀ q ∈ rws', (q.t, q.obj) ∈ l) : Lst P wy wd k0 k1 D R cR cr Z many rws' (put R (listOf (rws'.map fun q => Value.ref q.t).toArray n) l) := by
  obtain ⟨x1, x2, t1, t2, k, hD, hb⟩ := S.src
  obtain ⟨nr, hR⟩ := S.rows
  obtain ⟨oc, hc, hcd⟩ := S.cell
  obtain ⟨or, v, hr, hrd⟩ := S.row
  exact ⟨ways_putList S.ways U hR S.offR, ⟨x1, x2, t1, t2, k, mem_put_ne hD S.ne, hb⟩, ⟨n, mem_put⟩, fun q hq => mem_put_ne (ht q hq) (U.ne (ht q hq) hR tup_ne_list),
    ⟨oc, mem_put_ne hc (U.ne hc hR (cell_ne_list hcd)), hcd⟩, ⟨or, v, mem_put_ne hr (U.ne hr hR (cell_ne_list hrd)), hrd⟩, S.offD, S.offR, S.ne, S.nc⟩
theorem Lst.wo (S : Lst P wy wd k0 k1 D R cR cr Z many rws l) (U : One l) {a : Addr} {io : Obj} (ha : (a, io) ∈ l) (hc : io.cls = .type "range_iterator") (h1 : cR ≠ a) (h2 : cr ≠ a) : Lst P wy wd k0 k1 D R cR cr Z many rws (wo a l) := by
  obtain ⟨x1, x2, t1, t2, k, hD, hb⟩ := S.src
  obtain ⟨nr, hR⟩ := S.rows
  obtain ⟨oc, hc', hcd⟩ := S.cell
  obtain ⟨or, v, hr, hrd⟩ := S.row
  obtain ⟨rt, t, hrt, hw⟩ := S.ways.dict
  have k1 : ∀ {b : Addr} {o : Obj}, (b, o) ∈ l → o ≠ io → (b, o) ∈ Mine.wo a l := fun h n => mem_wo.mpr ⟨h, U.ne h ha n⟩
  exact ⟨⟨k1 S.ways.inst (cls_inst_ne hc), ⟨rt, t, hrt, k1 hw (cls_ne hc rfl (by decide))⟩, tr_wo S.ways.tree U ha hc (by decide) (by decide)⟩, ⟨x1, x2, t1, t2, k, k1 hD (cls_ne hc rfl (by decide)), hb⟩, ⟨nr, k1 hR (cls_ne hc rfl (by decide))⟩,
    fun q hq => k1 (S.tups q hq) (cls_ne hc rfl (by decide)), ⟨oc, mem_wo.mpr ⟨hc', h1⟩, hcd⟩, ⟨or, v, mem_wo.mpr ⟨hr, h2⟩, hrd⟩, S.offD, S.offR, S.ne, S.nc⟩
end
theorem lst_start {hz hx : Heap} {Lf : Addr} {P : Params} {wy wd : Addr} {k0 k1 : Tok} {D R cR cr : Addr} {Z : Tr} {many : Int} {l7 l : Ledger} {x1 x2 : Int} {t1 t2 : Tok} {n : Nat} {oA oB o' : Obj} {vA vB : Option Value} (_N : News hz Lf hx (put cR o' l)) (U : One l7) (hs : ∀ p ∈ l7, p ∈ l) (W : Ways P wy wd k0 k1 Z many l7)
    (hD : (D, srcObj x1 x2 t1 t2 n) ∈ l7) (h1 : 0 ≤ x1) (h2 : 0 ≤ x2) (h3 : x2 < 2147483647) (hR : (R, listOf #[] 0) ∈ l) (hRl : ∀ p ∈ l7, p.1 < R) (hA : (cR, oA) ∈ l7) (dA : oA.data = .cell vA) (hB : (cr, oB) ∈ l7) (dB : oB.data = .cell vB) (nc : cR ≠ cr) (offD : Z.Off D)
    (hv : o'.data = .cell (some (.ref R))) : Lst P wy wd k0 k1 D R cR cr Z many [] (put cR o' l) := by
  have up : ∀ p ∈ put cR o' l7, p ∈ put cR o' l := put_mono hs
  have W' := ways_grow (ways_putCell (o' := o') W U hA dA) up
  exact ⟨W', ⟨x1, x2, t1, t2, n, up _ (mem_put_ne hD (U.ne hD hA fun e => cell_ne_list dA e.symm)), h1, h2, h3⟩, ⟨0, mem_put_ne hR (Nat.ne_of_gt (hRl _ hA))⟩, (fun q hq => by cases hq), ⟨o', mem_put, hv⟩, ⟨oB, vB, up _ (mem_put_ne hB nc.symm), dB⟩, offD,
    fun q e hq => ⟨Nat.ne_of_gt (hRl _ (W.tree.nd q e hq).hd), Nat.ne_of_gt (hRl _ (W.tree.nd q e hq).hr)⟩, Nat.ne_of_lt (hRl _ hD), nc⟩
theorem ints_pick {vs : List Value} {ns : List Int} {i : Nat} {r : Value} (h : IntsAre vs ns) (hr : vs[i]? = some r) : ∃ p t, r = .int p t ∧ p ∈ ns := by
  have hi : i < ns.length := by
    rw [← h.length]
    rcases Nat.lt_or_ge i vs.length with h' | h'
    · exact h'
    · rw [List.getElem?_eq_none h'] at hr; cases hr
  obtain ⟨t, ht⟩ := h.get i ns[i] (by simp [hi])
  rw [ht] at hr
  exact ⟨_, t, (Option.some.inj hr).symm, List.getElem_mem hi⟩

theorem fnl_use {w : World} {mean : ExcName → Option Value} {mg mb : Str → Option Value} {f l : Addr} {d u : Nat} {args vs : List Value} {news : Ledger} {post : Value → Ledger → Prop} {dp un : Nat} {gd : Option (List Code)} {cn : Str} {cs : Scope} {a : Addr} {ccd : Value} {cl : List (Str × Addr)} {outer : List Env} {A₀ : Around} {base h₀ : Heap} {L : Addr} {m : Str → Option Value} {s : Shared}
    {Q E : Value → Shared → Prop} (C : FnL w mean mg mb f d u args l vs news post)
    (B : Below A₀ base outer h₀) (hl : h₀.IsList l vs.toArray) (F : Fr h₀ L s.heap m) (X : (hd.heap_39 w.params).In h₀) (N : News h₀ L s.heap news) (T : Top VW LS mean mg mb h₀) (hk : cs.kind = .function) (hd : dp + d < recursionLimit) (hu : un + u < cLine)
    (ret : ∀ r news' h' tk', Fr h₀ L h' m → News h₀ L h' news' → post r news' → Q r { s with heap := h', toks := tk' }) :
    wpAny (model PySem.Challenge.rw_xw0341_01.row.prog w) (ktrTop dp un gd cn cs L a ccd cl outer) (call (.ref f) args) Q E s := C _ _ _ _ _ _ _ _ _ _ _ _ _ _ _ _ _ B hl F X N T hk hd hu ret
end Mine
end

section
set_option Elab.async false
set_option maxRecDepth 100000
set_option maxHeartbeats 8000000
set_option linter.all false
namespace Mine
open PySem PySem.W PyProof.Rows

structure Valid (r : Rt) : Prop where
  pre : ∃ n : Nat, r.pre = (n : Int) ∧ n ≤ 32 ∧ r.net % 2 ^ (32 - n) = 0
  lo : 0 ≤ r.net
  hi : r.net < 4294967296
def pathOf (r : Rt) : List Bool := bits r.net r.pre.toNat
def same4 (a b : Rt) : Bool := decide (a.net = b.net ∧ a.pre = b.pre ∧ a.gw = b.gw ∧ a.face = b.face)
/-- a row told anew, or one more -/
def updW : List Rt → Rt → List Rt
  | [], w => [w]
  | q :: l, w => if same4 q w = true then w :: l else q :: updW l w
theorem updW_set : ∀ {l : List Rt} {o x : Rt} {i : Nat}, l[i]? = some x → (∀ (j : Nat) (y : Rt), j < i → l[j]? = some y → same4 y o = false) → same4 x o = true → updW l o = l.set i o
  | [], _, _, _, h, _, _ => by cases h
  | y :: l, o, x, 0, h, _, hx => by
    obtain rfl := Option.some.inj h
    unfold updW; rw [if_pos hx]; rfl
  | y :: l, o, x, i + 1, h, hn, hx => by
    unfold updW
    rw [if_neg (by rw [hn 0 y (Nat.succ_pos _) rfl]; decide)]
    show _ = y :: l.set i o
    rw [updW_set (i := i) (by simpa using h) (fun j z hj hz => hn (j + 1) z (Nat.succ_lt_succ hj) (by simpa using hz)) hx]
theorem updW_app : ∀ {l : List Rt} {o : Rt}, (∀ (j : Nat) (y : Rt), l[j]? = some y → same4 y o = false) → updW l o = l ++ [o]
  | [], _, _ => rfl
  | y :: l, o, h => by
    unfold updW
    rw [if_neg (by rw [h 0 y rfl]; decide), updW_app fun j z hz => h (j + 1) z (by simpa using hz)]; rfl
theorem updW_len : ∀ (l : List Rt) (o : Rt), (updW l o).length ≤ l.length + 1
  | [], _ => Nat.le_refl _
  | y :: l, o => by
    unfold updW
    split
    · simp
    · simp only [List.length_cons]; exact Nat.succ_le_succ (updW_len l o)
theorem updW_mem : ∀ {l : List Rt} {o x : Rt}, x ∈ updW l o → x ∈ l ∨ x = o
  | [], _, _, h => .inr (List.mem_singleton.mp h)
  | y :: l, o, x, h => by
    unfold updW at h
    split at h
    · rcases List.mem_cons.mp h with rfl | h
      · exact .inr rfl
      · exact .inl (.tail _ h)
    · rcases List.mem_cons.mp h with rfl | h
      · exact .inl (.head _)
      · exact (updW_mem h).imp (.tail _) id
/-- the number of x's first n bits -/
theorem bitAt_nat {x : Int} (h0 : 0 ≤ x) (i : Nat) : bitAt x i = x.toNat.testBit (31 - i) := by
  obtain ⟨n, rfl⟩ : ∃ n : Nat, x = n := ⟨x.toNat, by omega⟩
  unfold bitAt
  rw [Int.fdiv_eq_ediv_of_nonneg _ (Int.le_of_lt (Int.pow_pos (by decide))), Int.fmod_eq_emod_of_nonneg _ (by decide)]
  have e : ((n : Int) / 2 ^ (31 - i)) % 2 = ((n / 2 ^ (31 - i) % 2 : Nat) : Int) := by
    rw [Int.natCast_emod, Int.natCast_ediv]; simp
  rw [e, Int.toNat_natCast, Nat.testBit_eq_decide_div_mod_eq]
  congr 1
  exact propext ⟨fun h => by omega, fun h => by omega⟩
theorem bits_get {x : Int} {n i : Nat} (h : i < n) : (bits x n)[i]? = some (bitAt x i) := by
  unfold bits
  rw [List.getElem?_map, List.getElem?_range h]; rfl
/-- x lies in the net of r as its first bits are r's -/
theorem bits_eq_iff {r : Rt} (V : Valid r) {x : Int} (h0 : 0 ≤ x) (h1 : x < 4294967296) : bits x r.pre.toNat = pathOf r ↔ inNet r x = true := by
  obtain ⟨n, hn, hle, hd⟩ := V.pre
  have hlo := V.lo
  have hhi := V.hi
  rw [inNet_iff]
  unfold pathOf
  rw [hn]
  have e32 : (32 - (n : Int)).toNat = 32 - n := by omega
  rw [e32, Int.toNat_natCast]
  obtain ⟨a, ha⟩ : ∃ a : Nat, r.net = a := ⟨r.net.toNat, by omega⟩
  obtain ⟨b, rfl⟩ : ∃ b : Nat, x = b := ⟨x.toNat, by omega⟩
  rw [ha] at hd hlo hhi ⊢
  have hdn : a % 2 ^ (32 - n) = 0 := by
    have h := hd
    rw [show (2 : Int) ^ (32 - n) = ((2 ^ (32 - n) : Nat) : Int) from by simp] at h
    exact_mod_cast h
  have key : bits (b : Int) n = bits (a : Int) n ↔ b / 2 ^ (32 - n) = a / 2 ^ (32 - n) := by
    constructor
    · intro h
      apply Nat.eq_of_testBit_eq
      intro i
      rw [Nat.testBit_div_two_pow, Nat.testBit_div_two_pow]
      rcases Nat.lt_or_ge (i + (32 - n)) 32 with hi | hi
      · have hj : 31 - (i + (32 - n)) < n := by omega
        have := congrArg (fun l => l[31 - (i + (32 - n))]?) h
        simp only [bits_get hj] at this
        have := Option.some.inj this
        rw [bitAt_nat (by omega), bitAt_nat (by omega)] at this
        rw [show 31 - (31 - (i + (32 - n))) = i + (32 - n) from by omega] at this
        simpa using this
      · rw [Nat.testBit_lt_two_pow (Nat.lt_of_lt_of_le (show b < 2 ^ 32 by omega) (Nat.pow_le_pow_right (by decide) hi)), Nat.testBit_lt_two_pow (Nat.lt_of_lt_of_le (show a < 2 ^ 32 by omega) (Nat.pow_le_pow_right (by decide) hi))]
    · intro h
      apply List.ext_getElem?
      intro i
      rcases Nat.lt_or_ge i n with hi | hi
      · rw [bits_get hi, bits_get hi, bitAt_nat (by omega), bitAt_nat (by omega)]
        simp only [Int.toNat_natCast]
        have := congrArg (fun m => m.testBit (31 - i - (32 - n))) h
        simp only [Nat.testBit_div_two_pow] at this
        rw [show 31 - i - (32 - n) + (32 - n) = 31 - i from by omega] at this
        rw [this]
      · rw [List.getElem?_eq_none (by simpa [bits] using hi), List.getElem?_eq_none (by simpa [bits] using hi)]
  rw [key]
  have hp : 0 < 2 ^ (32 - n) := Nat.pow_pos (by decide)
  have e2 : ((a : Int) + 2 ^ (32 - n)) = ((a + 2 ^ (32 - n) : Nat) : Int) := by simp
  rw [e2]
  have hb := Nat.div_add_mod b (2 ^ (32 - n))
  have hbl := Nat.mod_lt b hp
  have hq : a = 2 ^ (32 - n) * (a / 2 ^ (32 - n)) := by
    have := Nat.div_add_mod a (2 ^ (32 - n)); omega
  constructor
  · intro h
    rw [h] at hb
    constructor <;> omega
  · rintro ⟨h1, h2⟩
    have h1' : a ≤ b := by omega
    have h2' : b < a + 2 ^ (32 - n) := by omega
    have hc : b / 2 ^ (32 - n) < a / 2 ^ (32 - n) + 1 := by
      rw [Nat.div_lt_iff_lt_mul hp, Nat.add_mul, Nat.one_mul, Nat.mul_comm]
      omega
    have hd' : a / 2 ^ (32 - n) ≤ b / 2 ^ (32 - n) := Nat.div_le_div_right h1'
    omega
theorem path_inj {a b : Rt} (Va : Valid a) (Vb : Valid b) (h : pathOf a = pathOf b) : a.net = b.net ∧ a.pre = b.pre := by
  obtain ⟨n, hn, hle, hd⟩ := Va.pre
  obtain ⟨k, hk, hle', hd'⟩ := Vb.pre
  have hl := congrArg List.length h
  unfold pathOf at hl
  rw [bits_length, bits_length, hn, hk] at hl
  simp only [Int.toNat_natCast] at hl
  subst hl
  have h1 := (bits_eq_iff Vb Va.lo Va.hi).mp (by rw [hk, ← hn]; exact h)
  have h2 := (bits_eq_iff Va Vb.lo Vb.hi).mp (by rw [hn, ← hk]; exact h.symm)
  rw [inNet_iff] at h1 h2
  have := h1.1
  have := h2.1
  exact ⟨by omega, by rw [hn, hk]⟩
/-- the tree tells the rows -/
def Match (rs : List Rt) (Z : Tr) : Prop := ∀ p, (Z.rs p).map (·.r) = rs.filter fun r => decide (pathOf r = p)
def updR : List Rt → Rt → List Rt
  | [], o => [o]
  | x :: l, o => if x.gw = o.gw ∧ x.face = o.face then o :: l else x :: updR l o
theorem upd_map : ∀ (l : List Ro) (o : Ro), (upd l o).map (·.r) = updR (l.map (·.r)) o.r
  | [], _ => rfl
  | x :: l, o => by
    unfold upd
    simp only [List.map_cons, updR]
    split
    · rfl
    · rw [List.map_cons, upd_map l o]
theorem filter_updW {rs : List Rt} {w : Rt} (V : ∀ r ∈ rs, Valid r) (Vw : Valid w) (p : List Bool) :
    (updW rs w).filter (fun r => decide (pathOf r = p)) = if p = pathOf w then updR (rs.filter fun r => decide (pathOf r = p)) w else rs.filter fun r => decide (pathOf r = p) := by
  induction rs with
  | nil =>
    by_cases h : p = pathOf w
    · subst h; simp [updW, updR]
    · have h' : ¬ pathOf w = p := fun e => h e.symm
      simp [updW, h, h']
  | cons q l ih =>
    have ih := ih fun r hr => V r (.tail _ hr)
    have Vq := V q (.head _)
    unfold updW
    by_cases hs : same4 q w = true
    · have hs' : q.net = w.net ∧ q.pre = w.pre ∧ q.gw = w.gw ∧ q.face = w.face := by simpa [same4] using hs
      have hpq : pathOf q = pathOf w := by unfold pathOf; rw [hs'.1, hs'.2.1]
      rw [if_pos hs]
      by_cases h : p = pathOf w
      · subst h
        simp [hpq, updR, hs'.2.2]
      · have h' : ¬ pathOf w = p := fun e => h e.symm
        simp [h, h', hpq]
    · rw [if_neg hs, List.filter_cons, ih]
      by_cases h : p = pathOf w
      · subst h
        by_cases hq : pathOf q = pathOf w
        · have hne : ¬ (q.gw = w.gw ∧ q.face = w.face) := fun e => hs (by
            have := path_inj Vq Vw hq
            simp [same4, this, e])
          simp [hq, updR, hne]
        · simp [hq]
      · by_cases hq : pathOf q = p
        · simp [hq, h]
        · simp [hq, h]
theorem match_add {rs : List Rt} {Z Z' : Tr} {l : Ledger} {o : Ro} {pre : Nat} (M : Match rs Z) (V : ∀ r ∈ rs, Valid r) (Vo : Valid o.r) (hp : o.r.pre = (pre : Int)) (A : Added l Z Z' o o.r.net pre) : Match (updW rs o.r) Z' := by
  intro p
  have e : pathOf o.r = bits o.r.net pre := by unfold pathOf; rw [hp, Int.toNat_natCast]
  rw [A.rs, filter_updW V Vo, e, ← M p]
  split
  · rw [upd_map]
  · rfl
theorem match_len {rs : List Rt} {Z : Tr} (M : Match rs Z) (q : List Bool) : (Z.rs q).length ≤ rs.length := by
  have := congrArg List.length (M q)
  rw [List.length_map] at this
  rw [this]
  exact List.length_filter_le _ _

end Mine
end

section
set_option Elab.async false
set_option maxRecDepth 100000
set_option maxHeartbeats 8000000
set_option linter.all false
namespace Mine
open PySem PySem.W PyProof.Rows

theorem lex3_step {a b c : Int × Int × Int} (h1 : lex3 a b = false) (h2 : lex3 c b = true) : lex3 a c = false := by
  unfold lex3 at *
  simp only [decide_eq_true_eq, decide_eq_false_iff_not] at *
  omega
theorem lex3_irrefl (a : Int × Int × Int) : lex3 a a = false := by
  unfold lex3
  simp
theorem argBest_min (key : Nat → Int × Int × Int) : ∀ m j, j ≤ m → lex3 (key j) (key (argBest (fun i j => lex3 (key i) (key j)) m)) = false
  | 0, j, h => by
    rw [Nat.le_zero.mp h]; exact lex3_irrefl _
  | m + 1, j, h => by
    unfold argBest
    cases hb : lex3 (key (m + 1)) (key (argBest (fun i j => lex3 (key i) (key j)) m)) with
    | true =>
      rw [if_pos rfl]
      rcases Nat.lt_or_ge m j with h' | h'
      · rw [show j = m + 1 from by omega]; exact lex3_irrefl _
      · exact lex3_step (argBest_min key m j h') hb
    | false =>
      rw [if_neg (by decide)]
      rcases Nat.lt_or_ge m j with h' | h'
      · rw [show j = m + 1 from by omega]; exact hb
      · exact argBest_min key m j h'
theorem look_spec {Z : Tr} {x : Int} : ∀ {n : Nat}, (lookT Z x n = none → ∀ i, i ≤ n → Z.rs (bits x i) = []) ∧ ∀ o, lookT Z x n = some o → ∃ i, i ≤ n ∧ best? (Z.rs (bits x i)) = some o ∧ ∀ j, i < j → j ≤ n → Z.rs (bits x j) = []
  | 0 => by
    refine ⟨fun h i hi => ?_, fun o h => ⟨0, Nat.le_refl _, h, fun j h1 h2 => by omega⟩⟩
    rw [Nat.le_zero.mp hi]
    unfold lookT at h
    rw [bits_zero]
    cases hz : Z.rs [] with
    | nil => rfl
    | cons a l => rw [hz] at h; cases h
  | n + 1 => by
    have ih := look_spec (Z := Z) (x := x) (n := n)
    by_cases he : Z.rs (bits x (n + 1)) = []
    · rw [look_skip he]
      refine ⟨fun h i hi => ?_, fun o h => ?_⟩
      · rcases Nat.lt_or_ge n i with h' | h'
        · rw [show i = n + 1 from by omega]; exact he
        · exact ih.1 h i h'
      · obtain ⟨i, h1, h2, h3⟩ := ih.2 o h
        refine ⟨i, Nat.le_succ_of_le h1, h2, fun j h4 h5 => ?_⟩
        rcases Nat.lt_or_ge n j with h' | h'
        · rw [show j = n + 1 from by omega]; exact he
        · exact h3 j h4 h'
    · rw [look_take he]
      refine ⟨fun h => ?_, fun o h => ⟨n + 1, Nat.le_refl _, h, fun j h1 h2 => by omega⟩⟩
      cases hz : Z.rs (bits x (n + 1)) with
      | nil => exact (he hz).elim
      | cons a l => rw [hz] at h; cases h
/-- the best is the first of the least metric -/
theorem best_spec {l : List Ro} : ∀ i b, best? (l.take i) = some b → ∃ t, t < i ∧ l[t]? = some b ∧ ∀ (s : Nat) (y : Ro), s < i → l[s]? = some y → b.r.met ≤ y.r.met ∧ (s < t → b.r.met < y.r.met)
  | 0, b, h => by cases h
  | i + 1, b, h => by
    rcases Nat.lt_or_ge i l.length with hi | hi
    · have ho := List.getElem?_eq_getElem hi
      rw [best_next ho] at h
      cases hb : best? (l.take i) with
      | none =>
        rw [hb] at h
        have hb0 : i = 0 := by
          cases i with
          | zero => rfl
          | succ j =>
            have : l.take (j + 1) ≠ [] := by
              intro e
              have := congrArg List.length e
              simp at this
              rw [this] at hi
              exact absurd hi (Nat.not_lt_zero _)
            cases hl : l.take (j + 1) with
            | nil => exact (this hl).elim
            | cons a r => rw [hl] at hb; cases hb
        subst hb0
        refine ⟨0, Nat.zero_lt_one, by rw [ho]; exact h, fun s y hs hy => ?_⟩
        obtain rfl : s = 0 := by omega
        rw [ho] at hy
        rw [← Option.some.inj h, ← Option.some.inj hy]
        exact ⟨Int.le_refl _, fun h => absurd h (Nat.lt_irrefl _)⟩
      | some q =>
        rw [hb] at h
        obtain ⟨t, ht, htl, hm⟩ := best_spec i q hb
        have hbq := Option.some.inj h
        by_cases hc : l[i].r.met < q.r.met
        · rw [if_pos hc] at hbq
          subst hbq
          refine ⟨i, Nat.lt_succ_self _, ho, fun s y hs hy => ?_⟩
          rcases Nat.lt_or_ge s i with h' | h'
          · have := (hm s y h' hy).1
            exact ⟨by omega, fun _ => by omega⟩
          · obtain rfl : s = i := by omega
            rw [ho] at hy
            rw [← Option.some.inj hy]
            exact ⟨Int.le_refl _, fun h => absurd h (Nat.lt_irrefl _)⟩
        · rw [if_neg hc] at hbq
          subst hbq
          refine ⟨t, Nat.lt_succ_of_lt ht, htl, fun s y hs hy => ?_⟩
          rcases Nat.lt_or_ge s i with h' | h'
          · exact hm s y h' hy
          · obtain rfl : s = i := by omega
            rw [ho] at hy
            rw [← Option.some.inj hy]
            exact ⟨by omega, fun h => by omega⟩
    · rw [List.take_of_length_le (by omega), ← List.take_of_length_le hi] at h
      obtain ⟨t, ht, htl, hm⟩ := best_spec i b h
      refine ⟨t, Nat.lt_succ_of_lt ht, htl, fun s y hs hy => ?_⟩
      rcases Nat.lt_or_ge s i with h' | h'
      · exact hm s y h' hy
      · rw [List.getElem?_eq_none (by omega)] at hy; cases hy
theorem rtAt_get {rs : List Rt} {k : Nat} (h : k < rs.length) : rs[k]? = some (rtAt rs k) := by
  unfold rtAt
  rw [List.getD_eq_getElem?_getD, List.getElem?_eq_getElem h]; rfl
/-- the first of the least among the rows of a place is the best there -/
theorem first_best {rs : List Rt} {L : List Ro} {P : Rt → Bool} {b : Ro} {k : Nat} (hL : L.map (·.r) = rs.filter P) (hb : best? L = some b) (hk : k < rs.length) (hP : P (rtAt rs k) = true)
    (hm : ∀ j, j < rs.length → P (rtAt rs j) = true → (rtAt rs k).met ≤ (rtAt rs j).met ∧ (j < k → (rtAt rs k).met < (rtAt rs j).met)) : b.r = rtAt rs k := by
  have hb' : best? (L.take L.length) = some b := by rw [List.take_length]; exact hb
  obtain ⟨t, ht, htl, hbm⟩ := best_spec L.length b hb'
  have hsplit : rs = rs.take k ++ rtAt rs k :: rs.drop (k + 1) := by
    have h1 := rtAt_get hk
    rw [List.getElem?_eq_getElem hk] at h1
    have h2 := Option.some.inj h1
    conv => lhs; rw [← List.take_append_drop k rs, List.drop_eq_getElem_cons hk, h2]
  have hf : rs.filter P = (rs.take k).filter P ++ rtAt rs k :: (rs.drop (k + 1)).filter P := by
    conv => lhs; rw [hsplit]
    rw [List.filter_append, List.filter_cons, if_pos hP]
  have get : ∀ (s : Nat) (y : Ro), L[s]? = some y → (rs.filter P)[s]? = some y.r := fun s y h => by rw [← hL, List.getElem?_map, h]; rfl
  have gotten : ∀ (s : Nat) (r : Rt), (rs.filter P)[s]? = some r → ∃ y, L[s]? = some y ∧ y.r = r := fun s r h => by
    rw [← hL, List.getElem?_map] at h
    obtain ⟨y, h1, h2⟩ := Option.map_eq_some_iff.mp h
    exact ⟨y, h1, h2⟩
  have hkk : (rs.filter P)[((rs.take k).filter P).length]? = some (rtAt rs k) := by rw [hf]; simp
  obtain ⟨yk, hyk, eyk⟩ := gotten _ _ hkk
  have hlt : ((rs.take k).filter P).length < L.length := by
    rcases Nat.lt_or_ge ((rs.take k).filter P).length L.length with h | h
    · exact h
    · rw [List.getElem?_eq_none h] at hyk; cases hyk
  have h1 := hbm _ yk hlt hyk
  rw [eyk] at h1
  have hbf := get t b htl
  rcases Nat.lt_trichotomy t ((rs.take k).filter P).length with h | h | h
  · rw [hf, List.getElem?_append_left h] at hbf
    have hmem := List.mem_of_getElem? hbf
    rw [List.mem_filter] at hmem
    obtain ⟨j, hj, ej⟩ := List.mem_iff_getElem.mp hmem.1
    have hjk : j < k := by simp at hj; omega
    have hjr : j < rs.length := by omega
    have ej' : rtAt rs j = b.r := by
      have := rtAt_get hjr
      rw [List.getElem?_eq_getElem hjr] at this
      rw [← Option.some.inj this, ← ej]
      simp
    have := (hm j hjr (by rw [ej']; exact hmem.2)).2 hjk
    rw [ej'] at this
    omega
  · rw [h, hkk] at hbf
    exact (Option.some.inj hbf).symm
  · have h2 := h1.2 h
    have hmem := List.mem_of_getElem? hbf
    rw [List.mem_filter] at hmem
    obtain ⟨j, hj, ej⟩ := List.mem_iff_getElem.mp hmem.1
    have ej' : rtAt rs j = b.r := by
      have := rtAt_get hj
      rw [List.getElem?_eq_getElem hj] at this
      rw [← Option.some.inj this, ← ej]
    have := (hm j hj (by rw [ej']; exact hmem.2)).1
    rw [ej'] at this
    omega
theorem hits_mem {rs : List Rt} {x : Int} {n k : Nat} : k ∈ hits rs x n ↔ k < n ∧ inNet (rtAt rs k) x = true := by
  unfold hits
  rw [List.mem_filter, List.mem_range]
theorem rs_at {rs : List Rt} {Z : Tr} (M : Match rs Z) (V : ∀ r ∈ rs, Valid r) {x : Int} (h0 : 0 ≤ x) (h1 : x < 4294967296) (i : Nat) : (Z.rs (bits x i)).map (·.r) = rs.filter fun r => decide (r.pre = (i : Int) ∧ inNet r x = true) := by
  rw [M]
  refine List.filter_congr fun r hr => ?_
  have Vr := V r hr
  obtain ⟨n, hn, _, _⟩ := Vr.pre
  have key := bits_eq_iff Vr h0 h1
  by_cases h : pathOf r = bits x i
  · have hl := congrArg List.length h
    unfold pathOf at hl
    rw [bits_length, bits_length, hn] at hl
    simp only [Int.toNat_natCast] at hl
    subst hl
    have := key.mp (by rw [hn, Int.toNat_natCast]; exact h.symm)
    simp [h, this, hn]
  · have : ¬ (r.pre = (i : Int) ∧ inNet r x = true) := fun ⟨e, e2⟩ => h (by
      have := key.mpr e2
      rw [e, Int.toNat_natCast] at this
      exact this.symm)
    simp [h, this]
/-- the plain law: the way found is the way due -/
theorem look_due {rs : List Rt} {Z : Tr} (M : Match rs Z) (V : ∀ r ∈ rs, Valid r) {x : Int} (h0 : 0 ≤ x) (h1 : x < 4294967296) :
    match dueIdx rs x with
    | none => lookT Z x 32 = none
    | some k => k < rs.length ∧ ∃ o, lookT Z x 32 = some o ∧ o.r = rtAt rs k := by
  have ls := look_spec (Z := Z) (x := x) (n := 32)
  by_cases hh : hits rs x rs.length = []
  · unfold dueIdx
    rw [if_pos hh]
    show lookT Z x 32 = none
    cases hl : lookT Z x 32 with
    | none => rfl
    | some o =>
      obtain ⟨i, hi, hb, _⟩ := ls.2 o hl
      have hmem := best_mem hb
      have : o.r ∈ (Z.rs (bits x i)).map (·.r) := List.mem_map_of_mem hmem
      rw [rs_at M V h0 h1, List.mem_filter] at this
      obtain ⟨hr, hp⟩ := this
      simp only [decide_eq_true_eq] at hp
      obtain ⟨j, hj, ej⟩ := List.mem_iff_getElem.mp hr
      have : j ∈ hits rs x rs.length := hits_mem.mpr ⟨hj, by
        have := rtAt_get hj
        rw [List.getElem?_eq_getElem hj] at this
        rw [← Option.some.inj this, ej]; exact hp.2⟩
      rw [hh] at this; cases this
  · have hne : 0 < (hits rs x rs.length).length := by
      cases hq : hits rs x rs.length with
      | nil => exact (hh hq).elim
      | cons _ _ => exact Nat.succ_pos _
    have hj : argBest (fun i j => lex3 (hitKey rs x i) (hitKey rs x j)) ((hits rs x rs.length).length - 1) < (hits rs x rs.length).length := Nat.lt_of_le_of_lt (argBest_le _ _) (by omega)
    obtain ⟨k, hk⟩ : ∃ k, (hits rs x rs.length)[argBest (fun i j => lex3 (hitKey rs x i) (hitKey rs x j)) ((hits rs x rs.length).length - 1)]? = some k := ⟨_, List.getElem?_eq_getElem hj⟩
    have hd : dueIdx rs x = some k := by
      unfold dueIdx
      rw [if_neg hh, List.getD_eq_getElem?_getD, hk]; rfl
    rw [hd]
    have hkm := hits_mem.mp (List.mem_of_getElem? hk)
    have hkey : hitKey rs x (argBest (fun i j => lex3 (hitKey rs x i) (hitKey rs x j)) ((hits rs x rs.length).length - 1)) = keyOf rs k := by
      unfold hitKey
      rw [List.getD_eq_getElem?_getD]
      unfold hitKey at hk
      rw [hk]; rfl
    have least : ∀ j, j < rs.length → inNet (rtAt rs j) x = true → lex3 (keyOf rs j) (keyOf rs k) = false := fun j hj hn => by
      obtain ⟨t, ht, et⟩ := List.mem_iff_getElem.mp (hits_mem.mpr ⟨hj, hn⟩)
      have := argBest_min (hitKey rs x) ((hits rs x rs.length).length - 1) t (by omega)
      rw [hkey] at this
      have e : hitKey rs x t = keyOf rs j := by
        unfold hitKey
        rw [List.getD_eq_getElem?_getD, List.getElem?_eq_getElem ht, et]; rfl
      rwa [e] at this
    refine ⟨hkm.1, ?_⟩
    have Vk := V (rtAt rs k) (List.mem_of_getElem? (rtAt_get hkm.1))
    obtain ⟨n, hn, hn32, _⟩ := Vk.pre
    cases hl : lookT Z x 32 with
    | none =>
      exfalso
      have := ls.1 hl n hn32
      have h2 := rs_at M V h0 h1 n
      rw [this] at h2
      have : rtAt rs k ∈ rs.filter fun r => decide (r.pre = (n : Int) ∧ inNet r x = true) := List.mem_filter.mpr ⟨List.mem_of_getElem? (rtAt_get hkm.1), by simp [hn, hkm.2]⟩
      rw [← h2] at this
      cases this
    | some o =>
      refine ⟨o, rfl, ?_⟩
      obtain ⟨i, hi, hb, hmax⟩ := ls.2 o hl
      have hmem := best_mem hb
      have ho : o.r ∈ (Z.rs (bits x i)).map (·.r) := List.mem_map_of_mem hmem
      rw [rs_at M V h0 h1, List.mem_filter] at ho
      obtain ⟨hr, hp⟩ := ho
      simp only [decide_eq_true_eq] at hp
      obtain ⟨j, hj', ej⟩ := List.mem_iff_getElem.mp hr
      have ej' : rtAt rs j = o.r := by
        have := rtAt_get hj'
        rw [List.getElem?_eq_getElem hj'] at this
        rw [← Option.some.inj this, ej]
      have hlj := least j hj' (by rw [ej']; exact hp.2)
      have hni : n ≤ i := by
        rcases Nat.lt_or_ge i n with h | h
        · exfalso
          have h2 := rs_at M V h0 h1 n
          rw [hmax n h hn32] at h2
          have : rtAt rs k ∈ rs.filter fun r => decide (r.pre = (n : Int) ∧ inNet r x = true) := List.mem_filter.mpr ⟨List.mem_of_getElem? (rtAt_get hkm.1), by simp [hn, hkm.2]⟩
          rw [← h2] at this
          cases this
        · exact h
      unfold lex3 keyOf at hlj
      simp only [decide_eq_false_iff_not] at hlj
      have hpj : (rtAt rs j).pre = (i : Int) := by rw [ej']; exact hp.1
      have hni' : n = i := by omega
      subst hni'
      refine first_best (rs_at M V h0 h1 n) hb hkm.1 (by simp [hn, hkm.2]) fun s hs hP => ?_
      simp only [decide_eq_true_eq] at hP
      have := least s hs hP.2
      unfold lex3 keyOf at this
      simp only [decide_eq_false_iff_not] at this
      have h3 := hP.1
      constructor <;> omega

end Mine
end

section
set_option Elab.async false
set_option maxRecDepth 100000
set_option maxHeartbeats 8000000
set_option linter.all false
namespace Mine
open PySem PySem.W PyProof.Rows

/-- what holds between two turns of the law's building loop -/
def LJ (P : Params) (wy wd : Addr) (k0 k1 : Tok) (D R cR cr : Addr) (i : Nat) (m : Str → Option Value) (nx : Ledger) : Prop :=
  ∃ Z many rws, Lst P wy wd k0 k1 D R cR cr Z many rws nx ∧ m "ways" = some (.ref wy) ∧ m "source" = some (.ref D) ∧ rws.length ≤ i ∧ (∀ r ∈ rws.map (·.r), Valid r) ∧ Match (rws.map (·.r)) Z
theorem one_cons {l : Ledger} (U : One l) {a : Addr} {o : Obj} (h : ∀ p ∈ l, p.1 < a) : One ((a, o) :: l) := fun x o1 o2 h1 h2 => by
  rcases List.mem_cons.mp h1 with e1 | h1 <;> rcases List.mem_cons.mp h2 with e2 | h2
  · rw [(Prod.mk.inj e1).2, (Prod.mk.inj e2).2]
  · exact absurd (Prod.mk.inj e1).1 (Nat.ne_of_lt (h _ h2))
  · exact absurd (Prod.mk.inj e2).1 (Nat.ne_of_lt (h _ h1))
  · exact U _ _ _ h1 h2
theorem valid_net {pl gw fc mt : Int} {pn : Nat} (h0 : 0 ≤ pl) (h1 : pl < 4294967296) (hp : pn ≤ 32) : Valid ⟨pl - pl.fmod (2 ^ (32 - (pn : Int)).toNat), pn, gw, fc, mt⟩ := by
  have e : (32 - (pn : Int)).toNat = 32 - pn := by omega
  have hM : (0 : Int) < 2 ^ (32 - pn) := Int.pow_pos (by decide)
  rw [e, Int.fmod_eq_emod_of_nonneg _ (Int.le_of_lt hM)]
  have h2 := Int.emod_nonneg pl (Int.ne_of_gt hM)
  have h3 : pl % 2 ^ (32 - pn) ≤ pl := by
    have hq := Int.mul_ediv_add_emod pl (2 ^ (32 - pn))
    have := Int.mul_nonneg (Int.le_of_lt hM) (Int.ediv_nonneg h0 (Int.le_of_lt hM))
    omega
  refine ⟨⟨pn, rfl, hp, ?_⟩, ?_, ?_⟩
  · show (pl - pl % 2 ^ (32 - pn)) % 2 ^ (32 - pn) = 0
    rw [Int.sub_emod, Int.emod_emod_of_dvd _ (Int.dvd_refl _), Int.sub_self]; rfl
  · show 0 ≤ pl - pl % 2 ^ (32 - pn); omega
  · show pl - pl % 2 ^ (32 - pn) < 4294967296; omega
theorem Lst.setRowN {hz hx : Heap} {Lf tw : Addr} {ob o' : Obj} {v' : Value} {P : Params} {wy wd : Addr} {k0 k1 : Tok} {D R cR cr : Addr} {Z : Tr} {many : Int} {rws : List Rw} {l : Ledger} (S : Lst P wy wd k0 k1 D R cR cr Z many rws l) (_N : News hz Lf hx (put cr o' ((tw, ob) :: l))) (U : One l) (h : ∀ p ∈ l, p.1 < tw)
    (hv : o'.data = .cell (some v')) : Lst P wy wd k0 k1 D R cR cr Z many rws (put cr o' ((tw, ob) :: l)) := (S.grow fun _ h => .tail _ h).setRow (one_cons U h) hv
theorem put_mem0 {h₀ h : Heap} {L a : Addr} {o : Obj} {l : Ledger} (_ : News h₀ L h (put a o l)) : (a, o) ∈ put a o l := mem_put

theorem comp_range {prog : Program} {w : World} {A : Around} {s : Shared} {h₀ : Heap} {L : Addr} {m : Str → Option Value} {env : Env} {ct elt : PySem.Expr} {x : Str} {scope : Scope} {cl : List (Str × Addr)} {S : Ledger → Prop} {P : Nat → Value → Prop}
    {Fin : List Value → Ledger → Prop} {n : Nat} {news : Ledger} (Inv : Nat → List Value → Prop)
    (hstep : ∀ i ys, i < n → Inv i ys → ∀ v I oI C oC D m₂ h tk (E' : Value → Shared → Prop), P i v → LCg.NsObj oC m₂ → m₂ x = some v → Fr h₀ L h m → News h₀ L h ((I, oI) :: (C, oC) :: (D, LCg.lst ys) :: news) → LCg.Off3 I C D news → ((@Ne Nat I C) ∧ (@Ne Nat I D) ∧ (@Ne Nat C D)) →
      wpAny (model prog w) A (isTrue ct (compEnvC scope cl C env) (eval ct (compEnvC scope cl C env))) (fun ok s' => if ok = true then
        wpAny (model prog w) A (eval elt (compEnvC scope cl C env)) (LCg.CompEnd h₀ L m { s with heap := h, toks := tk } I oI C oC D (LCg.lst ys) S (fun y news' => news' = news ∧ Inv (i + 1) (ys ++ [y]))) E' s'
        else LCg.CompEnd h₀ L m { s with heap := h, toks := tk } I oI C oC D (LCg.lst ys) S (fun _ news' => news' = news ∧ Inv (i + 1) ys) Value.none s') E' { s with heap := h, toks := tk })
    (h0 : Inv 0 []) (hfin : ∀ ys, Inv n ys → Fin ys news) : LCt.CompRestT prog w A h₀ L m env ct elt x scope cl s S P Fin n 0 [] news := by
  have go : ∀ k i ys, i + k = n → Inv i ys → LCt.CompRestT prog w A h₀ L m env ct elt x scope cl s S P Fin k i ys news := by
    intro k
    induction k with
    | zero => intro i ys e hI; exact LCt.CompRestT.zero (hfin ys (by rw [← e]; exact hI))
    | succ k ih =>
      intro i ys e hI
      refine LCt.CompRestT.succ ?_
      intro v I oI C oC D m₂ h tk E' hP hC hx F N off ne
      refine wpAny_mono (hstep i ys (by omega) hI v I oI C oC D m₂ h tk E' hP hC hx F N off ne) (fun ok s' hq => ?_) fun _ _ e => e
      cases ok with
      | true =>
        refine wpAny_mono hq (fun y s'' hz => ?_) fun _ _ e => e
        obtain ⟨h', tk', news', e1, F', N', o', hS, rfl, hI'⟩ := hz
        exact ⟨h', tk', news', e1, F', N', o', hS, ih _ _ (by omega) hI'⟩
      | false =>
        obtain ⟨h', tk', news', e1, F', N', o', hS, rfl, hI'⟩ := hq
        exact ⟨h', tk', news', e1, F', N', o', hS, ih _ _ (by omega) hI'⟩
  exact go n 0 [] (by omega) h0

end Mine
end

section
set_option Elab.async false
set_option maxRecDepth 100000
set_option maxHeartbeats 8000000
set_option linter.all false
namespace Mine
open PySem PySem.W PyProof.Rows

section
variable {prog : Program} {w : World} {A : Around} {E : Value → Shared → Prop} {s : Shared} {h₀ : Heap} {L : Addr} {m : Str → Option Value} {news : List (Addr × Obj)}
theorem sliceApplied_4 {sl : Addr} {u : Tok} {Q : Int × Int × Nat → Shared → Prop} (hs : s.heap.IsSliceOf sl .none (.int 4 u) .none) (h : Q (0, 1, 4) s) :
    wpAny (model prog w) A (Builtin.Slice.sliceApplied (.ref sl) (pure 5)) Q E s := by
  obtain ⟨os, hos, hcs, hds⟩ := id hs
  unfold Builtin.Slice.sliceApplied Builtin.Slice.sliceFields
  refine wpAny_bind (wpAny_bind (wpAny_field hos hds (x := .none) rfl (wpAny_bind (wpAny_field hos hds (x := .int 4 u) rfl (wpAny_bind (wpAny_field hos hds (x := .none) rfl (wpAny_pure ?_)))))))
  refine wpAny_bind (slicePart_none ?_)
  show wpAny _ _ (if ((1 : Int) == 0) = true then _ else _) _ _ s
  rw [if_neg (by decide)]
  refine wpAny_bind (slicePart_none (wpAny_bind (slicePart_int (wpAny_bind (wpAny_pure ?_)))))
  exact wpAny_pure h
theorem getItem_tuple_4 {t sl : Addr} {x0 x1 x2 x3 x4 : Value} {u : Tok} {Q : Value → Shared → Prop} (ht : IsTup s.heap t #[x0, x1, x2, x3, x4]) (hs : s.heap.IsSliceOf sl .none (.int 4 u) .none)
    (h : Q (.ref s.heap.objs.size) { s with heap := s.heap.push (tupObj [x0, x1, x2, x3]) }) : wpAny (model prog w) A (getItem (.ref t) (.ref sl)) Q E s := by
  have hdrop : sizeOk (.seq [x0, x1, x2, x3].toArray) := Nat.le_of_ble_eq_true rfl
  obtain ⟨os, hos, hcs, hds⟩ := id hs
  have hTs : s.TypeIs (.ref sl) "slice" := ⟨os, hos, hcs⟩
  unfold getItem
  try with_reducible refine wpAny_holding ?_
  first | refine wpAny_bind (wpAny_pure ?_) | skip
  refine wpAny_bind (wpAny_sequenceKey ht.typeIs (by decide) ?_)
  refine wpAny_bind (wpAny_callSpecial?_slot (name := Str.ofString "__getitem__") ht.typeIs slot_tuple_getitem
    (wpAny_call_entry slot_tuple_getitem ht.typeIs entry_tuple_getitem ?_ (args_tuple_getitem _ _)))
  show wpAny _ _ (Builtin.Tuple.tupleItemsOf (.ref t) >>= _) _ _ s
  refine wpAny_bind (tupleItemsOf_ ht ?_)
  refine wpAny_bind (wpAny_typeOf hTs ?_)
  rw [if_pos (by decide)]
  refine wpAny_bind (sliceApplied_4 hs ?_)
  show wpAny _ _ (if ((0 : Int) == 0 && (1 : Int) == 1 && 4 == 5) = true then _ else _) _ _ s
  rw [if_neg (by decide)]
  first
    | exact wpAny_bind (m := Builtin.Tuple.tupleExact _) (wpAny_newObj_type (wpAny_pure ⟨_, rfl, wpAny_pure h⟩) hdrop)
    | exact wpAny_bind (m := Builtin.Tuple.tupleExact _) (wpAny_newObj_type (wpAny_bind (wpAny_pure (wpAny_pure ⟨_, rfl, wpAny_pure h⟩))) hdrop)
    | exact wpAny_bind (wpAny_bind (m := Builtin.Tuple.tupleExact _) (wpAny_newObj_type (wpAny_pure ⟨_, rfl, wpAny_pure h⟩) hdrop))
theorem slice_tuple_4 {value slice : PySem.Expr} {t : Addr} {x0 x1 x2 x3 x4 : Value} {u : Tok} {Q : Value → Shared → Prop}
    (F : Fr h₀ L s.heap m) (N : News h₀ L s.heap news) (hm : (t, tupObj [x0, x1, x2, x3, x4]) ∈ news)
    (h : ∀ D h', Fr h₀ L h' m → News h₀ L h' ((D, tupObj [x0, x1, x2, x3]) :: news) → (∀ p ∈ news, p.1 < D) → Q (.ref D) { s with heap := h' })
    (hs : subscripted slice false (.ref t) (.ref s.heap.objs.size) = operate [.ref s.heap.objs.size, .ref t] (getItem (.ref t) (.ref s.heap.objs.size)) := by with_unfolding_all rfl)
    (hg : ∀ r, letTemporaryGo value (.ref t) r = pure () := by intro _; with_unfolding_all rfl) :
    wpAny (model prog w) A (subscriptTail value slice (.ref t) (.ref s.heap.objs.size)) Q E { s with heap := s.heap.push { cls := .type "slice", data := .fields #[.none, .int 4 u, .none] } } := by
  have ht : IsTup s.heap t #[x0, x1, x2, x3, x4] := ⟨_, (N _ hm).1, rfl, 0, rfl⟩
  have ht' : IsTup (s.heap.push { cls := .type "slice", data := .fields #[.none, .int 4 u, .none] }) t #[x0, x1, x2, x3, x4] := ht.keeps fun _ _ e => Heap.get?_push_of_some _ e
  refine subscriptTail_ops (s := { s with heap := s.heap.push { cls := .type "slice", data := .fields #[.none, .int 4 u, .none] } }) ht'.typeIs slot_tuple_getitem.lookup
    (getItem_tuple_4 ht' (Heap.IsSliceOf.new ..) ?_) hs hg
  have N1 := News.push (F.push { cls := .type "slice", data := .fields #[.none, .int 4 u, .none] }) (N.grown fun _ _ e => Heap.get?_push_of_some _ e) (tupObj [x0, x1, x2, x3])
  exact h _ _ ((F.push _).push _) N1 fun p hp => by rw [Heap.size_push]; exact Nat.lt_succ_of_lt (Heap.lt_size (N p hp).1)
theorem eq_tup4 {a b : Addr} {x0 x1 x2 x3 y0 y1 y2 y3 : Int} {t0 t1 t2 t3 u0 u1 u2 u3 : Tok} {Q : Value → Shared → Prop} (N : News h₀ L s.heap news) (h1 : (a, tupObj [.int x0 t0, .int x1 t1, .int x2 t2, .int x3 t3]) ∈ news)
    (h2 : (b, tupObj [.int y0 u0, .int y1 u1, .int y2 u2, .int y3 u3]) ∈ news) (hu : A.units < cLine) (h : Q (.bool (decide (x0 = y0 ∧ x1 = y1 ∧ x2 = y2 ∧ x3 = y3))) s) : wpAny (model prog w) A (compareOp .Eq (.ref a) (.ref b)) Q E s := by
  have l1 : s.heap.IsTuple a #[.int x0 t0, .int x1 t1, .int x2 t2, .int x3 t3] := ⟨_, (N _ h1).1, rfl, 0, rfl⟩
  have l2 : s.heap.IsTuple b #[.int y0 u0, .int y1 u1, .int y2 u2, .int y3 u3] := ⟨_, (N _ h2).1, rfl, 0, rfl⟩
  refine PySem.SeqAt.eq_tupleAt (e := fun j => [decide (x0 = y0), decide (x1 = y1), decide (x2 = y2), decide (x3 = y3)].getD j false) l1 l2 hu (fun j g1 g2 => ?_) ?_
  · match j, g1 with
    | 0, _ => exact PySem.SeqAt.EqAt.int_int _ _ _ _
    | 1, _ => exact PySem.SeqAt.EqAt.int_int _ _ _ _
    | 2, _ => exact PySem.SeqAt.EqAt.int_int _ _ _ _
    | 3, _ => exact PySem.SeqAt.EqAt.int_int _ _ _ _
    | k + 4, g => exact absurd g (by simp)
  · have e : ((List.range (min (#[Value.int x0 t0, .int x1 t1, .int x2 t2, .int x3 t3] : Array Value).size (#[Value.int y0 u0, .int y1 u1, .int y2 u2, .int y3 u3] : Array Value).size)).all (fun j => [decide (x0 = y0), decide (x1 = y1), decide (x2 = y2), decide (x3 = y3)].getD j false) && (#[Value.int x0 t0, .int x1 t1, .int x2 t2, .int x3 t3] : Array Value).size == (#[Value.int y0 u0, .int y1 u1, .int y2 u2, .int y3 u3] : Array Value).size) = decide (x0 = y0 ∧ x1 = y1 ∧ x2 = y2 ∧ x3 = y3) := by
      simp [List.range_succ, Bool.and_assoc]
    rw [e]; exact h
end
theorem news_up3 {hz hx : Heap} {Lf : Addr} {a b c p : Addr × Obj} {l : Ledger} (_ : News hz Lf hx (a :: b :: c :: l)) (h : p ∈ l) : p ∈ a :: b :: c :: l := .tail _ (.tail _ (.tail _ h))
end Mine
end

section
set_option Elab.async false
set_option maxRecDepth 100000
set_option maxHeartbeats 8000000
set_option linter.all false
namespace Mine
open PySem PySem.W PyProof.Rows

local macro_rules | `(tactic| k_handed) => `(tactic| assumption)
local macro_rules | `(tactic| k_mem) => `(tactic| assumption)
local macro_rules | `(tactic| k_all) => `(tactic| exact wo_ne)
local macro_rules | `(tactic| k_room) => `(tactic| ktr_room)
local macro_rules | `(tactic| units_room) => `(tactic| ktr_units)
local macro_rules | `(tactic| k_enter) => `(tactic| (refine' code_def ?k1 ?k2 ?k3 ?k4 ?k5 ?kA ?kF ?kK ?k6 ?k7 ?k8 ?k9 ?kB ?_ ?c2 ?c3 ?c4 ?c5; (case kA => exact rfl); (case kF => exact rfl); (case kK => first | exact rfl | assumption); (case k1 => k_asm); (case k2 => k_asm); (case k3 => k_asm); (case k4 => k_asm); (case k5 => k_asm); (case k6 => k_is); (case k7 => k_is); (case k8 => ktr_room); (case k9 => first | exact BindsTo.of_eq rfl | exact binds_K (by k_in) rfl (by k_is) rfl rfl rfl); (case c5 => decide); (case kB => exact locs rfl); (case c2 => exact rfl); (case c3 => exact rfl); (case c4 => exact rfl); k_whole; intro g' L' h' FG' F' N' B' X' T'; (try dsimp only); (try k_fold)))
local macro_rules | `(tactic| walk_at "subscriptTail") => `(tactic| (k_here; (with_reducible show wpAny _ _ (subscriptTail _ _ (Value.ref _) (Value.int _ _)) _ _ _); first
  | ((with_reducible show wpAny _ _ (subscriptTail _ (PySem.Expr.UnaryOp _ _ _) (Value.ref _) (Value.int _ _)) _ _ _); refine' item_last ?k1 ?k2 ?_ ?k7; (case k1 => k_asm); (case k2 => k_mem); (case k7 => with_unfolding_all rfl); k_whole)
  | (refine' item_P ?k1 ?k2 ?k3 ?k4 ?k5 ?_ ?k7; (case k1 => k_asm); (case k2 => k_mem); (case k3 => omega); (case k4 => omega); (case k5 => first | with_reducible assumption | ((with_reducible rw [Int.toNat_natCast]); with_reducible assumption) | exact rfl); (case k7 => with_unfolding_all rfl); k_whole)
  | (refine' tupItem_P ?k1 ?k2 ?k3 ?k4 ?k5 ?_ ?k7; (case k1 => k_asm); (case k2 => k_mem); (case k3 => omega); (case k4 => omega); (case k5 => first | with_reducible assumption | ((with_reducible rw [Int.toNat_natCast]); with_reducible assumption) | exact rfl); (case k7 => with_unfolding_all rfl); k_whole)))
local macro_rules | `(tactic| walk_at "setItem ref int") => `(tactic| (k_here; k_dflt (refine' setAt_P ?k1 ?k2 ?k3 ?k4 ?k5 ?k6 ?_; (case k1 => k_asm); (case k2 => k_asm); (case k3 => k_mem); (case k4 => omega); (case k5 => omega); (case k6 => first | (simp; done) | (simp only [Int.toNat_natCast, List.length_map]; omega) | (simp; omega)); k_whole; intro h' F' N')))
local macro_rules | `(tactic| walk_at "call builtin:list.append") => `(tactic| (k_here; (with_reducible show wpAny _ _ (call (Value.builtin _) [Value.ref _, _]) _ _ _); k_dflt (refine' append_P ?k1 ?k2 ?k3 ?_ ?z; (case k1 => k_asm); (case k2 => k_asm); (case k3 => k_mem); (case z => simp only [sizeLine_eq, List.size_toArray, List.length_append, List.length_map, List.length_cons, List.length_nil]; omega); k_whole; intro h' F' N')))
local macro_rules | `(tactic| walk_at "call builtin:len") => `(tactic| (k_here; (with_reducible show wpAny _ _ (call (Value.builtin "len") [Value.ref _]) _ _ _); k_dflt (refine' len_P ?k1 ?k2 ?k3 ?_; (case k1 => k_asm); (case k2 => k_mem); (case k3 => (try simp only [List.length_map, List.length_append, List.length_cons, List.length_nil]); omega); k_whole); (try simp only [List.length_map])))
local macro_rules | `(tactic| walk_at "compareOp NotEq ref ref") => `(tactic| (k_here; (refine' ne_empty_P ?k1 ?k2 ?k3 ?k4 ?_; (case k1 => k_asm); (case k3 => k_mem); (case k2 => k_mem); (case k4 => units_room); k_whole)))
local macro_rules | `(tactic| walk_at "compareOp Eq ref ref") => `(tactic| (k_here; (refine' eq_empty_P ?k1 ?k2 ?k3 ?k4 ?_; (case k1 => k_asm); (case k3 => k_mem); (case k2 => k_mem); (case k4 => units_room); k_whole)))

local macro_rules | `(tactic| walk_at "storeName") => `(tactic| (k_here; k_dflt (refine' storeX_P ?F ?N ?c ?U ?d ?_ ?a ?b; (case a => rfl); (case b => rfl); (case F => k_asm); (case N => k_asm); (case c => rfl); (case U => k_mem); (case d => k_asm); k_whole; intro h' o' F' N' d')))

local macro_rules | `(tactic| walk_at "subscriptTail") => `(tactic| (k_here; (with_reducible show wpAny _ _ (subscriptTail _ (PySem.Expr.Slice _ _ none _) (Value.ref _) (Value.ref _)) _ _ _); k_dflt (refine' slice_tuple_4 ?F ?N ?l ?_ ?s ?t; (case F => k_asm); (case N => k_asm); (case l => k_mem); (case s => with_unfolding_all rfl); (case t => kmk_pure)); intro D' h' F' N' l1))
local macro_rules | `(tactic| walk_at "compareOp Eq ref ref") => `(tactic| (k_here; (refine' eq_tup4 ?k1 ?k2 ?k3 ?k4 ?_; (case k1 => k_asm); (case k2 => k_mem); (case k3 => k_mem); (case k4 => units_room); k_whole)))

def ctSame (p0 p1 p2 p3 p4 p5 p6 p7 p8 p9 p10 : Pos) : PySem.Expr :=
  .Compare (.Subscript (.Subscript (.Name (Str.ofString "rows") p0) (.Name (Str.ofString "at") p1) p2) (.Slice none (some (.Constant (.int 4) 0 p3)) none p4) p5) [.Eq] [.Subscript (.Name (Str.ofString "row") p6) (.Slice none (some (.Constant (.int 4) 0 p7)) none p8) p9] p10
def scSame : Scope := { kind := .function, names := [(Str.ofString ".0", .local), (Str.ofString "at", .local), (Str.ofString "row", .free), (Str.ofString "rows", .free)], isGenerator := false, isCoroutine := false }
theorem same_turn {w : World} {A : Around} {E : Value → Shared → Prop} {Q : Bool → Shared → Prop} {s : Shared} {h₀ hh : Heap} {L cR cr C R tw t : Addr} {m m₂ : Str → Option Value} {news : Ledger} {oC oR or : Obj} {env : Env} {vs : List Value} {nR j tk : Nat} {tv : Tok} {p0 p1 p2 p3 p4 p5 p6 p7 p8 p9 p10 : Pos}
    {a0 a1 a2 a3 a4 b0 b1 b2 b3 b4 : Int} {t0 t1 t2 t3 t4 u0 u1 u2 u3 u4 : Tok} (X : (hd.heap_39 w.params).In h₀) (hu : A.units < cLine) (kf : env.scope.kind = .function) (k1 : (compEnvC scSame [(Str.ofString "rows", cR), (Str.ofString "row", cr)] C env).kindOf (Str.ofString "rows") = some .cell) (k2 : (compEnvC scSame [(Str.ofString "rows", cR), (Str.ofString "row", cr)] C env).kindOf (Str.ofString "row") = some .cell) (k3 : (compEnvC scSame [(Str.ofString "rows", cR), (Str.ofString "row", cr)] C env).kindOf (Str.ofString "at") = some .local)
    (F : Fr h₀ L hh m) (N : News h₀ L hh news) (hC : (C, oC) ∈ news) (hNs : LCg.NsObj oC m₂) (hat : m₂ (Str.ofString "at") = some (.int (j : Int) tv))
    (hcR : (cR, oR) ∈ news) (dR : oR.data = .cell (some (.ref R))) (hcr : (cr, or) ∈ news) (dr : or.data = .cell (some (.ref tw))) (hR : (R, listOf vs.toArray nR) ∈ news) (hj : j < vs.length) (hjr : (j : Int) < 1000) (hv : vs[j]? = some (.ref t))
    (ht : (t, tupObj [.int a0 t0, .int a1 t1, .int a2 t2, .int a3 t3, .int a4 t4]) ∈ news) (htw : (tw, tupObj [.int b0 u0, .int b1 u1, .int b2 u2, .int b3 u3, .int b4 u4]) ∈ news)
    (h : ∀ b h' tk', b = decide (a0 = b0 ∧ a1 = b1 ∧ a2 = b2 ∧ a3 = b3) → Fr h₀ L h' m → News h₀ L h' news → Q b { s with heap := h', toks := tk' }) :
    wpAny (model PySem.Challenge.rw_xw0341_01.row.prog w) A (isTrue (ctSame p0 p1 p2 p3 p4 p5 p6 p7 p8 p9 p10) (compEnvC scSame [(Str.ofString "rows", cR), (Str.ofString "row", cr)] C env) (eval (ctSame p0 p1 p2 p3 p4 p5 p6 p7 p8 p9 p10) (compEnvC scSame [(Str.ofString "rows", cR), (Str.ofString "row", cr)] C env))) Q E { s with heap := hh, toks := tk } := by
  unfold ctSame
  iterate 3 (first | walk1 | (dsimp only; walk1))
  refine lcf_cell (N) (by rfl) hcR dR ?_ (by rfl) k1
  k_whole
  refine LCgL.ld_own N hC hNs hat ?_ (by rfl) k3
  k_whole
  iterate 7 (first | walk1 | (dsimp only; walk1))
  refine slice_tuple_4 (s := { s with heap := hh, toks := _ }) F N ht ?_ (by with_unfolding_all rfl) (by intro _; with_unfolding_all rfl)
  intro D1 h1 F1 N1 l1
  clear F N
  have hC1 := List.mem_cons_of_mem (D1, tupObj [.int a0 t0, .int a1 t1, .int a2 t2, .int a3 t3]) hC
  have hcr1 := List.mem_cons_of_mem (D1, tupObj [.int a0 t0, .int a1 t1, .int a2 t2, .int a3 t3]) hcr
  have htw1 := List.mem_cons_of_mem (D1, tupObj [.int a0 t0, .int a1 t1, .int a2 t2, .int a3 t3]) htw
  walk1
  refine lcf_cell N1 (by rfl) hcr1 dr ?_ (by rfl) k2
  k_whole
  iterate 5 (first | walk1 | (dsimp only; walk1))
  refine slice_tuple_4 (s := { s with heap := h1, toks := _ }) F1 N1 htw1 ?_ (by with_unfolding_all rfl) (by intro _; with_unfolding_all rfl)
  intro D2 h2 F2 N2 l2
  clear F1 N1
  refine eq_tup4 (s := { s with heap := h2, toks := _ }) N2 (.tail _ (.head _)) (.head _) hu ?_
  walk1
  exact h _ _ _ rfl F2 fun p hp => N2 p (.tail _ (.tail _ hp))
theorem news_head {hz hx : Heap} {Lf : Addr} {p : Addr × Obj} {l : Ledger} (_ : News hz Lf hx (p :: l)) : p ∈ p :: l := .head _
theorem news_up1 {hz hx : Heap} {Lf : Addr} {a p : Addr × Obj} {l : Ledger} (_ : News hz Lf hx (a :: l)) (h : p ∈ l) : p ∈ a :: l := .tail _ h
theorem same_less {rs : List Rt} {r : Rt} {j : Nat} (h : same4 (rtAt rs j) r = false) : (List.range (j + 1)).filter (fun k => same4 (rtAt rs k) r) = (List.range j).filter fun k => same4 (rtAt rs k) r := by
  rw [List.range_succ, List.filter_append, List.filter_cons, h]; simp
theorem same_more {rs : List Rt} {r : Rt} {j : Nat} (tf : Nat → Tok) (tv : Tok) (h : same4 (rtAt rs j) r = true) :
    ∃ tf' : Nat → Tok, (((List.range j).filter fun k => same4 (rtAt rs k) r).map fun (k : Nat) => Value.int (k : Int) (tf k)) ++ [Value.int (j : Int) tv] = ((List.range (j + 1)).filter fun k => same4 (rtAt rs k) r).map fun (k : Nat) => Value.int (k : Int) (tf' k) := by
  refine ⟨fun k => if k = j then tv else tf k, ?_⟩
  rw [List.range_succ, List.filter_append, List.filter_cons, if_pos h, List.map_append]
  congr 1
  · refine List.map_congr_left fun k hk => ?_
    have := List.mem_range.mp (List.mem_filter.mp hk).1
    show _ = Value.int (k : Int) (if k = j then tv else tf k)
    rw [if_neg (by omega)]
  · simp
theorem tup_of {l : Ledger} {tw : Addr} {r : Rt} {x0 x1 x2 x3 x4 : Int} {u0 u1 u2 u3 u4 : Tok} (e : r = ⟨x0, x1, x2, x3, x4⟩) (h : (tw, tupObj [.int x0 u0, .int x1 u1, .int x2 u2, .int x3 u3, .int x4 u4]) ∈ l) :
    (tw, tupObj [.int r.net u0, .int r.pre u1, .int r.gw u2, .int r.face u3, .int r.met u4]) ∈ l := by rw [e]; exact h
theorem filter_head {P : Nat → Bool} {n k : Nat} {l : List Nat} (h : (List.range n).filter P = k :: l) : k < n ∧ P k = true ∧ ∀ j, j < k → P j = false := by
  have e : (List.range n).find? P = some k := by rw [← List.head?_filter, h]; rfl
  rw [List.find?_range_eq_some] at e
  exact ⟨List.mem_range.mp e.2.1, e.1, fun j hj => by simpa using e.2.2 j hj⟩
theorem filter_none {P : Nat → Bool} {n : Nat} (h : (List.range n).filter P = []) (j : Nat) (hj : j < n) : P j = false := by
  have := List.filter_eq_nil_iff.mp h j (List.mem_range.mpr hj)
  simpa using this
section
variable {hz hx : Heap} {Lf : Addr} {P : Params} {wy wd : Addr} {k0 k1 : Tok} {D R cR cr : Addr} {Z : Tr} {many : Int} {rws : List Rw} {l : Ledger} {tw Ia : Addr} {io : Obj} {i n : Nat} {m : Str → Option Value} {r : Rt} {u0 u1 u2 u3 u4 : Tok}
theorem lj_app (N : News hz Lf hx (put R (listOf ((rws.map fun q => Value.ref q.t).toArray.push (.ref tw)) n) l)) (S : Lst P wy wd k0 k1 D R cR cr Z many rws l) (U : One l) (htw : (tw, tupObj [.int r.net u0, .int r.pre u1, .int r.gw u2, .int r.face u3, .int r.met u4]) ∈ l)
    (hIa : (Ia, io) ∈ l) (hio : io.cls = .type "range_iterator") (n1 : cR ≠ Ia) (n2 : cr ≠ Ia) (n3 : R ≠ Ia) (hw : m "ways" = some (.ref wy)) (hs : m "source" = some (.ref D)) (hl : rws.length ≤ i) (hV : ∀ r ∈ rws.map (·.r), Valid r) (Vr : Valid r) (hM : Match (updW (rws.map (·.r)) r) Z)
    (hf : (List.range rws.length).filter (fun k => same4 (rtAt (rws.map (·.r)) k) r) = []) : LJ P wy wd k0 k1 D R cR cr (i + 1) m (wo Ia (put R (listOf ((rws.map fun q => Value.ref q.t).toArray.push (.ref tw)) n) l)) := by
  have e1 : (rws.map fun q => Value.ref q.t).toArray.push (.ref tw) = ((rws ++ [(⟨tw, r, u0, u1, u2, u3, u4⟩ : Rw)]).map fun q => Value.ref q.t).toArray := by simp
  have e2 : updW (rws.map (·.r)) r = (rws ++ [(⟨tw, r, u0, u1, u2, u3, u4⟩ : Rw)]).map (·.r) := by
    rw [updW_app fun j y hj => ?_]
    · simp
    · have hjl : j < (rws.map (·.r)).length := by
        rcases Nat.lt_or_ge j (rws.map (·.r)).length with h | h
        · exact h
        · rw [List.getElem?_eq_none h] at hj; cases hj
      have := filter_none hf j (by simpa using hjl)
      rw [rtAt_get hjl] at hj
      rw [← Option.some.inj hj]; exact this
  rw [e1] at N ⊢
  refine ⟨Z, many, rws ++ [⟨tw, r, u0, u1, u2, u3, u4⟩], (S.setRows U fun q hq => ?_).wo (one_of N) (mem_put_ne hIa n3.symm) hio n1 n2, hw, hs, ?_, fun x hx => ?_, ?_⟩
  · rcases List.mem_append.mp hq with h | h
    · exact S.tups q h
    · rw [List.mem_singleton.mp h]; exact htw
  · simp; exact hl
  · rw [← e2] at hx
    rcases updW_mem hx with h | h
    · exact hV x h
    · rw [h]; exact Vr
  · rw [← e2]; exact hM
theorem lj_set {k : Nat} {kt : List Nat} (N : News hz Lf hx (put R (listOf ((rws.map fun q => Value.ref q.t).set (k : Int).toNat (.ref tw)).toArray n) l)) (S : Lst P wy wd k0 k1 D R cR cr Z many rws l) (U : One l) (htw : (tw, tupObj [.int r.net u0, .int r.pre u1, .int r.gw u2, .int r.face u3, .int r.met u4]) ∈ l)
    (hIa : (Ia, io) ∈ l) (hio : io.cls = .type "range_iterator") (n1 : cR ≠ Ia) (n2 : cr ≠ Ia) (n3 : R ≠ Ia) (hw : m "ways" = some (.ref wy)) (hs : m "source" = some (.ref D)) (hl : rws.length ≤ i) (hV : ∀ r ∈ rws.map (·.r), Valid r) (Vr : Valid r) (hM : Match (updW (rws.map (·.r)) r) Z)
    (hf : (List.range rws.length).filter (fun k => same4 (rtAt (rws.map (·.r)) k) r) = k :: kt) : LJ P wy wd k0 k1 D R cR cr (i + 1) m (wo Ia (put R (listOf ((rws.map fun q => Value.ref q.t).set (k : Int).toNat (.ref tw)).toArray n) l)) := by
  obtain ⟨h1, h2, h3⟩ := filter_head hf
  have e1 : (rws.map fun q => Value.ref q.t).set (k : Int).toNat (.ref tw) = (rws.set k (⟨tw, r, u0, u1, u2, u3, u4⟩ : Rw)).map fun q => Value.ref q.t := by rw [List.map_set, Int.toNat_natCast]
  have e2 : updW (rws.map (·.r)) r = (rws.set k (⟨tw, r, u0, u1, u2, u3, u4⟩ : Rw)).map (·.r) := by
    rw [updW_set (rtAt_get (by simpa using h1)) (fun j y hj hy => ?_) h2, List.map_set]
    have hjl : j < (rws.map (·.r)).length := by simp; omega
    rw [rtAt_get hjl] at hy
    rw [← Option.some.inj hy]; exact h3 j hj
  rw [e1] at N ⊢
  refine ⟨Z, many, rws.set k ⟨tw, r, u0, u1, u2, u3, u4⟩, (S.setRows U fun q hq => ?_).wo (one_of N) (mem_put_ne hIa n3.symm) hio n1 n2, hw, hs, ?_, fun x hx => ?_, ?_⟩
  · rcases List.mem_or_eq_of_mem_set hq with h | h
    · exact S.tups q h
    · rw [h]; exact htw
  · rw [List.length_set]; omega
  · rw [← e2] at hx
    rcases updW_mem hx with h | h
    · exact hV x h
    · rw [h]; exact Vr
  · rw [← e2]; exact hM
end
end Mine
end

section
set_option Elab.async false
set_option maxRecDepth 100000
set_option maxHeartbeats 8000000
set_option linter.all false
namespace Mine
open PySem PySem.W PyProof.Rows

section
variable {prog : Program} {w : World} {A : Around} {E : Value → Shared → Prop} {s : Shared} {h₀ : Heap} {L : Addr} {news : List (Addr × Obj)}
theorem ne_nones {Q : Value → Shared → Prop} (h : Q (.bool false) s) : wpAny (model prog w) A (compareOp .NotEq .none .none) Q E s := cmp_ofNotEq (PySem.SeqAt.RcNeAt.none_none _ _ _ _ h)
theorem ne_tup5 {a b : Addr} {x0 x1 x2 x3 x4 : Int} {t0 t1 t2 t3 t4 u0 u1 u2 u3 u4 : Tok} {Q : Value → Shared → Prop} (N : News h₀ L s.heap news) (h1 : (a, tupObj [.int x0 t0, .int x1 t1, .int x2 t2, .int x3 t3, .int x4 t4]) ∈ news)
    (h2 : (b, tupObj [.int x0 u0, .int x1 u1, .int x2 u2, .int x3 u3, .int x4 u4]) ∈ news) (hu : A.units < cLine) (h : Q (.bool false) s) : wpAny (model prog w) A (compareOp .NotEq (.ref a) (.ref b)) Q E s := by
  have l1 : s.heap.IsTuple a #[.int x0 t0, .int x1 t1, .int x2 t2, .int x3 t3, .int x4 t4] := ⟨_, (N _ h1).1, rfl, 0, rfl⟩
  have l2 : s.heap.IsTuple b #[.int x0 u0, .int x1 u1, .int x2 u2, .int x3 u3, .int x4 u4] := ⟨_, (N _ h2).1, rfl, 0, rfl⟩
  refine cmp_ofNotEq (PySem.SeqAt.RcNeAt.tuples (e := fun _ => true) l1 l2 hu (fun j g1 g2 => ?_) _ _ _ _ h)
  have key : ∀ (x : Int) (t u : Tok), PySem.SeqAt.EqAt A.in1 s (.int x t) (.int x u) true := fun x t u => by
    have := PySem.SeqAt.EqAt.int_int (A := A.in1) (s := s) x t x u
    simpa using this
  match j, g1 with
  | 0, _ => exact key _ _ _
  | 1, _ => exact key _ _ _
  | 2, _ => exact key _ _ _
  | 3, _ => exact key _ _ _
  | 4, _ => exact key _ _ _
  | k + 5, g => exact absurd g (by simp)
end
theorem turn_law {rws : List Rw} {Z : Tr} {x : Int} {n5 : Ledger} {r r2 : Value} (M : Match (rws.map (·.r)) Z) (V : ∀ r ∈ rws.map (·.r), Valid r) (h0 : 0 ≤ x) (h1 : x < 4294967296)
    (hr : if x.fdiv 16777216 = 127 then r = .none else match lookT Z x 32 with
        | none => r = .none
        | some o => ∃ tp, r = .ref tp ∧ (tp, tupObj [.int o.r.net o.t0, .int o.r.pre o.t1, .int o.r.gw o.t2, .int o.r.face o.t3, .int o.r.met o.t4]) ∈ n5)
    (hr2 : r2 = if 2130706432 ≤ x ∧ x < 2147483648 then .none else match dueIdx (rws.map (·.r)) x with
      | none => .none
      | some k => ((rws[k]?).map fun q => Value.ref q.t).getD .none) :
    (r = .none ∧ r2 = .none) ∨ ∃ tp q t0 t1 t2 t3 t4, r = .ref tp ∧ r2 = .ref q.t ∧ q ∈ rws ∧ (tp, tupObj [.int q.r.net t0, .int q.r.pre t1, .int q.r.gw t2, .int q.r.face t3, .int q.r.met t4]) ∈ n5 := by
  have hl := look_due M V h0 h1
  rw [Int.fdiv_eq_ediv_of_nonneg _ (by decide)] at hr
  by_cases hc : x / 16777216 = 127
  · rw [if_pos hc] at hr
    rw [if_pos (by omega)] at hr2
    exact .inl ⟨hr, hr2⟩
  · rw [if_neg hc] at hr
    rw [if_neg (by omega)] at hr2
    cases hd : dueIdx (rws.map (·.r)) x with
    | none =>
      rw [hd] at hl hr2
      rw [hl] at hr
      exact .inl ⟨hr, hr2⟩
    | some k =>
      rw [hd] at hl hr2
      obtain ⟨hk, o, ho, e⟩ := hl
      rw [ho] at hr
      obtain ⟨tp, e1, e2⟩ := hr
      have hk' : k < rws.length := by simpa using hk
      have hq : rws[k]? = some rws[k] := List.getElem?_eq_getElem hk'
      have hrt : rtAt (rws.map (·.r)) k = rws[k].r := rtAt_map hq
      rw [e, hrt] at e2
      refine .inr ⟨tp, rws[k], _, _, _, _, _, e1, ?_, List.getElem_mem hk', e2⟩
      rw [hr2]; show ((rws[k]?).map fun q => Value.ref q.t).getD .none = _; rw [hq]; rfl
theorem valid_pre {rws : List Rw} (V : ∀ r ∈ rws.map (·.r), Valid r) : ∀ q ∈ rws, 0 ≤ q.r.pre ∧ q.r.pre ≤ 32 := fun q hq => by
  obtain ⟨n, e, h, _⟩ := (V q.r (List.mem_map_of_mem hq)).pre
  omega
theorem lst_wo_list {P : Params} {wy wd : Addr} {k0 k1 : Tok} {D R cR cr : Addr} {Z : Tr} {many : Int} {rws : List Rw} {l : Ledger} (S : Lst P wy wd k0 k1 D R cR cr Z many rws l) (U : One l) {a : Addr} {io : Obj} (ha : (a, io) ∈ l) (hc : io.cls = .type "list_iterator") (h1 : cR ≠ a) (h2 : cr ≠ a) : Lst P wy wd k0 k1 D R cR cr Z many rws (wo a l) := by
  obtain ⟨x1, x2, t1, t2, k, hD, hb⟩ := S.src
  obtain ⟨nr, hR⟩ := S.rows
  obtain ⟨oc, hc', hcd⟩ := S.cell
  obtain ⟨or, v, hr, hrd⟩ := S.row
  obtain ⟨rt, t, hrt, hw⟩ := S.ways.dict
  have k1 : ∀ {b : Addr} {o : Obj}, (b, o) ∈ l → o ≠ io → (b, o) ∈ Mine.wo a l := fun h n => mem_wo.mpr ⟨h, U.ne h ha n⟩
  exact ⟨⟨k1 S.ways.inst (cls_inst_ne hc), ⟨rt, t, hrt, k1 hw (cls_ne hc rfl (by decide))⟩, tr_wo S.ways.tree U ha hc (by decide) (by decide)⟩, ⟨x1, x2, t1, t2, k, k1 hD (cls_ne hc rfl (by decide)), hb⟩, ⟨nr, k1 hR (cls_ne hc rfl (by decide))⟩,
    fun q hq => k1 (S.tups q hq) (cls_ne hc rfl (by decide)), ⟨oc, mem_wo.mpr ⟨hc', h1⟩, hcd⟩, ⟨or, v, mem_wo.mpr ⟨hr, h2⟩, hrd⟩, S.offD, S.offR, S.ne, S.nc⟩
end Mine
end

section
set_option Elab.async false
set_option maxRecDepth 100000
set_option maxHeartbeats 8000000
set_option linter.all false
namespace Mine
open PySem PySem.W PyProof.Rows

local macro_rules | `(tactic| k_handed) => `(tactic| assumption)
local macro_rules | `(tactic| k_mem) => `(tactic| assumption)
local macro_rules | `(tactic| k_all) => `(tactic| exact wo_ne)
local macro_rules | `(tactic| k_room) => `(tactic| ktr_room)
local macro_rules | `(tactic| units_room) => `(tactic| ktr_units)
local macro_rules | `(tactic| k_enter) => `(tactic| (refine' code_def ?k1 ?k2 ?k3 ?k4 ?k5 ?kA ?kF ?kK ?k6 ?k7 ?k8 ?k9 ?kB ?_ ?c2 ?c3 ?c4 ?c5; (case kA => exact rfl); (case kF => exact rfl); (case kK => first | exact rfl | assumption); (case k1 => k_asm); (case k2 => k_asm); (case k3 => k_asm); (case k4 => k_asm); (case k5 => k_asm); (case k6 => k_is); (case k7 => k_is); (case k8 => ktr_room); (case k9 => first | exact BindsTo.of_eq rfl | exact binds_K (by k_in) rfl (by k_is) rfl rfl rfl); (case c5 => decide); (case kB => exact locs rfl); (case c2 => exact rfl); (case c3 => exact rfl); (case c4 => exact rfl); k_whole; intro g' L' h' FG' F' N' B' X' T'; (try dsimp only); (try k_fold)))
local macro_rules | `(tactic| walk_at "subscriptTail") => `(tactic| (k_here; (with_reducible show wpAny _ _ (subscriptTail _ _ (Value.ref _) (Value.int _ _)) _ _ _); first
  | ((with_reducible show wpAny _ _ (subscriptTail _ (PySem.Expr.UnaryOp _ _ _) (Value.ref _) (Value.int _ _)) _ _ _); refine' item_last ?k1 ?k2 ?_ ?k7; (case k1 => k_asm); (case k2 => k_mem); (case k7 => with_unfolding_all rfl); k_whole)
  | (refine' item_P ?k1 ?k2 ?k3 ?k4 ?k5 ?_ ?k7; (case k1 => k_asm); (case k2 => k_mem); (case k3 => omega); (case k4 => omega); (case k5 => first | with_reducible assumption | ((with_reducible rw [Int.toNat_natCast]); with_reducible assumption) | exact rfl); (case k7 => with_unfolding_all rfl); k_whole)
  | (refine' tupItem_P ?k1 ?k2 ?k3 ?k4 ?k5 ?_ ?k7; (case k1 => k_asm); (case k2 => k_mem); (case k3 => omega); (case k4 => omega); (case k5 => first | with_reducible assumption | ((with_reducible rw [Int.toNat_natCast]); with_reducible assumption) | exact rfl); (case k7 => with_unfolding_all rfl); k_whole)))
local macro_rules | `(tactic| walk_at "setItem ref int") => `(tactic| (k_here; k_dflt (refine' setAt_P ?k1 ?k2 ?k3 ?k4 ?k5 ?k6 ?_; (case k1 => k_asm); (case k2 => k_asm); (case k3 => k_mem); (case k4 => omega); (case k5 => omega); (case k6 => first | (simp; done) | (simp only [Int.toNat_natCast, List.length_map]; omega) | (simp; omega)); k_whole; intro h' F' N')))
local macro_rules | `(tactic| walk_at "call builtin:list.append") => `(tactic| (k_here; (with_reducible show wpAny _ _ (call (Value.builtin _) [Value.ref _, _]) _ _ _); k_dflt (refine' append_P ?k1 ?k2 ?k3 ?_ ?z; (case k1 => k_asm); (case k2 => k_asm); (case k3 => k_mem); (case z => simp only [sizeLine_eq, List.size_toArray, List.length_append, List.length_map, List.length_cons, List.length_nil]; omega); k_whole; intro h' F' N')))
local macro_rules | `(tactic| walk_at "call builtin:len") => `(tactic| (k_here; (with_reducible show wpAny _ _ (call (Value.builtin "len") [Value.ref _]) _ _ _); k_dflt (refine' len_P ?k1 ?k2 ?k3 ?_; (case k1 => k_asm); (case k2 => k_mem); (case k3 => (try simp only [List.length_map, List.length_append, List.length_cons, List.length_nil]); omega); k_whole); (try simp only [List.length_map])))
local macro_rules | `(tactic| walk_at "compareOp NotEq ref ref") => `(tactic| (k_here; (refine' ne_empty_P ?k1 ?k2 ?k3 ?k4 ?_; (case k1 => k_asm); (case k3 => k_mem); (case k2 => k_mem); (case k4 => units_room); k_whole)))
local macro_rules | `(tactic| walk_at "compareOp Eq ref ref") => `(tactic| (k_here; (refine' eq_empty_P ?k1 ?k2 ?k3 ?k4 ?_; (case k1 => k_asm); (case k3 => k_mem); (case k2 => k_mem); (case k4 => units_room); k_whole)))

local macro_rules | `(tactic| walk_at "storeName") => `(tactic| (k_here; k_dflt (refine' storeX_P ?F ?N ?c ?U ?d ?_ ?a ?b; (case a => rfl); (case b => rfl); (case F => k_asm); (case N => k_asm); (case c => rfl); (case U => k_mem); (case d => k_asm); k_whole; intro h' o' F' N' d')))

theorem g1 : PySem.Challenge.rw_xw0341_01.Holds := hd (by rfl) (by rfl) (by rfl) (by
  k_go0
  all_goals (try k_fold)
  repeat' ((fail_if_success (with_reducible show wpAny _ _ (exec (Stmt.For _ _ _ _ _) _) _ _ _)); (fail_if_success (with_reducible show wpAny _ _ (pyIter _) _ _ _)); (fail_if_success (with_reducible show wpAny _ _ (exec (Stmt.Raise _ _ _) _) _ _ _)); (fail_if_success (with_reducible show wpAny _ _ (exec (Stmt.While _ _ _ _) _) _ _ _)); (fail_if_success (with_reducible show wpAny _ _ (call (Value.ref 296) _) _ _ _)); first | (k_unfold; (try dsimp only)) | walk1 | (dsimp only; walk1) | (leave1; (try dsimp only)))
  refine fn_use (c_routes _ _ _ _ _) (by k_asm) (by k_asm) (by k_asm) (by k_asm) (by k_asm) (by first | exact rfl | assumption) (by ktr_room) (by first | ktr_units | (have hcL9 := cLine_is; (try simp only [units_under_make, units_in1, units_deeper, Around.mark_units, units_caller] at *); (try dsimp only [ktrTop] at *); omega)) ?_
  rintro _ n1 h1 tk1 F1 N1 ⟨wy0, wd0, k0, k1, Z0, rfl, W0, hz0, hs0, fr0⟩
  have cA1 := hs0 _ (.tail _ (.head _))
  have cB1 := hs0 _ (.head _)
  have wi1 := W0.inst
  obtain ⟨rt0, tm0, hrt0, wd1⟩ := W0.dict
  repeat' ((fail_if_success (with_reducible show wpAny _ _ (exec (Stmt.For _ _ _ _ _) _) _ _ _)); (fail_if_success (with_reducible show wpAny _ _ (pyIter _) _ _ _)); (fail_if_success (with_reducible show wpAny _ _ (exec (Stmt.Raise _ _ _) _) _ _ _)); (fail_if_success (with_reducible show wpAny _ _ (exec (Stmt.While _ _ _ _) _) _ _ _)); (fail_if_success (with_reducible show wpAny _ _ (call (Value.ref 163) _) _ _ _)); first | (k_unfold; (try dsimp only)) | walk1 | (dsimp only; walk1) | (leave1; (try dsimp only)))
  refine fn_use (c_route4 _ _ _ _ ⟨0, 0, 7, 0, 0⟩ _ _ _ _ _ rfl) (by k_asm) (by k_asm) (by k_asm) (by k_asm) (by k_asm) (by first | exact rfl | assumption) (by ktr_room) (by first | ktr_units | (have hcL9 := cLine_is; (try simp only [units_under_make, units_in1, units_deeper, Around.mark_units, units_caller] at *); (try dsimp only [ktrTop] at *); omega)) ?_
  rintro _ n2 h2 tk2 F2 N2 ⟨o, rfl, ho, hs1, hin, oa, od⟩
  have cA2 := hs1 _ cA1
  have cB2 := hs1 _ cB1
  have wi2 := hs1 _ wi1
  have wd2 := hs1 _ wd1
  repeat' ((fail_if_success (with_reducible show wpAny _ _ (exec (Stmt.For _ _ _ _ _) _) _ _ _)); (fail_if_success (with_reducible show wpAny _ _ (pyIter _) _ _ _)); (fail_if_success (with_reducible show wpAny _ _ (exec (Stmt.Raise _ _ _) _) _ _ _)); (fail_if_success (with_reducible show wpAny _ _ (exec (Stmt.While _ _ _ _) _) _ _ _)); (fail_if_success (with_reducible show wpAny _ _ (call (Value.ref 258) _) _ _ _)); first | (k_unfold; (try dsimp only)) | walk1 | (dsimp only; walk1) | (leave1; (try dsimp only)))
  refine fn_use (c_add _ _ _ _ wy0 wd0 k0 k1 Z0 0 o 0 n2 (ways_grow W0 hs1) hin (by rw [ho]; rfl) (by decide) (by rw [ho]; decide) (by rw [ho]; decide) (by rw [ho]; decide) (by rw [ho]; decide) (by rw [ho]; decide) (fun q => by rw [hz0]; decide)) (by k_asm) (by k_asm) (by k_asm) (by k_asm) (by k_asm) (by first | exact rfl | assumption) (by ktr_room) (by first | ktr_units | (have hcL9 := cLine_is; (try simp only [units_under_make, units_in1, units_deeper, Around.mark_units, units_caller] at *); (try dsimp only [ktrTop] at *); omega)) ?_
  rintro _ n3 h3 tk3 F3 N3 ⟨rfl, Z1, many1, W2, A1, fr1⟩
  have oA : Z0.Off _ := fun q e hq => ⟨(fr0.own q e hq).1 _ (.tail _ (.head _)), (fr0.own q e hq).2 _ (.tail _ (.head _))⟩
  have oB : Z0.Off _ := fun q e hq => ⟨(fr0.own q e hq).1 _ (.head _), (fr0.own q e hq).2 _ (.head _)⟩
  have cA3 := fr1 _ cA2 (fr0.wd _ (.tail _ (.head _))) oA
  have cB3 := fr1 _ cB2 (fr0.wd _ (.head _)) oB
  clear oA oB fr1 cA1 cB1 cA2 cB2 wi1 wi2 wd1 wd2
  repeat' ((fail_if_success (with_reducible show wpAny _ _ (exec (Stmt.For _ _ _ _ _) _) _ _ _)); (fail_if_success (with_reducible show wpAny _ _ (pyIter _) _ _ _)); (fail_if_success (with_reducible show wpAny _ _ (exec (Stmt.Raise _ _ _) _) _ _ _)); (fail_if_success (with_reducible show wpAny _ _ (exec (Stmt.While _ _ _ _) _) _ _ _)); (fail_if_success (with_reducible show wpAny _ _ (call (Value.ref 684) _) _ _ _)); first | (k_unfold; (try dsimp only)) | walk1 | (dsimp only; walk1) | (leave1; (try dsimp only)))
  refine fn_use (c_layer _ _ _ _ wy0 n3) (by k_asm) (by k_asm) (by k_asm) (by k_asm) (by k_asm) (by first | exact rfl | assumption) (by ktr_room) (by first | ktr_units | (have hcL9 := cLine_is; (try simp only [units_under_make, units_in1, units_deeper, Around.mark_units, units_caller] at *); (try dsimp only [ktrTop] at *); omega)) ?_
  rintro _ n4 h4 tk4 F4 N4 ⟨ly, ld, fa, re, q0, q1, q2, q3, q4, qt, rfl, hl1, hl2, hs4⟩
  repeat' ((fail_if_success (with_reducible show wpAny _ _ (exec (Stmt.For _ _ _ _ _) _) _ _ _)); (fail_if_success (with_reducible show wpAny _ _ (pyIter _) _ _ _)); (fail_if_success (with_reducible show wpAny _ _ (exec (Stmt.Raise _ _ _) _) _ _ _)); (fail_if_success (with_reducible show wpAny _ _ (exec (Stmt.While _ _ _ _) _) _ _ _)); (fail_if_success (with_reducible show wpAny _ _ (call (Value.ref 670) _) _ _ _)); first | (k_unfold; (try dsimp only)) | walk1 | (dsimp only; walk1) | (leave1; (try dsimp only)))
  refine fn0_use (c_found _ _ _ _ ly ld fa wy0 re wd0 q0 q1 q2 q3 q4 qt k0 k1 Z1 many1 2130706433 _ n4 hl1 hl2 (ways_grow W2 hs4) (fun q => by rw [A1.rs, hz0]; split <;> simp [upd]) (by decide) (by decide)) (by k_asm) (by k_asm) (by k_asm) (by k_asm) (by k_asm) (by k_asm) (by k_asm) (by first | exact rfl | assumption) (by ktr_room) (by ktr_units) ?_
  rintro r n5 h5 tk5 F5 N5 ⟨hs5, hr5⟩
  rw [if_pos (by decide)] at hr5
  subst hr5
  have cA5 := hs5 _ (hs4 _ cA3)
  have cB5 := hs5 _ (hs4 _ cB3)
  clear hl1 hl2 hs4 hs5 cA3 cB3 W2 A1 W0 hs0 hs1 hz0 fr0 hin ho oa od hrt0
  repeat' ((fail_if_success (with_reducible show wpAny _ _ (exec (Stmt.For _ _ _ _ _) _) _ _ _)); (fail_if_success (with_reducible show wpAny _ _ (pyIter _) _ _ _)); (fail_if_success (with_reducible show wpAny _ _ (exec (Stmt.Raise _ _ _) _) _ _ _)); (fail_if_success (with_reducible show wpAny _ _ (exec (Stmt.While _ _ _ _) _) _ _ _)); (fail_if_success (with_reducible show wpAny _ _ (call (Value.ref 642) _) _ _ _)); first | (k_unfold; (try dsimp only)) | walk1 | (dsimp only; walk1) | (leave1; (try dsimp only)))
  refine fnl_use (c_pool _ _ _ _ _ _ _ _ _ (by assumption) (by omega)) (by k_asm) (by assumption) (by k_asm) (by k_asm) (by k_asm) (by k_asm) (by first | exact rfl | assumption) (by ktr_room) (by ktr_units) ?_
  rintro _ n6 h6 tk6 F6 N6 ⟨D, x1, x2, tx1, tx2, rfl, rfl, lD, hx1, hx2, hx3⟩
  repeat' ((fail_if_success (with_reducible show wpAny _ _ (exec (Stmt.For _ _ _ _ _) _) _ _ _)); (fail_if_success (with_reducible show wpAny _ _ (pyIter _) _ _ _)); (fail_if_success (with_reducible show wpAny _ _ (exec (Stmt.Raise _ _ _) _) _ _ _)); (fail_if_success (with_reducible show wpAny _ _ (exec (Stmt.While _ _ _ _) _) _ _ _)); (fail_if_success (with_reducible show wpAny _ _ (call (Value.ref 296) _) _ _ _)); first | (k_unfold; (try dsimp only)) | walk1 | (dsimp only; walk1) | (leave1; (try dsimp only)))
  refine fn_use (c_routes _ _ _ _ _) (by k_asm) (by k_asm) (by k_asm) (by k_asm) (by k_asm) (by first | exact rfl | assumption) (by ktr_room) (by first | ktr_units | (have hcL9 := cLine_is; (try simp only [units_under_make, units_in1, units_deeper, Around.mark_units, units_caller] at *); (try dsimp only [ktrTop] at *); omega)) ?_
  rintro _ n7 h7 tk7 F7 N7 ⟨wy, wd, p0, p1, Z, rfl, W, hz, hs7, fr7⟩
  have U7 := one_of N7
  have cA7 := hs7 _ (.tail _ cA5)
  have cB7 := hs7 _ (.tail _ cB5)
  have hD7 := hs7 _ (.head _)
  repeat' ((fail_if_success (with_reducible show wpAny _ _ (exec (Stmt.For _ _ _ _ _) _) _ _ _)); (fail_if_success (with_reducible show wpAny _ _ (pyIter _) _ _ _)); (fail_if_success (with_reducible show wpAny _ _ (exec (Stmt.Raise _ _ _) _) _ _ _)); (fail_if_success (with_reducible show wpAny _ _ (exec (Stmt.While _ _ _ _) _) _ _ _)); first | (k_unfold; (try dsimp only)) | walk1 | (dsimp only; walk1) | (leave1; (try dsimp only)))
  rename (∀ p ∈ n7, p.1 < _) => l8
  obtain ⟨R, rfl, l8⟩ := bound_name l8
  rename News _ _ _ _ => N8
  rename (_ = Data.cell (some (Value.ref R))) => d8
  have S := lst_start N8 U7 (fun p hp => .tail _ (.tail _ hp)) W hD7 hx1 hx2 hx3 (.tail _ (.head _)) l8 cA7 (by assumption) cB7 (by assumption) (Nat.ne_of_lt (Nat.lt_succ_self _)) (fun q e hq => ⟨(fr7.own q e hq).1 _ (.head _), (fr7.own q e hq).2 _ (.head _)⟩) d8
  generalize put _ _ _ = l0 at N8 S
  have U8 := one_of N8
  obtain ⟨x1, x2, tx1, tx2, nD, hD, hb1, hb2, hb3⟩ := S.src
  clear U7 W hD7 l8 cA7 cB7 fr7 hs7 d8
  (rename Fr _ _ _ _ => lF); with_unfolding_all refine' For_invVF lF ?k1 ?k2 ?_; (case k1 => exact rfl); (case k2 => exact rfl)
  repeat' ((fail_if_success (with_reducible show wpAny _ _ (exec (Stmt.For _ _ _ _ _) _) _ _ _)); (fail_if_success (with_reducible show wpAny _ _ (pyIter _) _ _ _)); (fail_if_success (with_reducible show wpAny _ _ (exec (Stmt.Raise _ _ _) _) _ _ _)); (fail_if_success (with_reducible show wpAny _ _ (exec (Stmt.While _ _ _ _) _) _ _ _)); (fail_if_success (with_reducible show wpAny _ _ (call (Value.ref 649) _) _ _ _)); first | (k_unfold; (try dsimp only)) | walk1 | (dsimp only; walk1) | (leave1; (try dsimp only)))
  refine fn_use (c_take _ _ _ _ D x1 x2 tx1 tx2 _ nD 7 l0 hD hb1 hb2 hb3 (by decide) (by decide)) (by k_asm) (by k_asm) (by k_asm) (by k_asm) (by k_asm) (by first | exact rfl | assumption) (by ktr_room) (by first | ktr_units | (have hcL9 := cLine_is; (try simp only [units_under_make, units_in1, units_deeper, Around.mark_units, units_caller] at *); (try dsimp only [ktrTop] at *); omega)) ?_
  rintro _ n9 h9 tk9 F9 N9 ⟨v, y1, y2, tv, u1, u2, rfl, hv0, hv1, hy1, hy2, hy3, rfl⟩
  have S9 := S.draw (u1 := u1) (u2 := u2) (n := nD) U8 hy1 hy2 hy3
  obtain ⟨kt, rfl⟩ : ∃ k : Nat, v = (k : Int) := ⟨v.toNat, by omega⟩
  have hkt : kt ≤ 90 := by omega
  clear S hD U8 hv1 hv0
  repeat' ((fail_if_success (with_reducible show wpAny _ _ (exec (Stmt.For _ _ _ _ _) _) _ _ _)); (fail_if_success (with_reducible show wpAny _ _ (pyIter _) _ _ _)); (fail_if_success (with_reducible show wpAny _ _ (exec (Stmt.Raise _ _ _) _) _ _ _)); (fail_if_success (with_reducible show wpAny _ _ (exec (Stmt.While _ _ _ _) _) _ _ _)); first | (k_unfold; (try dsimp only)) | walk1 | (dsimp only; walk1) | (leave1; (try dsimp only)))
  (rename IsRange _ _ _ _ _ _ _ _ => hRg)
  (rename Fr _ _ _ _ => F1)
  (rename News _ _ _ _ => N1)
  refine it_upto (LJ _ wy wd p0 p1 D R _ _) hRg rfl (by omega) F1 N1 ⟨Z, 0, [], S9, rfl, rfl, Nat.le_refl _, (fun r hr => (by cases hr)), fun p => by rw [hz]; rfl⟩ ?_ ?_
  · rintro i ti m₁ nx h tk Ia io hi ⟨Z, many, rws, S, hwy, hsr, hlen, hV, hM⟩ hoff hio F2 N2
    clear F1 N1 hRg S9
    replace F2 := fr_know F2 (y0 := "ways") (v0 := .ref wy) (by rw [if_neg (by decide)]; exact hwy)
    replace F2 := fr_know F2 (y0 := "source") (v0 := .ref D) (by rw [if_neg (by decide), if_neg (by decide)]; exact hsr)
    have hrl : rws.length ≤ 90 := by omega
    have S1 := S.grow (l' := (Ia, io) :: nx) fun _ h => .tail _ h
    obtain ⟨x1, x2, tx1, tx2, nD, hD, hb1, hb2, hb3⟩ := S.src
    obtain ⟨_, _, hcr0, _⟩ := S.row
    have nIr := hoff _ hcr0
    obtain ⟨_, hcR0, _⟩ := S.cell
    have nIc := hoff _ hcR0
    obtain ⟨_, _, _, hwd0⟩ := S.ways.dict
    have nIw : Ia ≠ wd := fun e => hoff _ hwd0 e.symm
    obtain ⟨_, hR0⟩ := S.rows
    have nIR : R ≠ Ia := hoff _ hR0
    have nIo : Z.Off Ia := fun q e hq => ⟨fun h => hoff _ (S.ways.tree.nd q e hq).hd h.symm, fun h => hoff _ (S.ways.tree.nd q e hq).hr h.symm⟩
    clear hcr0 hcR0 hwd0 hR0
    repeat' ((fail_if_success (with_reducible show wpAny _ _ (exec (Stmt.For _ _ _ _ _) _) _ _ _)); (fail_if_success (with_reducible show wpAny _ _ (pyIter _) _ _ _)); (fail_if_success (with_reducible show wpAny _ _ (exec (Stmt.Raise _ _ _) _) _ _ _)); (fail_if_success (with_reducible show wpAny _ _ (exec (Stmt.While _ _ _ _) _) _ _ _)); (fail_if_success (with_reducible show wpAny _ _ (call (Value.ref 656) _) _ _ _)); first | (k_unfold; (try dsimp only)) | walk1 | (dsimp only; walk1) | (leave1; (try dsimp only)))
    rename (_ ∧ AllLt _ nx) => lg
    have lg2 := allLt_out lg.2
    obtain ⟨G, rfl, lg2⟩ := bound_name lg2
    rename News _ _ _ _ => N3
    have U3 := one_of N3
    refine fn_use (c_one _ _ _ _ D G x1 x2 tx1 tx2 nD 0 _ _ (.tail _ (.tail _ hD)) (.head _) (Nat.ne_of_gt (lg2 _ hD)) hb1 hb2 hb3 ?ea ?eb) (by k_asm) (by k_asm) (by k_asm) (by k_asm) (by k_asm) (by first | exact rfl | assumption) (by ktr_room) (by first | ktr_units | (have hcL9 := cLine_is; (try simp only [units_under_make, units_in1, units_deeper, Around.mark_units, units_caller] at *); (try dsimp only [ktrTop] at *); omega)) ?_
    case ea => exact Nat.succ_pos _
    case eb => exact Nat.le_of_ble_eq_true rfl
    rintro _ n4 h4 tk4 F4 N4 ⟨i4, y1, y2, u1, u2, hr4, hy1, hy2, hy3, rfl⟩
    obtain ⟨p, tp, rfl, hp⟩ := ints_pick (ns := [0, 6, 8, 8, 9, 16, 32]) (by repeat (first | exact .nil | refine .cons _ _ ?_)) hr4
    have hp0 : 0 ≤ p ∧ p ≤ 32 := by simp at hp; omega
    obtain ⟨pn, rfl⟩ : ∃ n : Nat, p = (n : Int) := ⟨p.toNat, by omega⟩
    have hpn : pn ≤ 32 := by omega
    have S4 := (S1.grow fun _ h => .tail _ h).draw (u1 := u1) (u2 := u2) (n := nD) U3 hy1 hy2 hy3
    clear hr4 hp U3 lg lg2
    repeat' ((fail_if_success (with_reducible show wpAny _ _ (exec (Stmt.For _ _ _ _ _) _) _ _ _)); (fail_if_success (with_reducible show wpAny _ _ (pyIter _) _ _ _)); (fail_if_success (with_reducible show wpAny _ _ (exec (Stmt.Raise _ _ _) _) _ _ _)); (fail_if_success (with_reducible show wpAny _ _ (exec (Stmt.While _ _ _ _) _) _ _ _)); (fail_if_success (with_reducible show wpAny _ _ (call (Value.ref 663) _) _ _ _)); first | (k_unfold; (try dsimp only)) | walk1 | (dsimp only; walk1) | (leave1; (try dsimp only)))
    refine fn_use (c_places _ _ _ _ _) (by k_asm) (by k_asm) (by k_asm) (by k_asm) (by k_asm) (by first | exact rfl | assumption) (by ktr_room) (by first | ktr_units | (have hcL9 := cLine_is; (try simp only [units_under_make, units_in1, units_deeper, Around.mark_units, units_caller] at *); (try dsimp only [ktrTop] at *); omega)) ?_
    rintro _ n5 h5 tk5 F5 N5 ⟨g, vs5, k5, rfl, hg, hI5, hs5, og⟩
    have S5 := S4.grow hs5
    have hIa5 : (Ia, io) ∈ n5 := hs5 _ (mem_put_ne (.tail _ (.head _)) (fun h => hoff _ hD h.symm))
    have hD5 := hs5 _ mem_put
    have hgD : g ≠ D := fun h => og _ mem_put h.symm
    have U5 := one_of N5
    have hvl : vs5.length = 9 := hI5.length
    repeat' ((fail_if_success (with_reducible show wpAny _ _ (exec (Stmt.For _ _ _ _ _) _) _ _ _)); (fail_if_success (with_reducible show wpAny _ _ (pyIter _) _ _ _)); (fail_if_success (with_reducible show wpAny _ _ (exec (Stmt.Raise _ _ _) _) _ _ _)); (fail_if_success (with_reducible show wpAny _ _ (exec (Stmt.While _ _ _ _) _) _ _ _)); (fail_if_success (with_reducible show wpAny _ _ (call (Value.ref 656) _) _ _ _)); first | (k_unfold; (try dsimp only)) | walk1 | (dsimp only; walk1) | (leave1; (try dsimp only)))
    refine fn_use (c_one _ _ _ _ D g y1 y2 u1 u2 nD k5 vs5 n5 hD5 hg hgD hy1 hy2 hy3 (by omega) (by omega)) (by k_asm) (by k_asm) (by k_asm) (by k_asm) (by k_asm) (by first | exact rfl | assumption) (by ktr_room) (by first | ktr_units | (have hcL9 := cLine_is; (try simp only [units_under_make, units_in1, units_deeper, Around.mark_units, units_caller] at *); (try dsimp only [ktrTop] at *); omega)) ?_
    rintro _ n6 h6 tk6 F6 N6 ⟨i6, z1, z2, v1, v2, hr6, hz1, hz2, hz3, rfl⟩
    obtain ⟨pl, tpl, rfl, hpl⟩ := ints_pick hI5 hr6
    have hpl0 : 0 ≤ pl ∧ pl < 4294967296 := by simp [places] at hpl; omega
    have S6 := S5.draw (u1 := v1) (u2 := v2) (n := nD) U5 hz1 hz2 hz3
    have hIa6 : (Ia, io) ∈ put D (srcObj z1 z2 v1 v2 nD) n5 := mem_put_ne hIa5 (fun h => hoff _ hD h.symm)
    clear hr6 hpl hI5 hg hgD og U5 hIa5 S5 S4 hs5 hD5
    repeat' ((fail_if_success (with_reducible show wpAny _ _ (exec (Stmt.For _ _ _ _ _) _) _ _ _)); (fail_if_success (with_reducible show wpAny _ _ (pyIter _) _ _ _)); (fail_if_success (with_reducible show wpAny _ _ (exec (Stmt.Raise _ _ _) _) _ _ _)); (fail_if_success (with_reducible show wpAny _ _ (exec (Stmt.While _ _ _ _) _) _ _ _)); (fail_if_success (with_reducible show wpAny _ _ (call (Value.ref 656) _) _ _ _)); first | (k_unfold; (try dsimp only)) | walk1 | (dsimp only; walk1) | (leave1; (try dsimp only)))
    rename (∀ p ∈ put D (srcObj z1 z2 v1 v2 nD) n5, p.1 < _) => lp
    rename (_ ∧ AllLt _ _) => lg
    have lg2 := allLt_out lg.2
    obtain ⟨G2, rfl, lg2⟩ := bound_name lg2
    rename News _ _ _ _ => N7
    have U7 := one_of N7
    refine fn_use (c_one _ _ _ _ D G2 z1 z2 v1 v2 nD 0 _ _ (.tail _ (.tail _ mem_put)) (.head _) (Nat.ne_of_gt (lg2 _ mem_put)) hz1 hz2 hz3 ?ea ?eb) (by k_asm) (by k_asm) (by k_asm) (by k_asm) (by k_asm) (by first | exact rfl | assumption) (by ktr_room) (by first | ktr_units | (have hcL9 := cLine_is; (try simp only [units_under_make, units_in1, units_deeper, Around.mark_units, units_caller] at *); (try dsimp only [ktrTop] at *); omega)) ?_
    case ea => exact Nat.succ_pos _
    case eb => exact Nat.le_of_ble_eq_true rfl
    rintro _ n8 h8 tk8 F8 N8 ⟨i8, a1, a2, b1, b2, hr8, ha1, ha2, ha3, rfl⟩
    obtain ⟨gw, tgw, rfl, hgw⟩ := ints_pick (ns := [0, 7]) (by repeat (first | exact .nil | refine .cons _ _ ?_)) hr8
    have hgw0 : 0 ≤ gw ∧ gw < 4294967296 := by simp at hgw; omega
    have S8 := (S6.grow fun _ h => .tail _ (.tail _ h)).draw (u1 := b1) (u2 := b2) (n := nD) U7 ha1 ha2 ha3
    have hIa8 := news_put_mem (p := (Ia, io)) N8 (.tail _ (.tail _ hIa6)) (fun h => hoff _ hD h.symm)
    clear hr8 hgw S6 hIa6 lg lg2 lp U7
    have U8 := one_of N8
    repeat' ((fail_if_success (with_reducible show wpAny _ _ (exec (Stmt.For _ _ _ _ _) _) _ _ _)); (fail_if_success (with_reducible show wpAny _ _ (pyIter _) _ _ _)); (fail_if_success (with_reducible show wpAny _ _ (exec (Stmt.Raise _ _ _) _) _ _ _)); (fail_if_success (with_reducible show wpAny _ _ (exec (Stmt.While _ _ _ _) _) _ _ _)); (fail_if_success (with_reducible show wpAny _ _ (call (Value.ref 649) _) _ _ _)); first | (k_unfold; (try dsimp only)) | walk1 | (dsimp only; walk1) | (leave1; (try dsimp only)))
    refine fn_use (c_take _ _ _ _ D a1 a2 b1 b2 _ nD 2 _ mem_put ha1 ha2 ha3 (by decide) (by decide)) (by k_asm) (by k_asm) (by k_asm) (by k_asm) (by k_asm) (by first | exact rfl | assumption) (by ktr_room) (by first | ktr_units | (have hcL9 := cLine_is; (try simp only [units_under_make, units_in1, units_deeper, Around.mark_units, units_caller] at *); (try dsimp only [ktrTop] at *); omega)) ?_
    rintro _ n9 h9 tk9 F9 N9 ⟨fc, c1, c2, tfc, d1, d2, rfl, hfc0, hfc1, hc1, hc2, hc3, rfl⟩
    have S9 := S8.draw (u1 := d1) (u2 := d2) (n := nD) U8 hc1 hc2 hc3
    have hIa9 := news_put_mem (p := (Ia, io)) N9 hIa8 (fun h => hoff _ hD h.symm)
    have U9 := one_of N9
    clear S8 hIa8 U8
    repeat' ((fail_if_success (with_reducible show wpAny _ _ (exec (Stmt.For _ _ _ _ _) _) _ _ _)); (fail_if_success (with_reducible show wpAny _ _ (pyIter _) _ _ _)); (fail_if_success (with_reducible show wpAny _ _ (exec (Stmt.Raise _ _ _) _) _ _ _)); (fail_if_success (with_reducible show wpAny _ _ (exec (Stmt.While _ _ _ _) _) _ _ _)); (fail_if_success (with_reducible show wpAny _ _ (call (Value.ref 649) _) _ _ _)); first | (k_unfold; (try dsimp only)) | walk1 | (dsimp only; walk1) | (leave1; (try dsimp only)))
    refine fn_use (c_take _ _ _ _ D c1 c2 d1 d2 _ nD 3 _ mem_put hc1 hc2 hc3 (by decide) (by decide)) (by k_asm) (by k_asm) (by k_asm) (by k_asm) (by k_asm) (by first | exact rfl | assumption) (by ktr_room) (by first | ktr_units | (have hcL9 := cLine_is; (try simp only [units_under_make, units_in1, units_deeper, Around.mark_units, units_caller] at *); (try dsimp only [ktrTop] at *); omega)) ?_
    rintro _ n10 h10 tk10 F10 N10 ⟨mt, e1, e2, tmt, g1, g2, rfl, hmt0, hmt1, he1, he2, he3, rfl⟩
    have S10 := S9.draw (u1 := g1) (u2 := g2) (n := nD) U9 he1 he2 he3
    have hIa10 := news_put_mem (p := (Ia, io)) N10 hIa9 (fun h => hoff _ hD h.symm)
    generalize put D _ _ = l10 at N10 S10 hIa10
    have U10 := one_of N10
    clear S9 hIa9 U9 N3 hvl
    obtain ⟨oc, vc, hrow, hrowd⟩ := S10.row
    repeat' ((fail_if_success (with_reducible show wpAny _ _ (exec (Stmt.For _ _ _ _ _) _) _ _ _)); (fail_if_success (with_reducible show wpAny _ _ (pyIter _) _ _ _)); (fail_if_success (with_reducible show wpAny _ _ (exec (Stmt.Raise _ _ _) _) _ _ _)); (fail_if_success (with_reducible show wpAny _ _ (exec (Stmt.While _ _ _ _) _) _ _ _)); (fail_if_success (with_reducible show wpAny _ _ (exec (Stmt.Expr _ _) _) _ _ _)); first | (k_unfold; (try dsimp only)) | walk1 | (dsimp only; walk1) | (leave1; (try dsimp only)))
    rename (∀ p ∈ l10, p.1 < _) => ltw
    obtain ⟨tw, rfl, ltw⟩ := bound_name ltw
    with_reducible rename (_ = Data.cell (some (Value.ref tw))) => dtw
    rename News _ _ _ _ => N11
    have S11 := S10.setRowN N11 U10 ltw dtw
    have hIa11 := news_put_mem (p := (Ia, io)) N11 (.tail _ hIa10) nIr.symm
    have htw := news_put_mem N11 (.head _) (Nat.ne_of_gt (ltw _ hrow))
    have hcw := put_mem0 N11
    generalize put _ _ _ = l11 at N11 S11 hIa11 htw hcw
    clear S10 hIa10 hrow hrowd U10 ltw
    have wi := S11.ways.inst
    obtain ⟨rt, trt, hrt, hwd⟩ := S11.ways.dict
    obtain ⟨oR, hcR, dR⟩ := S11.cell
    repeat' ((fail_if_success (with_reducible show wpAny _ _ (exec (Stmt.For _ _ _ _ _) _) _ _ _)); (fail_if_success (with_reducible show wpAny _ _ (pyIter _) _ _ _)); (fail_if_success (with_reducible show wpAny _ _ (exec (Stmt.Raise _ _ _) _) _ _ _)); (fail_if_success (with_reducible show wpAny _ _ (exec (Stmt.While _ _ _ _) _) _ _ _)); (fail_if_success (with_reducible show wpAny _ _ (call (Value.ref 163) _) _ _ _)); first | (k_unfold; (try dsimp only)) | walk1 | (dsimp only; walk1) | (leave1; (try dsimp only)))
    refine fn_use (c_route _ _ _ _ ⟨pl - pl.fmod (2 ^ (32 - (pn : Int)).toNat), pn, gw, fc, mt⟩ _ _ _ _ _ l11) (by k_asm) (by k_asm) (by k_asm) (by k_asm) (by k_asm) (by first | exact rfl | assumption) (by ktr_room) (by first | ktr_units | (have hcL9 := cLine_is; (try simp only [units_under_make, units_in1, units_deeper, Around.mark_units, units_caller] at *); (try dsimp only [ktrTop] at *); omega)) ?_
    rintro _ n12 h12 tk12 F12 N12 ⟨o, rfl, hor, hs12, hin, oa, od⟩
    have S12 := S11.grow hs12
    have U12 := one_of N12
    have Vo := valid_net (gw := gw) (fc := fc) (mt := mt) hpl0.1 hpl0.2 hpn
    rw [← hor] at Vo
    have hop : o.r.pre = (pn : Int) := by rw [hor]
    repeat' ((fail_if_success (with_reducible show wpAny _ _ (exec (Stmt.For _ _ _ _ _) _) _ _ _)); (fail_if_success (with_reducible show wpAny _ _ (pyIter _) _ _ _)); (fail_if_success (with_reducible show wpAny _ _ (exec (Stmt.Raise _ _ _) _) _ _ _)); (fail_if_success (with_reducible show wpAny _ _ (exec (Stmt.While _ _ _ _) _) _ _ _)); (fail_if_success (with_reducible show wpAny _ _ (call (Value.ref 258) _) _ _ _)); first | (k_unfold; (try dsimp only)) | walk1 | (dsimp only; walk1) | (leave1; (try dsimp only)))
    obtain ⟨pn', epn, hpn', hdv⟩ := Vo.pre
    obtain rfl : pn = pn' := by rw [hop] at epn; omega
    refine fn_use (c_add _ _ _ _ wy wd p0 p1 Z many o pn n12 S12.ways hin hop hpn Vo.lo Vo.hi hdv (by rw [hor]; exact hgw0.1) (by rw [hor]; exact hgw0.2) (fun q => Nat.lt_of_le_of_lt (match_len hM q) (by rw [List.length_map]; omega))) (by k_asm) (by k_asm) (by k_asm) (by k_asm) (by k_asm) (by first | exact rfl | assumption) (by ktr_room) (by first | ktr_units | (have hcL9 := cLine_is; (try simp only [units_under_make, units_in1, units_deeper, Around.mark_units, units_caller] at *); (try dsimp only [ktrTop] at *); omega)) ?_
    rintro _ n13 h13 tk13 F13 N13 ⟨rfl, Z13, many13, W13, A13, fr13⟩
    have S13 := S12.added U12 W13 A13 fr13
    have hIa13 := fr13 _ (hs12 _ hIa11) nIw nIo
    have htw13 := fr13 _ (hs12 _ htw) (U12.ne (hs12 _ htw) (hs12 _ hwd) tup_ne_rs) (off_tup S12.ways.tree U12 (hs12 _ htw))
    have hcw13 := fr13 _ (hs12 _ hcw) (U12.ne (hs12 _ hcw) (hs12 _ hwd) (cell_ne_rs dtw)) (off_cell S12.ways.tree U12 (hs12 _ hcw) dtw)
    have M13 := match_add hM hV Vo hop A13
    have U13 := one_of N13
    clear S12 S11 hIa11 htw hcw fr13 A13 U12 hs12 wi hrt hwd hin oa od W13 hcR dR hM
    obtain ⟨nR, hR13⟩ := S13.rows
    obtain ⟨oR, hcR, dR⟩ := S13.cell
    have hT13 := S13.tups
    repeat' ((fail_if_success (with_reducible show wpAny _ _ (exec (Stmt.For _ _ _ _ _) _) _ _ _)); (fail_if_success (with_reducible show wpAny _ _ (pyIter _) _ _ _)); (fail_if_success (with_reducible show wpAny _ _ (exec (Stmt.Raise _ _ _) _) _ _ _)); (fail_if_success (with_reducible show wpAny _ _ (exec (Stmt.While _ _ _ _) _) _ _ _)); (fail_if_success (with_reducible show wpAny _ _ (exec (Stmt.Assign _ _ _) _) _ _ _)); first | (k_unfold; (try dsimp only)) | walk1 | (dsimp only; walk1) | (leave1; (try dsimp only)))
    refine LCt.Assign_ListComp_T (F₀ := by k_asm) (by rfl) (by with_unfolding_all rfl) (by with_unfolding_all rfl) (by decide) (by rfl) (by decide) (by rfl) (by rfl) (by rfl) ?_
    repeat (first | walk1 | (dsimp only; walk1))
    refine LCt.CompSrcT.range (n := rws.length) (by rfl) (by k_asm) (by k_asm) (by assumption) ?csm ?cn ?csz ?cz
    case csm => exact small_one (by decide) (by decide) (by omega) (by omega)
    case cn => rw [rangeSize_one]; split <;> omega
    case csz => exact Nat.le_trans (by omega : rws.length ≤ 90) (Nat.le_of_ble_eq_true rfl)
    intro gH
    refine comp_range (fun j ys => ∃ tf : Nat → Tok, ys = (((List.range j).filter fun k => same4 (rtAt (rws.map (·.r)) k) o.r).map fun (k : Nat) => Value.int (k : Int) (tf k))) ?_ ⟨fun _ => 0, rfl⟩ ?_
    · rintro j ys hj ⟨tf, rfl⟩ v Ic oIc Cc oCc Dc m₂ hh tkc E' ⟨tv, rfl⟩ hCc hxc Fc Nc offc nec
      rw [Int.zero_add] at hxc
      obtain ⟨q, hq⟩ : ∃ q, rws[j]? = some q := ⟨rws[j], by simp [hj]⟩
      have hqv : (rws.map fun q => Value.ref q.t)[j]? = some (.ref q.t) := by rw [List.getElem?_map, hq]; rfl
      have hqm := List.mem_of_getElem? hq
      have hq1 := hT13 q hqm
      have hat := rtAt_map hq
      clear hT13
      refine same_turn (by assumption) (by units_room) rfl (by rfl) (by rfl) (by rfl) Fc Nc (.tail _ (.head _)) hCc hxc (news_up3 Nc hcR) dR (news_up3 Nc hcw13) dtw (news_up3 Nc hR13) (by rw [List.length_map]; exact hj) (by omega) hqv (news_up3 Nc hq1) (news_up3 Nc htw13) ?_
      intro b h' tk' eb F' N'
      have e4 : b = same4 (rtAt (rws.map (·.r)) j) o.r := by rw [eb, hat, hor]; rfl
      clear eb
      cases b with
      | false =>
        rw [if_neg Bool.false_ne_true]
        refine LCg.CompEnd.intro F' N' n13 (fun p hp => hp) offc trivial ⟨rfl, tf, ?_⟩
        rw [same_less e4.symm]
      | true =>
        rw [if_pos rfl]
        refine LCgL.ld_own N' (.tail _ (.head _)) hCc hxc ?_ (by rfl) (by rfl)
        exact LCg.CompEnd.intro F' N' n13 (fun p hp => hp) offc trivial ⟨rfl, same_more tf tv e4.symm⟩
    · rintro ys ⟨tf, rfl⟩ Dm hm tkm Fm Nm offm
      generalize hks : (List.range rws.length).filter (fun k => same4 (rtAt (rws.map (·.r)) k) o.r) = ks at Nm
      rcases ks with _ | ⟨kz, kt2⟩
      · rw [List.map_nil] at Nm
        have hDm := news_head Nm
        have hRm := news_up1 Nm hR13
        have hIam := news_up1 Nm hIa13
        have htwm := news_up1 Nm htw13
        have hcwm := news_up1 Nm hcw13
        have hcRm := news_up1 Nm hcR
        have Sm := S13.grow (l' := (Dm, LCg.lst _) :: n13) fun _ h => news_up1 Nm h
        have U14 := one_of Nm
        clear hR13 hIa13 htw13 hcw13 hcR S13 hT13 U13
        repeat' ((fail_if_success (with_reducible show wpAny _ _ (exec (Stmt.For _ _ _ _ _) _) _ _ _)); (fail_if_success (with_reducible show wpAny _ _ (pyIter _) _ _ _)); (fail_if_success (with_reducible show wpAny _ _ (exec (Stmt.Raise _ _ _) _) _ _ _)); (fail_if_success (with_reducible show wpAny _ _ (exec (Stmt.While _ _ _ _) _) _ _ _)); (fail_if_success (with_reducible show wpAny _ _ (exec (Stmt.If _ _ _ _) _) _ _ _)); first | (k_unfold; (try dsimp only)) | walk1 | (dsimp only; walk1) | (leave1; (try dsimp only)))
        iterate 6 (first | walk1 | (dsimp only; walk1))
        rename News _ _ _ _ => N15
        refine eq_empty_P N15 (.tail _ (.head _)) (.head _) (by units_room) ?_
        rw [List.isEmpty_nil]
        repeat' ((fail_if_success (with_reducible show wpAny _ _ (exec (Stmt.For _ _ _ _ _) _) _ _ _)); (fail_if_success (with_reducible show wpAny _ _ (pyIter _) _ _ _)); (fail_if_success (with_reducible show wpAny _ _ (exec (Stmt.Raise _ _ _) _) _ _ _)); (fail_if_success (with_reducible show wpAny _ _ (exec (Stmt.While _ _ _ _) _) _ _ _)); (fail_if_success (with_reducible show wpAny _ _ (exec (Stmt.Expr _ _) _) _ _ _)); first | (k_unfold; (try dsimp only)) | walk1 | (dsimp only; walk1) | (leave1; (try dsimp only)))
        have hD15 := news_up1 N15 hDm
        have hR15 := news_up1 N15 hRm
        have hIa15 := news_up1 N15 hIam
        have htw15 := news_up1 N15 htwm
        have hcw15 := news_up1 N15 hcwm
        have hcR15 := news_up1 N15 hcRm
        have S15 := Sm.grow (l' := _) fun _ h => news_up1 N15 h
        have U15 := one_of N15
        clear hDm hRm hIam htwm hcwm hcRm Sm U14
        generalize (_, listOf #[] 0) :: (_, LCg.lst _) :: _ = n15 at *
        repeat' ((fail_if_success (with_reducible show wpAny _ _ (exec (Stmt.For _ _ _ _ _) _) _ _ _)); (fail_if_success (with_reducible show wpAny _ _ (pyIter _) _ _ _)); (fail_if_success (with_reducible show wpAny _ _ (exec (Stmt.Raise _ _ _) _) _ _ _)); (fail_if_success (with_reducible show wpAny _ _ (exec (Stmt.While _ _ _ _) _) _ _ _)); first | (k_unfold; (try dsimp only)) | walk1 | (dsimp only; walk1) | (leave1; (try dsimp only)))
        rename News _ _ _ _ => N16
        have htwr := tup_of hor htw15
        refine turn_end' (by k_asm) N16 (mem_put_ne hIa15 nIR.symm) (lj_app N16 S15 U15 htwr hIa15 hio nIc nIr nIR ?fa ?fb hlen hV Vo M13 hks)
        case fa => first | rfl | k_is | (simp; done)
        case fb => first | rfl | k_is | (simp; done)
      · rw [List.map_cons] at Nm
        generalize List.map _ kt2 = yt at Nm
        generalize tf kz = tz at Nm
        have hDm := news_head Nm
        have hRm := news_up1 Nm hR13
        have hIam := news_up1 Nm hIa13
        have htwm := news_up1 Nm htw13
        have hcwm := news_up1 Nm hcw13
        have hcRm := news_up1 Nm hcR
        have Sm := S13.grow (l' := (Dm, LCg.lst _) :: n13) fun _ h => news_up1 Nm h
        have U14 := one_of Nm
        clear hR13 hIa13 htw13 hcw13 hcR S13 hT13 U13
        repeat' ((fail_if_success (with_reducible show wpAny _ _ (exec (Stmt.For _ _ _ _ _) _) _ _ _)); (fail_if_success (with_reducible show wpAny _ _ (pyIter _) _ _ _)); (fail_if_success (with_reducible show wpAny _ _ (exec (Stmt.Raise _ _ _) _) _ _ _)); (fail_if_success (with_reducible show wpAny _ _ (exec (Stmt.While _ _ _ _) _) _ _ _)); (fail_if_success (with_reducible show wpAny _ _ (exec (Stmt.If _ _ _ _) _) _ _ _)); first | (k_unfold; (try dsimp only)) | walk1 | (dsimp only; walk1) | (leave1; (try dsimp only)))
        iterate 6 (first | walk1 | (dsimp only; walk1))
        rename News _ _ _ _ => N15
        refine eq_empty_P N15 (.tail _ (.head _)) (.head _) (by units_room) ?_
        rw [List.isEmpty_cons]
        repeat' ((fail_if_success (with_reducible show wpAny _ _ (exec (Stmt.For _ _ _ _ _) _) _ _ _)); (fail_if_success (with_reducible show wpAny _ _ (pyIter _) _ _ _)); (fail_if_success (with_reducible show wpAny _ _ (exec (Stmt.Raise _ _ _) _) _ _ _)); (fail_if_success (with_reducible show wpAny _ _ (exec (Stmt.While _ _ _ _) _) _ _ _)); (fail_if_success (with_reducible show wpAny _ _ (exec (Stmt.Assign _ _ _) _) _ _ _)); first | (k_unfold; (try dsimp only)) | walk1 | (dsimp only; walk1) | (leave1; (try dsimp only)))
        have hD15 := news_up1 N15 hDm
        have hR15 := news_up1 N15 hRm
        have hIa15 := news_up1 N15 hIam
        have htw15 := news_up1 N15 htwm
        have hcw15 := news_up1 N15 hcwm
        have hcR15 := news_up1 N15 hcRm
        have S15 := Sm.grow (l' := _) fun _ h => news_up1 N15 h
        have U15 := one_of N15
        clear hDm hRm hIam htwm hcwm hcRm Sm U14
        have hkz : kz < rws.length := (filter_head hks).1
        generalize (_, listOf #[] 0) :: (_, LCg.lst _) :: _ = n15 at *
        repeat' ((fail_if_success (with_reducible show wpAny _ _ (exec (Stmt.For _ _ _ _ _) _) _ _ _)); (fail_if_success (with_reducible show wpAny _ _ (pyIter _) _ _ _)); (fail_if_success (with_reducible show wpAny _ _ (exec (Stmt.Raise _ _ _) _) _ _ _)); (fail_if_success (with_reducible show wpAny _ _ (exec (Stmt.While _ _ _ _) _) _ _ _)); first | (k_unfold; (try dsimp only)) | walk1 | (dsimp only; walk1) | (leave1; (try dsimp only)))
        rename News _ _ _ _ => N16
        have htwr := tup_of hor htw15
        refine turn_end' (by k_asm) N16 (mem_put_ne hIa15 nIR.symm) (lj_set N16 S15 U15 htwr hIa15 hio nIc nIr nIR ?fa ?fb hlen hV Vo M13 hks)
        case fa => first | rfl | k_is | (simp; done)
        case fb => first | rfl | k_is | (simp; done)
  · rintro m₁ n14 h14 tk14 ⟨Z, many, rws, S, hwy, hsr, hlen, hV, hM⟩ F14 N14
    clear F1 N1 hRg S9
    replace F14 := fr_know F14 (y0 := "ways") (v0 := .ref wy) hwy
    repeat' ((fail_if_success (with_reducible show wpAny _ _ (exec (Stmt.For _ _ _ _ _) _) _ _ _)); (fail_if_success (with_reducible show wpAny _ _ (pyIter _) _ _ _)); (fail_if_success (with_reducible show wpAny _ _ (exec (Stmt.Raise _ _ _) _) _ _ _)); (fail_if_success (with_reducible show wpAny _ _ (exec (Stmt.While _ _ _ _) _) _ _ _)); (fail_if_success (with_reducible show wpAny _ _ (call (Value.ref 684) _) _ _ _)); first | (k_unfold; (try dsimp only)) | walk1 | (dsimp only; walk1) | (leave1; (try dsimp only)))
    refine fn_use (c_layer _ _ _ _ wy n14) (by k_asm) (by k_asm) (by k_asm) (by k_asm) (by k_asm) (by first | exact rfl | assumption) (by ktr_room) (by first | ktr_units | (have hcL9 := cLine_is; (try simp only [units_under_make, units_in1, units_deeper, Around.mark_units, units_caller] at *); (try dsimp only [ktrTop] at *); omega)) ?_
    rintro _ n15 h15 tk15 F15 N15 ⟨ly, ld, fa, re, q0, q1, q2, q3, q4, qt, rfl, hl1, hl2, hs15⟩
    have S15 := S.grow hs15
    clear S
    repeat' ((fail_if_success (with_reducible show wpAny _ _ (exec (Stmt.For _ _ _ _ _) _) _ _ _)); (fail_if_success (with_reducible show wpAny _ _ (pyIter _) _ _ _)); (fail_if_success (with_reducible show wpAny _ _ (exec (Stmt.Raise _ _ _) _) _ _ _)); (fail_if_success (with_reducible show wpAny _ _ (exec (Stmt.While _ _ _ _) _) _ _ _)); first | (k_unfold; (try dsimp only)) | walk1 | (dsimp only; walk1) | (leave1; (try dsimp only)))
    (rename Fr _ _ _ _ => lF); with_unfolding_all refine' For_invVF lF ?k1 ?k2 ?_; (case k1 => exact rfl); (case k2 => exact rfl)
    repeat' ((fail_if_success (with_reducible show wpAny _ _ (exec (Stmt.For _ _ _ _ _) _) _ _ _)); (fail_if_success (with_reducible show wpAny _ _ (pyIter _) _ _ _)); (fail_if_success (with_reducible show wpAny _ _ (exec (Stmt.Raise _ _ _) _) _ _ _)); (fail_if_success (with_reducible show wpAny _ _ (exec (Stmt.While _ _ _ _) _) _ _ _)); (fail_if_success (with_reducible show wpAny _ _ (call (Value.ref 663) _) _ _ _)); first | (k_unfold; (try dsimp only)) | walk1 | (dsimp only; walk1) | (leave1; (try dsimp only)))
    refine fn_use (c_places _ _ _ _ _) (by k_asm) (by k_asm) (by k_asm) (by k_asm) (by k_asm) (by first | exact rfl | assumption) (by ktr_room) (by first | ktr_units | (have hcL9 := cLine_is; (try simp only [units_under_make, units_in1, units_deeper, Around.mark_units, units_caller] at *); (try dsimp only [ktrTop] at *); omega)) ?_
    rintro _ n16 h16 tk16 F16 N16 ⟨g, vs, gk, rfl, hg, hI, hs16, og⟩
    obtain ⟨_, _, hcr0, _⟩ := S15.row
    obtain ⟨_, hcR0, _⟩ := S15.cell
    refine it_list (fun i m nx => Lst _ wy wd p0 p1 D R _ _ Z many rws nx ∧ (ly, instObj 445 ld) ∈ nx ∧ (ld, lyObj _ q0 q1 q2 q3 q4 qt fa wy re) ∈ nx ∧ m "layer" = some (.ref ly)) rfl hg F16 N16 ⟨S15.grow hs16, hs16 _ hl1, hs16 _ hl2, rfl⟩ ?_ ?_
    · rintro i v m₁ nx h tk Ia io hv ⟨S, hl1, hl2, hm⟩ hgl hoff hio F2 N2
      clear S15
      obtain ⟨x, tx, rfl, hx⟩ := ints_pick hI hv
      have hx0 : 0 ≤ x ∧ x < 4294967296 := by simp [places] at hx; omega
      replace F2 := fr_know F2 (y0 := "layer") (v0 := .ref ly) (by rw [if_neg (by decide)]; exact hm)
      obtain ⟨_, _, hcr1, _⟩ := S.row
      have nIr := hoff _ hcr1
      obtain ⟨_, hcR1, _⟩ := S.cell
      have nIc := hoff _ hcR1
      have SI := S.grow (l' := (Ia, io) :: nx) fun _ h => .tail _ h
      clear hcr1 hcR1 S
      repeat' ((fail_if_success (with_reducible show wpAny _ _ (exec (Stmt.For _ _ _ _ _) _) _ _ _)); (fail_if_success (with_reducible show wpAny _ _ (pyIter _) _ _ _)); (fail_if_success (with_reducible show wpAny _ _ (exec (Stmt.Raise _ _ _) _) _ _ _)); (fail_if_success (with_reducible show wpAny _ _ (exec (Stmt.While _ _ _ _) _) _ _ _)); (fail_if_success (with_reducible show wpAny _ _ (call (Value.ref 670) _) _ _ _)); first | (k_unfold; (try dsimp only)) | walk1 | (dsimp only; walk1) | (leave1; (try dsimp only)))
      refine fn0_use (c_found _ _ _ _ ly ld fa wy re wd q0 q1 q2 q3 q4 qt p0 p1 Z many x _ _ (.tail _ hl1) (.tail _ hl2) SI.ways (fun q => Nat.lt_of_le_of_lt (match_len hM q) (by rw [List.length_map]; omega)) hx0.1 hx0.2) (by k_asm) (by k_asm) (by k_asm) (by k_asm) (by k_asm) (by k_asm) (by k_asm) (by first | exact rfl | assumption) (by ktr_room) (by ktr_units) ?_
      rintro r n5 h5 tk5 F5 N5 ⟨hs5, hr5⟩
      have S5 := SI.grow hs5
      have hIa5 := hs5 _ (.head _)
      obtain ⟨oR, hcR, dR⟩ := S5.cell
      obtain ⟨nR, hR⟩ := S5.rows
      clear SI
      repeat' ((fail_if_success (with_reducible show wpAny _ _ (exec (Stmt.For _ _ _ _ _) _) _ _ _)); (fail_if_success (with_reducible show wpAny _ _ (pyIter _) _ _ _)); (fail_if_success (with_reducible show wpAny _ _ (exec (Stmt.Raise _ _ _) _) _ _ _)); (fail_if_success (with_reducible show wpAny _ _ (exec (Stmt.While _ _ _ _) _) _ _ _)); (fail_if_success (with_reducible show wpAny _ _ (call (Value.ref 677) _) _ _ _)); first | (k_unfold; (try dsimp only)) | walk1 | (dsimp only; walk1) | (leave1; (try dsimp only)))
      refine fn_use (c_due _ _ _ _ R rws nR x _ n5 hR S5.tups (by omega) (valid_pre hV)) (by k_asm) (by k_asm) (by k_asm) (by k_asm) (by k_asm) (by first | exact rfl | assumption) (by ktr_room) (by first | ktr_units | (have hcL9 := cLine_is; (try simp only [units_under_make, units_in1, units_deeper, Around.mark_units, units_caller] at *); (try dsimp only [ktrTop] at *); omega)) ?_
      rintro r2 n6 h6 tk6 F6 N6 ⟨hs6, hr6⟩
      rcases turn_law hM hV hx0.1 hx0.2 hr5 hr6 with ⟨rfl, rfl⟩ | ⟨tp, q, t0, t1, t2, t3, t4, rfl, rfl, hq, htp⟩
      · refine ne_nones ?_
        repeat' ((fail_if_success (with_reducible show wpAny _ _ (exec (Stmt.For _ _ _ _ _) _) _ _ _)); (fail_if_success (with_reducible show wpAny _ _ (pyIter _) _ _ _)); (fail_if_success (with_reducible show wpAny _ _ (exec (Stmt.Raise _ _ _) _) _ _ _)); (fail_if_success (with_reducible show wpAny _ _ (exec (Stmt.While _ _ _ _) _) _ _ _)); first | (k_unfold; (try dsimp only)) | walk1 | (dsimp only; walk1) | (leave1; (try dsimp only)))
        rename News _ _ _ _ => N7
        refine turn_end' (by k_asm) N7 (hs6 _ hIa5) ⟨mem_wo.mpr ⟨hs6 _ (hs5 _ (.tail _ hgl)), hoff _ hgl⟩, lst_wo_list (S5.grow hs6) (one_of N7) (hs6 _ hIa5) hio nIc nIr, mem_wo.mpr ⟨hs6 _ (hs5 _ (.tail _ hl1)), hoff _ hl1⟩, mem_wo.mpr ⟨hs6 _ (hs5 _ (.tail _ hl2)), hoff _ hl2⟩, ?_⟩
        first | rfl | k_is | (simp; done)
      · refine ne_tup5 N6 (hs6 _ htp) (hs6 _ (S5.tups q hq)) (by units_room) ?_
        repeat' ((fail_if_success (with_reducible show wpAny _ _ (exec (Stmt.For _ _ _ _ _) _) _ _ _)); (fail_if_success (with_reducible show wpAny _ _ (pyIter _) _ _ _)); (fail_if_success (with_reducible show wpAny _ _ (exec (Stmt.Raise _ _ _) _) _ _ _)); (fail_if_success (with_reducible show wpAny _ _ (exec (Stmt.While _ _ _ _) _) _ _ _)); first | (k_unfold; (try dsimp only)) | walk1 | (dsimp only; walk1) | (leave1; (try dsimp only)))
        rename News _ _ _ _ => N7
        refine turn_end' (by k_asm) N7 (hs6 _ hIa5) ⟨mem_wo.mpr ⟨hs6 _ (hs5 _ (.tail _ hgl)), hoff _ hgl⟩, lst_wo_list (S5.grow hs6) (one_of N7) (hs6 _ hIa5) hio nIc nIr, mem_wo.mpr ⟨hs6 _ (hs5 _ (.tail _ hl1)), hoff _ hl1⟩, mem_wo.mpr ⟨hs6 _ (hs5 _ (.tail _ hl2)), hoff _ hl2⟩, ?_⟩
        first | rfl | k_is | (simp; done)
    · rintro m₁ nx h tk ⟨S, _, _, _⟩ Fz Nz
      repeat' ((fail_if_success (with_reducible show wpAny _ _ (exec (Stmt.For _ _ _ _ _) _) _ _ _)); (fail_if_success (with_reducible show wpAny _ _ (pyIter _) _ _ _)); (fail_if_success (with_reducible show wpAny _ _ (exec (Stmt.Raise _ _ _) _) _ _ _)); (fail_if_success (with_reducible show wpAny _ _ (exec (Stmt.While _ _ _ _) _) _ _ _)); first | (k_unfold; (try dsimp only)) | walk1 | (dsimp only; walk1) | (leave1; (try dsimp only)))
      dsimp only
      k_unfold
      (try dsimp only)
      (k_end; wrow_close))
end Mine
end

theorem PySem.Challenge.cw_xw0341_01_holds : PySem.Challenge.rw_xw0341_01.Holds :=
  Mine.g1
