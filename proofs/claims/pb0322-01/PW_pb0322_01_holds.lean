import PyProof.Rows.All
import Wide.All
import OpenK.AllK
import Wide.FinOn
import Lean
import PySem.Challenge.RW_pb0322_01
open PySem PySem.W PySem.Calls PyProof.Rows PyProof.V PySem.Spec
set_option Elab.async false
set_option maxRecDepth 100000
namespace Mine
set_option maxHeartbeats 8000000 in
open_top hd for PySem.Challenge.rw_pb0322_01
theorem fill_all : ∀ (P : Params) (h : Heap), (hd.heap_39 P).In h → PySem.Challenge.rw_pb0322_01.foot = PySem.Challenge.rw_pb0322_01.foot := by
  k_fill
  w_top off
  intros
  rfl
local macro_rules | `(tactic| walk_at $s:str) => `(tactic| k_extra $s)
theorem fresh0 : True := by
  w_top off
  trivial
inductive Cj3 (a0 a1 a2 : Prop) : Prop
  | mk (_ : a0) (_ : a1) (_ : a2) : Cj3 a0 a1 a2
inductive Cj4 (a0 a1 a2 a3 : Prop) : Prop
  | mk (_ : a0) (_ : a1) (_ : a2) (_ : a3) : Cj4 a0 a1 a2 a3
inductive Cj5 (a0 a1 a2 a3 a4 : Prop) : Prop
  | mk (_ : a0) (_ : a1) (_ : a2) (_ : a3) (_ : a4) : Cj5 a0 a1 a2 a3 a4
inductive Cj7 (a0 a1 a2 a3 a4 a5 a6 : Prop) : Prop
  | mk (_ : a0) (_ : a1) (_ : a2) (_ : a3) (_ : a4) (_ : a5) (_ : a6) : Cj7 a0 a1 a2 a3 a4 a5 a6
inductive Cj9 (a0 a1 a2 a3 a4 a5 a6 a7 a8 : Prop) : Prop
  | mk (_ : a0) (_ : a1) (_ : a2) (_ : a3) (_ : a4) (_ : a5) (_ : a6) (_ : a7) (_ : a8) : Cj9 a0 a1 a2 a3 a4 a5 a6 a7 a8
inductive Cj12 (a0 a1 a2 a3 a4 a5 a6 a7 a8 a9 a10 a11 : Prop) : Prop
  | mk (_ : a0) (_ : a1) (_ : a2) (_ : a3) (_ : a4) (_ : a5) (_ : a6) (_ : a7) (_ : a8) (_ : a9) (_ : a10) (_ : a11) : Cj12 a0 a1 a2 a3 a4 a5 a6 a7 a8 a9 a10 a11
inductive Xs2 {α0 α1 : Type} (p : α0 → α1 → Prop) : Prop
  | mk (x0 : α0) (x1 : α1) (_ : p x0 x1) : Xs2 p
inductive Xs3 {α0 α1 α2 : Type} (p : α0 → α1 → α2 → Prop) : Prop
  | mk (x0 : α0) (x1 : α1) (x2 : α2) (_ : p x0 x1 x2) : Xs3 p
inductive Xs4 {α0 α1 α2 α3 : Type} (p : α0 → α1 → α2 → α3 → Prop) : Prop
  | mk (x0 : α0) (x1 : α1) (x2 : α2) (x3 : α3) (_ : p x0 x1 x2 x3) : Xs4 p
inductive Xs6 {α0 α1 α2 α3 α4 α5 : Type} (p : α0 → α1 → α2 → α3 → α4 → α5 → Prop) : Prop
  | mk (x0 : α0) (x1 : α1) (x2 : α2) (x3 : α3) (x4 : α4) (x5 : α5) (_ : p x0 x1 x2 x3 x4 x5) : Xs6 p
inductive Xs8 {α0 α1 α2 α3 α4 α5 α6 α7 : Type} (p : α0 → α1 → α2 → α3 → α4 → α5 → α6 → α7 → Prop) : Prop
  | mk (x0 : α0) (x1 : α1) (x2 : α2) (x3 : α3) (x4 : α4) (x5 : α5) (x6 : α6) (x7 : α7) (_ : p x0 x1 x2 x3 x4 x5 x6 x7) : Xs8 p
abbrev Lg := List (Addr × Obj)
theorem AllLt_all {d : Nat} {l : Lg} (h : AllLt d l) : ∀ p ∈ l, @LT.lt Nat _ p.1 d := by
  induction l with
  | nil => intro p hp; cases hp
  | cons q r ih =>
    intro p hp
    rcases List.mem_cons.mp hp with e | hp
    · rw [e]; exact h.1
    · exact ih h.2 p hp
theorem AllLt_of {d : Nat} : ∀ {l : Lg}, (∀ p ∈ l, @LT.lt Nat _ p.1 d) → AllLt d l
  | [], _ => trivial
  | _ :: _, h => ⟨h _ (.head _), AllLt_of fun q hq => h q (.tail _ hq)⟩
noncomputable def AllNe (d : Nat) : Lg → Prop
  | [] => True
  | p :: r => @Ne Nat p.1 d ∧ AllNe d r
theorem AllNe_all {d : Nat} {l : Lg} (h : AllNe d l) : ∀ p ∈ l, @Ne Nat p.1 d := by
  induction l with
  | nil => intro p hp; cases hp
  | cons q r ih =>
    intro p hp
    rcases List.mem_cons.mp hp with e | hp
    · rw [e]; exact h.1
    · exact ih h.2 p hp
theorem AllNe_of {d : Nat} : ∀ {l : Lg}, (∀ p ∈ l, @Ne Nat p.1 d) → AllNe d l
  | [], _ => trivial
  | _ :: _, h => ⟨h _ (.head _), AllNe_of fun q hq => h q (.tail _ hq)⟩
theorem AllNe_cons {d : Nat} {a : Addr} {o : Obj} {l : Lg} (h : @Ne Nat a d) (k : AllNe d l) : AllNe d ((a, o) :: l) := ⟨h, k⟩
theorem AllLt.ne {d : Nat} {l : Lg} (h : AllLt d l) : AllNe d l := AllNe_of fun p hp => Nat.ne_of_lt (AllLt_all h p hp)
theorem AllLt_cons {d : Nat} {a : Addr} {o : Obj} {l : Lg} (h : @LT.lt Nat _ a d) (k : AllLt d l) : AllLt d ((a, o) :: l) := ⟨h, k⟩
theorem AllLt_mono {d e : Nat} {l : Lg} (h : AllLt d l) (k : @LE.le Nat _ d e) : AllLt e l := AllLt_of fun p hp => Nat.lt_of_lt_of_le (AllLt_all h p hp) k
theorem AllLt_app {d : Nat} {l k : Lg} (h : AllLt d l) (g : AllLt d k) : AllLt d (l ++ k) := AllLt_of fun p hp => by
  rcases List.mem_append.mp hp with hp | hp
  · exact AllLt_all h p hp
  · exact AllLt_all g p hp
theorem AllLt_news {h₀ h : Heap} {L : Addr} {nw : Lg} (N : News h₀ L h nw) : AllLt h.objs.size nw := AllLt_of fun p hp => Heap.lt_size (N p hp).1
theorem _root_.PyProof.Rows.News.sub {h₀ h : Heap} {L : Addr} {nw nw' : Lg} (N : News h₀ L h nw) (hs : ∀ p ∈ nw', p ∈ nw) : News h₀ L h nw' := fun p hp => N p (hs p hp)

/-- what a turn leaves -/
def TurnEnd (h₀ : Heap) (L : Addr) (J : (Str → Option Value) → Lg → Prop) (I : Addr) (oI : Obj) (s₁ s₂ : Shared) : Prop :=
  ∃ h' tk m' nx, s₂ = { s₁ with heap := h', toks := tk } ∧ Fr h₀ L h' m' ∧ News h₀ L h' ((I, oI) :: nx) ∧ AllNe I nx ∧ J m' nx
def TurnPost (h₀ : Heap) (L : Addr) (J : (Str → Option Value) → Lg → Prop) (I : Addr) (oI : Obj) (s₁ : Shared) (Q : Flow → Shared → Prop) (f : Flow) (s₂ : Shared) : Prop :=
  match f with
  | .ret v => Q (.ret v) s₂
  | .brk => Q .next s₂
  | _ => TurnEnd h₀ L J I oI s₁ s₂
theorem TurnEnd.intro {h₀ : Heap} {L : Addr} {J : (Str → Option Value) → Lg → Prop} {I : Addr} {oI : Obj} {s₁ : Shared} {h' : Heap} {tk : Nat} {m' : Str → Option Value} {nw : Lg} (nx : Lg)
    (F : Fr h₀ L h' m') (N : News h₀ L h' nw) (hI : (I, oI) ∈ nw) (hn : ∀ p ∈ nx, p ∈ nw) (ho : AllNe I nx) (hj : J m' nx) :
    TurnEnd h₀ L J I oI s₁ { s₁ with heap := h', toks := tk } :=
  ⟨h', tk, m', nx, rfl, F, fun p hp => by
    rcases List.mem_cons.mp hp with rfl | hp
    · exact N _ hI
    · exact N p (hn p hp), ho, hj⟩

section
variable {prog : Program} {w : World} {A : Around} {E : Value → Shared → Prop} {s : Shared} {env : Env} {h₀ : Heap} {x : Str} {body : List Stmt} {Q : Flow → Shared → Prop}

theorem loop_gen {I : Addr} {fp : List Addr} {n : Nat} {P : Nat → Value → Prop} {St : Nat → Heap → Prop} {m₀ : Str → Option Value} {news : Lg} (J : Nat → (Str → Option Value) → Lg → Prop)
    (W : Walks prog w A I fp [I] n P St) (hLf : env.locals ∉ fp) (hIn : h₀.get? I = none) (hnI : ∀ p ∈ news, p.1 ≠ I) (hst : St 0 s.heap) (hIs : ∀ i h, St i h → (h.get? I).isSome = true)
    (fx : Lg) (hfp : ∀ b ∈ fp, b ≠ I → ∃ o, (b, o) ∈ fx) (hfx : ∀ i m nx, J i m nx → ∀ p ∈ fx, p ∈ nx)
    (F : Fr h₀ env.locals s.heap m₀) (N : News h₀ env.locals s.heap news) (hj : J 0 m₀ news)
    (turn : ∀ i v m₁ nx h tk oI, i < n → P i v → J i m₁ nx → AllNe I nx → Fr h₀ env.locals h (fun y => if y = x then some v else m₁ y) → News h₀ env.locals h ((I, oI) :: nx) →
      wpAny (model prog w) A (execs body env) (TurnPost h₀ env.locals (J (i + 1)) I oI { s with heap := h, toks := tk } Q) E { s with heap := h, toks := tk })
    (done : ∀ m₁ nx h tk, J n m₁ nx → Fr h₀ env.locals h m₁ → News h₀ env.locals h nx → Q .next { s with heap := h, toks := tk }) :
    LoopAtV prog w A h₀ env x body Q E (.ref I) s := by
  refine ⟨I, fp, [I], n, P, St, m₀, news, J, rfl, W, hLf, ?_, ?_, hst, F, N, hj, ?_, ?_⟩
  · intro b hb; rw [List.mem_singleton.mp hb]; exact hIn
  · intro p hp hI; exact hnI p hp (List.mem_singleton.mp hI)
  · rintro i v m₁ nx s₁ own ⟨hh', tk', rfl⟩ hin hP hJ hoff hown hget hfo hst' F₁ N₁
    have hoff' : AllNe I nx := AllNe_of fun p hp e => hoff p hp (by rw [show p.1 = I from e]; exact List.mem_singleton.mpr rfl)
    have hIfp : I ∈ fp := W.sub I (List.mem_singleton.mpr rfl)
    obtain ⟨oI, hoI⟩ := Option.isSome_iff_exists.mp (hIs _ _ hst')
    have hIown : (I, oI) ∈ own := hfo I hIfp hIn oI hoI
    have N₂ : News h₀ env.locals hh' ((I, oI) :: nx) := fun p hp => by
      rcases List.mem_cons.mp hp with rfl | hp
      · exact N₁ _ (List.mem_append_left _ hIown)
      · exact N₁ p (List.mem_append_right _ hp)
    refine wpAny_mono (turn i v m₁ nx hh' tk' oI hin hP hJ hoff' F₁ N₂) (fun f s₂ p => ?_) fun _ _ e => e
    have fin : TurnEnd h₀ env.locals (J (i + 1)) I oI { s with heap := hh', toks := tk' } s₂ → LoopStepU h₀ env.locals [I] own (J (i + 1)) { s with heap := hh', toks := tk' } .next s₂ := by
      rintro ⟨h', tk, m', nx', e, F', N', ho, hj'⟩
      refine ⟨rfl, h', tk, m', nx', e, F', fun p hp => ?_, fun p hp hq => AllNe_all ho p hp (List.mem_singleton.mp hq), hj'⟩
      rcases List.mem_append.mp hp with h | h
      · by_cases hI : p.1 = I
        · have h2 : hh'.get? p.1 = some p.2 := hget p h
          rw [hI, hoI] at h2
          have h3 : p = (I, oI) := Prod.ext hI (Option.some.inj h2).symm
          rw [h3]; exact N' _ (.head _)
        · obtain ⟨o, hox⟩ := hfp p.1 (hown p h) hI
          have h4 : hh'.get? p.1 = some o := (N₁ _ (List.mem_append_right _ (hfx _ _ _ hJ _ hox))).1
          have h2 : hh'.get? p.1 = some p.2 := hget p h
          rw [h2] at h4
          have h5 : p = (p.1, o) := Prod.ext rfl (Option.some.inj h4)
          rw [h5]
          exact N' _ (.tail _ (hfx _ _ _ hj' _ hox))
      · exact N' p (.tail _ h)
    cases f with
    | ret v => exact .ret p
    | brk => exact .brk p
    | next => exact .next (fin p)
    | cont => exact .cont (fin p)
  · rintro h' tk m' news' F' N' _ hJ
    exact done m' news' h' tk hJ F' N'

theorem for_list {l : Addr} {vs : List Value} {nn : Nat} {m₀ : Str → Option Value} {news : Lg} (J : Nat → (Str → Option Value) → Lg → Prop)
    (hh : A.handled = none) (hl : (l, listOf vs.toArray nn) ∈ news) (F : Fr h₀ env.locals s.heap m₀) (N : News h₀ env.locals s.heap news) (hj : J 0 m₀ news)
    (hJl : ∀ i m nx, J i m nx → (l, listOf vs.toArray nn) ∈ nx)
    (turn : ∀ I oI, AllLt I news → ∀ i v m₁ nx h tk, vs[i]? = some v → J i m₁ nx → AllNe I nx → Fr h₀ env.locals h (fun y => if y = x then some v else m₁ y) → News h₀ env.locals h ((I, oI) :: nx) →
      wpAny (model prog w) A (execs body env) (TurnPost h₀ env.locals (J (i + 1)) I oI { s with heap := h, toks := tk } Q) E { s with heap := h, toks := tk })
    (done : ∀ m₁ nx h tk, J vs.length m₁ nx → Fr h₀ env.locals h m₁ → News h₀ env.locals h nx → Q .next { s with heap := h, toks := tk }) :
    wpAny (model prog w) A (pyIter (.ref l)) (fun it s₂ => LoopAtV prog w A h₀ env x body Q E it s₂) E s := by
  have hol : s.heap.get? l = some (listOf vs.toArray nn) := (N _ hl).1
  have hls : s.heap.IsList l vs.toArray := ⟨_, hol, rfl, nn, rfl⟩
  have hne : l ≠ s.heap.objs.size := Nat.ne_of_lt (Heap.lt_size hol)
  refine wpAny_pyIter_list hls ?_
  have W := Walks.list (prog := prog) (w := w) hh s.heap.objs.size l hne vs.toArray
  have hnI : ∀ p ∈ news, p.1 ≠ s.heap.objs.size := fun p hp => Nat.ne_of_lt (Heap.lt_size (N p hp).1)
  have hin : h₀.get? s.heap.objs.size = none := next_is_new F
  refine loop_gen (n := vs.toArray.size) J W ?_ hin hnI ⟨⟨_, Heap.get?_push_size _ rfl, rfl, rfl⟩, hls.at fun o e => Heap.get?_push_of_some _ e⟩ ?_ [(l, listOf vs.toArray nn)] ?_ ?_ (F.push _) (fun p hp => ⟨Heap.get?_push_of_some _ (N p hp).1, (N p hp).2⟩) hj ?_ ?_
  · intro hm
    rcases List.mem_cons.mp hm with e | hm
    · exact absurd F.ns.lt (e ▸ Nat.lt_irrefl _)
    · exact (N _ hl).2.1 ((List.mem_singleton.mp hm).symm)
  · rintro i h ⟨⟨o, ho, _⟩, _⟩
    rw [ho]; rfl
  · intro b hb hbI
    rcases List.mem_cons.mp hb with e | hb
    · exact absurd e hbI
    · exact ⟨_, by rw [List.mem_singleton.mp hb]; exact .head _⟩
  · intro i m nx hJ p hp
    rw [List.mem_singleton.mp hp]; exact hJl i m nx hJ
  · intro i v m₁ nx h tk oI hi hP hJ ho F₁ N₁
    exact turn _ oI (allLt_of fun p hp => Heap.lt_size (N p hp).1) i v m₁ nx h tk (by simpa using hP) hJ ho F₁ N₁
  · intro m₁ nx h tk hJ F₁ N₁
    exact done m₁ nx h tk (by simpa using hJ) F₁ N₁

theorem for_range {r : Addr} {a₀ b₀ : Int} {t₀ u₀ v₀ : Tok} {n : Nat} {m₀ : Str → Option Value} {news : Lg} (J : Nat → (Str → Option Value) → Lg → Prop)
    (hh : A.handled = none) (hr : IsRange s.heap r a₀ b₀ 1 t₀ u₀ v₀) (hsmall : Builtin.Range.small a₀ b₀ 1 = true) (hn : Builtin.Range.rangeSize a₀ b₀ 1 = (n : Int)) (F : Fr h₀ env.locals s.heap m₀) (N : News h₀ env.locals s.heap news) (hj : J 0 m₀ news)
    (turn : ∀ I oI, AllLt I news → ∀ (i : Nat) t m₁ nx h tk, i < n → J i m₁ nx → AllNe I nx → Fr h₀ env.locals h (fun y => if y = x then some (.int (a₀ + (i : Int)) t) else m₁ y) → News h₀ env.locals h ((I, oI) :: nx) →
      wpAny (model prog w) A (execs body env) (TurnPost h₀ env.locals (J (i + 1)) I oI { s with heap := h, toks := tk } Q) E { s with heap := h, toks := tk })
    (done : ∀ m₁ nx h tk, J n m₁ nx → Fr h₀ env.locals h m₁ → News h₀ env.locals h nx → Q .next { s with heap := h, toks := tk }) :
    wpAny (model prog w) A (pyIter (.ref r)) (fun it s₂ => LoopAtV prog w A h₀ env x body Q E it s₂) E s := by
  refine wpAny_pyIter_range hr hsmall ?_
  have W : Walks prog w A s.heap.objs.size [s.heap.objs.size] [s.heap.objs.size] n (fun i v => i < n ∧ ∃ t, v = .int (a₀ + i * 1) t)
      (fun i h => IsRangeIter h s.heap.objs.size (a₀ + (i : Nat) * 1) ((n : Int) - (i : Nat)) 1) := (Walks.range hh _ a₀ 1 n).bound
  have hnI : ∀ p ∈ news, p.1 ≠ s.heap.objs.size := fun p hp => Nat.ne_of_lt (Heap.lt_size (N p hp).1)
  have hin : h₀.get? s.heap.objs.size = none := next_is_new F
  refine loop_gen (n := n) J W ?_ hin hnI (by show IsRangeIter _ _ _ _ _; rw [hn]; simpa using Heap.get?_push_size _ rfl) ?_ [] ?_ ?_ (F.push _) (fun p hp => ⟨Heap.get?_push_of_some _ (N p hp).1, (N p hp).2⟩) hj ?_ ?_
  · intro hm
    exact absurd F.ns.lt ((List.mem_singleton.mp hm) ▸ Nat.lt_irrefl _)
  · intro i h hi
    have hi' : h.get? s.heap.objs.size = some _ := hi
    rw [hi']; rfl
  · intro b hb hbI
    exact absurd (List.mem_singleton.mp hb) hbI
  · intro i m nx hJ p hp
    cases hp
  · rintro i v m₁ nx h tk oI hi ⟨_, t, rfl⟩ hJ ho F₁ N₁
    have e1 : a₀ + (i : Int) * 1 = a₀ + (i : Int) := by (first | with_reducible assumption | lia | omega)
    rw [e1] at F₁
    exact turn _ oI (allLt_of fun p hp => Heap.lt_size (N p hp).1) i t m₁ nx h tk hi hJ ho F₁ N₁
  · intro m₁ nx h tk hJ F₁ N₁
    exact done m₁ nx h tk hJ F₁ N₁

theorem for_dict {d : Addr} {o : Obj} {kvs : List (Int × Value)} {m₀ : Str → Option Value} {news : Lg} (J : Nat → (Str → Option Value) → Lg → Prop)
    (hh : A.handled = none) (hp : (d, o) ∈ news) (hd : o.IsDictOf (intKind prog w) kvs) (lo : (d == sysModules) = false) (F : Fr h₀ env.locals s.heap m₀) (N : News h₀ env.locals s.heap news) (hj : J 0 m₀ news)
    (hJl : ∀ i m nx, J i m nx → (d, o) ∈ nx)
    (turn : ∀ I oI, AllLt I news → ∀ i k t u m₁ nx h tk, kvs[i]? = some (k, u) → J i m₁ nx → AllNe I nx → Fr h₀ env.locals h (fun y => if y = x then some (.int k t) else m₁ y) → News h₀ env.locals h ((I, oI) :: nx) →
      wpAny (model prog w) A (execs body env) (TurnPost h₀ env.locals (J (i + 1)) I oI { s with heap := h, toks := tk } Q) E { s with heap := h, toks := tk })
    (done : ∀ m₁ nx h tk, J kvs.length m₁ nx → Fr h₀ env.locals h m₁ → News h₀ env.locals h nx → Q .next { s with heap := h, toks := tk }) :
    wpAny (model prog w) A (pyIter (.ref d)) (fun it s₂ => LoopAtV prog w A h₀ env x body Q E it s₂) E s := by
  obtain ⟨ep, hat⟩ : ∃ ep, s.heap.DictAt (intKind prog w) d kvs ep := let ⟨es, ep, r⟩ := hd; ⟨ep, o, es, (N _ hp).1, r⟩
  have hne : d ≠ s.heap.objs.size := Nat.ne_of_lt hat.lt_size
  refine wpAny_pyIter_dict lo hat ?_
  have W := Walks.dictKeys (prog := prog) (w := w) (knd := intKind prog w) hh s.heap.objs.size d hne kvs ep
  have hnI : ∀ p ∈ news, p.1 ≠ s.heap.objs.size := fun p hp => Nat.ne_of_lt (Heap.lt_size (N p hp).1)
  have hin : h₀.get? s.heap.objs.size = none := next_is_new F
  refine loop_gen (n := kvs.length) J W ?_ hin hnI ⟨⟨_, Heap.get?_push_size _ rfl, rfl, rfl⟩, hat.push _⟩ ?_ [(d, o)] ?_ ?_ (F.push _) (fun p hp => ⟨Heap.get?_push_of_some _ (N p hp).1, (N p hp).2⟩) hj ?_ ?_
  · intro hm
    rcases List.mem_cons.mp hm with e | hm
    · exact absurd F.ns.lt (e ▸ Nat.lt_irrefl _)
    · exact (N _ hp).2.1 ((List.mem_singleton.mp hm).symm)
  · rintro i h ⟨⟨o, ho, _⟩, _⟩
    rw [ho]; rfl
  · intro b hb hbI
    rcases List.mem_cons.mp hb with e | hb
    · exact absurd e hbI
    · exact ⟨_, by rw [List.mem_singleton.mp hb]; exact .head _⟩
  · intro i m nx hJ p hp
    rw [List.mem_singleton.mp hp]; exact hJl i m nx hJ
  · rintro i v m₁ nx h tk oI hi ⟨k, u, hx, hk⟩ hJ ho F₁ N₁
    obtain ⟨t, rfl⟩ : ∃ t, v = .int k t := by
      cases v <;> simp [intKind, Value.isInt] at hk
      exact ⟨_, by rw [hk]⟩
    exact turn _ oI (allLt_of fun p hp => Heap.lt_size (N p hp).1) i k t u m₁ nx h tk hx hJ ho F₁ N₁
  · intro m₁ nx h tk hJ F₁ N₁
    exact done m₁ nx h tk hJ F₁ N₁
end

/-- a place at which the walk is to stand still -/
structure Halt (p : Prop) : Prop where
  out : p

theorem pick {h₀ h : Heap} {L d : Addr} {o : Obj} {nw : Lg} (_ : News h₀ L h ((d, o) :: nw)) : ∃ d' o', d' = d ∧ o' = o := ⟨_, _, rfl, rfl⟩
theorem pickL {h₀ h : Heap} {L d : Addr} {l : List Value} {n : Nat} {nw : Lg} (_ : News h₀ L h ((d, listOf l.toArray n) :: nw)) : ∃ d' l' n', d' = d ∧ l' = l ∧ n' = n := ⟨_, _, _, rfl, rfl, rfl⟩
theorem pickA {h₀ h : Heap} {L d : Addr} {o : Obj} {nw : Lg} (_ : News h₀ L h ((d, o) :: nw)) : ∃ d', d' = d := ⟨_, rfl⟩
theorem News.tail {h₀ h : Heap} {L : Addr} {p : Addr × Obj} {nw : Lg} (N : News h₀ L h (p :: nw)) : News h₀ L h nw := fun q hq => N q (.tail _ hq)
theorem News.app_right {h₀ h : Heap} {L : Addr} {a nw : Lg} (N : News h₀ L h (a ++ nw)) : News h₀ L h nw := fun q hq => N q (List.mem_append_right _ hq)

theorem pickD {prog : Program} {w : World} {K : Type} [DecidableEq K] {knd : KeyKind prog w K} {o : Obj} {kvs : List (K × Value)} (_ : o.IsDictOf knd kvs) : ∃ o', o' = o := ⟨_, rfl⟩
theorem pickT {h₀ h : Heap} {L x : Addr} {a b : Int} {t t' : Tok} {nw : Lg} (_ : News h₀ L h ((x, { cls := .type "tuple", data := .seq [.int a t, .int b t'].toArray }) :: nw)) : ∃ x' t1 t2, x' = x ∧ t1 = t ∧ t2 = t' := ⟨_, _, _, rfl, rfl, rfl⟩
theorem pickT2 {h₀ h : Heap} {L x : Addr} {a b : Int} {t t' : Tok} {p : Addr × Obj} {nw : Lg} (_ : News h₀ L h (p :: (x, { cls := .type "tuple", data := .seq [.int a t, .int b t'].toArray }) :: nw)) : ∃ x' t1 t2, x' = x ∧ t1 = t ∧ t2 = t' := ⟨_, _, _, rfl, rfl, rfl⟩
theorem gen_E {α : Type} {M : Model} {A : Around} {t : Sem α} {Q : α → Shared → Prop} {E : Value → Shared → Prop} {s : Shared} (H : wpAny M A t Q (fun _ _ => False) s) : wpAny M A t Q E s := wpAny_mono H (fun _ _ q => q) fun _ _ h => h.elim
theorem gen_T {M : Model} {A : Around} {t : Sem Flow} {h₀ : Heap} {L : Addr} {J : (Str → Option Value) → Lg → Prop} {I : Addr} {oI : Obj} {s₁ : Shared} {Q : Flow → Shared → Prop} {E : Value → Shared → Prop} {s : Shared}
    (H : ∀ Q' J', (∀ m nw, J m nw → J' m nw) → wpAny M A t (TurnPost h₀ L J' I oI s₁ Q') (fun _ _ => False) s) : wpAny M A t (TurnPost h₀ L J I oI s₁ Q) E s := gen_E (H Q J fun _ _ h => h)
theorem TurnEnd.into {h₀ : Heap} {L : Addr} {J J' : (Str → Option Value) → Lg → Prop} (hJ : ∀ m nw, J m nw → J' m nw) {I : Addr} {oI : Obj} {s₁ : Shared} {h' : Heap} {tk : Nat} {m' : Str → Option Value} {nw : Lg} (nx : Lg)
    (F : Fr h₀ L h' m') (N : News h₀ L h' nw) (hI : (I, oI) ∈ nw) (hn : ∀ p ∈ nx, p ∈ nw) (ho : AllNe I nx) (hj : J m' nx) :
    TurnEnd h₀ L J' I oI s₁ { s₁ with heap := h', toks := tk } := TurnEnd.intro nx F N hI hn ho (hJ _ _ hj)
theorem TurnEnd.imp {h₀ : Heap} {L : Addr} {J J' : (Str → Option Value) → Lg → Prop} (hJ : ∀ m nw, J m nw → J' m nw) {I : Addr} {oI : Obj} {s₁ s₂ : Shared} (h : TurnEnd h₀ L J I oI s₁ s₂) : TurnEnd h₀ L J' I oI s₁ s₂ :=
  let ⟨h', tk, m', nx, e, F, N, ho, hj⟩ := h; ⟨h', tk, m', nx, e, F, N, ho, hJ _ _ hj⟩
theorem subR {l : List (Addr × Obj)} : ∀ q ∈ l, q ∈ l := fun _ h => h
theorem subT {x : Addr × Obj} {l L : List (Addr × Obj)} (t : ∀ q ∈ l, q ∈ L) : ∀ q ∈ l, q ∈ x :: L := fun q h => .tail _ (t q h)
theorem subC {x : Addr × Obj} {l L : List (Addr × Obj)} (h : x ∈ L) (t : ∀ q ∈ l, q ∈ L) : ∀ q ∈ x :: l, q ∈ L := List.forall_mem_cons.mpr ⟨h, t⟩
theorem opq {p : Prop} (h : ∀ G : Prop, (p → G) → G) : p := h p id
theorem joinB {α : Type} {M : Model} {A : Around} {t : Sem α} {Q : α → Shared → Prop} {E : Value → Shared → Prop} {s : Shared} (P : α → Shared → Prop) (h1 : wpAny M A t P E s) (h2 : ∀ c s', P c s' → Q c s') : wpAny M A t Q E s := wpAny_mono h1 h2 fun _ _ e => e
/-- while this stands, a join is not made again -/
structure Mark : Prop where
theorem depth_room {dp k N : Nat} (h : dp + k < N) : dp < N := Nat.lt_of_le_of_lt (Nat.le_add_right _ _) h
theorem size_ready {vs : List Value} {N : Nat} (h : vs.length ≤ N) (hN : N ≤ 16777216 := by decide) : Array.size (Array.mk vs) ≤ sizeLine := by
  rw [sizeLine_eq]; exact Nat.le_trans h hN
theorem le_step {p q N M : Int} (h : q ≤ p + 1) (h2 : p ≤ N) (h3 : N + 1 ≤ M := by decide) : q ≤ M := Int.le_trans h (Int.le_trans (Int.add_le_add_right h2 1) h3)
theorem room_of {dp b n d N : Nat} (h : dp + b < N) (e : n + d ≤ b) : dp + n + d < N := by (first | with_reducible assumption | lia | omega)
theorem fresh1 : True := by
  w_top off
  trivial
abbrev P0 : Program := PySem.Challenge.rw_pb0322_01.row.prog
abbrev tup (l : List Value) : Obj := { cls := .type "tuple", data := .seq l.toArray }
abbrev lst (l : List Value) (n : Nat) : Obj := listOf l.toArray n

/-- the contract of a def of the text: from any frame of a def, whatever the ledger, the call comes back with Post of the value and of the new ledger -/
def Ctr (w : World) (f : Addr) (args : List Value) (dn un₀ : Nat) (news : Lg) (Post : Value → Lg → Prop) : Prop :=
  ∀ (mean : ExcName → Option Value) (mg mb : Str → Option Value) (dp un : Nat) (gd : Option (List Code)) (cn : Str) (cs : Scope) (a : Addr) (ccd : Value) (cl : List (Str × Addr)) (outer : List Env) (A₀ : Around) (base h₀ : Heap) (L : Addr) (m : Str → Option Value) (s : Shared) (Q E : Value → Shared → Prop),
    Below A₀ base outer h₀ → Fr h₀ L s.heap m → (hd.heap_39 w.params).In h₀ → News h₀ L s.heap news → Top hd.view_39 (looseW hd.view_39 []) mean mg mb h₀ → cs.kind = .function → dp + dn < recursionLimit → un + un₀ < cLine →
    (∀ r nw h' tk', Fr h₀ L h' m → News h₀ L h' nw → Post r nw → Q r { s with heap := h', toks := tk' }) →
    wpAny (model P0 w) (ktrTop dp un gd cn cs L a ccd cl outer) (call (.ref f) args) Q E s

theorem Ctr.use {w : World} {f : Addr} {args : List Value} {dn un₀ : Nat} {news : Lg} {Post : Value → Lg → Prop} (C : Ctr w f args dn un₀ news Post)
    {mean : ExcName → Option Value} {mg mb : Str → Option Value} {dp un : Nat} {gd : Option (List Code)} {cn : Str} {cs : Scope} {a : Addr} {ccd : Value} {cl : List (Str × Addr)} {outer : List Env} {A₀ : Around} {base h₀ : Heap} {L : Addr} {m : Str → Option Value} {s : Shared} {Q E : Value → Shared → Prop}
    (B : Below A₀ base outer h₀) (F : Fr h₀ L s.heap m) (X : (hd.heap_39 w.params).In h₀) (N : News h₀ L s.heap news) (T : Top hd.view_39 (looseW hd.view_39 []) mean mg mb h₀) (hk : cs.kind = .function)
    (hd : dp + dn < recursionLimit) (hu : un + un₀ < cLine)
    (ret : ∀ r nw h' tk', Fr h₀ L h' m → News h₀ L h' nw → Post r nw → Q r { s with heap := h', toks := tk' }) :
    wpAny (model P0 w) (ktrTop dp un gd cn cs L a ccd cl outer) (call (.ref f) args) Q E s :=
  C _ _ _ _ _ _ _ _ _ _ _ _ _ _ _ _ _ _ _ _ B F X N T hk hd hu ret

inductive RowK where
  | inp | add | out
structure Row where
  k : RowK
  a : Int
  b : Int
  c : Int
def RowK.text : RowK → Str
  | .inp => Str.ofString "in"
  | .add => Str.ofString "add"
  | .out => Str.ofString "out"

/-- the values are references to row tuples -/
inductive RowsRel (news : Lg) : List Value → List Row → Prop
  | nil : RowsRel news [] []
  | cons {p : Addr} {k : RowK} {a b c : Int} {t0 t1 t2 t3 : Tok} {vs : List Value} {rs : List Row} : (p, tup [.str k.text t0, .int a t1, .int b t2, .int c t3]) ∈ news → RowsRel news vs rs → RowsRel news (.ref p :: vs) (⟨k, a, b, c⟩ :: rs)
def RowsAt (news : Lg) (l : Addr) (rs : List Row) : Prop := ∃ vs nn, (l, lst vs nn) ∈ news ∧ RowsRel news vs rs ∧ vs.length = rs.length ∧ rs.length ≤ 50

/-- a dict of lives: name to (first, last) -/
inductive LvRel (news : Lg) : List (Int × Value) → List (Int × Int × Int) → Prop
  | nil : LvRel news [] []
  | cons {a : Addr} {v f l : Int} {t t' : Tok} {r c} : (a, tup [.int f t, .int l t']) ∈ news → LvRel news r c → LvRel news ((v, .ref a) :: r) ((v, f, l) :: c)
structure LivesAt (w : World) (news : Lg) (d : Addr) (o : Obj) (kvs : List (Int × Value)) (ivs : List (Int × Int × Int)) : Prop where
  mem : (d, o) ∈ news
  lo : (d == sysModules) = false
  dict : o.IsDictOf (intKind P0 w) kvs
  rel : LvRel news kvs ivs

theorem RowsRel.mono {news news' : Lg} {vs : List Value} {rs : List Row} (h : RowsRel news vs rs) (hs : ∀ p ∈ news, p ∈ news') : RowsRel news' vs rs := by
  induction h with
  | nil => exact .nil
  | cons hm _ ih => exact .cons (hs _ hm) ih
theorem LvRel.mono {news news' : Lg} {vs : List (Int × Value)} {rs : List (Int × Int × Int)} (h : LvRel news vs rs) (hs : ∀ p ∈ news, p ∈ news') : LvRel news' vs rs := by
  induction h with
  | nil => exact .nil
  | cons hm _ ih => exact .cons (hs _ hm) ih
theorem LvRel.length {news : Lg} {vs : List (Int × Value)} {rs : List (Int × Int × Int)} (h : LvRel news vs rs) : vs.length = rs.length := by
  induction h with
  | nil => rfl
  | cons _ _ ih => simp [ih]
theorem LvRel.keys {news : Lg} {vs : List (Int × Value)} {rs : List (Int × Int × Int)} (h : LvRel news vs rs) : vs.map (·.1) = rs.map (·.1) := by
  induction h with
  | nil => rfl
  | cons _ _ ih => simp [ih]
/-- the life of a name -/
def lifeOf (ivs : List (Int × Int × Int)) (v : Int) : Option (Int × Int) := (ivs.find? fun p => decide (p.1 = v)).map (·.2)
theorem LvRel.look {news : Lg} {vs : List (Int × Value)} {rs : List (Int × Int × Int)} (h : LvRel news vs rs) {v f l : Int} (e : lifeOf rs v = some (f, l)) :
    ∃ a t t', valueAt vs v = some (.ref a) ∧ (a, tup [.int f t, .int l t']) ∈ news := by
  induction h with
  | nil => simp [lifeOf] at e
  | @cons a v' f' l' t t' r c hm _ ih =>
    by_cases hv : v' = v
    · subst hv
      simp [lifeOf] at e
      obtain ⟨rfl, rfl⟩ := e
      exact ⟨a, t, t', by simp [valueAt], hm⟩
    · have e' : lifeOf c v = some (f, l) := by simpa [lifeOf, hv] using e
      obtain ⟨b, u, u', h1, h2⟩ := ih e'
      exact ⟨b, u, u', by simpa [valueAt, hv] using h1, h2⟩

theorem LvRel.at {news : Lg} {vs : List (Int × Value)} {rs : List (Int × Int × Int)} (h : LvRel news vs rs) : ∀ {i : Nat} {k : Int} {u : Value}, vs[i]? = some (k, u) →
    ∃ f l a t t', rs[i]? = some (k, f, l) ∧ u = .ref a ∧ (a, tup [.int f t, .int l t']) ∈ news := by
  induction h with
  | nil => intro i k u e; simp at e
  | @cons a v f l t t' r c hm _ ih =>
    intro i k u e
    cases i with
    | zero =>
      simp at e
      obtain ⟨rfl, rfl⟩ := e
      exact ⟨f, l, a, t, t', by simp, rfl, hm⟩
    | succ i =>
      obtain ⟨f', l', a', u1, u2, h1, h2, h3⟩ := ih (by simpa using e)
      exact ⟨f', l', a', u1, u2, by simpa using h1, h2, h3⟩
theorem LivesAt.at {w : World} {news : Lg} {d : Addr} {o : Obj} {kvs : List (Int × Value)} {ivs : List (Int × Int × Int)} (h : LivesAt w news d o kvs ivs) {i : Nat} {k : Int} {u : Value} (e : kvs[i]? = some (k, u)) :
    ∃ f l a t t', ivs[i]? = some (k, f, l) ∧ valueAt kvs k = some (.ref a) ∧ (a, tup [.int f t, .int l t']) ∈ news := by
  obtain ⟨f, l, a, t, t', h1, rfl, h3⟩ := h.rel.at e
  obtain ⟨es, ep, _, _, _, _, hn⟩ := h.dict
  exact ⟨f, l, a, t, t', h1, valueAt_of_get hn e, h3⟩
theorem LivesAt.mono {w : World} {news news' : Lg} {d : Addr} {o : Obj} {kvs : List (Int × Value)} {ivs : List (Int × Int × Int)} (h : LivesAt w news d o kvs ivs) (hs : ∀ p ∈ news, p ∈ news') : LivesAt w news' d o kvs ivs :=
  ⟨hs _ h.mem, h.lo, h.dict, h.rel.mono hs⟩
theorem fresh2 : True := by
  w_top off
  trivial
theorem gen_toks {α : Type} {M : Model} {A : Around} {t : Sem α} {Q : α → Shared → Prop} {E : Value → Shared → Prop} {h : Heap} {g : Array GenState} {d : Drawn} {X : Nat} {os : OsState} (H : ∀ tk, wpAny M A t Q E ⟨h, g, d, tk, os⟩) : wpAny M A t Q E ⟨h, g, d, X, os⟩ := H X
section
variable {prog : Program} {w : World} {A : Around} {E : Value → Shared → Prop} {s : Shared} {h₀ : Heap} {L x : Addr} {news : Lg}
theorem tup_item {value slice : Expr} {l : List Value} {k : Int} {u : Tok} {j : Nat} {v : Value} {Q : Value → Shared → Prop} (N : News h₀ L s.heap news) (hm : (x, tup l) ∈ news)
    (hlo : -(2 ^ 63) ≤ k) (hhi : k < 2 ^ 63) (hj : seqIndex? k l.length = some j) (hx : l[j]? = some v) (h : Q v s)
    (hs : subscripted slice false (.ref x) (.int k u) = operate [.ref x, .int k u] (getItem (.ref x) (.int k u)) := by with_unfolding_all rfl) :
    wpAny (model prog w) A (subscriptTail value slice (.ref x) (.int k u)) Q E s := item_tupleT ⟨_, (N _ hm).1, rfl, 0, rfl⟩ hlo hhi hj hx h hs
theorem len_L {l : Addr} {vs : List Value} {nn : Nat} {Q : Value → Shared → Prop} (N : News h₀ L s.heap news) (hm : (l, lst vs nn) ∈ news) (hb : vs.length < 2 ^ 60) (h : ∀ t, Q (.int (vs.length : Int) t) { s with toks := s.toks + 1 + 1 }) :
    wpAny (model prog w) A (call (.builtin "len") [.ref l]) Q E s :=
  call_len_list (items := vs.toArray) (News.isList N hm) (by rw [List.size_toArray]; (first | with_reducible assumption | lia | omega)) (by rw [List.size_toArray]; exact h _)
theorem lst_item {value slice : Expr} {l : Addr} {vs : List Value} {nn i : Nat} {u : Tok} {v : Value} {Q : Value → Shared → Prop} (N : News h₀ L s.heap news) (hm : (l, lst vs nn) ∈ news) (hx : vs[i]? = some v) (hb : vs.length < 2 ^ 60) (h : Q v s)
    (hs : subscripted slice false (.ref l) (.int (i : Int) u) = operate [.ref l, .int (i : Int) u] (getItem (.ref l) (.int (i : Int) u)) := by with_unfolding_all rfl) (hg : ∀ r, letTemporaryGo value (.ref l) r = pure () := by intro _; with_unfolding_all rfl) :
    wpAny (model prog w) A (subscriptTail value slice (.ref l) (.int (i : Int) u)) Q E s :=
  item_listL (k := (i : Int)) (News.isList N hm) (by (first | with_reducible assumption | lia | omega)) (by have := (List.getElem?_eq_some_iff.mp hx).1; (first | with_reducible assumption | lia | omega)) (by simpa using hx) h hs hg
theorem lst_itemZ {value slice : Expr} {l : Addr} {vs : List Value} {nn : Nat} {k : Int} {u : Tok} {v : Value} {Q : Value → Shared → Prop} (N : News h₀ L s.heap news) (hm : (l, lst vs nn) ∈ news) (h0 : 0 ≤ k) (hx : vs[k.toNat]? = some v) (hb : vs.length < 2 ^ 60) (h : Q v s)
    (hs : subscripted slice false (.ref l) (.int k u) = operate [.ref l, .int k u] (getItem (.ref l) (.int k u)) := by with_unfolding_all rfl) (hg : ∀ r, letTemporaryGo value (.ref l) r = pure () := by intro _; with_unfolding_all rfl) :
    wpAny (model prog w) A (subscriptTail value slice (.ref l) (.int k u)) Q E s :=
  item_listL (News.isList N hm) h0 (by have := (List.getElem?_eq_some_iff.mp hx).1; (first | with_reducible assumption | lia | omega)) hx h hs hg
theorem dict_set {d : Addr} {o : Obj} {g : Obj → Lg} {m : Str → Option Value} {kvs : List (Int × Value)} {k : Int} {t : Tok} {v : Value} {Q : Unit → Shared → Prop} (F : Fr h₀ L s.heap m) (N : News h₀ L s.heap news) (U : UpdF d o news g) (hd : o.IsDictOf (intKind prog w) kvs) (hsz : kvs.length < 2 ^ 20)
    (h : ∀ h' o', Fr h₀ L h' m → News h₀ L h' (g o') → o'.IsDictOf (intKind prog w) (stored kvs k v) → Q () { s with heap := h', toks := s.toks + 1 }) : wpAny (model prog w) A (setItem (.ref d) (.int k t) v) Q E s :=
  kda_set (knd := intKind prog w) F N U hd (intKind_is _ _ _ _) (by rw [sizeLine_eq]; (first | with_reducible assumption | lia | omega)) h
theorem dict_item {value slice : Expr} {d : Addr} {o : Obj} {kvs : List (Int × Value)} {k : Int} {t : Tok} {v : Value} {Q : Value → Shared → Prop} (N : News h₀ L s.heap news) (hp : (d, o) ∈ news) (hd : o.IsDictOf (intKind prog w) kvs) (hl : valueAt kvs k = some v) (h : Q v { s with toks := s.toks + 1 })
    (hs : subscripted slice false (.ref d) (.int k t) = operate [.ref d, .int k t] (getItem (.ref d) (.int k t)) := by with_unfolding_all rfl) (hg : ∀ r, letTemporaryGo value (.ref d) r = pure () := by intro _; with_unfolding_all rfl) :
    wpAny (model prog w) A (subscriptTail value slice (.ref d) (.int k t)) Q E s := kda_item (knd := intKind prog w) N hp hd (intKind_is _ _ _ _) hl h hs hg
theorem range_L {m : Str → Option Value} {Q : Value → Shared → Prop} {n : Int} {t : Tok} (F : Fr h₀ L s.heap m) (N : News h₀ L s.heap news)
    (h : ∀ h' tk t₁ u₁ v₁ r, IsRange h' r 0 n 1 t₁ u₁ v₁ → Fr h₀ L h' m → News h₀ L h' news → Q (.ref r) { s with heap := h', toks := tk }) :
    wpAny (model prog w) A (call (.type "range") [.int n t]) Q E s := range1_rows F N fun h' tk a b c hr F' N' _ => h h' tk a b c _ hr F' N'
theorem for_range0 {env : Env} {x : Str} {body : List Stmt} {Q : Flow → Shared → Prop} {r : Addr} {b₀ : Int} {t₀ u₀ v₀ : Tok} {n : Nat} {m₀ : Str → Option Value} (J : Nat → (Str → Option Value) → Lg → Prop)
    (hh : A.handled = none) (hr : IsRange s.heap r 0 b₀ 1 t₀ u₀ v₀) (hn : b₀ = (n : Int)) (hsm : n < 2 ^ 60) (F : Fr h₀ env.locals s.heap m₀) (N : News h₀ env.locals s.heap news) (hj : J 0 m₀ news)
    (turn : ∀ I oI, AllLt I news → ∀ (i : Nat) t m₁ nx h tk, i < n → J i m₁ nx → AllNe I nx → Fr h₀ env.locals h (fun y => if y = x then some (.int (i : Int) t) else m₁ y) → News h₀ env.locals h ((I, oI) :: nx) →
      wpAny (model prog w) A (execs body env) (TurnPost h₀ env.locals (J (i + 1)) I oI { s with heap := h, toks := tk } Q) E { s with heap := h, toks := tk })
    (done : ∀ m₁ nx h tk, J n m₁ nx → Fr h₀ env.locals h m₁ → News h₀ env.locals h nx → Q .next { s with heap := h, toks := tk }) :
    wpAny (model prog w) A (pyIter (.ref r)) (fun it s₂ => LoopAtV prog w A h₀ env x body Q E it s₂) E s := by
  refine for_range (n := n) J hh hr (small_one (by (first | with_reducible assumption | lia | omega)) (by (first | with_reducible assumption | lia | omega)) (by (first | with_reducible assumption | lia | omega)) (by (first | with_reducible assumption | lia | omega))) (by rw [rangeSize_one]; split <;> (first | with_reducible assumption | lia | omega)) F N hj ?_ done
  intro I oI hI i t m₁ nx h tk hi hJ ho F1 N1
  rw [Int.zero_add] at F1
  exact turn I oI hI i t m₁ nx h tk hi hJ ho F1 N1
end
section
variable {M : Model} {A : Around} {E : Value → Shared → Prop} {s : Shared} {K : Frag} {h₀ : Heap} {L a : Addr} {m mg mb : Str → Option Value} {news : Lg} {cn : Str} {cs : Scope} {ccd : Value} {p : Program} {loose : List Str} {x : Str} {pos : Pos} {v : Value} {o : Obj} {c : Addr} {Q : Value → Shared → Prop}
theorem nC_L (hx : (envOfC cn cs L a ccd).kindOf x = some .local) (hk : cs.kind = .function) (hd : (x == ("__debug__" : Str)) = false) (F : Fr h₀ L s.heap m) (hv : m x = some v) (h : Q v s) : wpAny M A (eval (.Name x pos) (envOfC cn cs L a ccd)) Q E s :=
  PySem.W.nameX_L (cl := cellsFrom (L + 1) cs.names []) F hv h hk hx hd
theorem nC_C (hx : (envOfC cn cs L a ccd).kindOf x = some .cell) (hk : cs.kind = .function) (hb : (x == ("__debug__" : Str)) = false) (hc : (cellsFrom (L + 1) cs.names []).lookup x = some c) (N : News h₀ L s.heap news) (hm : (c, o) ∈ news) (hd : o.data = .cell (some v)) (h : Q v s) : wpAny M A (eval (.Name x pos) (envOfC cn cs L a ccd)) Q E s :=
  PySem.W.nameX_C N hc hm hd h hk hx hb
theorem nC_K (hx : (envOfC cn cs L a ccd).kindOf x = some .globalImplicit) (hk : cs.kind = .function) (hd : (x == ("__debug__" : Str)) = false) (F : Fr h₀ L s.heap m) (X : K.In h₀) (T : PySem.W.TopRead p loose mg mb h₀) (e : PySem.W.nsIn K mainGlobals x = some (some v)) (h : Q v s) : wpAny M A (eval (.Name x pos) (envOfC cn cs L a ccd)) Q E s :=
  PySem.W.nameX_K (cl := cellsFrom (L + 1) cs.names []) F X T e h hk hx hd
theorem nC_B (hx : (envOfC cn cs L a ccd).kindOf x = some .globalImplicit) (hk : cs.kind = .function) (hd : (x == ("__debug__" : Str)) = false) (F : Fr h₀ L s.heap m) (X : K.In h₀) (T : PySem.W.TopRead p loose mg mb h₀) (e : PySem.W.nsIn K mainGlobals x = some none) (hv : bootBuiltins x = some v) (hn : x ≠ "__name__") (h : Q v s) : wpAny M A (eval (.Name x pos) (envOfC cn cs L a ccd)) Q E s :=
  PySem.W.nameX_B (cl := cellsFrom (L + 1) cs.names []) F X T e hv hn h hk hx hd
end
theorem word_ne : True := by
  k_with "my pick" => (with_reducible rename _ ∧ _ => hh; first
  | with_reducible (first | exact hh.1 | exact Ne.symm hh.1 | exact Nat.ne_of_gt hh.1 | exact Nat.ne_of_lt hh.1 | exact hh.2.1 | exact Ne.symm hh.2.1 | exact Nat.ne_of_gt hh.2.1 | exact Nat.ne_of_lt hh.2.1 | exact hh.2.2.1 | exact Ne.symm hh.2.2.1 | exact Nat.ne_of_gt hh.2.2.1 | exact Nat.ne_of_lt hh.2.2.1 | exact hh.2.2.2.1 | exact Ne.symm hh.2.2.2.1 | exact Nat.ne_of_gt hh.2.2.2.1 | exact Nat.ne_of_lt hh.2.2.2.1 | exact hh.2.2.2.2.1 | exact Ne.symm hh.2.2.2.2.1 | exact Nat.ne_of_gt hh.2.2.2.2.1 | exact Nat.ne_of_lt hh.2.2.2.2.1 | exact hh.2.2.2.2.2.1 | exact Ne.symm hh.2.2.2.2.2.1 | exact Nat.ne_of_gt hh.2.2.2.2.2.1 | exact Nat.ne_of_lt hh.2.2.2.2.2.1 | exact hh.2.2.2.2.2.2.1 | exact Ne.symm hh.2.2.2.2.2.2.1 | exact Nat.ne_of_gt hh.2.2.2.2.2.2.1 | exact Nat.ne_of_lt hh.2.2.2.2.2.2.1 | exact hh.2.2.2.2.2.2.2.1 | exact Ne.symm hh.2.2.2.2.2.2.2.1 | exact Nat.ne_of_gt hh.2.2.2.2.2.2.2.1 | exact Nat.ne_of_lt hh.2.2.2.2.2.2.2.1 | exact hh.2.2.2.2.2.2.2.2.1 | exact Ne.symm hh.2.2.2.2.2.2.2.2.1 | exact Nat.ne_of_gt hh.2.2.2.2.2.2.2.2.1 | exact Nat.ne_of_lt hh.2.2.2.2.2.2.2.2.1 | exact hh.2.2.2.2.2.2.2.2.2.1 | exact Ne.symm hh.2.2.2.2.2.2.2.2.2.1 | exact Nat.ne_of_gt hh.2.2.2.2.2.2.2.2.2.1 | exact Nat.ne_of_lt hh.2.2.2.2.2.2.2.2.2.1 | exact hh.2.2.2.2.2.2.2.2.2.2.1 | exact Ne.symm hh.2.2.2.2.2.2.2.2.2.2.1 | exact Nat.ne_of_gt hh.2.2.2.2.2.2.2.2.2.2.1 | exact Nat.ne_of_lt hh.2.2.2.2.2.2.2.2.2.2.1)
  | (clear hh; k_extra "my pick"))
  k_with "my pickA" => (with_reducible rename _ ∧ _ => hh; first
  | with_reducible (first | exact hh.2 | exact AllLt.ne hh.2 | exact hh.2.2 | exact AllLt.ne hh.2.2 | exact hh.2.2.2 | exact AllLt.ne hh.2.2.2 | exact hh.2.2.2.2 | exact AllLt.ne hh.2.2.2.2 | exact hh.2.2.2.2.2 | exact AllLt.ne hh.2.2.2.2.2 | exact hh.2.2.2.2.2.2 | exact AllLt.ne hh.2.2.2.2.2.2 | exact hh.2.2.2.2.2.2.2 | exact AllLt.ne hh.2.2.2.2.2.2.2 | exact hh.2.2.2.2.2.2.2.2 | exact AllLt.ne hh.2.2.2.2.2.2.2.2 | exact hh.2.2.2.2.2.2.2.2.2 | exact AllLt.ne hh.2.2.2.2.2.2.2.2.2 | exact hh.2.2.2.2.2.2.2.2.2.2 | exact AllLt.ne hh.2.2.2.2.2.2.2.2.2.2)
  | (clear hh; k_extra "my pickA"))
  k_with "my ne" => ((try dsimp only); (first | refine neN ?_ | refine ltN ?_ | skip); first
  | assumption
  | exact Ne.symm (by assumption)
  | exact Nat.ne_of_gt (by assumption)
  | exact Nat.ne_of_lt (by assumption)
  | k_extra "my pick"
  | ((repeat ((with_reducible rename _ ∧ _ => hh); cases hh)); first | ((repeat ((with_reducible rename @Ne Nat _ _ => hx); clear hx)); (first | with_reducible assumption | lia | omega)) | (first | with_reducible assumption | lia | omega)))
  trivial
local macro_rules | `(tactic| k_ne) => `(tactic| k_extra "my ne")
theorem word_all : True := by
  k_with "my all" => first
  | exact List.forall_mem_nil _
  | assumption
  | exact True.intro
  | k_extra "my pickA"
  | ((with_reducible refine' List.forall_mem_cons.mpr ⟨?zza, ?zzb⟩); (case zza => k_ne); (case zzb => k_all))
  | ((with_reducible refine' AllLt_cons ?zza ?zzb); (case zza => k_ne); (case zzb => k_all))
  | ((with_reducible refine' AllNe_cons ?zza ?zzb); (case zza => k_ne); (case zzb => k_all))
  | (refine AllNe_all ?_; first | assumption | k_extra "my pickA")
  | (refine AllLt_all ?_; first | assumption | k_extra "my pickA")
  | ((try first | (with_reducible refine AllLt_of ?_) | (with_reducible refine AllNe_of ?_)); (repeat ((with_reducible rename _ ∧ _ => hh); cases hh)); intro pA hA; (repeat ((with_reducible rename AllLt _ _ => hq); first | (have hr := AllLt_all hq pA hA; clear hq) | clear hq)); (repeat ((with_reducible rename AllNe _ _ => hq); first | (have hr := AllNe_all hq pA hA; clear hq) | clear hq)); k_ne)
  trivial
local macro_rules | `(tactic| k_all) => `(tactic| k_extra "my all")
local macro_rules | `(tactic| k_lt $h) => `(tactic| (replace $h := allLt_of $h; (try simp only [AllLt, and_true] at $h:ident)))
theorem word_mem : True := by
  k_with "my mem" => first | with_reducible assumption | exact List.Mem.head _ | (refine' List.Mem.tail _ ?_; k_mem) | assumption
  trivial
local macro_rules | `(tactic| k_mem) => `(tactic| k_extra "my mem")
theorem word_sub : True := by
  k_with "my sub" => first
  | with_reducible exact subR
  | ((with_reducible refine' subC ?zza ?zzb); (case zza => k_mem); (case zzb => k_extra "my sub"))
  | ((with_reducible refine subT ?_); k_extra "my sub")
  | with_reducible assumption
  trivial
theorem words1_31502 : True := by
  k_with "eval Name" => (k_here; (with_reducible show wpAny _ _ (eval (PySem.Expr.Name _ _) (envOf _ _ _ _ _)) _ _ _); k_dflt (refine' ld ?zzk1 ?zzk2 ?_; (case zzk1 => k_asm); (case zzk2 => first | exact rfl | assumption); k_whole))
  k_with "exec For Name Name cons nil" => (k_here; (rename Fr _ _ _ _ => lF'); (with_unfolding_all refine' For_invVF lF' ?zzk1 ?zzk2 ?_; (case zzk1 => exact rfl); (case zzk2 => exact rfl); k_whole))
  k_with "exec For Name Call cons nil" => (k_here; (rename Fr _ _ _ _ => lF'); (with_unfolding_all refine' For_invVF lF' ?zzk1 ?zzk2 ?_; (case zzk1 => exact rfl); (case zzk2 => exact rfl); k_whole))
  k_with "exec For Name Attribute cons nil" => (k_here; (rename Fr _ _ _ _ => lF'); (with_unfolding_all refine' For_invVF lF' ?zzk1 ?zzk2 ?_; (case zzk1 => exact rfl); (case zzk2 => exact rfl); k_whole))
  k_with "subscriptTail Name Name ref int" => (k_here; (with_reducible show wpAny _ _ (subscriptTail _ _ (Value.ref _) (Value.int _ _)) _ _ _); k_dflt (refine' dict_item ?zzN ?zzm ?zzd ?zzv ?_; (case zzN => k_asm); (case zzm => k_mem); (case zzd => with_reducible assumption); (case zzv => assumption); k_whole))
  trivial
theorem word_iter : True := by
  k_with "my iter" => (k_here; (with_reducible show wpAny _ _ (pyIter (Value.ref _)) _ _ _); refine Halt.out ?_)
  trivial
local macro_rules | `(tactic| walk_at "pyIter ref") => `(tactic| k_extra "my iter")
theorem words2_31502 : True := by
  k_with "setItem ref int" => (k_here; (with_reducible show wpAny _ _ (setItem (Value.ref _) (Value.int _ _) _) _ _ _); k_dflt (refine' dict_set ?zzF ?zzN ?zzU ?zzd ?zzz ?_; (case zzF => k_asm); (case zzN => k_asm); (case zzU => k_updF); (case zzd => k_asm); (case zzz => first | assumption | exact Nat.lt_of_le_of_lt (by assumption) (by decide) | (first | with_reducible assumption | lia | omega))); intro h' o' F' N' hd'; (try dsimp only at N'))
  k_with "newTuple" => (k_here; k_dflt (refine' kup_newTuple ?zzF ?zzN ?_ ?zzz; (case zzF => k_asm); (case zzN => k_asm); (case zzz => kmk_size)); intro D' h' F' N' l1; (try k_lt l1); (try k_sweep))
  k_with "call builtin:len" => (k_here; (with_reducible show wpAny _ _ (call (Value.builtin "len") [Value.ref _]) _ _ _); k_dflt (refine' len_L ?zzN ?zzm ?zzb ?_; (case zzN => k_asm); (case zzm => k_mem); (case zzb => first | assumption | exact Nat.lt_of_le_of_lt (by assumption) (by decide) | (first | with_reducible assumption | lia | omega)); k_whole; intro tL))
  k_with "call type:range" => (k_here; (with_reducible show wpAny _ _ (call (Value.type "range") [Value.int _ _]) _ _ _); k_dflt (refine' range_L ?zzF ?zzN ?_; (case zzF => k_asm); (case zzN => k_asm); k_whole; intro hR tR t1R t2R t3R rR hIR FR NR))
  k_with "subscriptTail Name Name ref int" => (k_here; (with_reducible show wpAny _ _ (subscriptTail _ _ (Value.ref _) (Value.int _ _)) _ _ _); k_dflt (first
  | ((with_reducible show wpAny _ _ (subscriptTail _ _ _ (Value.int (Nat.cast _) _)) _ _ _); refine' lst_item ?zzN ?zzm ?zzx ?zzb ?_; (case zzN => k_asm); (case zzm => k_mem); (case zzx => assumption); (case zzb => first | assumption | exact Nat.lt_of_le_of_lt (by assumption) (by decide) | (first | with_reducible assumption | lia | omega)); k_whole)
  | (refine' lst_itemZ ?zzN ?zzm ?zzz ?zzx ?zzb ?_; (case zzN => k_asm); (case zzm => k_mem); (case zzx => assumption); (case zzz => first | assumption | exact Nat.lt_of_le_of_lt (by assumption) (by decide) | (first | with_reducible assumption | lia | omega)); (case zzb => first | assumption | exact Nat.lt_of_le_of_lt (by assumption) (by decide) | (first | with_reducible assumption | lia | omega)); k_whole)))
  k_with "subscriptTail" => (k_here; (with_reducible show wpAny _ _ (subscriptTail _ (Expr.Constant _ _ _) (Value.ref _) (Value.int _ _)) _ _ _); k_dflt (refine' tup_item ?zzN ?zzm ?zza ?zzb ?zzc ?zzd ?_; (case zzN => k_asm); (case zzm => k_mem); (case zza => decide); (case zzb => decide); (case zzc => exact rfl); (case zzd => exact rfl)))
  k_with "loadName" => (k_here; k_dflt (refine' ldn ?zzk1 ?zzk2 ?_; (case zzk1 => k_asm); (case zzk2 => first | exact rfl | assumption); k_whole))
  k_with "TurnPost" => (dsimp only [TurnPost])
  k_with "execs cons" => (k_here; (try (refine gen_toks ?_; intro tkW)); (with_reducible refine wpAny_execs_cons ?_); try dsimp only)
  k_with "execs nil" => (k_here; (refine wpAny_execs_nil ?_))
  k_with "eval Name" => (k_here; (with_reducible show wpAny _ _ (eval (PySem.Expr.Name _ _) (envOfC _ _ _ _ _)) _ _ _); k_dflt (first
  | (refine' nC_L ?zzb ?zza ?zzd ?zzF ?zzv ?_; (case zzb => rfl); (case zza => rfl); (case zzd => decide); (case zzF => k_asm); (case zzv => first | exact rfl | assumption); k_whole)
  | (refine' nC_C ?zzb ?zza ?zzd ?zzc ?zzN ?zzm ?zze ?_; (case zzb => rfl); (case zza => rfl); (case zzd => decide); (case zzc => rfl); (case zzN => k_asm); (case zzm => k_mem); (case zze => with_reducible assumption); k_whole)
  | (refine' nC_K ?zzb ?zza ?zzd ?zzF ?zzX ?zzT ?zze ?_; (case zzb => rfl); (case zza => rfl); (case zzd => decide); (case zzF => k_asm); (case zzX => k_asm); (case zzT => k_asm); (case zze => k_is); k_whole)
  | (refine' nC_B ?zzb ?zza ?zzd ?zzF ?zzX ?zzT ?zze ?zzv ?zzn ?_; (case zzb => rfl); (case zza => rfl); (case zzd => decide); (case zzF => k_asm); (case zzX => k_asm); (case zzT => k_asm); (case zze => k_is); (case zzv => boot_fast); (case zzn => decide); k_whole)))
  trivial
theorem fresh3 : True := by
  w_top off
  trivial
def ListRes (l : List Int) (news : Lg) (r : Value) (nw : Lg) : Prop := (Xs3 fun x vs nn => (Cj4 (r = .ref x) (nw = (x, lst vs nn) :: news) (IntsAre vs l) (AllNe x news)))
set_option maxHeartbeats 1000000 in
theorem overlap_c {w : World} {news : Lg} {x y : Addr} {x0 x1 y0 y1 : Int} {t1 t2 t3 t4 : Tok}
    (hx : (x, tup [.int x0 t1, .int x1 t2]) ∈ news) (hy : (y, tup [.int y0 t3, .int y1 t4]) ∈ news) :
    Ctr w 49 [.ref x, .ref y] 1 8 news (fun r nw => nw = news ∧ r = .bool (decide (x0 ≤ y1) && decide (y0 ≤ x1))) := by
  intro mean mg mb dp un gd cn cs a ccd cl outer A₀ base h₀ L m s Q E B F X N T hk hd hu ret
  refine wpAny_call ?_
  k_dflt (refine' code_def (binds := [(PySem.Str.ofString "one", Value.ref x), (PySem.Str.ofString "other", Value.ref y)]) ?k1 ?k2 ?k3 ?k4 ?k5 ?kA ?kF ?kK ?k6 ?k7 ?k8 ?k9 ?kB ?_ ?c2 ?c3 ?c4 ?c5; (case kA => exact rfl); (case kF => exact rfl); (case kK => assumption); (case k1 => k_asm); (case k2 => k_asm); (case k3 => k_asm); (case k4 => k_asm); (case k5 => k_asm); (case k6 => k_is); (case k7 => k_is); (case k8 => first | exact depth_room (by assumption) | ktr_room); (case k9 => exact BindsTo.of_eq rfl); (case c5 => decide); (case kB => exact locs rfl); (case c2 => exact rfl); (case c3 => exact rfl); (case c4 => exact rfl); k_whole)
  intro gE LE hE FG' F' N' B' X' T'
  (try dsimp only)
  refine gen_E ?_
  k_steps
  all_goals
    refine ret _ _ _ _ (by k_asm) (by k_asm) ?_
    refine ⟨rfl, ?_⟩
    simp [*]
def definedOf (r : Row) : Int := match r.k with | .out => -1 | _ => r.a
def usedOf (r : Row) : List Int := match r.k with | .out => [r.b] | .inp => [] | .add => if r.b = r.c then [r.b] else [r.b, r.c]
set_option maxHeartbeats 1000000 in
theorem defined_c {w : World} {news : Lg} {p : Addr} {k : RowK} {a b c : Int} {t0 t1 t2 t3 : Tok}
    (hp : (p, tup [.str k.text t0, .int a t1, .int b t2, .int c t3]) ∈ news) :
    Ctr w 28 [.ref p] 1 8 news (fun r nw => ((nw = news) ∧ (∃ t, (r = .int (definedOf ⟨k, a, b, c⟩) t)))) := by
  intro mean mg mb dp un gd cn cs a ccd cl outer A₀ base h₀ L m s Q E B F X N T hk hd hu ret
  cases k <;> dsimp only [RowK.text] at hp
  all_goals
    refine wpAny_call ?_
    k_dflt (refine' code_def (binds := [(PySem.Str.ofString "row", Value.ref p)]) ?k1 ?k2 ?k3 ?k4 ?k5 ?kA ?kF ?kK ?k6 ?k7 ?k8 ?k9 ?kB ?_ ?c2 ?c3 ?c4 ?c5; (case kA => exact rfl); (case kF => exact rfl); (case kK => assumption); (case k1 => k_asm); (case k2 => k_asm); (case k3 => k_asm); (case k4 => k_asm); (case k5 => k_asm); (case k6 => k_is); (case k7 => k_is); (case k8 => first | exact depth_room (by assumption) | ktr_room); (case k9 => exact BindsTo.of_eq rfl); (case c5 => decide); (case kB => exact locs rfl); (case c2 => exact rfl); (case c3 => exact rfl); (case c4 => exact rfl); k_whole)
    intro gE LE hE FG' F' N' B' X' T'
    (try dsimp only)
    refine gen_E ?_
    k_steps
    refine ret _ _ _ _ (by k_asm) (by k_asm) ?_
    exact ⟨rfl, _, rfl⟩
set_option maxHeartbeats 1000000 in
theorem two_c {w : World} {news : Lg} : Ctr w 21 [] 1 8 news (fun r nw => (Xs8 fun (x : Addr) (u0 : Tok) (u1 : Tok) (u2 : Tok) (u3 : Tok) (u4 : Tok) (u5 : Tok) (u6 : Tok) => Xs4 fun (u7 : Tok) (u8 : Tok) (u9 : Tok) (u10 : Tok) => (Cj3 (r = .ref x) (nw = (x, tup [.str (PySem.Str.ofString "add") u0, .str (PySem.Str.ofString "sub") u1, .str (PySem.Str.ofString "mul") u2, .str (PySem.Str.ofString "and") u3, .str (PySem.Str.ofString "or") u4, .str (PySem.Str.ofString "xor") u5, .str (PySem.Str.ofString "shl") u6, .str (PySem.Str.ofString "asr") u7, .str (PySem.Str.ofString "ror") u8, .str (PySem.Str.ofString "less") u9, .str (PySem.Str.ofString "equal") u10]) :: news) (AllLt x news)))) := by
  intro mean mg mb dp un gd cn cs a ccd cl outer A₀ base h₀ L m s Q E B F X N T hk hd hu ret
  refine wpAny_call ?_
  k_dflt (refine' code_def (binds := []) ?k1 ?k2 ?k3 ?k4 ?k5 ?kA ?kF ?kK ?k6 ?k7 ?k8 ?k9 ?kB ?_ ?c2 ?c3 ?c4 ?c5; (case kA => exact rfl); (case kF => exact rfl); (case kK => assumption); (case k1 => k_asm); (case k2 => k_asm); (case k3 => k_asm); (case k4 => k_asm); (case k5 => k_asm); (case k6 => k_is); (case k7 => k_is); (case k8 => first | exact depth_room (by assumption) | ktr_room); (case k9 => exact BindsTo.of_eq rfl); (case c5 => decide); (case kB => exact locs rfl); (case c2 => exact rfl); (case c3 => exact rfl); (case c4 => exact rfl); k_whole)
  intro gE LE hE FG' F' N' B' X' T'
  (try dsimp only)
  refine gen_E ?_
  k_steps
  refine ret _ _ _ _ (by k_asm) (by k_asm) ?_
  exact ⟨_, _, _, _, _, _, _, _, _, _, _, _, rfl, rfl, by assumption⟩
theorem words3_31502 : True := by
  k_with "call ref" => (k_here; (with_reducible show wpAny _ _ (PySem.call (Value.ref 21) _) _ _ _); k_dflt (refine' Ctr.use (two_c) ?zzB ?zzF ?zzX ?zzN ?zzT ?zzhk ?zzhd ?zzhu ?_; (case zzF => k_asm); (case zzB => k_asm); (case zzX => k_asm); (case zzN => k_asm); (case zzT => k_asm); (case zzhk => first | exact rfl | assumption); (case zzhd => first | exact room_of (by assumption) (by decide) | ktr_room); (case zzhu => first | exact room_of (by assumption) (by decide) | ktr_units)); (intro rC nC hC kC FC NC PC); (refine opq ?_; intro GG hGG); (obtain ⟨x2, u0, u1, u2, u3, u4, u5, u6, u7, u8, u9, u10, er, en, hlt2⟩ := PC); (subst er); (subst en); (refine hGG ?_); (clear hGG GG); (try dsimp only); (try k_fold))
  trivial
set_option maxHeartbeats 1000000 in
theorem used_c {w : World} {news : Lg} {p : Addr} {k : RowK} {a b c : Int} {t0 t1 t2 t3 : Tok}
    (hp : (p, tup [.str k.text t0, .int a t1, .int b t2, .int c t3]) ∈ news) :
    Ctr w 35 [.ref p] 2 20 news (ListRes (usedOf ⟨k, a, b, c⟩) news) := by
  intro mean mg mb dp un gd cn cs a ccd cl outer A₀ base h₀ L m s Q E B F X N T hk hd hu ret
  cases k <;> dsimp only [RowK.text] at hp
  all_goals
    refine wpAny_call ?_
    k_dflt (refine' code_def (binds := [(PySem.Str.ofString "row", Value.ref p)]) ?k1 ?k2 ?k3 ?k4 ?k5 ?kA ?kF ?kK ?k6 ?k7 ?k8 ?k9 ?kB ?_ ?c2 ?c3 ?c4 ?c5; (case kA => exact rfl); (case kF => exact rfl); (case kK => assumption); (case k1 => k_asm); (case k2 => k_asm); (case k3 => k_asm); (case k4 => k_asm); (case k5 => k_asm); (case k6 => k_is); (case k7 => k_is); (case k8 => first | exact depth_room (by assumption) | ktr_room); (case k9 => exact BindsTo.of_eq rfl); (case c5 => decide); (case kB => exact locs rfl); (case c2 => exact rfl); (case c3 => exact rfl); (case c4 => exact rfl); k_whole)
    intro gE LE hE FG' F' N' B' X' T'
    (try dsimp only)
    refine gen_E ?_
    k_steps
  · rename Addr => xl
    refine ret _ ((xl, lst [] 0) :: news) _ _ (by k_asm) (News.sub (by k_asm) (by first | assumption | k_extra "my sub" | (intro pS hpS; first | exact hpS | exact .tail _ hpS | exact .tail _ (.tail _ hpS) | exact .tail _ (.tail _ (.tail _ hpS)) | (simp only [List.mem_cons, List.mem_append] at hpS ⊢; grind)))) ?_
    exact ⟨_, _, _, rfl, rfl, .nil, by k_all⟩
  · rename Addr => xl
    refine ret _ ((xl, lst [.int b t2] 0) :: news) _ _ (by k_asm) (News.sub (by k_asm) (by first | assumption | k_extra "my sub" | (intro pS hpS; first | exact hpS | exact .tail _ hpS | exact .tail _ (.tail _ hpS) | exact .tail _ (.tail _ (.tail _ hpS)) | (simp only [List.mem_cons, List.mem_append] at hpS ⊢; grind)))) ?_
    exact ⟨_, _, _, rfl, rfl, by rw [usedOf, if_pos (by assumption)]; exact .cons _ _ .nil, by k_all⟩
  · rename Addr => xl
    refine ret _ ((xl, lst [.int b t2, .int c t3] 0) :: news) _ _ (by k_asm) (News.sub (by k_asm) (by first | assumption | k_extra "my sub" | (intro pS hpS; first | exact hpS | exact .tail _ hpS | exact .tail _ (.tail _ hpS) | exact .tail _ (.tail _ (.tail _ hpS)) | (simp only [List.mem_cons, List.mem_append] at hpS ⊢; grind)))) ?_
    exact ⟨_, _, _, rfl, rfl, by rw [usedOf, if_neg (by assumption)]; exact .cons _ _ (.cons _ _ .nil), by k_all⟩
  · rename Addr => xl
    refine ret _ ((xl, lst [.int b t2] 0) :: news) _ _ (by k_asm) (News.sub (by k_asm) (by first | assumption | k_extra "my sub" | (intro pS hpS; first | exact hpS | exact .tail _ hpS | exact .tail _ (.tail _ hpS) | exact .tail _ (.tail _ (.tail _ hpS)) | (simp only [List.mem_cons, List.mem_append] at hpS ⊢; grind)))) ?_
    exact ⟨_, _, _, rfl, rfl, .cons _ _ .nil, by k_all⟩
theorem fresh4 : True := by
  w_top off
  trivial
def useAt (st : List (Int × Int × Int)) (v t : Int) : List (Int × Int × Int) := st.map fun p => if p.1 = v then (p.1, p.2.1, t) else p
def usesAt (st : List (Int × Int × Int)) (us : List Int) (t : Int) : List (Int × Int × Int) := us.foldl (fun st v => useAt st v t) st
def RowK.defs : RowK → Bool
  | .out => false
  | _ => true
def spansStep (st : List (Int × Int × Int)) (i : Int) (r : Row) : List (Int × Int × Int) :=
  usesAt st (usedOf r) (2 * i) ++ (if r.k.defs then [(r.a, 2 * i + 1, 2 * i + 1)] else [])
noncomputable def spansFrom (st : List (Int × Int × Int)) (i : Int) : List Row → List (Int × Int × Int)
  | [] => st
  | r :: rs => spansFrom (spansStep st i r) (i + 1) rs
noncomputable def spansOf (R : List Row) : List (Int × Int × Int) := spansFrom [] 0 R
def namesOf (R : List Row) : List Int := R.filterMap fun r => if r.k.defs then some r.a else none
/-- each row uses names that stand, and makes a new one -/
def WF (R : List Row) : Prop := ∀ i r, R[i]? = some r → (∀ u ∈ usedOf r, u ∈ namesOf (R.take i)) ∧ (r.k.defs = true → 0 ≤ r.a ∧ r.a ∉ namesOf (R.take i))
theorem spansFrom_append (A B : List Row) (st : List (Int × Int × Int)) (i : Int) : spansFrom st i (A ++ B) = spansFrom (spansFrom st i A) (i + A.length) B := by
  induction A generalizing st i with
  | nil => simp [spansFrom]
  | cons a A ih => simp only [List.cons_append, spansFrom, ih, List.length_cons]; congr 1; push_cast; (first | with_reducible assumption | lia | omega)
theorem spansOf_take {R : List Row} {i : Nat} {r : Row} (h : R[i]? = some r) : spansOf (R.take (i + 1)) = spansStep (spansOf (R.take i)) i r := by
  have hl := (List.getElem?_eq_some_iff.mp h).1
  unfold spansOf
  rw [List.take_add_one, h, Option.toList_some, spansFrom_append, List.length_take, Nat.min_eq_left (by (first | with_reducible assumption | lia | omega))]
  simp [spansFrom]
theorem useAt_names (st : List (Int × Int × Int)) (v t : Int) : (useAt st v t).map (·.1) = st.map (·.1) := by
  unfold useAt
  rw [List.map_map]
  apply List.map_congr_left
  intro p _
  by_cases h : p.1 = v <;> simp [h]
theorem usesAt_names (us : List Int) (st : List (Int × Int × Int)) (t : Int) : (usesAt st us t).map (·.1) = st.map (·.1) := by
  unfold usesAt
  induction us generalizing st with
  | nil => rfl
  | cons u us ih => rw [List.foldl_cons, ih, useAt_names]
theorem spansStep_names (st : List (Int × Int × Int)) (i : Int) (r : Row) : (spansStep st i r).map (·.1) = st.map (·.1) ++ namesOf [r] := by
  unfold spansStep namesOf
  rw [List.map_append, usesAt_names]
  cases h : r.k.defs <;> simp [h]
theorem namesOf_take {R : List Row} {i : Nat} {r : Row} (h : R[i]? = some r) : namesOf (R.take (i + 1)) = namesOf (R.take i) ++ namesOf [r] := by
  unfold namesOf
  rw [List.take_add_one, h, Option.toList_some, List.filterMap_append]
theorem spansFrom_names (R : List Row) (st : List (Int × Int × Int)) (i : Int) : (spansFrom st i R).map (·.1) = st.map (·.1) ++ namesOf R := by
  induction R generalizing st i with
  | nil => simp [spansFrom, namesOf]
  | cons r R ih =>
    rw [spansFrom, ih, spansStep_names, List.append_assoc]
    congr 1
    unfold namesOf
    rw [← List.filterMap_append]; rfl
theorem spansOf_names (R : List Row) : (spansOf R).map (·.1) = namesOf R := by
  rw [spansOf, spansFrom_names]; rfl
theorem namesOf_length (R : List Row) : (namesOf R).length ≤ R.length := List.length_filterMap_le _ _
theorem lifeOf_mem {st : List (Int × Int × Int)} {v : Int} (h : v ∈ st.map (·.1)) : ∃ f l, lifeOf st v = some (f, l) := by
  induction st with
  | nil => cases h
  | cons p st ih =>
    unfold lifeOf at ih ⊢
    by_cases hp : p.1 = v
    · exact ⟨p.2.1, p.2.2, by simp [hp]⟩
    · have : v ∈ st.map (·.1) := by
        rcases List.mem_cons.mp h with e | e
        · exact absurd e.symm hp
        · exact e
      refine opq ?_
      intro GG hGG
      obtain ⟨f, l, e⟩ := ih this
      refine hGG ?_
      clear hGG GG
      exact ⟨f, l, by simpa [hp] using e⟩
theorem lifeOf_only {st : List (Int × Int × Int)} {v f l : Int} (hn : (st.map (·.1)).Nodup) (h : lifeOf st v = some (f, l)) : ∀ p ∈ st, p.1 = v → p = (v, f, l) := by
  induction st with
  | nil => intro p hp; cases hp
  | cons q st ih =>
    rw [List.map_cons, List.nodup_cons] at hn
    intro p hp hv
    unfold lifeOf at h ih
    by_cases hq : q.1 = v
    · have e : q.2 = (f, l) := by simpa [hq] using h
      rcases List.mem_cons.mp hp with e' | hp
      · rw [e', ← hq, ← e]
      · exact absurd (List.mem_map.mpr ⟨p, hp, hv.trans hq.symm⟩) hn.1
    · rcases List.mem_cons.mp hp with e' | hp
      · exact absurd (e' ▸ hv) hq
      · exact ih hn.2 (by simpa [hq] using h) p hp hv
theorem LvRel.store {news : Lg} {kvs : List (Int × Value)} {st : List (Int × Int × Int)} (h : LvRel news kvs st) {v f T : Int} {a : Addr} {t t' : Tok} (hm : (a, tup [.int f t, .int T t']) ∈ news) (hf : ∀ p ∈ st, p.1 = v → p.2.1 = f) :
    LvRel news (kvs.map fun kv => if kv.1 = v then (kv.1, .ref a) else kv) (useAt st v T) := by
  induction h with
  | nil => exact .nil
  | @cons a' v' f' l' t1 t1' r c hm' _ ih =>
    have ih' := ih fun p hp => hf p (.tail _ hp)
    have h0 := hf (v', f', l') (.head _)
    unfold useAt at ih' ⊢
    simp only [List.map_cons]
    by_cases hv : v' = v
    · rw [if_pos hv, if_pos hv]
      have : f' = f := h0 hv
      subst this
      exact .cons hm ih'
    · rw [if_neg hv, if_neg hv]
      exact .cons hm' ih'
theorem LvRel.stored_ {news : Lg} {kvs : List (Int × Value)} {st : List (Int × Int × Int)} (h : LvRel news kvs st) {v f T : Int} {a : Addr} {t t' : Tok} (hm : (a, tup [.int f t, .int T t']) ∈ news) (hv : v ∈ st.map (·.1)) (hf : ∀ p ∈ st, p.1 = v → p.2.1 = f) :
    LvRel news (stored kvs v (.ref a)) (useAt st v T) := by
  unfold stored
  rw [if_pos]
  · exact h.store hm hf
  · rw [← h.keys] at hv
    refine opq ?_
    intro GG hGG
    obtain ⟨p, hp, e⟩ := List.mem_map.mp hv
    refine hGG ?_
    clear hGG GG
    exact List.any_eq_true.mpr ⟨p, hp, by simpa using e⟩
theorem LvRel.append {news : Lg} {kvs : List (Int × Value)} {st : List (Int × Int × Int)} (h : LvRel news kvs st) {v f T : Int} {a : Addr} {t t' : Tok} (hm : (a, tup [.int f t, .int T t']) ∈ news) :
    LvRel news (kvs ++ [(v, .ref a)]) (st ++ [(v, f, T)]) := by
  induction h with
  | nil => exact .cons hm .nil
  | cons hm' _ ih => exact .cons hm' ih
theorem LvRel.new_ {news : Lg} {kvs : List (Int × Value)} {st : List (Int × Int × Int)} (h : LvRel news kvs st) {v f T : Int} {a : Addr} {t t' : Tok} (hm : (a, tup [.int f t, .int T t']) ∈ news) (hv : v ∉ st.map (·.1)) :
    LvRel news (stored kvs v (.ref a)) (st ++ [(v, f, T)]) := by
  unfold stored
  rw [if_neg]
  · exact h.append hm
  · intro q
    refine opq ?_
    intro GG hGG
    obtain ⟨p, hp, e⟩ := List.any_eq_true.mp q
    refine hGG ?_
    clear hGG GG
    exact hv (by rw [← h.keys]; exact List.mem_map.mpr ⟨p, hp, by simpa using e⟩)
theorem ints_at {vs : List Value} {ns : List Int} (h : IntsAre vs ns) : ∀ {i : Nat} {v : Value}, vs[i]? = some v → ∃ n t, v = .int n t ∧ ns[i]? = some n := by
  induction h with
  | nil => intro i v e; simp at e
  | cons n t _ ih =>
    intro i v e
    cases i with
    | zero => exact ⟨n, t, by simpa using e.symm, by simp⟩
    | succ i =>
      refine opq ?_
      intro GG hGG
      obtain ⟨n', t', e1, e2⟩ := ih (by simpa using e)
      refine hGG ?_
      clear hGG GG
      exact ⟨n', t', e1, by simpa using e2⟩
theorem rows_at {news : Lg} {vs : List Value} {rs : List Row} (h : RowsRel news vs rs) : ∀ {i : Nat}, i < vs.length → ∃ p k a b c t0 t1 t2 t3, vs[i]? = some (.ref p) ∧ rs[i]? = some ⟨k, a, b, c⟩ ∧ (p, tup [.str k.text t0, .int a t1, .int b t2, .int c t3]) ∈ news := by
  induction h with
  | nil => intro i e; simp at e
  | @cons p k a b c t0 t1 t2 t3 vs rs hm _ ih =>
    intro i e
    cases i with
    | zero => exact ⟨p, k, a, b, c, t0, t1, t2, t3, by simp, by simp, hm⟩
    | succ i =>
      refine opq ?_
      intro GG hGG
      obtain ⟨p', k', a', b', c', u0, u1, u2, u3, e1, e2, e3⟩ := ih (by simpa using e)
      refine hGG ?_
      clear hGG GG
      exact ⟨p', k', a', b', c', u0, u1, u2, u3, by simpa using e1, by simpa using e2, e3⟩
theorem usesAt_take {us : List Int} {j : Nat} {u : Int} (h : us[j]? = some u) (st : List (Int × Int × Int)) (t : Int) : usesAt st (us.take (j + 1)) t = useAt (usesAt st (us.take j) t) u t := by
  unfold usesAt
  rw [List.take_add_one, h, List.foldl_append]; rfl
theorem words4_31502 : True := by
  k_with "call ref" => (k_here; (with_reducible show wpAny _ _ (PySem.call (Value.ref 28) _) _ _ _); k_dflt (refine' Ctr.use (defined_c ?zzm1) ?zzB ?zzF ?zzX ?zzN ?zzT ?zzhk ?zzhd ?zzhu ?_; (case zzF => k_asm); (case zzB => k_asm); (case zzX => k_asm); (case zzN => k_asm); (case zzT => k_asm); (case zzm1 => k_mem); (case zzhk => first | exact rfl | assumption); (case zzhd => first | exact room_of (by assumption) (by decide) | ktr_room); (case zzhu => first | exact room_of (by assumption) (by decide) | ktr_units)); (intro rC nC hC kC FC NC PC); (refine opq ?_; intro GG hGG); (obtain ⟨en, ud, er⟩ := PC); (subst er); (subst en); (refine hGG ?_); (clear hGG GG); (try dsimp only); (try k_fold))
  k_with "call ref" => (k_here; (with_reducible show wpAny _ _ (PySem.call (Value.ref 35) _) _ _ _); k_dflt (refine' Ctr.use (used_c ?zzm1) ?zzB ?zzF ?zzX ?zzN ?zzT ?zzhk ?zzhd ?zzhu ?_; (case zzF => k_asm); (case zzB => k_asm); (case zzX => k_asm); (case zzN => k_asm); (case zzT => k_asm); (case zzm1 => k_mem); (case zzhk => first | exact rfl | assumption); (case zzhd => first | exact room_of (by assumption) (by decide) | ktr_room); (case zzhu => first | exact room_of (by assumption) (by decide) | ktr_units)); (intro rC nC hC kC FC NC PC); (refine opq ?_; intro GG hGG); (obtain ⟨lu, vu, nu, er, en, hu2, hl2⟩ := PC); (subst er); (subst en); (refine hGG ?_); (clear hGG GG); (try dsimp only); (try k_fold))
  trivial
theorem LvRel.count {news : Lg} {kvs : List (Int × Value)} {R : List Row} {i : Nat} {us : List Int} {T : Int} (h : LvRel news kvs (usesAt (spansOf (R.take i)) us T)) (hi : i ≤ 100) : kvs.length ≤ 100 := by
  have e : (usesAt (spansOf (R.take i)) us T).map (·.1) = namesOf (R.take i) := by rw [usesAt_names, spansOf_names]
  have e2 := congrArg List.length e
  rw [List.length_map, ← h.length] at e2
  have := namesOf_length (R.take i)
  rw [List.length_take] at this
  (first | with_reducible assumption | lia | omega)
theorem LvRel.nd {w : World} {news : Lg} {o : Obj} {kvs : List (Int × Value)} {st : List (Int × Int × Int)} (h : LvRel news kvs st) (hd : o.IsDictOf (intKind P0 w) kvs) : (st.map (·.1)).Nodup := by
  refine opq ?_
  intro GG hGG
  obtain ⟨_, _, _, _, _, _, hn⟩ := hd
  refine hGG ?_
  clear hGG GG
  rw [← h.keys]; exact hn
def AllGt (d : Nat) (l : Lg) : Prop := ∀ p ∈ l, @LT.lt Nat _ d p.1
theorem AllGt.cons {d : Nat} {a : Addr} {o : Obj} {l : Lg} (h : @LT.lt Nat _ d a) (k : AllGt d l) : AllGt d ((a, o) :: l) := fun p hp => by
  rcases List.mem_cons.mp hp with rfl | hp
  · exact h
  · exact k p hp
theorem ne_app {d : Nat} {l k : Lg} (h : AllGt d l) (g : AllLt d k) : AllNe d (l ++ k) := AllNe_of fun p hp => by
  rcases List.mem_append.mp hp with hp | hp
  · exact Nat.ne_of_gt (h p hp)
  · exact Nat.ne_of_lt (AllLt_all g p hp)
theorem sub_app {q : Addr × Obj} {nx : Lg} (news : Lg) : ∀ p ∈ q :: nx, p ∈ q :: (nx ++ news) := fun p hp => by
  rcases List.mem_cons.mp hp with rfl | hp
  · exact .head _
  · exact .tail _ (List.mem_append_left _ hp)
set_option maxHeartbeats 1000000 in
theorem spans_c {w : World} {news : Lg} {rows : Addr} {R : List Row} (hr : RowsAt news rows R) (hwf : WF R) : Ctr w 42 [.ref rows] 4 40 news (fun r nw => (Xs4 fun d o kvs nx => (Cj5 (r = .ref d) (nw = (d, o) :: (nx ++ news)) (LivesAt w ((d, o) :: nx) d o kvs (spansOf R)) (AllLt d news) (AllGt d nx)))) := by
  intro mean mg mb dp un gd cn cs a ccd cl outer A₀ base h₀ L m s Q E B F X N T hk hd hu ret
  refine opq ?_
  intro GG hGG
  obtain ⟨vs, nn, hrm, hrr, hvl, hRl⟩ := hr
  refine hGG ?_
  clear hGG GG
  refine wpAny_call ?_
  k_dflt (refine' code_def (binds := [(PySem.Str.ofString "rows", Value.ref rows)]) ?k1 ?k2 ?k3 ?k4 ?k5 ?kA ?kF ?kK ?k6 ?k7 ?k8 ?k9 ?kB ?_ ?c2 ?c3 ?c4 ?c5; (case kA => exact rfl); (case kF => exact rfl); (case kK => assumption); (case k1 => k_asm); (case k2 => k_asm); (case k3 => k_asm); (case k4 => k_asm); (case k5 => k_asm); (case k6 => k_is); (case k7 => k_is); (case k8 => first | exact depth_room (by assumption) | ktr_room); (case k9 => exact BindsTo.of_eq rfl); (case c5 => decide); (case kB => exact locs rfl); (case c2 => exact rfl); (case c3 => exact rfl); (case c4 => exact rfl); k_whole)
  intro gE LE hE FG' F' N' B' X' T'
  (try dsimp only)
  refine gen_E ?_
  k_steps
  rename IsRange _ _ _ _ _ _ _ _ => R1
  rename (_ == sysModules) = false => hlo
  rename Obj.IsDictOf (intKind P0 w) _ _ => hD
  rename AllLt _ news => hdn
  rename Fr gE LE _ _ => F1
  rename News gE LE _ _ => N1
  refine opq ?_
  intro GG hGG
  obtain ⟨d, o, rfl, rfl⟩ := pick N1
  refine hGG ?_
  clear hGG GG
  refine Halt.mk ?_
  k_dflt (refine' for_range0 (fun i m nw => (Cj3 (m (PySem.Str.ofString "rows") = some (.ref rows)) (m (PySem.Str.ofString "found") = some (.ref d)) (Xs3 fun o kvs nx => (Cj4 (nw = (d, o) :: (nx ++ news)) (o.IsDictOf (intKind P0 w) kvs) (LvRel nx kvs (spansOf (R.take i))) (AllGt d nx))))) rfl R1 rfl (by (first | with_reducible assumption | lia | omega)) F1 N1 ⟨rfl, rfl, _, _, [], rfl, hD, .nil, (fun p hp => nomatch hp)⟩ ?_ ?_)
  · rintro I oI hI i t m₁ nw h tk hi hJJ
    refine opq ?_
    intro GG hGG
    obtain ⟨hm1, hm2, o, kvs, nx, rfl, hD1, hL, hgt⟩ := hJJ
    refine hGG ?_
    clear hGG GG
    intro ho F2 N2
    clear F1 N1
    (try (refine gen_T ?_; intro Qv Jv hJn))
    refine opq ?_
    intro GG hGG
    simp only [AllLt] at hI
    simp only [AllNe] at ho
    have hne := ne_app hgt hdn
    obtain ⟨p, k, a, b, c, t0, t1, t2, t3, ev, eR, hpm⟩ := rows_at hrr hi
    have hpm' := List.mem_append_right nx hpm
    have hrm' := List.mem_append_right nx hrm
    refine hGG ?_
    clear hGG GG
    k_steps
    rename Fr gE _ _ _ => F3
    rename News gE _ _ _ => N3
    rename IntsAre _ _ => hu2
    rename AllNe _ ((I, oI) :: _) => hl2
    refine opq ?_
    intro GG hGG
    obtain ⟨lu, vu, nu, rfl, rfl, rfl⟩ := pickL N3
    simp only [AllNe] at hl2
    have hL0 : LvRel nx kvs (usesAt (spansOf (R.take i)) ((usedOf ⟨k, a, b, c⟩).take 0) (2 * i)) := by rw [List.take_zero]; exact hL
    refine hGG ?_
    clear hGG GG
    refine Halt.mk ?_
    k_dflt (refine' for_list (fun j m nw => (Cj4 (m (PySem.Str.ofString "rows") = some (.ref rows)) (m (PySem.Str.ofString "found") = some (.ref d)) (m (PySem.Str.ofString "index") = some (.int i t)) (Xs3 fun o kvs nx => (Cj5 (nw = (lu, lst vu nu) :: (I, oI) :: (d, o) :: (nx ++ news)) (o.IsDictOf (intKind P0 w) kvs) (LvRel nx kvs (usesAt (spansOf (R.take i)) ((usedOf ⟨k, a, b, c⟩).take j) (2 * i))) (AllGt d nx) (AllNe I (nx ++ news)))))) rfl (.head _) F3 N3 ⟨hm1, hm2, rfl, _, _, _, rfl, hD1, hL0, hgt, ho.2⟩ ?_ ?_ ?_)
    · rintro j m nw ⟨_, _, _, _, _, _, rfl, _⟩; exact .head _
    · rintro I2 oI2 hI2 j v m₂ nw2 h2 tk2 hx hJJ
      refine opq ?_
      intro GG hGG
      obtain ⟨hn1, hn2, hn3, o2, kvs2, nx2, rfl, hD2, hL2, hgt2, hni2⟩ := hJJ
      refine hGG ?_
      clear hGG GG
      intro ho2 F4 N4
      clear F3 N3
      (try (refine gen_T ?_; intro Qv Jv hJn))
      refine opq ?_
      intro GG hGG
      simp only [AllLt] at hI2
      simp only [AllNe] at ho2
      have hne2 := ne_app hgt2 hdn
      obtain ⟨u, tu, rfl, eu⟩ := ints_at hu2 hx
      have hum : u ∈ (usesAt (spansOf (R.take i)) ((usedOf ⟨k, a, b, c⟩).take j) (2 * i)).map (·.1) := by rw [usesAt_names, spansOf_names]; exact (hwf i _ eR).1 u (List.mem_of_getElem? eu)
      obtain ⟨f, l, hlf⟩ := lifeOf_mem hum
      obtain ⟨al, t7, t8, hva, hma⟩ := hL2.look hlf
      replace hma := List.mem_append_left news hma
      have hcnt := hL2.count (by (first | with_reducible assumption | lia | omega))
      refine hGG ?_
      clear hGG GG
      k_steps
      rename Obj.IsDictOf _ _ (stored _ _ _) => hD3
      rename News gE _ _ _ => N5
      refine opq ?_
      intro GG hGG
      obtain ⟨xt, u1, u2, rfl, e1, e2⟩ := pickT N5
      rw [← e1, ← e2] at N5
      obtain ⟨o3, rfl⟩ := pickD hD3
      refine hGG ?_
      clear hGG GG
      refine TurnEnd.into hJn ((lu, lst vu nu) :: (I, oI) :: (d, o3) :: ((xt, tup [.int f u1, .int (2 * i) u2]) :: (nx2 ++ news))) (by k_asm) (by k_asm) (by k_mem) (by k_extra "my sub") ?_ ?_
      · k_all
      · refine ⟨hn1, hn2, hn3, o3, _, (xt, tup [.int f u1, .int (2 * i) u2]) :: nx2, rfl, hD3, ?_, hgt2.cons (by k_ne), by rw [List.cons_append]; k_all⟩
        rw [usesAt_take eu]
        exact (hL2.mono fun p hp => .tail _ hp).stored_ (.head _) hum fun p hp e => by rw [lifeOf_only (hL2.nd hD2) hlf p hp e]
    · rintro m₂ nw2 h2 tk2 hJJ
      refine opq ?_
      intro GG hGG
      obtain ⟨hn1, hn2, hn3, o2, kvs2, nx2, rfl, hD2, hL2, hgt2, hni2⟩ := hJJ
      refine hGG ?_
      clear hGG GG
      intro F4 N4
      clear F3 N3
      rw [hu2.length, List.take_length] at hL2
      have hne2 := ne_app hgt2 hdn
      have hcnt : kvs2.length ≤ 100 := hL2.count (by (first | with_reducible assumption | lia | omega))
      have hpm2 := List.mem_append_right nx2 hpm
      have hrm2 := List.mem_append_right nx2 hrm
      k_steps
      · rename (0 ≤ definedOf _) => hge
        have hdef : k.defs = true := by
          cases k <;> first | rfl | (exact absurd hge (by simp [definedOf]))
        have hda : definedOf ⟨k, a, b, c⟩ = a := by
          cases k <;> first | rfl | (exact absurd hge (by simp [definedOf]))
        rename Obj.IsDictOf _ _ (stored _ _ _) => hD3
        rename News gE _ _ _ => N5
        rw [hda] at hD3
        refine opq ?_
        intro GG hGG
        obtain ⟨xt, u1, u2, rfl, e1, e2⟩ := pickT N5
        rw [← e2, ← e1] at N5
        obtain ⟨o3, rfl⟩ := pickD hD3
        refine hGG ?_
        clear hGG GG
        refine TurnEnd.into hJn ((d, o3) :: ((xt, tup [.int (2 * i + 1) u1, .int (2 * i + 1) u2]) :: (nx2 ++ news))) (by k_asm) (by k_asm) (by k_mem) (by k_extra "my sub") ?_ ?_
        · k_all
        · refine ⟨hn1, hn2, o3, _, (xt, tup [.int (2 * i + 1) u1, .int (2 * i + 1) u2]) :: nx2, rfl, hD3, ?_, hgt2.cons (by k_ne)⟩
          rw [spansOf_take eR, spansStep, if_pos hdef]
          refine (hL2.mono fun p hp => .tail _ hp).new_ (.head _) ?_
          rw [usesAt_names, spansOf_names]
          exact ((hwf i _ eR).2 hdef).2
      · rename (¬ 0 ≤ definedOf _) => hge
        have hdef : k.defs = false := by
          cases k with
          | out => rfl
          | inp => exact absurd ((hwf i _ eR).2 rfl).1 (by simpa [definedOf] using hge)
          | add => exact absurd ((hwf i _ eR).2 rfl).1 (by simpa [definedOf] using hge)
        refine TurnEnd.into hJn ((d, o2) :: (nx2 ++ news)) (by k_asm) (by k_asm) (by k_mem) (by first | assumption | k_extra "my sub" | (intro pS hpS; first | exact hpS | exact .tail _ hpS | exact .tail _ (.tail _ hpS) | exact .tail _ (.tail _ (.tail _ hpS)) | (simp only [List.mem_cons, List.mem_append] at hpS ⊢; grind))) ?_ ?_
        · k_all
        · refine ⟨hn1, hn2, o2, _, nx2, rfl, hD2, ?_, hgt2⟩
          rw [spansOf_take eR, spansStep, if_neg (by simp [hdef]), List.append_nil]
          exact hL2
  · rintro m₁ nw h tk hJJ
    refine opq ?_
    intro GG hGG
    obtain ⟨hm1, hm2, o, kvs, nx, rfl, hD1, hL, hgt⟩ := hJJ
    refine hGG ?_
    clear hGG GG
    intro F2 N2
    clear F1 N1
    rw [hvl, List.take_length] at hL
    k_steps
    refine ret _ _ _ _ (by k_asm) (by k_asm) ?_
    exact ⟨d, o, kvs, nx, rfl, rfl, ⟨.head _, hlo, hD1, hL.mono fun p hp => .tail _ hp⟩, hdn, hgt⟩
theorem fresh5 : True := by
  w_top off
  trivial
def aliveAt (ivs : List (Int × Int × Int)) (f : Int) : Int := (ivs.countP fun p => decide (p.2.1 ≤ f) && decide (f ≤ p.2.2) : Nat)
def pressureOf (ivs : List (Int × Int × Int)) : Int := ivs.foldl (fun m p => max m (aliveAt ivs p.2.1)) 0
theorem maxif (a b : Int) : max a b = if b > a then b else a := by
  split <;> (first | with_reducible assumption | lia | omega)
theorem aliveAt_take {ivs : List (Int × Int × Int)} {i : Nat} {k f2 l2 f : Int} (hi : ivs[i]? = some (k, f2, l2)) : aliveAt (ivs.take (i + 1)) f = aliveAt (ivs.take i) f + (if f2 ≤ f ∧ f ≤ l2 then 1 else 0) := by
  unfold aliveAt
  rw [List.take_add_one, hi, List.countP_append]
  by_cases h1 : f2 ≤ f <;> by_cases h2 : f ≤ l2 <;> simp [h1, h2]
theorem words5_31502 : True := by
  k_with "call ref" => (k_here; (with_reducible show wpAny _ _ (PySem.call (Value.ref 42) _) _ _ _); k_dflt (refine' Ctr.use (spans_c ?zzh1 ?zzh2) ?zzB ?zzF ?zzX ?zzN ?zzT ?zzhk ?zzhd ?zzhu ?_; (case zzF => k_asm); (case zzB => k_asm); (case zzX => k_asm); (case zzN => k_asm); (case zzT => k_asm); (case zzh1 => k_asm); (case zzh2 => k_asm); (case zzhk => first | exact rfl | assumption); (case zzhd => first | exact room_of (by assumption) (by decide) | ktr_room); (case zzhu => first | exact room_of (by assumption) (by decide) | ktr_units)); (intro rC nC hC kC FC NC PC); (refine opq ?_; intro GG hGG); (obtain ⟨d, o, kvs, nxS, er, en, hL, hlS, hgS⟩ := PC); (subst er); (subst en); (refine hGG ?_); (clear hGG GG); (try dsimp only); (try k_fold))
  trivial
set_option maxHeartbeats 1000000 in
theorem pressure_c {w : World} {news : Lg} {rows : Addr} {R : List Row} (hr : RowsAt news rows R) (hwf : WF R) :
    Ctr w 127 [.ref rows] 6 60 news (fun r nw => ((nw = news) ∧ (∃ t, (r = .int (pressureOf (spansOf R)) t)))) := by
  intro mean mg mb dp un gd cn cs a ccd cl outer A₀ base h₀ L m s Q E B F X N T hk hd hu ret
  refine wpAny_call ?_
  k_dflt (refine' code_def (binds := [(PySem.Str.ofString "rows", Value.ref rows)]) ?k1 ?k2 ?k3 ?k4 ?k5 ?kA ?kF ?kK ?k6 ?k7 ?k8 ?k9 ?kB ?_ ?c2 ?c3 ?c4 ?c5; (case kA => exact rfl); (case kF => exact rfl); (case kK => assumption); (case k1 => k_asm); (case k2 => k_asm); (case k3 => k_asm); (case k4 => k_asm); (case k5 => k_asm); (case k6 => k_is); (case k7 => k_is); (case k8 => first | exact depth_room (by assumption) | ktr_room); (case k9 => exact BindsTo.of_eq rfl); (case c5 => decide); (case kB => exact locs rfl); (case c2 => exact rfl); (case c3 => exact rfl); (case c4 => exact rfl); k_whole)
  intro gE LE hE FG' F' N' B' X' T'
  (try dsimp only)
  refine gen_E ?_
  k_steps
  case' _ =>
    rename LivesAt _ _ _ _ _ _ => hL0
    rename Fr gE LE _ _ => F1
    rename News gE LE _ _ => N0
    refine opq ?_
    intro GG hGG
    obtain ⟨nw, N1, hL, hS⟩ := (⟨_, N0, hL0.mono (sub_app news), fun p hp => .tail _ (List.mem_append_right _ hp)⟩ : ∃ nw, News gE LE _ nw ∧ LivesAt w nw _ _ _ (spansOf R) ∧ ∀ p ∈ news, p ∈ nw)
    clear N0
    refine hGG ?_
    clear hGG GG
    k_dflt (refine Halt.mk ?_; refine' for_dict (fun i m nx => (Cj3 (m (PySem.Str.ofString "lives") = some (.ref _)) ((∃ t, m (PySem.Str.ofString "most") = some (.int (((spansOf R).take i).foldl (fun m p => max m (aliveAt (spansOf R) p.2.1)) 0) t))) (nx = _))) rfl hL.mem hL.dict hL.lo F1 N1 ⟨rfl, ⟨_, rfl⟩, rfl⟩ ?_ ?_ ?_)
  · rintro i m nx ⟨_, _, rfl⟩; exact hL.mem
  · rintro I oI hI i k t u m₁ nx h tk hx hJJ
    refine opq ?_
    intro GG hGG
    obtain ⟨hm1, ⟨t1, hm2⟩, rfl⟩ := hJJ
    refine hGG ?_
    clear hGG GG
    intro ho F2 N2
    clear F1 N1
    (try (refine gen_T ?_; intro Qv Jv hJn))
    refine opq ?_
    intro GG hGG
    obtain ⟨f, l, ak, t2, t3, hi, hv, hma⟩ := hL.at hx
    have hLm := hL.mem
    have hLd := hL.dict
    have hLlo := hL.lo
    refine hGG ?_
    clear hGG GG
    k_steps
    rename Fr gE LE _ _ => F3
    rename News gE LE _ _ => N3
    k_dflt (refine Halt.mk ?_; refine' for_dict (fun i m nx => (Cj5 (m (PySem.Str.ofString "lives") = some (.ref _)) (m (PySem.Str.ofString "v") = some (.int k t)) ((∃ t, m (PySem.Str.ofString "most") = some (.int _ t))) ((∃ t, m (PySem.Str.ofString "alive") = some (.int (aliveAt ((spansOf R).take i) f) t))) (nx = _))) rfl (.tail _ hLm) hLd hLlo F3 N3 ⟨hm1, rfl, ⟨_, hm2⟩, ⟨_, rfl⟩, rfl⟩ ?_ ?_ ?_)
    · rintro i m nx ⟨_, _, _, _, rfl⟩; exact .tail _ hLm
    · rintro I2 oI2 hI2 i2 k2 t4 u2 m₂ nx2 h2 tk2 hx2 hJJ
      refine opq ?_
      intro GG hGG
      obtain ⟨hn1, hn2, ⟨t5, hn3⟩, ⟨t6, hn4⟩, rfl⟩ := hJJ
      refine hGG ?_
      clear hGG GG
      intro ho2 F4 N4
      clear F3 N3
      (try (refine gen_T ?_; intro Qv Jv hJn))
      refine opq ?_
      intro GG hGG
      obtain ⟨f2, l2, ak2, t7, t8, hi2, hv2, hma2⟩ := hL.at hx2
      have e1 := aliveAt_take (f := f) hi2
      refine hGG ?_
      clear hGG GG
      k_steps
      · rw [if_pos ⟨by assumption, by assumption⟩] at e1
        refine TurnEnd.into hJn ((I, oI) :: nx) (by k_asm) (by k_asm) (by k_mem) (by first | assumption | k_extra "my sub" | (intro pS hpS; first | exact hpS | exact .tail _ hpS | exact .tail _ (.tail _ hpS) | exact .tail _ (.tail _ (.tail _ hpS)) | (simp only [List.mem_cons, List.mem_append] at hpS ⊢; grind))) ?_ ?_
        · exact ho2
        · exact ⟨hn1, hn2, ⟨_, hn3⟩, ⟨_, by rw [e1]; rfl⟩, rfl⟩
      · rw [if_neg (by (first | with_reducible assumption | lia | omega))] at e1
        refine TurnEnd.into hJn ((I, oI) :: nx) (by k_asm) (by k_asm) (by k_mem) (by first | assumption | k_extra "my sub" | (intro pS hpS; first | exact hpS | exact .tail _ hpS | exact .tail _ (.tail _ hpS) | exact .tail _ (.tail _ (.tail _ hpS)) | (simp only [List.mem_cons, List.mem_append] at hpS ⊢; grind))) ?_ ?_
        · exact ho2
        · exact ⟨hn1, hn2, ⟨_, hn3⟩, ⟨_, by rw [e1, Int.add_zero]; exact hn4⟩, rfl⟩
      · rw [if_neg (by (first | with_reducible assumption | lia | omega))] at e1
        refine TurnEnd.into hJn ((I, oI) :: nx) (by k_asm) (by k_asm) (by k_mem) (by first | assumption | k_extra "my sub" | (intro pS hpS; first | exact hpS | exact .tail _ hpS | exact .tail _ (.tail _ hpS) | exact .tail _ (.tail _ (.tail _ hpS)) | (simp only [List.mem_cons, List.mem_append] at hpS ⊢; grind))) ?_ ?_
        · exact ho2
        · exact ⟨hn1, hn2, ⟨_, hn3⟩, ⟨_, by rw [e1, Int.add_zero]; exact hn4⟩, rfl⟩
    · rintro m₂ nx2 h2 tk2 hJJ
      refine opq ?_
      intro GG hGG
      obtain ⟨hn1, hn2, ⟨t5, hn3⟩, ⟨t6, hn4⟩, rfl⟩ := hJJ
      refine hGG ?_
      clear hGG GG
      intro F4 N4
      clear F3 N3
      rw [hL.rel.length, List.take_length] at hn4
      k_steps
      refine TurnEnd.into hJn (nx) (by k_asm) (by k_asm) (by k_mem) (by first | assumption | k_extra "my sub" | (intro pS hpS; first | exact hpS | exact .tail _ hpS | exact .tail _ (.tail _ hpS) | exact .tail _ (.tail _ (.tail _ hpS)) | (simp only [List.mem_cons, List.mem_append] at hpS ⊢; grind))) ?_ ?_
      · exact ho
      · have e3 : ((spansOf R).take (i + 1)).foldl (fun m p => max m (aliveAt (spansOf R) p.2.1)) 0 = max (((spansOf R).take i).foldl (fun m p => max m (aliveAt (spansOf R) p.2.1)) 0) (aliveAt (spansOf R) f) := by
          rw [List.take_add_one, hi, List.foldl_append]; rfl
        refine ⟨hn1, ?_, rfl⟩
        rw [e3, maxif]
        exact ⟨_, rfl⟩
  · rintro m₁ nx h tk hJJ
    refine opq ?_
    intro GG hGG
    obtain ⟨hm1, ⟨t1, hm2⟩, rfl⟩ := hJJ
    refine hGG ?_
    clear hGG GG
    intro F2 N2
    clear F1 N1
    rw [hL.rel.length, List.take_length] at hm2
    k_steps
    refine ret _ (news) _ _ (by k_asm) (News.sub (by k_asm) (by first | assumption | k_extra "my sub" | (intro pS hpS; first | exact hpS | exact .tail _ hpS | exact .tail _ (.tail _ hpS) | exact .tail _ (.tail _ (.tail _ hpS)) | (simp only [List.mem_cons, List.mem_append] at hpS ⊢; grind)))) ?_
    exact ⟨rfl, _, rfl⟩
theorem fresh6 : True := by
  w_top off
  trivial
section
open PyProof.Rows.LCg
theorem CompEnd.mono' {h₀ : Heap} {L : Addr} {m : Str → Option Value} {s₁ : Shared} {I : Addr} {oI : Obj} {C : Addr} {oC : Obj} {D : Addr} {oD : Obj} {S : Lg → Prop} {rest rest' : Value → Lg → Prop} {y : Value} {s₂ : Shared}
    (h : CompEnd h₀ L m s₁ I oI C oC D oD S rest y s₂) (hr : ∀ nw, rest y nw → rest' y nw) : CompEnd h₀ L m s₁ I oI C oC D oD S rest' y s₂ := by
  obtain ⟨h', tk, nw, e, F, N, o, hS, r⟩ := h
  exact ⟨h', tk, nw, e, F, N, o, hS, hr _ r⟩
variable {prog : Program} {w : World} {A : Around} {E : Value → Shared → Prop} {s : Shared} {h₀ : Heap} {L : Addr} {m : Str → Option Value} {env : Env}
theorem compT_all {ct elt : Expr} {x : Str} {scope : Scope} {cl : List (Str × Addr)} {S : Lg → Prop} {P : Nat → Value → Prop} {Fin : List Value → Lg → Prop} {n : Nat} (J : Nat → List Value → Lg → Prop)
    (turn : ∀ i v ys nw I oI C oC D m₂ h tk (E' : Value → Shared → Prop), i < n → P i v → J i ys nw → NsObj oC m₂ → m₂ x = some v → Fr h₀ L h m → News h₀ L h ((I, oI) :: (C, oC) :: (D, LCg.lst ys) :: nw) → Off3 I C D nw → ((@Ne Nat I C) ∧ (@Ne Nat I D) ∧ (@Ne Nat C D)) →
      wpAny (model prog w) A (isTrue ct (compEnvC scope cl C env) (eval ct (compEnvC scope cl C env))) (fun ok s' => if ok = true then
        wpAny (model prog w) A (eval elt (compEnvC scope cl C env)) (CompEnd h₀ L m { s with heap := h, toks := tk } I oI C oC D (LCg.lst ys) S (fun y nw' => J (i + 1) (ys ++ [y]) nw')) E' s'
        else CompEnd h₀ L m { s with heap := h, toks := tk } I oI C oC D (LCg.lst ys) S (fun _ nw' => J (i + 1) ys nw') Value.none s') E' { s with heap := h, toks := tk })
    (done : ∀ ys nw, J n ys nw → Fin ys nw) : ∀ (k i : Nat) (ys : List Value) (nw : Lg), i + k = n → J i ys nw → LCt.CompRestT prog w A h₀ L m env ct elt x scope cl s S P Fin k i ys nw
  | 0, i, ys, nw, e, hj => .zero (done ys nw (by rw [← show i = n by (first | with_reducible assumption | lia | omega)]; exact hj))
  | k + 1, i, ys, nw, e, hj => .succ fun v I oI C oC D m₂ h tk E' hP hC hx F N off ne => by
    refine wpAny_mono (turn i v ys nw I oI C oC D m₂ h tk E' (by (first | with_reducible assumption | lia | omega)) hP hj hC hx F N off ne) (fun ok s' h' => ?_) fun _ _ e => e
    cases ok with
    | true =>
      simp only [if_true] at h' ⊢
      exact wpAny_mono h' (fun y s'' h'' => CompEnd.mono' h'' fun nw' hj' => compT_all J turn done k (i + 1) _ _ (by (first | with_reducible assumption | lia | omega)) hj') fun _ _ e => e
    | false =>
      simp only [Bool.false_eq_true, if_false] at h' ⊢
      exact CompEnd.mono' h' fun nw' hj' => compT_all J turn done k (i + 1) _ _ (by (first | with_reducible assumption | lia | omega)) hj'
theorem compU_all {elt : Expr} {x : Str} {scope : Scope} {cl : List (Str × Addr)} {S : Lg → Prop} {P : Nat → Value → Prop} {Fin : List Value → Lg → Prop} {n : Nat} (J : Nat → List Value → Lg → Prop)
    (turn : ∀ i v ys nw I oI C oC D m₂ h tk (E' : Value → Shared → Prop), i < n → P i v → J i ys nw → NsObj oC m₂ → m₂ x = some v → Fr h₀ L h m → News h₀ L h ((I, oI) :: (C, oC) :: (D, LCg.lst ys) :: nw) → Off3 I C D nw → ((@Ne Nat I C) ∧ (@Ne Nat I D) ∧ (@Ne Nat C D)) →
      wpAny (model prog w) A (eval elt (compEnvC scope cl C env)) (CompEnd h₀ L m { s with heap := h, toks := tk } I oI C oC D (LCg.lst ys) S (fun y nw' => J (i + 1) (ys ++ [y]) nw')) E' { s with heap := h, toks := tk })
    (done : ∀ ys nw, J n ys nw → Fin ys nw) : ∀ (k i : Nat) (ys : List Value) (nw : Lg), i + k = n → J i ys nw → LCg.CompRest prog w A h₀ L m env elt x scope cl s S P Fin k i ys nw
  | 0, i, ys, nw, e, hj => .zero (done ys nw (by rw [← show i = n by (first | with_reducible assumption | lia | omega)]; exact hj))
  | k + 1, i, ys, nw, e, hj => .succ fun v I oI C oC D m₂ h tk E' hP hC hx F N off ne =>
    wpAny_mono (turn i v ys nw I oI C oC D m₂ h tk E' (by (first | with_reducible assumption | lia | omega)) hP hj hC hx F N off ne) (fun _ _ h' => CompEnd.mono' h' fun nw' hj' => compU_all J turn done k (i + 1) _ _ (by (first | with_reducible assumption | lia | omega)) hj') fun _ _ e => e
theorem Off3_ne {I C D : Addr} : ∀ {l : Lg}, Off3 I C D l → AllNe I l ∧ AllNe C l ∧ AllNe D l
  | [], _ => ⟨trivial, trivial, trivial⟩
  | _ :: _, h => ⟨⟨h.1.1, (Off3_ne h.2).1⟩, ⟨h.1.2.1, (Off3_ne h.2).2.1⟩, ⟨h.1.2.2, (Off3_ne h.2).2.2⟩⟩
theorem Off3_of {I C D : Addr} : ∀ {l : Lg}, AllNe I l → AllNe C l → AllNe D l → Off3 I C D l
  | [], _, _, _ => trivial
  | _ :: _, a, b, c => ⟨⟨a.1, b.1, c.1⟩, Off3_of a.2 b.2 c.2⟩
theorem Off1_ne {D : Addr} : ∀ {l : Lg}, Off1 D l → AllNe D l
  | [], _ => trivial
  | _ :: _, h => ⟨h.1, Off1_ne h.2⟩
end

theorem ints_snoc {vs : List Value} {ns : List Int} (h : IntsAre vs ns) (u : Int) (t : Tok) : IntsAre (vs ++ [.int u t]) (ns ++ [u]) := by
  induction h with
  | nil => exact .cons _ _ .nil
  | cons n t' _ ih => exact .cons _ _ ih
theorem filter_take {ns : List Int} {p : Int → Bool} {i : Nat} {u : Int} (h : ns[i]? = some u) : (ns.take (i + 1)).filter p = (ns.take i).filter p ++ (if p u = true then [u] else []) := by
  rw [List.take_add_one, h, Option.toList_some, List.filter_append]
  by_cases hp : p u = true <;> simp [hp]
def endOf (ivs : List (Int × Int × Int)) (v : Int) : Int := match lifeOf ivs v with | some (_, l) => l | none => 0
def startOf (ivs : List (Int × Int × Int)) (v : Int) : Int := match lifeOf ivs v with | some (f, _) => f | none => 0

theorem pickO2 {h₀ h : Heap} {L a : Addr} {o : Obj} {nw : Lg} (_ : News h₀ L h ((a, o) :: nw)) : ∃ o', o' = o := ⟨_, rfl⟩
theorem pickO3 {h₀ h : Heap} {L : Addr} {p q : Addr × Obj} {nw : Lg} (_ : News h₀ L h (p :: q :: nw)) : ∃ o1 o2, o1 = p.2 ∧ o2 = q.2 := ⟨_, _, rfl, rfl⟩

theorem AllNe_sub {d : Nat} {l k : Lg} (h : AllNe d l) (hs : ∀ p ∈ k, p ∈ l) : AllNe d k := AllNe_of fun p hp => AllNe_all h p (hs p hp)
theorem AllLt_sub {d : Nat} {l k : Lg} (h : AllLt d l) (hs : ∀ p ∈ k, p ∈ l) : AllLt d k := AllLt_of fun p hp => AllLt_all h p (hs p hp)
theorem map_take {α β : Type} {f : α → β} {ns : List α} {i : Nat} {u : α} (h : ns[i]? = some u) : (ns.take (i + 1)).map f = (ns.take i).map f ++ [f u] := by
  rw [List.take_add_one, h, Option.toList_some, List.map_append]; rfl

theorem pickC2 {h₀ h : Heap} {L a b : Addr} {o o2 : Obj} {nw : Lg} (_ : News h₀ L h ((a, o) :: (b, o2) :: nw)) : ∃ x y, x = o ∧ y = o2 := ⟨_, _, rfl, rfl⟩
theorem RowsAt.mono {news news' : Lg} {l : Addr} {rs : List Row} (h : RowsAt news l rs) (hs : ∀ p ∈ news, p ∈ news') : RowsAt news' l rs :=
  let ⟨vs, nn, h1, h2, h3⟩ := h; ⟨vs, nn, hs _ h1, h2.mono hs, h3⟩

theorem pickG {d : Nat} {nx : Lg} (_ : AllGt d nx) : ∃ nx', nx' = nx := ⟨_, rfl⟩
theorem ne_app2 {d e : Nat} {o : Obj} {nx news : Lg} (h : @LT.lt Nat _ e d) (hg : AllGt d nx) (hn : AllNe e news) : AllNe e ((d, o) :: (nx ++ news)) := AllNe_cons (Nat.ne_of_gt h) (AllNe_of fun p hp => by
  rcases List.mem_append.mp hp with hp | hp
  · exact Nat.ne_of_gt (Nat.lt_trans h (hg p hp))
  · exact AllNe_all hn p hp)

theorem srcAt_of {h₀ : Heap} {l : Addr} {vs : List Value} {n : Nat} {nw : Lg} (h : (l, lst vs n) ∈ nw) : LCg.SrcAt h₀ l vs.toArray nw := .inr ⟨_, h, rfl, _, rfl⟩
theorem fresh7 : True := by
  w_top off
  trivial
theorem words6_31502 : True := by
  k_with "CompSrcT" => (k_here; refine Halt.out ?_)
  k_with "CompSrc" => (k_here; refine Halt.out ?_)
  k_with "SrcLP" => (k_here; refine Halt.out ?_)
  k_with "eval ListComp" => (k_here; first
  | ((with_reducible show wpAny _ _ (eval (PySem.Expr.ListComp _ [⟨PySem.Expr.Name _ _, _, [_], _⟩] _ _) _) _ _ _); k_dflt (refine LCt.ListComp_T (F₀ := by k_asm) (by with_unfolding_all rfl) (by decide) (by rfl) (by decide) (by rfl) ?_))
  | ((with_reducible show wpAny _ _ (eval (PySem.Expr.ListComp _ [⟨PySem.Expr.Name _ _, _, [], _⟩] _ _) _) _ _ _); k_dflt (refine LCg.ListComp_U (F₀ := by k_asm) (by with_unfolding_all rfl) (by decide) (by rfl) (by decide) (by rfl) ?_))
  | ((with_reducible show wpAny _ _ (eval (PySem.Expr.ListComp _ [⟨PySem.Expr.Tuple _ _ _, _, [], _⟩] _ _) _) _ _ _); k_dflt (refine LCp.ListComp_P (F₀ := by k_asm) (by with_unfolding_all rfl) (by decide) (by rfl) (by decide) (by rfl) (by rfl) (by decide) ?_)))
  trivial
set_option maxHeartbeats 1000000 in
theorem expire_c {w : World} {news : Lg} {act lv : Addr} {oL : Obj} {kvs : List (Int × Value)} {ivs : List (Int × Int × Int)} {va : List Value} {na : Nat} {ns : List Int} {tm : Int} {tT : Tok}
    (ha : (act, lst va na) ∈ news) (hi : IntsAre va ns) (hns : ∀ v ∈ ns, v ∈ ivs.map (·.1)) (hvl : va.length ≤ 100) (hL : LivesAt w news lv oL kvs ivs) :
    Ctr w 108 [.ref act, .ref lv, .int tm tT] 2 20 news (ListRes (ns.filter fun v => decide (tm ≤ endOf ivs v)) news) := by
  intro mean mg mb dp un gd cn cs a ccd cl outer A₀ base h₀ L m s Q E B F X N T hk hd hu ret
  refine wpAny_call ?_
  k_dflt (refine' code_defC (binds := [(PySem.Str.ofString "active", Value.ref act), (PySem.Str.ofString "lives", Value.ref lv), (PySem.Str.ofString "time", Value.int tm tT)]) ?k1 ?k2 ?k3 ?k4 ?k5 ?kA ?kF ?kK ?k6 ?k7 ?k8 ?k9 ?kB ?kD ?_ ?c2 ?c3 ?c4; (case kA => exact rfl); (case kF => exact rfl); (case kK => assumption); (case k1 => k_asm); (case k2 => k_asm); (case k3 => k_asm); (case k4 => k_asm); (case k5 => k_asm); (case k6 => k_is); (case k7 => k_is); (case k8 => first | exact depth_room (by assumption) | ktr_room); (case k9 => exact BindsTo.of_eq rfl); (case kB => exact rfl); (case kD => decide +kernel); (case c2 => exact rfl); (case c3 => exact rfl); (case c4 => exact rfl); k_whole)
  intro gE LE hE tE cellsE FG' F' N' YE B' X' T' lE
  k_cells YE
  (try simp only [List.cons_append, List.nil_append] at N')
  (try dsimp only)
  replace lE := allLt_of lE
  refine gen_E ?_
  k_steps
  all_goals (try k_data)
  refine Halt.mk ?_
  k_dflt (refine' LCt.CompSrcT.ledger (its := va.toArray) (k := na) rfl ?F ?N ?m ?z ?_; (case F => k_asm); (case N => k_asm); (case m => k_mem); (case z => rw [List.size_toArray, sizeLine_eq]; (first | with_reducible assumption | lia | omega)))
  intro g
  k_dflt (refine' compT_all (fun i ys nw => nw = _ ∧ IntsAre ys ((ns.take i).filter fun v => decide (tm ≤ endOf ivs v))) ?_ ?_ _ 0 [] _ (Nat.zero_add _) ⟨rfl, .nil⟩)
  · rintro i v ys nw I oI C oC D m₂ h tk E' hi' hP ⟨rfl, hys⟩ hC hx F2 N2 off ne
    refine opq ?_
    intro GG hGG
    obtain ⟨offI, offC, offD⟩ := Off3_ne off
    simp only [List.getElem?_toArray] at hP
    obtain ⟨u, tu, rfl, eu⟩ := ints_at hi hP
    obtain ⟨f, l, hlf⟩ := lifeOf_mem (hns u (List.mem_of_getElem? eu))
    obtain ⟨al, t7, t8, hva, hma⟩ := hL.rel.look hlf
    have hLm := hL.mem
    have hLd := hL.dict
    have he : endOf ivs u = l := by rw [endOf, hlf]
    refine hGG ?_
    clear hGG GG
    k_steps
    · refine LCg.CompEnd.intro F2 N2 _ (fun p hp => hp) off (srcAt_of (by k_mem)) ?_
      refine ⟨rfl, ?_⟩
      rw [filter_take eu, if_pos (by rw [he]; exact decide_eq_true (by assumption))]
      exact ints_snoc hys _ _
    · refine LCg.CompEnd.intro F2 N2 _ (fun p hp => hp) off (srcAt_of (by k_mem)) ?_
      refine ⟨rfl, ?_⟩
      rw [filter_take eu, if_neg (by rw [he]; simp; (first | with_reducible assumption | lia | omega)), List.append_nil]
      exact hys
  · rintro ys nw ⟨rfl, hys⟩
    rw [List.size_toArray, hi.length, List.take_length] at hys
    intro D h tk F3 N3 o1
    replace o1 := Off1_ne o1
    (try simp only [AllNe] at o1)
    k_steps
    all_goals (try k_data)
    refine ret _ ((D, lst ys ys.length) :: news) _ _ (by k_asm) (News.sub (by k_asm) (by first | assumption | k_extra "my sub" | (intro pS hpS; first | exact hpS | exact .tail _ hpS | exact .tail _ (.tail _ hpS) | exact .tail _ (.tail _ (.tail _ hpS)) | (simp only [List.mem_cons, List.mem_append] at hpS ⊢; grind)))) ?_
    exact ⟨_, _, _, rfl, rfl, hys, by k_all⟩
theorem fresh8 : True := by
  w_top off
  trivial
theorem len_le_of_sub {α : Type} [DecidableEq α] : ∀ {l m : List α}, l.Nodup → (∀ a ∈ l, a ∈ m) → l.length ≤ m.length
  | [], _, _, _ => Nat.zero_le _
  | a :: l, m, hn, hs => by
    rw [List.nodup_cons] at hn
    have ha : a ∈ m := hs a (.head _)
    have := len_le_of_sub (m := m.erase a) hn.2 fun b hb => (List.mem_erase_of_ne (fun e => hn.1 (by rw [← e]; exact hb))).mpr (hs b (.tail _ hb))
    rw [List.length_erase_of_mem ha] at this
    have : 0 < m.length := List.length_pos_of_mem ha
    simp only [List.length_cons]
    (first | with_reducible assumption | lia | omega)
theorem below_le {ns : List Int} {k : Nat} (h : ∀ j : Nat, j < k → (j : Int) ∈ ns) : k ≤ ns.length := by
  have hn : ((List.range k).map fun j : Nat => (j : Int)).Nodup := by
    rw [List.Nodup, List.pairwise_map]
    have hr : (List.range k).Pairwise (· ≠ ·) := List.nodup_range
    exact hr.imp fun {a b} h e => h (Int.ofNat.inj e)
  have := len_le_of_sub hn (m := ns) fun a ha => by
    refine opq ?_
    intro GG hGG
    obtain ⟨j, hj, rfl⟩ := List.mem_map.mp ha
    refine hGG ?_
    clear hGG GG
    exact h j (List.mem_range.mp hj)
  simpa using this
/-- the least number from nought up that a list lacks -/
def IsMex (ns : List Int) (k : Int) : Prop := 0 ≤ k ∧ k ∉ ns ∧ ∀ j, 0 ≤ j → j < k → j ∈ ns
theorem numsOf_ints {vs : List Value} {ns : List Int} (h : IntsAre vs ns) : numsOf vs = ns := by
  induction h with
  | nil => rfl
  | cons n t _ ih => simp [numsOf, ih]
theorem allInts_of {vs : List Value} {ns : List Int} (h : IntsAre vs ns) : ∀ v ∈ vs, ∃ a t, v = Value.int a t := by
  induction h with
  | nil => intro v hv; cases hv
  | cons n t _ ih =>
    intro v hv
    rcases List.mem_cons.mp hv with rfl | hv
    · exact ⟨_, _, rfl⟩
    · exact ih v hv
theorem in_L {prog : Program} {w : World} {A : Around} {E : Value → Shared → Prop} {s : Shared} {h₀ : Heap} {L l : Addr} {news : Lg} {vs : List Value} {nn : Nat} {ns : List Int} {k : Int} {t : Tok} {Q : Value → Shared → Prop}
    (N : News h₀ L s.heap news) (hm : (l, lst vs nn) ∈ news) (hi : IntsAre vs ns) (h : Q (.bool (decide (k ∈ ns))) s) : wpAny (model prog w) A (compareOp .In (.int k t) (.ref l)) Q E s := by
  refine PySem.SeqRoads2.in_list (items := vs.toArray) (n := nn) (fun y => match y with | .int i _ => i == k | _ => false) (fun y hy => ?_) (N _ hm).1 ?_
  · obtain ⟨a, u, rfl⟩ := allInts_of hi y (by simpa using hy)
    exact PySem.MeetsSeq.EqGives.int a k u t
  · have e : (vs.toArray.any fun y => match y with | .int i _ => i == k | _ => false) = decide (k ∈ ns) := by
      rw [← Array.any_toList]
      have e2 : (vs.any fun y => match y with | .int i _ => i == k | _ => false) = (numsOf vs).contains k := any_ints k vs (allInts_of hi)
      rw [numsOf_ints hi] at e2
      rw [show (vs.toArray).toList = vs from rfl, e2]
      simp
    rw [e]; exact h
theorem While2.intro {h₀ h' : Heap} {L : Addr} {s : Shared} {J : Nat → (Str → Option Value) → Lg → Prop} {Q : Flow → Shared → Prop} {n n' tk : Nat} {m₂ : Str → Option Value} {nw : Lg}
    (F : Fr h₀ L h' m₂) (N : News h₀ L h' nw) (hn : n' < n) (hJ : J n' m₂ nw) : WhileStep2 h₀ L s J Q n .next { s with heap := h', toks := tk } := ⟨h', tk, m₂, nw, n', rfl, F, N, hn, hJ⟩
theorem words7_31502 : True := by
  k_with "compareOp In int ref" => (k_here; k_dflt (refine' in_L ?zzN ?zzm ?zzi ?_; (case zzN => k_asm); (case zzm => k_mem); (case zzi => assumption)))
  k_with "exec While Compare cons nil" => (k_here; refine Halt.out ?_)
  trivial
set_option maxHeartbeats 1000000 in
theorem mex_c {w : World} {news : Lg} {l : Addr} {vs : List Value} {nn : Nat} {ns : List Int} (hl : (l, lst vs nn) ∈ news) (hi : IntsAre vs ns) :
    Ctr w 91 [.ref l] 2 20 news (fun r nw => ((nw = news) ∧ (Xs2 fun k t => ((r = .int k t) ∧ (IsMex ns k))))) := by
  intro mean mg mb dp un gd cn cs a ccd cl outer A₀ base h₀ L m s Q E B F X N T hk hd hu ret
  refine wpAny_call ?_
  k_dflt (refine' code_def (binds := [(PySem.Str.ofString "numbers", Value.ref l)]) ?k1 ?k2 ?k3 ?k4 ?k5 ?kA ?kF ?kK ?k6 ?k7 ?k8 ?k9 ?kB ?_ ?c2 ?c3 ?c4 ?c5; (case kA => exact rfl); (case kF => exact rfl); (case kK => assumption); (case k1 => k_asm); (case k2 => k_asm); (case k3 => k_asm); (case k4 => k_asm); (case k5 => k_asm); (case k6 => k_is); (case k7 => k_is); (case k8 => first | exact depth_room (by assumption) | ktr_room); (case k9 => exact BindsTo.of_eq rfl); (case c5 => decide); (case kB => exact locs rfl); (case c2 => exact rfl); (case c3 => exact rfl); (case c4 => exact rfl); k_whole)
  intro gE LE hE FG' F' N' B' X' T'
  (try dsimp only)
  refine gen_E ?_
  k_steps
  all_goals (try k_data)
  rename Fr gE LE _ _ => F1
  rename News gE LE _ _ => N1
  refine Halt.mk ?_
  k_dflt (refine' While_inv2 (n₀ := ns.length + 1) (fun n m nw => nw = news ∧ m (PySem.Str.ofString "numbers") = some (.ref l) ∧ ∃ (k : Nat) (t : Tok), m (PySem.Str.ofString "lowest") = some (.int (k : Int) t) ∧ n + k = ns.length + 1 ∧ ∀ j : Nat, j < k → (j : Int) ∈ ns) F1 N1 ⟨rfl, rfl, 0, _, rfl, rfl, fun j hj => absurd hj (Nat.not_lt_zero _)⟩ ?_)
  rintro n m₁ nw h₁ tk₁ F2 N2 ⟨rfl, hm1, k, t, hm2, hk, hall⟩
  clear F1 N1
  k_steps
  · have hk1 := below_le (ns := ns) (k := k + 1) fun j hj => by
      rcases Nat.lt_or_eq_of_le (Nat.le_of_lt_succ hj) with h | rfl
      · exact hall j h
      · assumption
    refine' While2.intro (n' := n - 1) ?F ?N ?h ?J; (case F => k_asm); (case N => k_asm); (case h => (first | with_reducible assumption | lia | omega))
    refine ⟨rfl, hm1, k + 1, _, rfl, by (first | with_reducible assumption | lia | omega), fun j hj => ?_⟩
    rcases Nat.lt_or_eq_of_le (Nat.le_of_lt_succ hj) with h | rfl
    · exact hall j h
    · assumption
  · refine ret _ _ _ _ (by k_asm) (by k_asm) ?_
    refine ⟨rfl, _, _, rfl, by (first | with_reducible assumption | lia | omega), by assumption, fun j h0 hj => ?_⟩
    have := hall j.toNat (by (first | with_reducible assumption | lia | omega))
    rwa [Int.toNat_of_nonneg h0] at this
theorem fresh9 : True := by
  w_top off
  trivial
/-- later end, or the same end and a greater name -/
def later (ivs : List (Int × Int × Int)) (v b : Int) : Bool := decide (endOf ivs b < endOf ivs v) || (decide (endOf ivs v = endOf ivs b) && decide (b < v))
def latestOf (ivs : List (Int × Int × Int)) (b : Int) (ns : List Int) : Int := ns.foldl (fun b v => if later ivs v b = true then v else b) b
theorem latestOf_take {ivs : List (Int × Int × Int)} {b : Int} {ns : List Int} {i : Nat} {u : Int} (h : ns[i]? = some u) : latestOf ivs b (ns.take (i + 1)) = if later ivs u (latestOf ivs b (ns.take i)) = true then u else latestOf ivs b (ns.take i) := by
  unfold latestOf
  rw [List.take_add_one, h, Option.toList_some, List.foldl_append]; rfl
theorem latestOf_mem {ivs : List (Int × Int × Int)} (ns : List Int) : ∀ b, latestOf ivs b ns ∈ b :: ns := by
  induction ns with
  | nil => intro b; exact .head _
  | cons u ns ih =>
    intro b
    show latestOf ivs (if later ivs u b = true then u else b) ns ∈ b :: u :: ns
    rcases List.mem_cons.mp (ih (if later ivs u b = true then u else b)) with e | e
    · rw [e]; split
      · exact .tail _ (.head _)
      · exact .head _
    · exact .tail _ (.tail _ e)
set_option maxHeartbeats 1000000 in
theorem latest_c {w : World} {news : Lg} {act lv : Addr} {oL : Obj} {kvs : List (Int × Value)} {ivs : List (Int × Int × Int)} {va : List Value} {na : Nat} {n0 : Int} {ns : List Int}
    (ha : (act, lst va na) ∈ news) (hi : IntsAre va (n0 :: ns)) (hns : ∀ v ∈ n0 :: ns, v ∈ ivs.map (·.1)) (hvl : va.length ≤ 100) (hL : LivesAt w news lv oL kvs ivs) :
    Ctr w 115 [.ref act, .ref lv] 2 20 news (fun r nw => ((nw = news) ∧ (∃ t, (r = .int (latestOf ivs n0 (n0 :: ns)) t)))) := by
  intro mean mg mb dp un gd cn cs a ccd cl outer A₀ base h₀ L m s Q E B F X N T hk hd hu ret
  refine wpAny_call ?_
  k_dflt (refine' code_def (binds := [(PySem.Str.ofString "active", Value.ref act), (PySem.Str.ofString "lives", Value.ref lv)]) ?k1 ?k2 ?k3 ?k4 ?k5 ?kA ?kF ?kK ?k6 ?k7 ?k8 ?k9 ?kB ?_ ?c2 ?c3 ?c4 ?c5; (case kA => exact rfl); (case kF => exact rfl); (case kK => assumption); (case k1 => k_asm); (case k2 => k_asm); (case k3 => k_asm); (case k4 => k_asm); (case k5 => k_asm); (case k6 => k_is); (case k7 => k_is); (case k8 => first | exact depth_room (by assumption) | ktr_room); (case k9 => exact BindsTo.of_eq rfl); (case c5 => decide); (case kB => exact locs rfl); (case c2 => exact rfl); (case c3 => exact rfl); (case c4 => exact rfl); k_whole)
  intro gE LE hE FG' F' N' B' X' T'
  (try dsimp only)
  refine gen_E ?_
  have h0 : ∃ t, va[0]? = some (.int n0 t) := by cases hi; exact ⟨_, rfl⟩
  refine opq ?_
  intro GG hGG
  obtain ⟨t0, h0⟩ := h0
  refine hGG ?_
  clear hGG GG
  k_steps
  all_goals (try k_data)
  rename Fr gE LE _ _ => F1
  rename News gE LE _ _ => N1
  have hLm := hL.mem
  have hLd := hL.dict
  refine Halt.mk ?_
  k_dflt (refine' for_list (fun i m nx => (Cj3 (m (PySem.Str.ofString "lives") = some (.ref lv)) ((∃ t, m (PySem.Str.ofString "best") = some (.int (latestOf ivs n0 ((n0 :: ns).take i)) t))) (nx = news))) rfl ha F1 N1 ⟨rfl, ⟨_, rfl⟩, rfl⟩ ?_ ?_ ?_)
  · rintro i m nx ⟨_, _, rfl⟩; exact ha
  · rintro I oI hI i v m₁ nx h tk hx hJJ
    refine opq ?_
    intro GG hGG
    obtain ⟨hm1, ⟨t1, hm2⟩, rfl⟩ := hJJ
    refine hGG ?_
    clear hGG GG
    intro ho F2 N2
    clear F1 N1
    (try (refine gen_T ?_; intro Qv Jv hJn))
    refine opq ?_
    intro GG hGG
    obtain ⟨u, tu, rfl, eu⟩ := ints_at hi hx
    obtain ⟨f, l, hlf⟩ := lifeOf_mem (hns u (List.mem_of_getElem? eu))
    obtain ⟨al, t7, t8, hva, hma⟩ := hL.rel.look hlf
    have hb : latestOf ivs n0 ((n0 :: ns).take i) ∈ n0 :: ns := by
      rcases List.mem_cons.mp (latestOf_mem (ivs := ivs) ((n0 :: ns).take i) n0) with e | e
      · rw [e]; exact .head _
      · exact List.mem_of_mem_take e
    obtain ⟨f2, l2, hlf2⟩ := lifeOf_mem (hns _ hb)
    obtain ⟨al2, t9, t10, hva2, hma2⟩ := hL.rel.look hlf2
    have he : endOf ivs u = l := by rw [endOf, hlf]
    have he2 : endOf ivs (latestOf ivs n0 ((n0 :: ns).take i)) = l2 := by rw [endOf, hlf2]
    have e3 := latestOf_take (ivs := ivs) (b := n0) eu
    rw [later, he, he2] at e3
    refine hGG ?_
    clear hGG GG
    generalize hbb : latestOf ivs n0 ((n0 :: ns).take i) = bb at *
    k_steps
    · rw [if_pos (by simp [*])] at e3
      refine TurnEnd.into hJn (nx) (by k_asm) (by k_asm) (by k_mem) (by first | assumption | k_extra "my sub" | (intro pS hpS; first | exact hpS | exact .tail _ hpS | exact .tail _ (.tail _ hpS) | exact .tail _ (.tail _ (.tail _ hpS)) | (simp only [List.mem_cons, List.mem_append] at hpS ⊢; grind))) ?_ ?_
      · k_all
      · exact ⟨hm1, ⟨_, by rw [e3]; rfl⟩, rfl⟩
    · rw [if_pos (by simp [*])] at e3
      refine TurnEnd.into hJn (nx) (by k_asm) (by k_asm) (by k_mem) (by first | assumption | k_extra "my sub" | (intro pS hpS; first | exact hpS | exact .tail _ hpS | exact .tail _ (.tail _ hpS) | exact .tail _ (.tail _ (.tail _ hpS)) | (simp only [List.mem_cons, List.mem_append] at hpS ⊢; grind))) ?_ ?_
      · k_all
      · exact ⟨hm1, ⟨_, by rw [e3]; rfl⟩, rfl⟩
    · rw [if_neg (by simp only [Bool.or_eq_true, Bool.and_eq_true, decide_eq_true_eq]; (first | with_reducible assumption | lia | omega))] at e3
      refine TurnEnd.into hJn (nx) (by k_asm) (by k_asm) (by k_mem) (by first | assumption | k_extra "my sub" | (intro pS hpS; first | exact hpS | exact .tail _ hpS | exact .tail _ (.tail _ hpS) | exact .tail _ (.tail _ (.tail _ hpS)) | (simp only [List.mem_cons, List.mem_append] at hpS ⊢; grind))) ?_ ?_
      · k_all
      · exact ⟨hm1, ⟨_, by rw [e3]; exact hm2⟩, rfl⟩
    · rw [if_neg (by simp only [Bool.or_eq_true, Bool.and_eq_true, decide_eq_true_eq]; (first | with_reducible assumption | lia | omega))] at e3
      refine TurnEnd.into hJn (nx) (by k_asm) (by k_asm) (by k_mem) (by first | assumption | k_extra "my sub" | (intro pS hpS; first | exact hpS | exact .tail _ hpS | exact .tail _ (.tail _ hpS) | exact .tail _ (.tail _ (.tail _ hpS)) | (simp only [List.mem_cons, List.mem_append] at hpS ⊢; grind))) ?_ ?_
      · k_all
      · exact ⟨hm1, ⟨_, by rw [e3]; exact hm2⟩, rfl⟩
  · rintro m₁ nx h tk hJJ
    refine opq ?_
    intro GG hGG
    obtain ⟨hm1, ⟨t1, hm2⟩, rfl⟩ := hJJ
    refine hGG ?_
    clear hGG GG
    intro F2 N2
    clear F1 N1
    rw [hi.length, List.take_length] at hm2
    k_steps
    refine ret _ _ _ _ (by k_asm) (by k_asm) ?_
    exact ⟨rfl, _, rfl⟩
theorem latest_c2 {w : World} {news : Lg} {act lv : Addr} {oL : Obj} {kvs : List (Int × Value)} {ivs : List (Int × Int × Int)} {va : List Value} {na : Nat} {l : List Int}
    (ha : (act, lst va na) ∈ news) (hi : IntsAre va l) (hne : l ≠ []) (hns : ∀ v ∈ l, v ∈ ivs.map (·.1)) (hvl : va.length ≤ 100) (hL : LivesAt w news lv oL kvs ivs) :
    Ctr w 115 [.ref act, .ref lv] 2 20 news (fun r nw => ((nw = news) ∧ (∃ t, (r = .int (latestOf ivs (l.headD 0) l) t)))) := by
  cases l with
  | nil => exact absurd rfl hne
  | cons n0 ns => exact latest_c ha hi hns hvl hL
theorem fresh10 : True := by
  w_top off
  trivial
section
open PySem.W
/-- a tree of questions answered by a test: what comes out has Q; every question lies below n -/
noncomputable def okT {α : Type} (n : Nat) (lt : Nat → Nat → Bool) : KasT α → (α → Prop) → Prop
  | .ret a, Q => Q a
  | .ask i j k, Q => i < n ∧ j < n ∧ okT n lt (k (lt i j)) Q
theorem okT_bind {α β : Type} {n : Nat} {lt : Nat → Nat → Bool} {f : α → KasT β} {Q : β → Prop} : ∀ {t : KasT α}, okT n lt t (fun a => okT n lt (f a) Q) → okT n lt (t.bind f) Q
  | .ret _, h => h
  | .ask _ _ _, h => ⟨h.1, h.2.1, okT_bind h.2.2⟩
theorem okT_mono {α : Type} {n : Nat} {lt : Nat → Nat → Bool} {Q Q' : α → Prop} (hq : ∀ a, Q a → Q' a) : ∀ {t : KasT α}, okT n lt t Q → okT n lt t Q'
  | .ret _, h => hq _ h
  | .ask _ _ _, h => ⟨h.1, h.2.1, okT_mono hq h.2.2⟩
theorem okT_wp {α : Type} {n : Nat} {lt : Nat → Nat → Bool} {cmp : Nat → Nat → (Bool → Shared → Prop) → Shared → Prop} {I : Shared → Prop} {Q : α → Prop} {R : α → Shared → Prop}
    (hc : ∀ i j (C : Bool → Shared → Prop) s, i < n → j < n → I s → (∀ s', I s' → C (lt i j) s') → cmp i j C s) (hR : ∀ a s, Q a → I s → R a s) : ∀ {t : KasT α} {s : Shared}, okT n lt t Q → I s → t.kasWp cmp R s
  | .ret _, _, h, hI => hR _ _ h hI
  | .ask i j k, s, h, hI => hc i j _ s h.1 h.2.1 hI fun s' hI' => okT_wp hc hR h.2.2 hI'
def PV (n : Nat) (p : Array Nat) : Prop := p.Perm (List.range n).toArray
theorem PV.size {n : Nat} {p : Array Nat} (h : PV n p) : p.size = n := by
  have := Array.Perm.size_eq h
  simpa using this
theorem PV.lt {n : Nat} {p : Array Nat} (h : PV n p) (hn : 0 < n) (i : Nat) : p.getD i 0 < n := by
  by_cases hi : i < p.size
  · have hm : p.getD i 0 ∈ p := by simp [Array.getD, hi]
    have := (Array.Perm.mem_iff h).mp hm
    simpa using this
  · simp [Array.getD, hi, hn]
theorem PV.inj {n : Nat} {p : Array Nat} (h : PV n p) {i j : Nat} (hi : i < n) (hj : j < n) (e : p.getD i 0 = p.getD j 0) : i = j := by
  have hs := h.size
  have hnd : p.toList.Nodup := by
    have hp : p.toList.Perm (List.range n) := Array.perm_iff_toList_perm.mp h
    exact (hp.nodup_iff).mpr List.nodup_range
  have hi' : i < p.toList.length := by simpa [hs] using hi
  have hj' : j < p.toList.length := by simpa [hs] using hj
  refine (List.getElem_inj hnd (h₀ := hi') (h₁ := hj')).mp ?_
  have e1 : p.getD i 0 = p[i]'hi' := by simp [Array.getD, show i < p.size from hi']
  have e2 : p.getD j 0 = p[j]'hj' := by simp [Array.getD, show j < p.size from hj']
  rw [e1, e2] at e
  simpa using e
variable {n : Nat} {key : Nat → Int}
abbrev ltK (key : Nat → Int) (i j : Nat) : Bool := decide (key i < key j)
def Kp (key : Nat → Int) (p : Array Nat) (i : Nat) : Int := key (p.getD i 0)
theorem Kp_ne {p : Array Nat} (h : PV n p) (hk : ∀ i j, i < n → j < n → key i = key j → i = j) {i j : Nat} (hi : i < n) (hj : j < n) (hne : i ≠ j) : Kp key p i ≠ Kp key p j := fun e =>
  hne (h.inj hi hj (hk _ _ (h.lt (Nat.zero_lt_of_lt hi) i) (h.lt (Nat.zero_lt_of_lt hi) j) e))
theorem getD_congr {p q : Array Nat} {i j : Nat} (h : p[i]? = q[j]?) : p.getD i 0 = q.getD j 0 := by
  rw [Array.getD_eq_getD_getElem?, Array.getD_eq_getD_getElem?, h]
theorem Kp_rev {p : Array Nat} {j : Nat} (hj : j ≤ p.size) (k : Nat) : Kp key (kas_rev p 0 j) k = if k < j then Kp key p (j - 1 - k) else Kp key p k := by
  have e := getElem?_mirror_all (i := 0) hj k
  unfold Kp kas_rev
  by_cases h : k < j
  · rw [if_pos ⟨Nat.zero_le _, h⟩, Nat.zero_add] at e
    rw [if_pos h, getD_congr e]
  · rw [if_neg (fun q => h q.2)] at e
    rw [if_neg h, getD_congr e]
theorem Kp_bubble {p : Array Nat} {src l : Nat} (hs : src < p.size) (hl : l ≤ src) (k : Nat) :
    Kp key (bubble p src (src - l)) k = if k = l then Kp key p src else if l < k ∧ k ≤ src then Kp key p (k - 1) else Kp key p k := by
  have e := getElem?_bubble hs (src - l) (Nat.sub_le _ _) k
  rw [Nat.sub_sub_self hl] at e
  unfold Kp
  by_cases h1 : k = l
  · rw [if_pos h1] at e ⊢; rw [getD_congr e]
  · rw [if_neg h1] at e ⊢
    by_cases h2 : l < k ∧ k ≤ src
    · rw [if_pos h2] at e ⊢; rw [getD_congr e]
    · rw [if_neg h2] at e ⊢; rw [getD_congr e]
theorem pred_lt {m : Nat} (h : 0 < m) : m - 1 < m := Nat.sub_one_lt (Nat.ne_of_gt h)
def upTo (key : Nat → Int) (p : Array Nat) (k : Nat) : Prop := ∀ i j, i ≤ j → j < k → Kp key p i ≤ Kp key p j
theorem upTo_succ {p : Array Nat} {k : Nat} (h : upTo key p k) (h1 : 0 < k) (hl : Kp key p (k - 1) ≤ Kp key p k) : upTo key p (k + 1) := fun i j hij hj => by
  by_cases e : j < k
  · exact h i j hij e
  · have : j = k := Nat.le_antisymm (Nat.le_of_lt_succ hj) (Nat.not_lt.mp e)
    subst this
    by_cases e2 : i = j
    · rw [e2]; exact Int.le_refl _
    · exact Int.le_trans (h i (j - 1) (Nat.le_sub_one_of_lt (Nat.lt_of_le_of_ne hij e2)) (pred_lt h1)) hl
theorem ok_asc {p : Array Nat} (hp : PV n p) (hn : 0 < n) : ∀ (f a : Nat), 0 < a → upTo key p a → okT n (ltK key) (kas_asc p f a) (fun m => a ≤ m ∧ m ≤ a + f ∧ upTo key p m ∧ (m < a + f → Kp key p m < Kp key p (m - 1)))
  | 0, a, _, hu => ⟨Nat.le_refl _, Nat.le_refl _, hu, fun h => absurd h (Nat.lt_irrefl _)⟩
  | f + 1, a, ha, hu => by
    refine ⟨hp.lt hn _, hp.lt hn _, ?_⟩
    dsimp only
    by_cases h : Kp key p a < Kp key p (a - 1)
    · rw [if_pos (by exact decide_eq_true h)]
      exact ⟨Nat.le_refl _, Nat.le_add_right _ _, hu, fun _ => h⟩
    · rw [if_neg (by exact fun q => h (of_decide_eq_true q))]
      refine okT_mono ?_ (ok_asc hp hn f (a + 1) (Nat.succ_pos a) (upTo_succ hu ha (Int.not_lt.mp h)))
      rintro m ⟨h1, h2, h3, h4⟩
      exact ⟨Nat.le_of_succ_le h1, Nat.le_trans h2 (Nat.le_of_eq (Nat.add_right_comm a 1 f)), h3, fun q => h4 (Nat.lt_of_lt_of_eq q (Nat.add_right_comm a 1 f).symm)⟩
def downTo (key : Nat → Int) (p : Array Nat) (k : Nat) : Prop := ∀ i j, i ≤ j → j < k → Kp key p j ≤ Kp key p i
theorem downTo_succ {p : Array Nat} {k : Nat} (h : downTo key p k) (h1 : 0 < k) (hl : Kp key p k ≤ Kp key p (k - 1)) : downTo key p (k + 1) := fun i j hij hj => by
  by_cases e : j < k
  · exact h i j hij e
  · have : j = k := Nat.le_antisymm (Nat.le_of_lt_succ hj) (Nat.not_lt.mp e)
    subst this
    by_cases e2 : i = j
    · rw [e2]; exact Int.le_refl _
    · exact Int.le_trans hl (h i (j - 1) (Nat.le_sub_one_of_lt (Nat.lt_of_le_of_ne hij e2)) (pred_lt h1))
theorem ok_desc {p : Array Nat} (hp : PV n p) (hk : ∀ i j, i < n → j < n → key i = key j → i = j) : ∀ (f a : Nat), 0 < a → a + f ≤ n → downTo key p a →
    okT n (ltK key) (kas_desc f p a 0) (fun r => r.1 = p ∧ r.2.2 = 0 ∧ a ≤ r.2.1 ∧ r.2.1 ≤ n ∧ downTo key p r.2.1)
  | 0, a, _, hf, hd => ⟨rfl, rfl, Nat.le_refl _, hf, hd⟩
  | f + 1, a, ha, hf, hd => by
    have han : a < n := Nat.lt_of_lt_of_le (Nat.lt_add_of_pos_right (Nat.succ_pos f)) hf
    have hn : 0 < n := Nat.lt_trans ha han
    refine ⟨hp.lt hn _, hp.lt hn _, ?_⟩
    dsimp only
    by_cases h : Kp key p a < Kp key p (a - 1)
    · rw [if_pos (by exact decide_eq_true h), if_neg (Nat.lt_irrefl 0)]
      refine okT_mono ?_ (ok_desc hp hk f (a + 1) (Nat.succ_pos a) (Nat.le_trans (Nat.le_of_eq (Nat.add_right_comm a 1 f)) hf) (downTo_succ hd ha (Int.le_of_lt h)))
      rintro r ⟨h1, h2, h3, h4, h5⟩
      exact ⟨h1, h2, Nat.le_of_succ_le h3, h4, h5⟩
    · rw [if_neg (by exact fun q => h (of_decide_eq_true q))]
      refine ⟨hp.lt hn _, hp.lt hn _, ?_⟩
      dsimp only
      have hne := Kp_ne hp hk (i := a) (j := a - 1) han (Nat.lt_trans (pred_lt ha) han) (Nat.ne_of_gt (pred_lt ha))
      rw [if_pos (by exact decide_eq_true (Int.lt_iff_le_and_ne.mpr ⟨Int.not_lt.mp h, Ne.symm hne⟩))]
      exact ⟨rfl, rfl, Nat.le_refl _, Nat.le_of_lt han, hd⟩
theorem PV.rev {p : Array Nat} (hp : PV n p) (i j : Nat) : PV n (kas_rev p i j) := (mirror_perm p i j _).trans hp
theorem ok_count {p : Array Nat} (hp : PV n p) (h2 : 2 ≤ n) (hk : ∀ i j, i < n → j < n → key i = key j → i = j) :
    okT n (ltK key) (kas_count n p) (fun r => PV n r.2 ∧ 1 ≤ r.1 ∧ r.1 ≤ n ∧ upTo key r.2 r.1) := by
  have hn : 0 < n := Nat.lt_of_lt_of_le (by decide) h2
  have hs := hp.size
  have hu1 : upTo key p 1 := fun i j hij hj => by
    rw [Nat.lt_one_iff.mp hj] at hij ⊢
    rw [Nat.le_zero.mp hij]; exact Int.le_refl _
  refine okT_bind (okT_mono ?_ (ok_asc hp hn (n - 1) 1 (by decide) hu1))
  rw [Nat.add_sub_cancel' hn]
  rintro m ⟨h1, hm, hu, hd⟩
  have hm0 : m - 1 < m := pred_lt h1
  by_cases he : m = n
  · rw [if_pos (by simpa using he)]
    exact ⟨hp, h1, hm, hu⟩
  · rw [if_neg (by simpa using he)]
    by_cases hm1 : m > 1
    · rw [if_pos hm1]
      refine ⟨hp.lt hn _, hp.lt hn _, ?_⟩
      dsimp only
      have hle := hu 0 (m - 1) (Nat.zero_le _) hm0
      have hne := Kp_ne hp hk (i := 0) (j := m - 1) hn (Nat.lt_of_lt_of_le hm0 hm) (Nat.ne_of_lt (Nat.sub_pos_of_lt hm1))
      rw [if_pos (by exact decide_eq_true (Int.lt_iff_le_and_ne.mpr ⟨hle, hne⟩))]
      exact ⟨hp, h1, hm, hu⟩
    · rw [if_neg hm1]
      have em : m = 1 := Nat.le_antisymm (Nat.not_lt.mp hm1) h1
      clear hm0 hu
      subst em
      have hlt := hd h2
      have hd2 : downTo key p 2 := fun i j hij hj => by
        rcases Nat.lt_or_eq_of_le (Nat.le_of_lt_succ hj) with e | e
        · rw [Nat.lt_one_iff.mp e] at hij ⊢
          rw [Nat.le_zero.mp hij]; exact Int.le_refl _
        · subst e
          rcases Nat.lt_or_eq_of_le hij with e | e
          · rw [Nat.lt_one_iff.mp e]; exact Int.le_of_lt hlt
          · rw [e]; exact Int.le_refl _
      refine okT_bind (okT_mono ?_ (ok_desc hp hk (n - (1 + 1)) (1 + 1) (by decide) (Nat.le_of_eq (Nat.add_sub_cancel' h2)) hd2))
      rintro ⟨q, m', z⟩ ⟨e1, e2, h3, h4, h5⟩
      dsimp only at e1 e2 h3 h4 h5 ⊢
      subst e1 e2
      rw [if_neg (Nat.lt_irrefl 0)]
      have hpr := hp.rev 0 m'
      have hm0 : 0 < m' := Nat.lt_of_lt_of_le (by decide) h3
      have hms : m' ≤ q.size := Nat.le_trans h4 (Nat.le_of_eq hs.symm)
      have hur : upTo key (kas_rev q 0 m') m' := fun i j hij hj => by
        rw [Kp_rev hms, Kp_rev hms, if_pos (Nat.lt_of_le_of_lt hij hj), if_pos hj]
        exact h5 _ _ (Nat.sub_le_sub_left hij _) (Nat.lt_of_le_of_lt (Nat.sub_le _ _) (pred_lt hm0))
      refine okT_bind (okT_mono ?_ (ok_asc hpr hn (n - m') m' hm0 hur))
      rw [Nat.add_sub_cancel' h4]
      rintro m2 ⟨g1, g2, g3, _⟩
      exact ⟨hpr, Nat.le_trans hm0 g1, g2, g3⟩
theorem mid1 {l r : Nat} (h : l < r) : l ≤ (l + r) / 2 := (Nat.le_div_iff_mul_le (by decide)).mpr (by rw [Nat.mul_two]; exact Nat.add_le_add_left (Nat.le_of_lt h) l)
theorem mid2 {l r : Nat} (h : l < r) : (l + r) / 2 < r := Nat.div_lt_of_lt_mul (by rw [Nat.two_mul]; exact Nat.add_lt_add_right h r)
theorem ok_place {p : Array Nat} {k : Nat} (hp : PV n p) (hn : 0 < n) (hu : upTo key p k) : ∀ (f l r : Nat), l ≤ r → r ≤ k → r ≤ l + f → (∀ i, i < l → Kp key p i ≤ Kp key p k) → (∀ i, r ≤ i → i < k → Kp key p k < Kp key p i) →
    okT n (ltK key) (kas_place p k f l r) (fun x => x ≤ k ∧ (∀ i, i < x → Kp key p i ≤ Kp key p k) ∧ (∀ i, x ≤ i → i < k → Kp key p k < Kp key p i))
  | 0, l, r, hlr, hrk, hf, h1, h2 => ⟨Nat.le_trans hlr hrk, h1, fun i hi => h2 i (Nat.le_trans hf hi)⟩
  | f + 1, l, r, hlr, hrk, hf, h1, h2 => by
    unfold kas_place
    by_cases hge : l ≥ r
    · rw [if_pos hge]
      exact ⟨Nat.le_trans hlr hrk, h1, fun i hi => h2 i (Nat.le_trans hge hi)⟩
    · rw [if_neg hge]
      have m1 := mid1 (Nat.not_le.mp hge)
      have m2 := mid2 (Nat.not_le.mp hge)
      refine ⟨hp.lt hn _, hp.lt hn _, ?_⟩
      dsimp only
      by_cases h : Kp key p k < Kp key p ((l + r) / 2)
      · rw [if_pos (by exact decide_eq_true h)]
        exact ok_place hp hn hu f l ((l + r) / 2) m1 (Nat.le_trans (Nat.le_of_lt m2) hrk) (Nat.le_of_lt_succ (Nat.lt_of_lt_of_le m2 hf)) h1 fun i hi hik => Int.lt_of_lt_of_le h (hu _ _ hi hik)
      · rw [if_neg (by exact fun q => h (of_decide_eq_true q))]
        exact ok_place hp hn hu f ((l + r) / 2 + 1) r m2 hrk (Nat.le_trans (Nat.le_trans hf (Nat.add_le_add_right m1 (f + 1))) (Nat.le_of_eq (Nat.add_right_comm _ 1 f).symm)) (fun i hi => Int.le_trans (hu i ((l + r) / 2) (Nat.le_of_lt_succ hi) (Nat.lt_of_lt_of_le m2 hrk)) (Int.not_lt.mp h)) h2
theorem ok_bin : ∀ (f : Nat) (p : Array Nat) (k : Nat), PV n p → 0 < n → k + f = n → upTo key p k → okT n (ltK key) (kas_bin f p k) (fun q => PV n q ∧ upTo key q n)
  | 0, p, k, hp, _, hk, hu => ⟨hp, by rw [← show k = n from hk]; exact hu⟩
  | f + 1, p, k, hp, hn, hk, hu => by
    have hks : k < p.size := Nat.lt_of_lt_of_le (Nat.lt_add_of_pos_right (Nat.succ_pos f)) (Nat.le_of_eq (hk.trans hp.size.symm))
    refine okT_bind (okT_mono ?_ (ok_place hp hn hu k 0 k (Nat.zero_le _) (Nat.le_refl _) (Nat.le_of_eq (Nat.zero_add k).symm) (fun i hi => absurd hi (Nat.not_lt_zero _)) fun i h1 h2 => absurd h2 (Nat.not_lt.mpr h1)))
    rintro l ⟨hlk, h1, h2⟩
    refine ok_bin f _ (k + 1) ((bubble_perm _ _ _).trans hp) hn ((Nat.add_right_comm k 1 f).trans hk) fun i j hij hj => ?_
    have hjk : j ≤ k := Nat.le_of_lt_succ hj
    have hj1 : l < j → j - 1 < k := fun h => Nat.lt_of_lt_of_le (pred_lt (Nat.zero_lt_of_lt h)) hjk
    have hlt : ∀ {x : Nat}, x ≤ k → ¬ x = l → ¬ (l < x ∧ x ≤ k) → x < l := fun {x} a b c => Nat.lt_of_le_of_ne (Nat.not_lt.mp fun q => c ⟨q, a⟩) b
    rw [Kp_bubble hks hlk, Kp_bubble hks hlk]
    by_cases a1 : i = l
    · rw [if_pos a1]
      by_cases b1 : j = l
      · rw [if_pos b1]; exact Int.le_refl _
      · rw [if_neg b1]
        have b2 : l < j := Nat.lt_of_le_of_ne (a1 ▸ hij) (Ne.symm b1)
        rw [if_pos ⟨b2, hjk⟩]
        exact Int.le_of_lt (h2 _ (Nat.le_sub_one_of_lt b2) (hj1 b2))
    · rw [if_neg a1]
      by_cases a2 : l < i ∧ i ≤ k
      · rw [if_pos a2]
        have b2 := Nat.lt_of_lt_of_le a2.1 hij
        rw [if_neg (Nat.ne_of_gt b2), if_pos ⟨b2, hjk⟩]
        exact hu _ _ (Nat.sub_le_sub_right hij 1) (hj1 b2)
      · rw [if_neg a2]
        have a3 := hlt (Nat.le_trans hij hjk) a1 a2
        by_cases b1 : j = l
        · rw [if_pos b1]; exact h1 _ a3
        · rw [if_neg b1]
          by_cases b2 : l < j ∧ j ≤ k
          · rw [if_pos b2]; exact hu _ _ (Nat.le_sub_one_of_lt (Nat.lt_trans a3 b2.1)) (hj1 b2.1)
          · rw [if_neg b2]; exact hu _ _ hij (Nat.lt_of_lt_of_le (hlt hjk b1 b2) hlk)
theorem ok_sort (h2 : 2 ≤ n) (hk : ∀ i j, i < n → j < n → key i = key j → i = j) : okT n (ltK key) (kas_sort n) (fun p => PV n p ∧ upTo key p n) := by
  refine okT_bind (okT_mono ?_ (ok_count (p := (List.range n).toArray) (Array.Perm.refl _) h2 hk))
  rintro ⟨m, p⟩ ⟨hp, h1, hm, hu⟩
  dsimp only at h1 hm hu hp ⊢
  by_cases hlt : m < n
  · rw [if_pos hlt, Nat.max_eq_left h1]
    exact ok_bin (n - m) p m hp (Nat.lt_of_lt_of_le h1 hm) (Nat.add_sub_cancel' hm) hu
  · rw [if_neg hlt]
    exact ⟨hp, by rw [← Nat.le_antisymm hm (Nat.not_lt.mp hlt)]; exact hu⟩
end
theorem fresh11 : True := by
  w_top off
  trivial
section
open PySem.W
variable {prog : Program} {w : World} {A : Around} {E : Value → Shared → Prop} {s : Shared} {h₀ : Heap} {L a : Addr} {m : Str → Option Value} {news : Lg} {vs : List Value}
theorem short_sort {n : Nat} {P : PySem.Fin → Shared → Prop} (F : Fr h₀ L s.heap m) (N : News h₀ L s.heap news) (ho : s.heap.get? a = some (seqObj "list" vs.toArray n)) (haL : a ≠ L) (ha0 : h₀.get? a = none) (hna : ∀ p ∈ news, p.1 ≠ a)
    (h2 : vs.length < 2) (h : ∀ c h', Fr h₀ L h' m → News h₀ L h' ((a, seqObj "list" vs.toArray c) :: news) → P (.done (.ret .none)) { s with heap := h' }) :
    wpAny (model prog w) A (Builtin.«list.sort» ⟨[.ref a], []⟩) P E s := by
  have ha : a < s.heap.objs.size := Heap.lt_size ho
  have s1 := Heap.SameBut.update s.heap a (Obj.mapSeq fun _ => (#[] : Array Value))
  obtain ⟨e1, ho1⟩ : ∃ e1, (s.heap.update a (Obj.mapSeq fun _ => (#[] : Array Value))).get? a = some (seqObj "list" #[] e1) := ⟨_, get?_update_seq ho fun _ => #[]⟩
  have F3 : Fr h₀ L (((s.heap.update a (Obj.mapSeq fun _ => (#[] : Array Value))).push (seqObj "tuple" vs.toArray 0)).push (seqObj "list" #[] 0)) m := ((kas_fr F s1 haL ha0).push _).push _
  have N2 : News h₀ L (((s.heap.update a (Obj.mapSeq fun _ => (#[] : Array Value))).push (seqObj "tuple" vs.toArray 0)).push (seqObj "list" #[] 0)) news :=
    (kas_news N s1 hna).grown fun b x e => Heap.get?_push_of_some _ (Heap.get?_push_of_some _ e)
  have na : (((s.heap.update a (Obj.mapSeq fun _ => (#[] : Array Value))).push (seqObj "tuple" vs.toArray 0)).push (seqObj "list" #[] 0)).get? a = some (seqObj "list" #[] e1) := Heap.get?_push_of_some _ (Heap.get?_push_of_some _ ho1)
  rw [list_sort_plain]
  refine wpAny_bind (listItems_at ho rfl ?_)
  refine wpAny_bind (listUpdate_at ho rfl ?_ (by rw [List.size_toArray, sizeLine_eq]; (first | with_reducible assumption | lia | omega)) (Nat.zero_le _))
  refine wpAny_bind (seqEpoch_at ho1 rfl ?_)
  refine wpAny_bind (wpAny_newTuple ?_ (by show vs.length ≤ _; rw [sizeLine_eq]; (first | with_reducible assumption | lia | omega)))
  refine wpAny_bind (wpAny_newList ?_ (Nat.zero_le _))
  refine wpAny_holding ?_
  show wpAny (model prog w) A _ P E { s with heap := ((s.heap.update a (Obj.mapSeq fun _ => (#[] : Array Value))).push (seqObj "tuple" vs.toArray 0)).push (seqObj "list" #[] 0) }
  dsimp only
  have hn2 : vs.toArray.size < 2 := by rw [List.size_toArray]; (first | with_reducible assumption | lia | omega)
  rw [if_pos hn2, if_pos hn2]
  refine wpAny_bind (wpAny_pure ?_)
  rw [StateT.run_pure]
  refine wpAny_bind (wpAny_pure ?_)
  dsimp only
  have hout : (arrOf (SortSt.mk' general' (vs.toArray.zip vs.toArray) #[] 7 none)).map (·.2) = vs.toArray := by
    show (vs.toArray.zip vs.toArray).map (·.2) = vs.toArray
    rw [List.zip_toArray, List.map_toArray]
    congr 1
    exact List.map_snd_zip (Nat.le_refl _)
  rw [hout]
  have s2 := Heap.SameBut.update (((s.heap.update a (Obj.mapSeq fun _ => (#[] : Array Value))).push (seqObj "tuple" vs.toArray 0)).push (seqObj "list" #[] 0)) a (Obj.mapSeq fun _ => vs.toArray)
  obtain ⟨c2, hc2⟩ : ∃ c2, ((((s.heap.update a (Obj.mapSeq fun _ => (#[] : Array Value))).push (seqObj "tuple" vs.toArray 0)).push (seqObj "list" #[] 0)).update a (Obj.mapSeq fun _ => vs.toArray)).get? a = some (seqObj "list" vs.toArray c2) := ⟨_, get?_update_seq na fun _ => vs.toArray⟩
  refine wpAny_bind (seqEpoch_at na rfl ?_)
  refine wpAny_bind (listUpdate_at na rfl ?_ (Nat.zero_le _) (by rw [List.size_toArray, sizeLine_eq]; (first | with_reducible assumption | lia | omega)))
  simp only [bne_self_eq_false, Bool.false_eq_true, if_false]
  refine wpAny_pure (h c2 _ (kas_fr F3 s2 haL ha0) fun p hp => ?_)
  rcases List.mem_cons.mp hp with rfl | hp
  · exact ⟨hc2, haL, ha0⟩
  · exact kas_news N2 s2 hna p hp
theorem short_sorted {l : Addr} {Q : Value → Shared → Prop} (F : Fr h₀ L s.heap m) (N : News h₀ L s.heap news) (hl : s.heap.IsList l vs.toArray) (h2 : vs.length < 2)
    (h : ∀ D c h', Fr h₀ L h' m → News h₀ L h' ((D, seqObj "list" vs.toArray c) :: news) → (∀ q ∈ news, q.1 < D) → Q (.ref D) { s with heap := h' }) :
    wpAny (model prog w) A (call (.builtin "sorted") [.ref l]) Q E s := by
  refine Calls.call_function_entry kind_sorted plain_sorted entry_sorted (args_sorted1 _) ?_
  unfold Builtin.«sorted»
  refine wpAny_bind (m := checkCount "sorted" 1 1 _) (wpAny_pure ?_)
  refine wpAny_bind (collect_list hl ?_ (by rw [sizeLine_eq]; (first | with_reducible assumption | lia | omega)))
  refine wpAny_bind (wpAny_newList ?_ (by rw [sizeLine_eq]; (first | with_reducible assumption | lia | omega)))
  have hsz : ((s.heap.push (seqObj "list" #[] 0)).update s.heap.objs.size (Obj.mapSeq (· ++ vs.toArray))).objs.size = s.heap.objs.size + 1 := by
    rw [Heap.size_update, size_push']
  have hoL : (((s.heap.push (seqObj "list" #[] 0)).update s.heap.objs.size (Obj.mapSeq (· ++ vs.toArray))).push (seqObj "list" vs.toArray 0)).get? (s.heap.objs.size + 1) = some (seqObj "list" vs.toArray 0) := by
    rw [← hsz]; exact Heap.get?_push_size _ rfl
  have keep : ∀ b o, s.heap.get? b = some o → (((s.heap.push (seqObj "list" #[] 0)).update s.heap.objs.size (Obj.mapSeq (· ++ vs.toArray))).push (seqObj "list" vs.toArray 0)).get? b = some o := fun b o q => by
    have hlt : b < s.heap.objs.size := Heap.lt_size q
    rw [Heap.get?_push_ne _ _ _ (by rw [hsz]; exact Nat.ne_of_lt (Nat.lt_succ_of_lt hlt)), Heap.get?_update_ne _ _ _ _ (Nat.ne_of_lt hlt), Heap.get?_push_ne _ _ _ (Nat.ne_of_lt hlt)]
    exact q
  have hL : L < s.heap.objs.size := F.ns.lt
  show wpAny _ _ _ _ _ { s with heap := ((s.heap.push (seqObj "list" #[] 0)).update s.heap.objs.size (Obj.mapSeq (· ++ vs.toArray))).push (seqObj "list" vs.toArray 0) }
  rw [hsz]
  refine wpAny_bind (wpAny_holding (wpAny_call_entry slot_list_sort ⟨_, hoL, rfl⟩ entry_list_sort ?body (args_list_sort _)))
  case body =>
    refine short_sort (s := { s with heap := ((s.heap.push (seqObj "list" #[] 0)).update s.heap.objs.size (Obj.mapSeq (· ++ vs.toArray))).push (seqObj "list" vs.toArray 0) })
      (F.kept keep) (N.grown keep) hoL (Nat.ne_of_gt (Nat.lt_succ_of_lt hL)) (Heap.get?_none_of_le (Nat.le_trans F.above (Nat.le_succ_of_le (Nat.le_of_lt hL))))
      (fun p hp => Nat.ne_of_lt (Nat.lt_succ_of_lt (Heap.lt_size (N p hp).1))) h2 fun c h' F' N' => ?_
    exact ⟨_, rfl, wpAny_pure ⟨_, rfl, h _ c h' F' N' fun q hq => Nat.lt_succ_of_lt (Heap.lt_size (N q hq).1)⟩⟩
end
theorem fresh12 : True := by
  w_top off
  trivial
section
open PySem.SeqAt PySem.MeetsSeq PySem.MeetsSeq2 PySem.MeetsSeq3 PySem.SeqRoads2
open PySem.AutoSeq1 (wpAny_loadPart')
theorem tuple_lt2 (l b : Addr) (x0 x1 y0 y1 : Int) (t0 t1 u0 u1 : Tok) (hne : x0 ≠ y0) :
    Meets (Builtin.«tuple.__lt__» ⟨[.ref l, .ref b], []⟩)
      (fun A R s => s.heap.get? l = some (tup [.int x0 t0, .int x1 t1]) ∧ s.heap.get? b = some (tup [.int y0 u0, .int y1 u1]) ∧ R (.ok (.ret (.bool (decide (x0 < y0))))) s) :=
  .of_wp fun prog w A R s h => by
    obtain ⟨hp, g, d, tk, os⟩ := s; obtain ⟨hl, hb, h⟩ := h
    have f2 := AutoSeq1.sub_tuple_tuple
    have hbeq : (x0 == y0) = false := by simpa using hne
    have hR : ∀ {A' : Around} {E : Value → Shared → Prop} {Q : Value → Shared → Prop} {s : Shared}, Q (.bool (decide (x0 < y0))) s → wpAny (model prog w) A' (richCompare .Lt (.int x0 t0) (.int y0 u0)) Q E s := fun hq => PyProof.Rows.lt_int hq
    wp_walk using wpAny_loadPart' hl, wpAny_loadPart' hb, wpAny_forIn_list _ (fun rest b s' => b.1 = none ∧ s' = ⟨hp, g, d, tk, os⟩ ∧ rest = [(Value.int x0 t0, Value.int y0 u0), (Value.int x1 t1, Value.int y1 u1)]) _
    case turn =>
      rintro ⟨y, x⟩ rest b s' ⟨hb', rfl, hz⟩
      injection hz with hyx hrest
      have hy : y = .int x0 t0 := congrArg Prod.fst hyx
      have hx : x = .int y0 u0 := congrArg Prod.snd hyx
      subst hy hx
      refine wpAny_bind (wpAny_eqBool_int ?_)
      rw [hbeq]
      simp only [Bool.not_false, if_true]
      refine wpAny_bind (wpAny_rule ?_)
      refine wpAny_bind (hR ?_)
      refine wpAny_bind (wpAny_pure ?_)
      refine wpAny_pure ?_
      exact wpAny_pure ⟨_, rfl, h⟩
    case fin =>
      rintro ⟨b1, b2⟩ s' ⟨hb', rfl, hz⟩
      cases hz
    case h =>
      exact ⟨rfl, rfl, rfl⟩
theorem lt_tup2 {prog : Program} {w : World} {A : Around} {E : Value → Shared → Prop} {s : Shared} {l b : Addr} {x0 x1 y0 y1 : Int} {t0 t1 u0 u1 : Tok} {Q : Value → Shared → Prop} (hl : s.heap.get? l = some (tup [.int x0 t0, .int x1 t1])) (hb : s.heap.get? b = some (tup [.int y0 u0, .int y1 u1]))
    (hne : x0 ≠ y0) (hu : A.units < cLine) (h : Q (.bool (decide (x0 < y0))) s) : wpAny (model prog w) A (compareOp .Lt (.ref l) (.ref b)) Q E s :=
  PySem.richCompare_meets_room (op := .Lt) ⟨_, hl, rfl⟩ ⟨_, hb, rfl⟩ F.slot_tuple_lt F.entry_tuple_lt (F.args_tuple_lt_2 _ _) (tuple_lt2 l b x0 x1 y0 y1 t0 t1 u0 u1 hne) ⟨hl, hb, show Value.bool (decide (x0 < y0)) ≠ Value.notImplemented ∧ Q (.bool (decide (x0 < y0))) s from ⟨(fun x => nomatch x), h⟩⟩ hu
/-- two tuples that part in their first numbers are not equal -/
theorem ne_tup2 {A : Around} {s : Shared} {l b : Addr} {x0 x1 y0 y1 : Int} {t0 t1 u0 u1 : Tok} (hl : s.heap.get? l = some (tup [.int x0 t0, .int x1 t1])) (hb : s.heap.get? b = some (tup [.int y0 u0, .int y1 u1]))
    (hne : x0 ≠ y0) (hu : A.units < cLine) : EqAt A s (.ref l) (.ref b) false := by
  have hlb : l ≠ b := fun e => by
    rw [e, hb] at hl
    have := Option.some.inj hl
    simp [tup] at this
    exact hne this.1.1.symm
  have hx : (x0 == y0) = false := by simpa using hne
  have := RcAt.tuples (items := [Value.int x0 t0, Value.int x1 t1].toArray) (items2 := [Value.int y0 u0, Value.int y1 u1].toArray) (e := fun j => if j = 0 then x0 == y0 else x1 == y1) ⟨_, hl, rfl, _, rfl⟩ ⟨_, hb, rfl, _, rfl⟩ hu fun j h1 h2 => by
    match j, h1, h2 with
    | 0, _, _ => exact EqGives.at (EqGives.int _ _ _ _) _ _
    | 1, _, _ => exact EqGives.at (EqGives.int _ _ _ _) _ _
  refine EqAt.of_refs hlb ?_
  simpa [List.range_succ, hx] using this
end
theorem fresh13 : True := by
  w_top off
  trivial
/-- the values are references to pairs (life, name) -/
inductive TupRel (news : Lg) : List Value → List (Int × Int × Int) → Prop
  | nil : TupRel news [] []
  | cons {a b : Addr} {v f l : Int} {t t1 t2 : Tok} {vs : List Value} {xs : List (Int × Int × Int)} : (a, tup [.ref b, .int v t]) ∈ news → (b, tup [.int f t1, .int l t2]) ∈ news → TupRel news vs xs → TupRel news (.ref a :: vs) ((v, f, l) :: xs)
theorem TupRel.length {news : Lg} {vs : List Value} {xs : List (Int × Int × Int)} (h : TupRel news vs xs) : vs.length = xs.length := by
  induction h with
  | nil => rfl
  | cons _ _ _ ih => simp [ih]
theorem TupRel.mono {news news' : Lg} {vs : List Value} {xs : List (Int × Int × Int)} (h : TupRel news vs xs) (hs : ∀ p ∈ news, p ∈ news') : TupRel news' vs xs := by
  induction h with
  | nil => exact .nil
  | cons h1 h2 _ ih => exact .cons (hs _ h1) (hs _ h2) ih
theorem TupRel.at {news : Lg} {vs : List Value} {xs : List (Int × Int × Int)} (h : TupRel news vs xs) : ∀ {i : Nat}, i < xs.length → ∃ a b v f l t t1 t2, vs[i]? = some (.ref a) ∧ xs[i]? = some (v, f, l) ∧ (a, tup [.ref b, .int v t]) ∈ news ∧ (b, tup [.int f t1, .int l t2]) ∈ news := by
  induction h with
  | nil => intro i h; cases h
  | @cons a b v f l t t1 t2 vs xs h1 h2 _ ih =>
    intro i hi
    cases i with
    | zero => exact ⟨a, b, v, f, l, t, t1, t2, by simp, by simp, h1, h2⟩
    | succ i =>
      obtain ⟨a', b', v', f', l', u, u1, u2, e1, e2, e3, e4⟩ := ih (by simpa using hi)
      exact ⟨a', b', v', f', l', u, u1, u2, by simpa using e1, by simpa using e2, e3, e4⟩
theorem TupRel.pick {news : Lg} {vs : List Value} {xs : List (Int × Int × Int)} (h : TupRel news vs xs) : ∀ (q : List Nat), (∀ i ∈ q, i < xs.length) → TupRel news (q.map fun i => vs.getD i Value.none) (q.map fun i => xs.getD i (0, 0, 0))
  | [], _ => .nil
  | i :: q, hq => by
    obtain ⟨a, b, v, f, l, t, t1, t2, e1, e2, e3, e4⟩ := h.at (hq i (.head _))
    have r := TupRel.pick h q fun j hj => hq j (.tail _ hj)
    rw [List.map_cons, List.map_cons, show vs.getD i Value.none = .ref a by simp [List.getD, e1], show xs.getD i (0, 0, 0) = (v, f, l) by simp [List.getD, e2]]
    exact .cons e3 e4 r
theorem TupRel.tups {news : Lg} {h₀ h : Heap} {L : Addr} (N : News h₀ L h news) {vs : List Value} {xs : List (Int × Int × Int)} (R : TupRel news vs xs) :
    ∃ fs, PySem.W.KatTups h vs fs ∧ fs.length = vs.length ∧ ∀ v ∈ fs, ∃ b o, v = .ref b ∧ h.get? b = some o ∧ o.cls = .type "tuple" := by
  induction R with
  | nil => exact ⟨[], trivial, rfl, fun v hv => by cases hv⟩
  | @cons a b v f l t t1 t2 vs xs h1 h2 _ ih =>
    obtain ⟨fs, k1, k2, k3⟩ := ih
    refine ⟨.ref b :: fs, .cons (N _ h1).1 rfl rfl rfl k1, by simp [k2], fun v hv => ?_⟩
    rcases List.mem_cons.mp hv with rfl | hv
    · exact ⟨b, _, rfl, (N _ h2).1, rfl⟩
    · exact k3 v hv
theorem map_getD_perm {α : Type} (xs : List α) (d : α) {q : List Nat} (h : q.Perm (List.range xs.length)) : (q.map fun i => xs.getD i d).Perm xs := by
  have e : (List.range xs.length).map (fun i => xs.getD i d) = xs := by
    apply List.ext_getElem
    · simp
    · intro i h1 h2
      simp [List.getD, h2]
  have := h.map fun i => xs.getD i d
  rwa [e] at this
section
open PySem.W PySem.SeqAt PySem.MeetsSeq
variable {prog : Program} {w : World} {A : Around} {E : Value → Shared → Prop} {s : Shared} {h₀ : Heap} {L l : Addr} {m : Str → Option Value} {news : Lg} {vs : List Value} {nn : Nat} {xs : List (Int × Int × Int)}
theorem ask_lv (N : News h₀ L s.heap news) (R : TupRel news vs xs) (hx : ∀ i j, i < xs.length → j < xs.length → (xs.getD i (0, 0, 0)).2.1 = (xs.getD j (0, 0, 0)).2.1 → i = j) (hu0 : A.units < cLine)
    (i j : Nat) (C : Bool → Shared → Prop) (hi : i < xs.length) (hj : j < xs.length) (h : C (ltK (fun i => (xs.getD i (0, 0, 0)).2.1) i j) s) : kas_ask prog w A (tuples' false) vs i j C s := by
  obtain ⟨a, b, v, f, l, t, t1, t2, e1, e2, e3, e4⟩ := R.at hi
  obtain ⟨a', b', v', f', l', u, u1, u2, g1, g2, g3, g4⟩ := R.at hj
  have hxi : xs.getD i (0, 0, 0) = (v, f, l) := by simp [List.getD, e2]
  have hxj : xs.getD j (0, 0, 0) = (v', f', l') := by simp [List.getD, g2]
  unfold kas_ask
  rw [show vs.getD i Value.none = .ref a by simp [List.getD, e1], show vs.getD j Value.none = .ref a' by simp [List.getD, g1]]
  refine kat_lt (N _ e3).1 rfl (N _ g3).1 rfl ?_
  by_cases hij : i = j
  · subst hij
    rw [e1] at g1
    cases g1
    have ho : (tup [.ref b, .int v t]) = tup [.ref b', .int v' u] := Option.some.inj ((N _ e3).1.symm.trans (N _ g3).1)
    have hb : b = b' ∧ v = v' ∧ t = u := by simpa [tup] using ho
    obtain ⟨rfl, rfl, rfl⟩ := hb
    refine kat_cons (EqAt.same _ prog w _ _ ?_)
    refine kat_yes (kat_cons (EqAt.same _ prog w _ _ ?_))
    refine kat_yes (kat_nil ?_)
    have : ltK (fun i => (xs.getD i (0, 0, 0)).2.1) i i = false := by simp
    rw [this] at h
    simpa using h
  · have hff : f ≠ f' := fun e => hij (hx i j hi hj (by rw [hxi, hxj]; exact e))
    refine kat_cons (ne_tup2 (N _ e4).1 (N _ g4).1 hff hu0 prog w _ _ ?_)
    refine kat_no (kat_one _ _ (lt_tup2 (N _ e4).1 (N _ g4).1 hff hu0 ?_))
    have : ltK (fun i => (xs.getD i (0, 0, 0)).2.1) i j = decide (f < f') := by
      show decide ((xs.getD i (0, 0, 0)).2.1 < (xs.getD j (0, 0, 0)).2.1) = _
      rw [hxi, hxj]
    rw [this] at h
    exact h
theorem sorted_lv {Q : Value → Shared → Prop} (F : Fr h₀ L s.heap m) (N : News h₀ L s.heap news) (hm : (l, lst vs nn) ∈ news) (R : TupRel news vs xs) (hnd : (xs.map (·.2.1)).Nodup) (h60 : xs.length < 60) (hu : A.units + 4 < cLine)
    (h : ∀ D c h' vs' xs', Fr h₀ L h' m → News h₀ L h' ((D, lst vs' c) :: news) → AllLt D news → TupRel news vs' xs' → xs'.Perm xs → xs'.Pairwise (fun a b => a.2.1 < b.2.1) → Q (.ref D) { s with heap := h' }) :
    wpAny (model prog w) A (call (.builtin "sorted") [.ref l]) Q E s := by
  have hl := R.length
  by_cases h2 : vs.length < 2
  · refine short_sorted F N (News.isList N hm) h2 fun D c h' F' N' l1 => h D c h' vs xs F' N' (allLt_of l1) R (.refl _) ?_
    match xs, hl with
    | [], _ => exact .nil
    | [x], _ => exact List.pairwise_singleton _ _
    | x :: y :: r, hl => simp at hl; (first | with_reducible assumption | lia | omega)
  · have hinj : ∀ i j, i < xs.length → j < xs.length → (xs.getD i (0, 0, 0)).2.1 = (xs.getD j (0, 0, 0)).2.1 → i = j := fun i j hi hj e => by
      have e1 : xs.getD i (0, 0, 0) = xs[i] := by simp [List.getD, hi]
      have e2 : xs.getD j (0, 0, 0) = xs[j] := by simp [List.getD, hj]
      rw [e1, e2] at e
      exact (List.getElem_inj hnd (h₀ := by simpa using hi) (h₁ := by simpa using hj)).mp (by simpa using e)
    refine kat_sorted F N (News.isList N hm) (by (first | with_reducible assumption | lia | omega)) (by (first | with_reducible assumption | lia | omega)) fun D e1 h' F' N' l1 => ?_
    have N2 : News h₀ L h' news := fun p hp => N' p (.tail _ hp)
    obtain ⟨fs, k1, k2, k3⟩ := R.tups N2
    refine kat_kind k1 (by (first | with_reducible assumption | lia | omega)) (T := Value.type "tuple") (fun v hv => ?_) rfl ?_
    · obtain ⟨b, o, rfl, ho, hc⟩ := k3 v hv
      have hk : Looks (model prog w) h' (typeOf (.ref b)) o.cls := (Looks.ld ho).andThen .now
      rw [hc] at hk
      exact hk
    · show (kas_sort vs.length).kasWp (kas_ask prog w A.in1.in1 (tuples' false) vs) _ _
      refine okT_wp (lt := ltK fun i => (xs.getD i (0, 0, 0)).2.1) (n := xs.length) (I := fun s' => s' = { s with heap := h' }) ?_ ?_ (Q := fun p => PV xs.length p ∧ upTo (fun i => (xs.getD i (0, 0, 0)).2.1) p xs.length) (by rw [hl]; exact ok_sort (by (first | with_reducible assumption | lia | omega)) hinj) rfl
      · rintro i j C s' hi hj rfl hC
        exact ask_lv (A := A.in1.in1) N2 R hinj (show A.units + 1 + 1 < cLine by (first | with_reducible assumption | lia | omega)) i j C hi hj (hC _ rfl)
      · rintro p s' ⟨hp, hup⟩ rfl
        refine KasFin.intro F' N' (UpdF.head fun q hq => Nat.ne_of_lt (l1 q hq)) fun h'' c F'' N'' => ?_
        have hpl : p.toList.Perm (List.range xs.length) := Array.perm_iff_toList_perm.mp hp
        have hb : ∀ i ∈ p.toList, i < xs.length := fun i hi => by simpa using hpl.mem_iff.mp hi
        refine h D c h'' _ (p.toList.map fun i => xs.getD i (0, 0, 0)) F'' N'' (allLt_of l1) (R.pick _ hb) (map_getD_perm xs _ hpl) ?_
        have hsz := hp.size
        rw [List.pairwise_map, List.pairwise_iff_getElem]
        intro i j hi hj hij
        have hi' : i < xs.length := by simpa [hsz] using hi
        have hj' : j < xs.length := by simpa [hsz] using hj
        have e1 : p.getD i 0 = p.toList[i] := by simp [Array.getD, show i < p.size by (first | with_reducible assumption | lia | omega)]
        have e2 : p.getD j 0 = p.toList[j] := by simp [Array.getD, show j < p.size by (first | with_reducible assumption | lia | omega)]
        have hle := hup i j (by (first | with_reducible assumption | lia | omega)) hj'
        have hne := Kp_ne hp hinj hi' hj' (by (first | with_reducible assumption | lia | omega))
        unfold Kp at hle hne
        rw [e1, e2] at hle hne
        have := Int.lt_iff_le_and_ne.mpr ⟨hle, hne⟩
        exact this
end
theorem fresh14 : True := by
  w_top off
  trivial
def IsNames (prog : Program) (w : World) (ax : Addr) (ob : Obj) (ns : List Int) : Prop := (∃ vs nn, ob = lst vs nn ∧ IntsAre vs ns) ∨ ((ax == sysModules) = false ∧ ∃ kvs, ob.IsDictOf (intKind prog w) kvs ∧ kvs.map (·.1) = ns)
section
open PyProof.Rows.LCg
variable {prog : Program} {w : World} {A : Around} {E : Value → Shared → Prop} {s : Shared} {h₀ : Heap} {L : Addr} {m : Str → Option Value} {env : Env}
def SrcN (prog : Program) (w : World) (A : Around) (h₀ : Heap) (L : Addr) (m : Str → Option Value) (env : Env) (elt : PySem.Expr) (x : Str) (scope : Scope) (cl : List (Str × Addr)) (Fin : Shared → List Value → Lg → Prop) (xv : Value) (s₁ : Shared) : Prop :=
  (Xs4 fun ax ob ns news => (Cj7 (xv = .ref ax) (A.handled = none) (Fr h₀ L s₁.heap m) (News h₀ L s₁.heap news) ((ax, ob) ∈ news) (IsNames prog w ax ob ns) ((ns.length ≤ 1000) ∧ (∀ s₂ : Shared, (∃ h, s₂ = { s₁ with heap := h }) → CompRest prog w A h₀ L m env elt x scope cl s₂ (fun nw => (ax, ob) ∈ nw) (fun i v => ∃ n t, v = .int n t ∧ ns[i]? = some n) (Fin s₂) ns.length 0 [] news))))
theorem walks_of {I : Addr} {fp wr : List Addr} {n : Nat} {P P' : Nat → Value → Prop} {St : Nat → Heap → Prop} (W : Walks prog w A I fp wr n P St) (hP : ∀ i v, P i v → P' i v) : Walks prog w A I fp wr n P' St :=
  { sub := W.sub, frame := W.frame, done := W.done, self := W.self, item := fun i s Q E hi st hQ => W.item i s Q E hi st fun v h' tk hp => hQ v h' tk (hP i v hp) }
theorem ListComp_N {elt iter : PySem.Expr} {x : Str} {px : Pos} {scope : Scope} {cl : List (Str × Addr)} {pos : Pos} {Q : Value → Shared → Prop} (F₀ : Fr h₀ L s.heap m)
    (hclos : closureFor scope env = pure cl) (hcell : ∀ y ∈ scope.names, y.2 ≠ .cell) (hkind : scope.kind = .function)
    (hnames : ∀ y ∈ scope.names, y.2 = .local → scope.names.lookup y.1 = some .local) (hx : scope.names.lookup x = some .local)
    (h : wpAny (model prog w) A (eval iter env) (SrcN prog w A h₀ L m env elt x scope cl (fun s₂ => FinE h₀ L m s₂ Q)) E s)
    (hs : ∀ x, foldedSetIterable iter env x = pure x := by intro _; rfl) :
    wpAny (model prog w) A (eval (.ListComp elt [⟨.Name x px, iter, [], 0⟩] scope pos) env) Q E s := by
  have _ := F₀
  rw [eval_ListComp]
  refine wpAny_comprehension_free (use := none) rfl hs hclos hkind hnames (wpAny_mono h (fun xv s₁ h₁ => ?_) fun _ _ e => e)
  refine opq ?_
  intro GG hGG
  obtain ⟨ax, ob, ns, news, rfl, hh, F, N, hm, hnm, hsz, R⟩ := h₁
  have hfin : ∀ (s₂ : Shared), (∃ h, s₂ = { s₁ with heap := h }) → ∀ D C h tk m' ys news', Fr h₀ L h m → News h₀ L h ((D, LCg.lst ys) :: news') → Off1 D news' → h.Ns C m' → h₀.get? C = none → h₀.get? D = none → C ≠ L → D ≠ L → C ≠ D → (∀ p ∈ news', p.1 ≠ C) → FinE h₀ L m s₂ Q ys news' →
      ∃ m', h.Ns C m' ∧ ∀ h'', Heap.SameBut C h h'' → Q (.ref D) { s₂ with heap := h'', toks := tk } := by
    intro s₂ _ D C h tk m' ys news' F' N' o1 hn hC₀ hD₀ hCL hDL hCD offC fin
    refine ⟨m', hn, fun h'' hs'' => fin D h'' tk (F'.change hs'' hCL hC₀) (fun p hp => ?_) o1⟩
    refine ⟨hs''.extBut _ _ ?_ (N' p hp).1, (N' p hp).2⟩
    rcases List.mem_cons.mp hp with rfl | hp
    · exact Ne.symm hCD
    · exact offC p hp
  have hlt : ax < s₁.heap.objs.size := Heap.lt_size (N _ hm).1
  refine hGG ?_
  clear hGG GG
  rcases hnm with ⟨vs, nn, rfl, hi⟩ | ⟨lo, kvs, hd, rfl⟩
  · have hl : s₁.heap.IsList ax vs.toArray := News.isList N hm
    have hlen : vs.toArray.size = ns.length := by simp [hi.length]
    refine wpAny_pyIter_list hl ?_
    have W := walks_of (Walks.list (prog := prog) (w := w) hh s₁.heap.objs.size ax (Nat.ne_of_lt hlt) vs.toArray) (P' := fun i v => ∃ n t, v = .int n t ∧ ns[i]? = some n) fun i v hp => by
      refine opq ?_
      intro GG hGG
      obtain ⟨n, t, e1, e2⟩ := ints_at hi (i := i) (v := v) (by simpa using hp)
      refine hGG ?_
      clear hGG GG
      exact ⟨n, t, e1, e2⟩
    rw [hlen] at W
    refine block_U W (by rw [sizeLine_eq]; (first | with_reducible assumption | lia | omega)) (fun i h st => by obtain ⟨o, e, _⟩ := st.1; exact ⟨o, e⟩) (S := fun nw => (ax, PySem.W.listOf vs.toArray nn) ∈ nw) (fun i h h' o nw st e e' k N' S => list_st i h h' o nw st e e' k N' (.inr ⟨_, S, rfl, _, rfl⟩)) hcell hkind hx ⟨⟨_, Heap.get?_push_size _ rfl, rfl, rfl⟩, hl.push _⟩ (fun b hb => ?_)
      (F.push _) (fun p hp => ⟨Heap.get?_push_of_some _ (N p hp).1, (N p hp).2⟩) (Nat.ne_of_lt F.ns.lt) (next_is_new F) (fun p hp => Nat.ne_of_lt (Heap.lt_size (N p hp).1)) hm (R _ ⟨_, rfl⟩) ?_
    · show b < (s₁.heap.push _).objs.size
      rw [Heap.size_push]
      rcases List.mem_cons.mp hb with rfl | hb
      · exact Nat.lt_succ_self _
      · rw [List.mem_singleton.mp hb]; exact Nat.lt_succ_of_lt hlt
    · exact hfin _ ⟨_, rfl⟩
  · obtain ⟨es, ep, c1, c2, c3, c4, c5⟩ := id hd
    have hat : ∀ {h' : Heap}, h'.get? ax = some ob → h'.DictAt (intKind prog w) ax kvs ep := fun e => ⟨ob, es, e, c1, c2, c3, c4, c5⟩
    have hlen : kvs.length = (kvs.map (·.1)).length := by simp
    refine wpAny_pyIter_dict lo (hat (N _ hm).1) ?_
    have W := walks_of (Walks.dictKeys (prog := prog) (w := w) (knd := intKind prog w) hh s₁.heap.objs.size ax (Nat.ne_of_lt hlt) kvs ep) (P' := fun i v => ∃ n t, v = .int n t ∧ (kvs.map (·.1))[i]? = some n) fun i v hp => by
      refine opq ?_
      intro GG hGG
      obtain ⟨k, u, hx, hk⟩ := hp
      refine hGG ?_
      clear hGG GG
      cases v <;> simp [intKind, Value.isInt] at hk
      exact ⟨_, _, rfl, by simp [hx, hk]⟩
    rw [hlen] at W
    refine block_U W (by rw [sizeLine_eq]; (first | with_reducible assumption | lia | omega)) (fun i h st => by obtain ⟨o, e, _⟩ := st.1; exact ⟨o, e⟩) (S := fun nw => (ax, ob) ∈ nw) (fun i h h' o nw st e e' k N' S => ⟨?_, hat (N' _ S).1⟩) hcell hkind hx ⟨⟨_, Heap.get?_push_size _ rfl, rfl, by rw [← hlen]; rfl⟩, (hat (N _ hm).1).push _⟩ (fun b hb => ?_)
      (F.push _) (fun p hp => ⟨Heap.get?_push_of_some _ (N p hp).1, (N p hp).2⟩) (Nat.ne_of_lt F.ns.lt) (next_is_new F) (fun p hp => Nat.ne_of_lt (Heap.lt_size (N p hp).1)) hm (R _ ⟨_, rfl⟩) ?_
    · obtain ⟨o', q, r⟩ := st.1
      rw [e] at q; cases q; exact ⟨o, e', r⟩
    · show b < (s₁.heap.push _).objs.size
      rw [Heap.size_push]
      rcases List.mem_cons.mp hb with rfl | hb
      · exact Nat.lt_succ_self _
      · rw [List.mem_singleton.mp hb]; exact Nat.lt_succ_of_lt hlt
    · exact hfin _ ⟨_, rfl⟩
theorem compP_all {elt : PySem.Expr} {x x₂ : Str} {scope : Scope} {cl : List (Str × Addr)} {S : Lg → Prop} {P : Nat → Value → Prop} {Fin : List Value → Lg → Prop} {n : Nat} (J : Nat → List Value → Lg → Prop)
    (turn : ∀ i v ys nw, i < n → P i v → J i ys nw → ∃ (t : Addr) (ot : Obj) (v₁ v₂ : Value) (nt : Nat), v = .ref t ∧ (t, ot) ∈ nw ∧ ot.cls = .type "tuple" ∧ ot.data = .seq #[v₁, v₂] nt ∧
      ∀ I oI C oC D m₂ h tk (E' : Value → Shared → Prop), NsObj oC m₂ → m₂ x = some v₁ → m₂ x₂ = some v₂ → Fr h₀ L h m → News h₀ L h ((I, oI) :: (C, oC) :: (D, LCg.lst ys) :: nw) → Off3 I C D nw → ((@Ne Nat I C) ∧ (@Ne Nat I D) ∧ (@Ne Nat C D)) →
      wpAny (model prog w) A (eval elt (compEnvC scope cl C env)) (CompEnd h₀ L m { s with heap := h, toks := tk } I oI C oC D (LCg.lst ys) S (fun y nw' => J (i + 1) (ys ++ [y]) nw')) E' { s with heap := h, toks := tk })
    (done : ∀ ys nw, J n ys nw → Fin ys nw) : ∀ (k i : Nat) (ys : List Value) (nw : Lg), i + k = n → J i ys nw → LCp.CompRestP prog w A h₀ L m env elt x x₂ scope cl s S P Fin k i ys nw
  | 0, i, ys, nw, e, hj => .zero (done ys nw (by rw [← show i = n by (first | with_reducible assumption | lia | omega)]; exact hj))
  | k + 1, i, ys, nw, e, hj => .succ fun v hP => by
    refine opq ?_
    intro GG hGG
    obtain ⟨t, ot, v₁, v₂, nt, e1, e2, e3, e4, hr⟩ := turn i v ys nw (by (first | with_reducible assumption | lia | omega)) hP hj
    refine hGG ?_
    clear hGG GG
    refine ⟨t, ot, v₁, v₂, nt, e1, e2, e3, e4, fun I oI C oC D m₂ h tk E' a b c d e' f g => ?_⟩
    exact wpAny_mono (hr I oI C oC D m₂ h tk E' a b c d e' f g) (fun _ _ h' => CompEnd.mono' h' fun nw' hj' => compP_all J turn done k (i + 1) _ _ (by (first | with_reducible assumption | lia | omega)) hj') fun _ _ e => e
end
def lifeRow (ivs : List (Int × Int × Int)) (v : Int) : Int × Int × Int := (v, startOf ivs v, endOf ivs v)
theorem TupRel.snoc {news : Lg} {vs : List Value} {xs : List (Int × Int × Int)} (h : TupRel news vs xs) {a b : Addr} {v f l : Int} {t t1 t2 : Tok} (h1 : (a, tup [.ref b, .int v t]) ∈ news) (h2 : (b, tup [.int f t1, .int l t2]) ∈ news) : TupRel news (vs ++ [.ref a]) (xs ++ [(v, f, l)]) := by
  induction h with
  | nil => exact .cons h1 h2 .nil
  | cons a1 a2 _ ih => exact .cons a1 a2 ih
theorem words8_31502 : True := by
  k_with "SrcN" => (k_here; refine Halt.out ?_)
  k_with "eval ListComp" => (k_here; first
  | ((with_reducible show wpAny _ _ (eval (PySem.Expr.ListComp _ [⟨PySem.Expr.Name _ _, _, [_], _⟩] _ _) _) _ _ _); k_dflt (refine LCt.ListComp_T (F₀ := by k_asm) (by with_unfolding_all rfl) (by decide) (by rfl) (by decide) (by rfl) ?_))
  | ((with_reducible show wpAny _ _ (eval (PySem.Expr.ListComp _ [⟨PySem.Expr.Name _ _, _, [], _⟩] _ _) _) _ _ _); k_dflt (refine ListComp_N (F₀ := by k_asm) (by with_unfolding_all rfl) (by decide) (by rfl) (by decide) (by rfl) ?_))
  | ((with_reducible show wpAny _ _ (eval (PySem.Expr.ListComp _ [⟨PySem.Expr.Tuple _ _ _, _, [], _⟩] _ _) _) _ _ _); k_dflt (refine LCp.ListComp_P (F₀ := by k_asm) (by with_unfolding_all rfl) (by decide) (by rfl) (by decide) (by rfl) (by rfl) (by decide) ?_)))
  k_with "call builtin:sorted" => (k_here; (with_reducible show wpAny _ _ (call (Value.builtin "sorted") [Value.ref _]) _ _ _); refine Halt.out ?_)
  trivial
set_option maxHeartbeats 1000000 in
theorem in_order_c {w : World} {news : Lg} {nm lv : Addr} {ob oL : Obj} {kvs : List (Int × Value)} {ivs : List (Int × Int × Int)} {ns : List Int}
    (hn : (nm, ob) ∈ news) (hN : IsNames P0 w nm ob ns) (hns : ∀ v ∈ ns, v ∈ ivs.map (·.1)) (hnd : (ns.map (startOf ivs)).Nodup) (h50 : ns.length ≤ 50) (hL : LivesAt w news lv oL kvs ivs) :
    Ctr w 96 [.ref nm, .ref lv] 2 20 news (fun r nw => (∃ ys, (Cj3 (ListRes ys news r nw) (ys.Perm ns) (ys.Pairwise (fun a b => startOf ivs a < startOf ivs b))))) := by
  intro mean mg mb dp un gd cn cs a ccd cl outer A₀ base h₀ L m s Q E B F X N T hk hd hu ret
  refine wpAny_call ?_
  k_dflt (refine' code_defC (binds := [(PySem.Str.ofString "names", Value.ref nm), (PySem.Str.ofString "lives", Value.ref lv)]) ?k1 ?k2 ?k3 ?k4 ?k5 ?kA ?kF ?kK ?k6 ?k7 ?k8 ?k9 ?kB ?kD ?_ ?c2 ?c3 ?c4; (case kA => exact rfl); (case kF => exact rfl); (case kK => assumption); (case k1 => k_asm); (case k2 => k_asm); (case k3 => k_asm); (case k4 => k_asm); (case k5 => k_asm); (case k6 => k_is); (case k7 => k_is); (case k8 => first | exact depth_room (by assumption) | ktr_room); (case k9 => exact BindsTo.of_eq rfl); (case kB => exact rfl); (case kD => decide +kernel); (case c2 => exact rfl); (case c3 => exact rfl); (case c4 => exact rfl); k_whole)
  intro gE LE hE tE cellsE FG' F' N' YE B' X' T' lE
  k_cells YE
  (try simp only [List.cons_append, List.nil_append] at N')
  (try dsimp only)
  replace lE := allLt_of lE
  refine gen_E ?_
  k_steps
  all_goals (try k_data)
  refine opq ?_
  intro GG hGG
  obtain ⟨oc, rfl⟩ := pickO2 N'
  rename Obj.data _ = _ => hcell
  refine hGG ?_
  clear hGG GG
  refine Halt.mk ?_
  refine ⟨nm, ob, ns, _, rfl, rfl, by k_asm, by k_asm, by k_mem, hN, by (first | with_reducible assumption | lia | omega), ?_⟩
  rintro s₂ ⟨g, rfl⟩
  k_dflt (refine' compU_all (fun i ys nw => (∀ p ∈ (LE + 1, oc) :: news, p ∈ nw) ∧ TupRel nw ys ((ns.take i).map (lifeRow ivs))) ?_ ?_ _ 0 [] _ (Nat.zero_add _) ⟨fun _ h => h, .nil⟩)
  · rintro i v ys nw I oI C oC D m₂ h tk E' hi' ⟨u, tu, rfl, eu⟩ ⟨hS, hR⟩ hC hx F2 N2 off ne
    refine opq ?_
    intro GG hGG
    obtain ⟨offI, offC, offD⟩ := Off3_ne off
    obtain ⟨f, l, hlf⟩ := lifeOf_mem (hns u (List.mem_of_getElem? eu))
    obtain ⟨al, t7, t8, hva, hma⟩ := hL.rel.look hlf
    have hma' := hS _ (.tail _ hma)
    have hLm' := hS _ (.tail _ hL.mem)
    have hLd := hL.dict
    have hc' := hS _ (.head _)
    refine hGG ?_
    clear hGG GG
    k_steps
    rename News gE _ _ _ => N5
    refine opq ?_
    intro GG hGG
    obtain ⟨xt, rfl⟩ := pickA N5
    refine hGG ?_
    clear hGG GG
    refine LCg.CompEnd.intro (by k_asm) N5 ((xt, tup [.ref al, .int u tu]) :: nw) (by k_extra "my sub") (Off3_of (by k_all) (by k_all) (by k_all)) (.tail _ (hS _ (.tail _ hn))) ⟨fun p hp => .tail _ (hS p hp), ?_⟩
    · rw [map_take eu, show lifeRow ivs u = (u, f, l) by simp [lifeRow, startOf, endOf, hlf]]
      exact (hR.mono fun p hp => .tail _ hp).snoc (.head _) (.tail _ hma')
  · rintro ys nw ⟨hS, hR⟩
    rw [List.take_length] at hR
    intro D h tk F3 N3 o1
    replace o1 := Off1_ne o1
    (try simp only [AllNe] at o1)
    k_steps
    all_goals (try k_data)
    refine Halt.mk ?_
    refine sorted_lv F3 N3 (.head _) (hR.mono fun p hp => .tail _ hp) ?_ ?_ ?_ ?_
    · rw [List.map_map]; exact hnd
    · rw [List.length_map]; (first | with_reducible assumption | lia | omega)
    · ktr_units
    rintro D2 c h2 vs' xs' F4 N4 hlt R4 hperm hpw
    have hl4 := R4.length
    have hpl := hperm.length_eq
    rw [List.length_map] at hpl
    k_steps
    all_goals (try k_data)
    refine Halt.mk ?_
    k_dflt (refine' LCp.SrcLP.ledger (its := vs'.toArray) (k := c) rfl ?F ?N ?m ?z ?_; (case F => k_asm); (case N => k_asm); (case m => k_mem); (case z => rw [List.size_toArray, sizeLine_eq]; (first | with_reducible assumption | lia | omega)))
    intro g2
    k_dflt (refine' compP_all (fun i ys nw2 => nw2 = _ ∧ IntsAre ys ((xs'.take i).map (·.1))) ?_ ?_ _ 0 [] _ (Nat.zero_add _) ⟨rfl, .nil⟩)
    · rintro i v ys2 nw2 hi2 hP ⟨rfl, hy2⟩
      rw [List.size_toArray, hl4] at hi2
      refine opq ?_
      intro GG hGG
      obtain ⟨a2, b2, v2, f2, l2, t2, t3, t4, q1, q2, q3, q4⟩ := R4.at hi2
      simp only [List.getElem?_toArray] at hP
      rw [q1] at hP
      refine hGG ?_
      clear hGG GG
      cases hP
      refine ⟨a2, _, .ref b2, .int v2 t2, 0, rfl, by k_mem, rfl, rfl, ?_⟩
      intro I oI C oC D3 m₂ h3 tk3 E' hC hx1 hx2 F5 N5 off ne
      k_steps
      refine LCg.CompEnd.intro F5 N5 _ (fun p hp => hp) off (srcAt_of (by k_mem)) ?_
      refine ⟨rfl, ?_⟩
      rw [map_take q2]
      exact ints_snoc hy2 _ _
    · rintro ys2 nw2 ⟨rfl, hy2⟩
      rw [List.size_toArray, hl4, List.take_length] at hy2
      intro D3 h3 tk3 F5 N5 o3
      replace o3 := Off1_ne o3
      simp only [AllNe] at o3
      k_steps
      refine ret _ ((D3, lst ys2 ys2.length) :: news) _ _ (by k_asm) (News.sub (by k_asm) fun p hp => ?_) ?_
      · rcases List.mem_cons.mp hp with rfl | hp
        · exact .head _
        · exact .tail _ (.tail _ (.tail _ (hS p (.tail _ hp))))
      refine ⟨xs'.map (·.1), ⟨_, _, _, rfl, rfl, hy2, AllNe_sub o3.2.2 fun p hp => hS p (.tail _ hp)⟩, ?_, ?_⟩
      · have := hperm.map (·.1)
        rw [List.map_map] at this
        rwa [show ns.map ((·.1) ∘ lifeRow ivs) = ns by simp [Function.comp_def, lifeRow]] at this
      · rw [List.pairwise_map]
        refine hpw.imp_of_mem fun {a b} ha hb hab => ?_
        refine opq ?_
        intro GG hGG
        obtain ⟨va, _, rfl⟩ := List.mem_map.mp (hperm.mem_iff.mp ha)
        obtain ⟨vb, _, rfl⟩ := List.mem_map.mp (hperm.mem_iff.mp hb)
        refine hGG ?_
        clear hGG GG
        exact hab
theorem fresh15 : True := by
  w_top off
  trivial
theorem useAt_starts (st : List (Int × Int × Int)) (v t : Int) : (useAt st v t).map (·.2.1) = st.map (·.2.1) := by
  unfold useAt
  rw [List.map_map]
  apply List.map_congr_left
  intro p _
  by_cases h : p.1 = v <;> simp [h]
theorem usesAt_starts (us : List Int) (st : List (Int × Int × Int)) (t : Int) : (usesAt st us t).map (·.2.1) = st.map (·.2.1) := by
  unfold usesAt
  induction us generalizing st with
  | nil => rfl
  | cons u us ih => rw [List.foldl_cons, ih, useAt_starts]
theorem spansStep_starts (st : List (Int × Int × Int)) (i : Int) (r : Row) : (spansStep st i r).map (·.2.1) = st.map (·.2.1) ++ (if r.k.defs then [2 * i + 1] else []) := by
  unfold spansStep
  rw [List.map_append, usesAt_starts]
  cases h : r.k.defs <;> simp
theorem spansFrom_starts (R : List Row) : ∀ (st : List (Int × Int × Int)) (i : Int), (st.map (·.2.1)).Pairwise (· < ·) → (∀ x ∈ st.map (·.2.1), x < 2 * i + 1) → ((spansFrom st i R).map (·.2.1)).Pairwise (· < ·) := by
  induction R with
  | nil => intro st i h _; exact h
  | cons r R ih =>
    intro st i h hb
    refine ih _ _ ?_ ?_
    · rw [spansStep_starts, List.pairwise_append]
      refine ⟨h, ?_, ?_⟩
      · split
        · exact List.pairwise_singleton _ _
        · exact .nil
      · intro a ha b hb'
        split at hb'
        · rw [List.mem_singleton.mp hb']; exact hb a ha
        · cases hb'
    · intro x hx
      rw [spansStep_starts, List.mem_append] at hx
      rcases hx with hx | hx
      · have := hb x hx; (first | with_reducible assumption | lia | omega)
      · split at hx
        · rw [List.mem_singleton.mp hx]; (first | with_reducible assumption | lia | omega)
        · cases hx
theorem spansOf_starts (R : List Row) : ((spansOf R).map (·.2.1)).Pairwise (· < ·) := spansFrom_starts R [] 0 .nil (fun x hx => by cases hx)
theorem namesOf_nodup {R : List Row} (h : WF R) : (namesOf R).Nodup := by
  have key : ∀ i, i ≤ R.length → (namesOf (R.take i)).Nodup := by
    intro i
    induction i with
    | zero => intro _; rw [List.take_zero]; exact List.nodup_nil
    | succ i ih =>
      intro hi
      obtain ⟨r, hr⟩ : ∃ r, R[i]? = some r := ⟨R[i], by simp [show i < R.length by (first | with_reducible assumption | lia | omega)]⟩
      rw [namesOf_take hr, List.nodup_append]
      refine ⟨ih (by (first | with_reducible assumption | lia | omega)), ?_, ?_⟩
      · unfold namesOf
        cases hd : r.k.defs <;> simp [hd]
      · intro a ha b hb e
        subst e
        unfold namesOf at hb
        cases hd : r.k.defs with
        | false => simp [hd] at hb
        | true =>
          simp [hd] at hb
          exact ((h i r hr).2 hd).2 (hb ▸ ha)
  have := key R.length (Nat.le_refl _)
  rwa [List.take_length] at this
theorem lifeOf_of_mem {ivs : List (Int × Int × Int)} (hn : (ivs.map (·.1)).Nodup) {v f l : Int} (h : (v, f, l) ∈ ivs) : lifeOf ivs v = some (f, l) := by
  obtain ⟨f', l', e⟩ := lifeOf_mem (List.mem_map.mpr ⟨_, h, rfl⟩)
  have := lifeOf_only hn e _ h rfl
  cases this
  exact e
theorem starts_map {ivs : List (Int × Int × Int)} (hn : (ivs.map (·.1)).Nodup) : (ivs.map (·.1)).map (startOf ivs) = ivs.map (·.2.1) := by
  rw [List.map_map]
  apply List.map_congr_left
  rintro ⟨v, f, l⟩ hp
  show startOf ivs v = f
  rw [startOf, lifeOf_of_mem hn hp]
theorem pair_nodup {l : List Int} (h : l.Pairwise (· < ·)) : l.Nodup := h.imp fun {a b} hab => by (first | with_reducible assumption | lia | omega)
theorem spans_start_nodup {R : List Row} (h : WF R) : ((namesOf R).map (startOf (spansOf R))).Nodup := by
  have hn : ((spansOf R).map (·.1)).Nodup := by rw [spansOf_names]; exact namesOf_nodup h
  rw [← spansOf_names, starts_map hn]
  exact pair_nodup (spansOf_starts R)
theorem fresh16 : True := by
  w_top off
  trivial
structure Scan where
  act : List Int
  kept : List Int
  spilled : List Int
def scanStep (ivs : List (Int × Int × Int)) (count : Int) (st : Scan) (v : Int) : Scan :=
  let a := st.act.filter fun u => decide (startOf ivs v ≤ endOf ivs u)
  if (a.length : Int) < count then ⟨a ++ [v], st.kept ++ [v], st.spilled⟩
  else
    let vic := latestOf ivs ((a ++ [v]).headD 0) (a ++ [v])
    if vic ≠ v then ⟨(a.filter fun u => decide (u ≠ vic)) ++ [v], (st.kept ++ [v]).filter fun u => decide (u ≠ vic), st.spilled ++ [vic]⟩
    else ⟨a, st.kept, st.spilled ++ [vic]⟩
def scanOf (ivs : List (Int × Int × Int)) (count : Int) (ys : List Int) : Scan := ys.foldl (scanStep ivs count) ⟨[], [], []⟩
theorem scanOf_take {ivs : List (Int × Int × Int)} {count : Int} {ys : List Int} {i : Nat} {v : Int} (h : ys[i]? = some v) : scanOf ivs count (ys.take (i + 1)) = scanStep ivs count (scanOf ivs count (ys.take i)) v := by
  unfold scanOf
  rw [List.take_add_one, h, Option.toList_some, List.foldl_append]; rfl
def AsgAt (w : World) (nw : Lg) (x dx rg sl : Addr) : Prop := ∃ t1 t2, (x, PySem.W.instObj 80 dx) ∈ nw ∧
  (dx, PySem.W.dictOf [{ hash := PyData.keyHash w.params (PySem.Str.ofString "registers"), key := .str (PySem.Str.ofString "registers") t1, val := .ref rg }, { hash := PyData.keyHash w.params (PySem.Str.ofString "slots"), key := .str (PySem.Str.ofString "slots") t2, val := .ref sl }] 2) ∈ nw
theorem AsgAt.mono {w : World} {nw nw' : Lg} {x dx rg sl : Addr} (h : AsgAt w nw x dx rg sl) (hs : ∀ p ∈ nw, p ∈ nw') : AsgAt w nw' x dx rg sl :=
  let ⟨t1, t2, h1, h2⟩ := h; ⟨t1, t2, hs _ h1, hs _ h2⟩
/-- the values of a dict are numbers -/
def IntVals (kvs : List (Int × Value)) (ps : List (Int × Int)) : Prop := ∃ ts : List Tok, kvs = (ps.zip ts).map fun q => (q.1.1, Value.int q.1.2 q.2)
theorem scanStep_inv {ivs : List (Int × Int × Int)} {count : Int} {st : Scan} {v : Int} {ys : List Int} (ha : ∀ u ∈ st.act, u ∈ st.kept) (hp : (st.kept ++ st.spilled).Perm ys) (hn : (ys ++ [v]).Nodup) :
    (∀ u ∈ (scanStep ivs count st v).act, u ∈ (scanStep ivs count st v).kept) ∧ ((scanStep ivs count st v).kept ++ (scanStep ivs count st v).spilled).Perm (ys ++ [v]) := by
  have hn1 := (List.nodup_append.mp hn).1
  have hv : v ∉ ys := fun h => (List.nodup_append.mp hn).2.2 v h v (.head _) rfl
  have hvk : v ∉ st.kept := fun h => hv (hp.mem_iff.mp (List.mem_append_left _ h))
  have hkn : st.kept.Nodup := (List.nodup_append.mp ((hp.nodup_iff).mpr hn1)).1
  unfold scanStep
  dsimp only
  split
  · refine ⟨fun u hu => ?_, ?_⟩
    · rcases List.mem_append.mp hu with hu | hu
      · exact List.mem_append_left _ (ha u ((List.mem_filter.mp hu).1))
      · exact List.mem_append_right _ hu
    · refine List.Perm.trans ?_ (hp.append_right [v])
      rw [List.append_assoc, List.append_assoc]
      exact List.Perm.append_left _ List.perm_append_comm
  · have hmem := latestOf_mem (ivs := ivs) (st.act.filter (fun u => decide (startOf ivs v ≤ endOf ivs u)) ++ [v]) ((st.act.filter (fun u => decide (startOf ivs v ≤ endOf ivs u)) ++ [v]).headD 0)
    generalize hvic : latestOf ivs ((st.act.filter (fun u => decide (startOf ivs v ≤ endOf ivs u)) ++ [v]).headD 0) (st.act.filter (fun u => decide (startOf ivs v ≤ endOf ivs u)) ++ [v]) = vic at *
    have hm : vic ∈ st.act.filter (fun u => decide (startOf ivs v ≤ endOf ivs u)) ++ [v] := by
      rcases List.mem_cons.mp hmem with e | e
      · cases hc : st.act.filter (fun u => decide (startOf ivs v ≤ endOf ivs u)) with
        | nil => rw [hc] at e; rw [e]; exact .head _
        | cons a r => rw [hc] at e; rw [e]; exact .head _
      · exact e
    split
    · rename_i hne
      have hvk2 : vic ∈ st.kept := by
        rcases List.mem_append.mp hm with e | e
        · exact ha _ ((List.mem_filter.mp e).1)
        · exact absurd (List.mem_singleton.mp e) hne
      have hf : ((st.kept ++ [v]).filter fun u => decide (u ≠ vic)) = (st.kept.filter fun u => decide (u ≠ vic)) ++ [v] := by
        rw [List.filter_append]
        congr 1
        simp [Ne.symm hne]
      refine ⟨fun u hu => ?_, ?_⟩
      · rw [hf]
        rcases List.mem_append.mp hu with hu | hu
        · obtain ⟨h1, h2⟩ := List.mem_filter.mp hu
          exact List.mem_append_left _ (List.mem_filter.mpr ⟨ha u ((List.mem_filter.mp h1).1), h2⟩)
        · exact List.mem_append_right _ hu
      · rw [hf]
        have h1 : st.kept.Perm (vic :: st.kept.filter fun u => decide (u ≠ vic)) := by
          have e : (st.kept.filter fun u => decide (u ≠ vic)) = st.kept.erase vic := by
            rw [hkn.erase_eq_filter]
            congr 1
            funext u
            simp [bne, BEq.beq]
          rw [e]
          exact List.perm_cons_erase hvk2
        refine List.Perm.trans ?_ (((h1.append_right st.spilled).symm.trans hp).append_right [v])
        simp only [List.append_assoc, List.cons_append]
        have h2 : ((st.kept.filter fun u => decide (u ≠ vic)) ++ ([v] ++ (st.spilled ++ [vic]))).Perm ((vic :: (st.kept.filter fun u => decide (u ≠ vic))) ++ (st.spilled ++ [v])) := by
          have h3 : ((st.kept.filter fun u => decide (u ≠ vic)) ++ ([v] ++ (st.spilled ++ [vic]))).Perm (((st.kept.filter fun u => decide (u ≠ vic)) ++ (st.spilled ++ [v])) ++ [vic]) := by
            rw [List.append_assoc]
            refine List.Perm.append_left _ ?_
            rw [List.append_assoc, ← List.append_assoc]
            refine List.Perm.trans (List.Perm.append_right [vic] (List.perm_append_comm (l₁ := [v]) (l₂ := st.spilled))) ?_
            rw [List.append_assoc]
          exact h3.trans (List.perm_append_comm (l₂ := [vic]))
        exact h2
    · rename_i hne
      have hev : vic = v := by simpa using hne
      refine ⟨fun u hu => ha u ((List.mem_filter.mp hu).1), ?_⟩
      rw [hev, ← List.append_assoc]
      exact hp.append_right [v]
theorem scanOf_inv {ivs : List (Int × Int × Int)} {count : Int} {ys : List Int} (hn : ys.Nodup) : ∀ i, i ≤ ys.length → (∀ u ∈ (scanOf ivs count (ys.take i)).act, u ∈ (scanOf ivs count (ys.take i)).kept) ∧ ((scanOf ivs count (ys.take i)).kept ++ (scanOf ivs count (ys.take i)).spilled).Perm (ys.take i) := by
  intro i
  induction i with
  | zero => intro _; rw [List.take_zero]; exact ⟨(fun u hu => nomatch hu), List.Perm.refl _⟩
  | succ i ih =>
    intro hi
    obtain ⟨v, hv⟩ : ∃ v, ys[i]? = some v := ⟨ys[i], by simp [show i < ys.length by (first | with_reducible assumption | lia | omega)]⟩
    obtain ⟨h1, h2⟩ := ih (by (first | with_reducible assumption | lia | omega))
    have e : ys.take (i + 1) = ys.take i ++ [v] := by rw [List.take_add_one, hv]; rfl
    rw [scanOf_take hv]
    have := scanStep_inv (ivs := ivs) (count := count) h1 h2 (v := v) (by rw [← e]; exact hn.sublist (List.take_sublist _ _))
    rw [e]; exact this
theorem scanStep_sub {ivs : List (Int × Int × Int)} {count : Int} {st : Scan} {v : Int} (h : st.act.Sublist st.kept) : (scanStep ivs count st v).act.Sublist (scanStep ivs count st v).kept := by
  have h0 : (st.act.filter fun u => decide (startOf ivs v ≤ endOf ivs u)).Sublist st.kept := List.filter_sublist.trans h
  unfold scanStep
  dsimp only
  split
  · exact h0.append (.refl _)
  · split
    · rename_i hne
      rw [List.filter_append]
      refine (h0.filter _).append ?_
      rw [List.filter_cons, if_pos (decide_eq_true (Ne.symm hne))]
      exact .refl _
    · exact h0
theorem scanOf_sub {ivs : List (Int × Int × Int)} {count : Int} {ys : List Int} : ∀ i, (scanOf ivs count (ys.take i)).act.Sublist (scanOf ivs count (ys.take i)).kept := by
  intro i
  induction i with
  | zero => rw [List.take_zero]; exact .slnil
  | succ i ih =>
    cases hv : ys[i]? with
    | none => rw [List.take_add_one, hv]; simpa using ih
    | some v => rw [scanOf_take hv]; exact scanStep_sub ih

theorem valInt {kvs : List (Int × Value)} (h : ∀ kv ∈ kvs, ∃ n t, kv.2 = Value.int n t) {w : Int} (hw : w ∈ kvs.map (·.1)) : ∃ n t, valueAt kvs w = some (.int n t) := by
  induction kvs with
  | nil => cases hw
  | cons kv r ih =>
    by_cases e : kv.1 = w
    · obtain ⟨n, t, e2⟩ := h kv (.head _)
      exact ⟨n, t, by simp [valueAt, e, e2]⟩
    · have hw' : w ∈ r.map (·.1) := by
        rcases List.mem_cons.mp hw with q | q
        · exact absurd q.symm e
        · exact q
      obtain ⟨n, t, e2⟩ := ih (fun kv hkv => h kv (.tail _ hkv)) hw'
      exact ⟨n, t, by simpa [valueAt, e] using e2⟩
theorem stored_keys_new {kvs : List (Int × Value)} {k : Int} {v : Value} (h : k ∉ kvs.map (·.1)) : stored kvs k v = kvs ++ [(k, v)] := by
  unfold stored
  rw [if_neg]
  intro q
  obtain ⟨p, hp, e⟩ := List.any_eq_true.mp q
  exact h (List.mem_map.mpr ⟨p, hp, by simpa using e⟩)
theorem pickO5 {h₀ h : Heap} {L a : Addr} {o : Obj} {p q r s : Addr × Obj} {nw : Lg} (_ : News h₀ L h (p :: q :: r :: s :: (a, o) :: nw)) : ∃ o', o' = o := ⟨_, rfl⟩
theorem pickO8 {h₀ h : Heap} {L a : Addr} {o : Obj} {p1 p2 p3 p4 p5 p6 p7 : Addr × Obj} {nw : Lg} (_ : News h₀ L h (p1 :: p2 :: p3 :: p4 :: p5 :: p6 :: p7 :: (a, o) :: nw)) : ∃ o', o' = o := ⟨_, rfl⟩
theorem dict_get {prog : Program} {w : World} {A : Around} {E : Value → Shared → Prop} {s : Shared} {h₀ : Heap} {L d : Addr} {news : Lg} {o : Obj} {kvs : List (Int × Value)} {k : Int} {t : Tok} {v : Value} {Q : Value → Shared → Prop} (N : News h₀ L s.heap news) (hp : (d, o) ∈ news) (hd : o.IsDictOf (intKind prog w) kvs) (hl : valueAt kvs k = some v)
    (h : Q v { s with toks := s.toks + 1 }) : wpAny (model prog w) A (getItem (.ref d) (.int k t)) Q E s := wpAny_getItem_of (intKind_is _ _ _ _) (PySem.W.kda_dict N hp hd).mapOf hl h
theorem dict_del {prog : Program} {w : World} {A : Around} {E : Value → Shared → Prop} {s : Shared} {h₀ : Heap} {L d : Addr} {news : Lg} {o : Obj} {g : Obj → Lg} {m : Str → Option Value} {kvs : List (Int × Value)} {k : Int} {t : Tok} {Q : Unit → Shared → Prop} (F : Fr h₀ L s.heap m) (N : News h₀ L s.heap news) (U : PySem.W.UpdF d o news g) (hd : o.IsDictOf (intKind prog w) kvs)
    (hsz : kvs.length < 2 ^ 20) (hv : (valueAt kvs k).isSome = true) (h : ∀ h' o', Fr h₀ L h' m → News h₀ L h' (g o') → o'.IsDictOf (intKind prog w) (kvs.filter fun kv => decide (kv.1 ≠ k)) → Q () { s with heap := h', toks := s.toks + 1 }) :
    wpAny (model prog w) A (delItem (.ref d) (.int k t)) Q E s := by
  obtain ⟨pre, post, rfl, hg, a, b⟩ := U.split
  have hm := N (d, o) (List.mem_append_right _ (.head _))
  have hD : s.heap.DictOf (intKind prog w) d kvs := Heap.dictOf_iff.mpr ⟨o, hm.1, hd⟩
  unfold delItem
  try with_reducible refine wpAny_holding ?_
  refine wpAny_bind (wpAny_sequenceKey hD.typeIs (by decide) ?_)
  refine wpAny_bind (wpAny_callSpecial?_slot (name := Str.ofString "__delitem__") hD.typeIs PySem.F.slot_dict_delitem
    (call_meetsIn PySem.F.slot_dict_delitem hD.typeIs PySem.F.entry_dict_delitem (PySem.F.args_dict_delitem_2 _ _) (meets_dict_delitem_pairs (intKind prog w) d (intKind_is _ _ _ _)) ⟨kvs, hD, (by rw [sizeLine_eq]; (first | with_reducible assumption | lia | omega)), hv, fun h' hmm hs => ?_⟩))
  obtain ⟨o', ho', hd'⟩ := Heap.dictOf_iff.mp hmm
  exact wpAny_pure (h h' o' (F.change hs hm.2.1 hm.2.2) (hg o' ▸ N.setIn a b hs ho') hd')
theorem dict_itemA {prog : Program} {w : World} {A : Around} {E : Value → Shared → Prop} {s : Shared} {h₀ : Heap} {L d : Addr} {news : Lg} {value slice : PySem.Expr} {o : Obj} {kvs : List (Int × Value)} {k : Int} {t : Tok} {v : Value} {Q : Value → Shared → Prop} (N : News h₀ L s.heap news) (hp : (d, o) ∈ news) (hd : o.IsDictOf (intKind prog w) kvs) (hl : valueAt kvs k = some v)
    (h : Q v { s with toks := s.toks + 1 }) (hs : subscripted slice false (.ref d) (.int k t) = operate [.ref d, .int k t] (getItem (.ref d) (.int k t)) := by with_unfolding_all rfl) : wpAny (model prog w) A (subscriptTail value slice (.ref d) (.int k t)) Q E s :=
  PyProof.Rows.tail_any (PySem.W.kda_dict N hp hd).typeIs slot_dict_getitem.lookup (dict_get N hp hd hl h) hs
theorem words9_31502 : True := by
  k_with "delItem ref int" => (k_here; refine Halt.out ?_)
  k_with "delItem" => (k_here; refine Halt.out ?_)
  k_with "subscriptTail Attribute" => (k_here; (with_reducible show wpAny _ _ (subscriptTail (PySem.Expr.Attribute _ _ _) _ (Value.ref _) (Value.int _ _)) _ _ _); k_dflt (refine' dict_itemA ?zzN ?zzm ?zzd ?zzv ?_; (case zzN => k_asm); (case zzm => k_mem); (case zzd => with_reducible assumption); (case zzv => assumption); k_whole))
  k_with "getItem ref int" => (k_here; (with_reducible show wpAny _ _ (getItem (Value.ref _) (Value.int _ _)) _ _ _); k_dflt (refine' dict_get ?zzN ?zzm ?zzd ?zzv ?_; (case zzN => k_asm); (case zzm => k_mem); (case zzd => with_reducible assumption); (case zzv => assumption); k_whole))
  trivial
theorem fresh17 : True := by
  w_top off
  trivial
/-- parts of the program, by place -/
def fnBody (p : Program) (n : Nat) : List Stmt := match p.main.body[n]? with | some (.FunctionDef _ _ body _ _ _ _ _ _ _) => body | _ => []
def fnScope (p : Program) (n : Nat) : Scope := match p.main.body[n]? with | some (.FunctionDef _ _ _ _ _ _ scope _ _ _) => scope | _ => { kind := .function, names := [], isGenerator := false, isCoroutine := false, more := [] }
def forBody (b : List Stmt) (n : Nat) : List Stmt := match b[n]? with | some (.For _ _ body _ _) => body | some (.While _ body _ _) => body | _ => []
def scanBody : List Stmt := forBody (fnBody P0 13) 4
theorem fresh18 : True := by
  w_top off
  trivial
/-- two lives at the start of one, and is older -/
def alv (ivs : List (Int × Int × Int)) (one two : Int) : Bool := decide (startOf ivs two < startOf ivs one) && decide (startOf ivs one ≤ endOf ivs two)
def aliveIn (ivs : List (Int × Int × Int)) (some : List Int) (one : Int) : Nat := 1 + (some.filter (alv ivs one)).length
def crowdOf (ivs : List (Int × Int × Int)) (some : List Int) : Nat := some.foldl (fun m one => max m (aliveIn ivs some one)) 0
theorem foldmax_le {α : Type} (f : α → Nat) (l : List α) : ∀ (m c : Nat), l.foldl (fun m a => max m (f a)) m ≤ c ↔ m ≤ c ∧ ∀ a ∈ l, f a ≤ c := by
  induction l with
  | nil => intro m c; simp
  | cons a l ih =>
    intro m c
    rw [List.foldl_cons, ih]
    simp only [List.mem_cons, forall_eq_or_imp, Nat.max_le, and_assoc]
theorem crowd_le {ivs : List (Int × Int × Int)} {S : List Int} {c : Nat} : crowdOf ivs S ≤ c ↔ ∀ one ∈ S, aliveIn ivs S one ≤ c := by
  unfold crowdOf
  rw [foldmax_le]
  simp
theorem filter_len_le {S T : List Int} {p q : Int → Bool} (hn : S.Nodup) (h : ∀ a ∈ S, p a = true → a ∈ T ∧ q a = true) : (S.filter p).length ≤ (T.filter q).length :=
  len_le_of_sub (hn.sublist List.filter_sublist) fun a ha => List.mem_filter.mpr (h a (List.mem_filter.mp ha).1 (List.mem_filter.mp ha).2)
theorem crowd_mono {ivs : List (Int × Int × Int)} {S T : List Int} (hn : S.Nodup) (h : ∀ a ∈ S, a ∈ T) : crowdOf ivs S ≤ crowdOf ivs T := by
  rw [crowd_le]
  intro one h1
  have h2 := (crowd_le (ivs := ivs) (S := T) (c := crowdOf ivs T)).mp (Nat.le_refl _) one (h one h1)
  refine Nat.le_trans ?_ h2
  exact Nat.add_le_add_left (filter_len_le hn fun a ha hp => ⟨h a ha, hp⟩) 1
theorem crowd_perm {ivs : List (Int × Int × Int)} {S T : List Int} (h : S.Perm T) : crowdOf ivs S = crowdOf ivs T := by
  have key : ∀ {S T : List Int}, S.Perm T → crowdOf ivs S ≤ crowdOf ivs T := by
    intro S T h
    rw [crowd_le]
    intro one h1
    have h2 := (crowd_le (ivs := ivs) (S := T) (c := crowdOf ivs T)).mp (Nat.le_refl _) one (h.mem_iff.mp h1)
    refine Nat.le_trans (Nat.le_of_eq ?_) h2
    exact congrArg (1 + ·) (h.filter _).length_eq
  exact Nat.le_antisymm (key h) (key h.symm)
/-! the pressure is the crowd -/
theorem cnt_split {f : Int} : ∀ {ivs : List (Int × Int × Int)}, (ivs.map (·.2.1)).Nodup → (∃ p ∈ ivs, p.2.1 = f ∧ f ≤ p.2.2) → ivs.countP (fun q => decide (q.2.1 ≤ f) && decide (f ≤ q.2.2)) = 1 + ivs.countP (fun q => decide (q.2.1 < f) && decide (f ≤ q.2.2))
  | [], _, ⟨p, hp, _⟩ => nomatch hp
  | q :: r, hn, ⟨p, hp, hf, hl⟩ => by
    rw [List.map_cons, List.nodup_cons] at hn
    rw [List.countP_cons, List.countP_cons]
    by_cases hq : q.2.1 = f
    · have e : p = q := by
        rcases List.mem_cons.mp hp with e | hp
        · exact e
        · exact absurd (List.mem_map.mpr ⟨p, hp, hf.trans hq.symm⟩) hn.1
      subst e
      have : r.countP (fun q => decide (q.2.1 ≤ f) && decide (f ≤ q.2.2)) = r.countP (fun q => decide (q.2.1 < f) && decide (f ≤ q.2.2)) := by
        refine List.countP_congr fun x hx => ?_
        have hne : x.2.1 ≠ f := fun e => hn.1 (List.mem_map.mpr ⟨x, hx, e.trans hq.symm⟩)
        simp only [Bool.and_eq_true, decide_eq_true_eq]
        (first | with_reducible assumption | lia | omega)
      rw [this, if_pos (by simp; (first | with_reducible assumption | lia | omega)), if_neg (by simp; (first | with_reducible assumption | lia | omega))]
      (first | with_reducible assumption | lia | omega)
    · have ih := cnt_split (f := f) hn.2 ⟨p, by
        rcases List.mem_cons.mp hp with e | hp
        · exact absurd (e ▸ hf) hq
        · exact hp, hf, hl⟩
      rw [ih]
      have : (decide (q.2.1 ≤ f) && decide (f ≤ q.2.2)) = (decide (q.2.1 < f) && decide (f ≤ q.2.2)) := by
        rw [Bool.eq_iff_iff]
        simp only [Bool.and_eq_true, decide_eq_true_eq]
        (first | with_reducible assumption | lia | omega)
      rw [this]
      (first | with_reducible assumption | lia | omega)
theorem foldmax_cast {α : Type} (g : α → Int) (h : α → Nat) : ∀ (l : List α) (m : Nat), (∀ a ∈ l, g a = (h a : Int)) → l.foldl (fun m a => max m (g a)) (m : Int) = ((l.foldl (fun m a => max m (h a)) m : Nat) : Int)
  | [], _, _ => rfl
  | a :: l, m, e => by
    rw [List.foldl_cons, List.foldl_cons, e a (.head _), show max (m : Int) (h a : Int) = ((max m (h a) : Nat) : Int) by (first | with_reducible assumption | lia | omega)]
    exact foldmax_cast g h l _ fun b hb => e b (.tail _ hb)
theorem pressure_crowd {ivs : List (Int × Int × Int)} {ns : List Int} (hn : (ivs.map (·.1)).Nodup) (hs : (ivs.map (·.2.1)).Nodup) (hl : ∀ p ∈ ivs, p.2.1 ≤ p.2.2) (hp : ns.Perm (ivs.map (·.1))) : pressureOf ivs = (crowdOf ivs ns : Int) := by
  rw [crowd_perm hp, crowdOf, List.foldl_map, pressureOf]
  refine foldmax_cast _ _ _ 0 ?_
  rintro ⟨v, f, l⟩ hv
  have hlf := lifeOf_of_mem hn hv
  have hst : startOf ivs v = f := by rw [startOf, hlf]
  show aliveAt ivs f = _
  unfold aliveAt aliveIn
  rw [cnt_split hs ⟨_, hv, rfl, hl _ hv⟩]
  congr 2
  rw [← List.countP_eq_length_filter, List.countP_map]
  refine List.countP_congr ?_
  rintro ⟨v', f', l'⟩ hv'
  have hlf' := lifeOf_of_mem hn hv'
  simp only [alv, Function.comp_apply, hst, startOf, endOf, hlf', hlf]
/-! the scan keeps as many as can be kept -/
theorem latest_end {ivs : List (Int × Int × Int)} (ns : List Int) : ∀ b, endOf ivs b ≤ endOf ivs (latestOf ivs b ns) ∧ ∀ y ∈ ns, endOf ivs y ≤ endOf ivs (latestOf ivs b ns) := by
  induction ns with
  | nil => intro b; exact ⟨Int.le_refl _, fun y hy => nomatch hy⟩
  | cons u ns ih =>
    intro b
    show _ ≤ endOf ivs (latestOf ivs (if later ivs u b = true then u else b) ns) ∧ ∀ y ∈ u :: ns, _ ≤ endOf ivs (latestOf ivs (if later ivs u b = true then u else b) ns)
    obtain ⟨h1, h2⟩ := ih (if later ivs u b = true then u else b)
    have hb : endOf ivs b ≤ endOf ivs (if later ivs u b = true then u else b) ∧ endOf ivs u ≤ endOf ivs (if later ivs u b = true then u else b) := by
      split
      · rename_i h
        simp only [later, Bool.or_eq_true, Bool.and_eq_true, decide_eq_true_eq] at h
        (first | with_reducible assumption | lia | omega)
      · rename_i h
        simp only [later, Bool.or_eq_true, Bool.and_eq_true, decide_eq_true_eq] at h
        (first | with_reducible assumption | lia | omega)
    refine ⟨by (first | with_reducible assumption | lia | omega), fun y hy => ?_⟩
    rcases List.mem_cons.mp hy with rfl | hy
    · (first | with_reducible assumption | lia | omega)
    · exact h2 y hy
/-- what holds of the scan after some names (rest is ahead) -/
structure Good (ivs : List (Int × Int × Int)) (names : List Int) (c : Nat) (st : Scan) (rest : List Int) : Prop where
  nd : (st.kept ++ rest).Nodup
  sub : ∀ u ∈ st.act, u ∈ st.kept
  and : st.act.Nodup
  low : ∀ u ∈ st.kept, ∀ v ∈ rest, startOf ivs u < startOf ivs v
  act : ∀ u ∈ st.kept, ∀ v ∈ rest, startOf ivs v ≤ endOf ivs u → u ∈ st.act
  len : st.act.length ≤ c
  fit : ∀ one ∈ st.kept, aliveIn ivs st.kept one ≤ c
  opt : ∀ S : List Int, S.Nodup → (∀ a ∈ S, a ∈ names) → crowdOf ivs S ≤ c → ∃ S' : List Int, S'.Nodup ∧ S.length ≤ S'.length ∧ crowdOf ivs S' ≤ c ∧ ∀ a ∈ S', a ∈ st.kept ∨ a ∈ rest
theorem Good.swap {ivs : List (Int × Int × Int)} {names : List Int} {c : Nat} {st : Scan} {v : Int} {rest : List Int} (G : Good ivs names c st (v :: rest)) (hpw : (v :: rest).Pairwise fun a b => startOf ivs a < startOf ivs b)
    {a : List Int} (ea : a = st.act.filter fun u => decide (startOf ivs v ≤ endOf ivs u)) (hc : c ≤ a.length) {vic : Int} (hv : vic ∈ a ++ [v]) (hl : ∀ y ∈ a ++ [v], endOf ivs y ≤ endOf ivs vic)
    {act' kept' sp' : List Int} (hk : ∀ x, x ∈ kept' ↔ (x ∈ st.kept ∨ x = v) ∧ x ≠ vic) (hkn : kept'.Nodup) (ha : ∀ x, x ∈ act' ↔ (x ∈ a ∨ x = v) ∧ x ≠ vic) (han : act'.Nodup) : Good ivs names c ⟨act', kept', sp'⟩ rest := by
  obtain ⟨hn1, hn2, hn3⟩ := List.nodup_append.mp G.nd
  rw [List.nodup_cons] at hn2
  rw [List.pairwise_cons] at hpw
  have hvk : v ∉ st.kept := fun h => hn3 v h v (.head _) rfl
  have haa : ∀ u ∈ a, u ∈ st.act ∧ u ∈ st.kept ∧ startOf ivs v ≤ endOf ivs u ∧ startOf ivs u < startOf ivs v := fun u hu => by
    rw [ea] at hu
    obtain ⟨h1, h2⟩ := List.mem_filter.mp hu
    exact ⟨h1, G.sub u h1, by simpa using h2, G.low u (G.sub u h1) v (.head _)⟩
  have hand : a.Nodup := by rw [ea]; exact G.and.sublist List.filter_sublist
  have hva : v ∉ a := fun h => hvk (haa v h).2.1
  have hal : a.length ≤ c := by rw [ea]; exact Nat.le_trans (List.length_filter_le _ _) G.len
  have hin : ∀ x ∈ st.kept, startOf ivs v ≤ endOf ivs x → x ∈ a := fun x hx h => by
    rw [ea]; exact List.mem_filter.mpr ⟨G.act x hx v (.head _) h, by simpa using h⟩
  have hsA : ∀ y ∈ a ++ [v], startOf ivs y ≤ startOf ivs v := fun y hy => by
    rcases List.mem_append.mp hy with h | h
    · exact Int.le_of_lt (haa y h).2.2.2
    · rw [List.mem_singleton.mp h]; exact Int.le_refl _
  have hfit : ∀ one ∈ kept', aliveIn ivs kept' one ≤ c := by
    intro one h1
    obtain ⟨h2, h3⟩ := (hk one).mp h1
    rcases h2 with h2 | h2
    · refine Nat.le_trans (Nat.add_le_add_left (filter_len_le hkn fun x hx hp => ?_) 1) (G.fit one h2)
      refine ⟨?_, hp⟩
      rcases ((hk x).mp hx).1 with h | h
      · exact h
      · have := G.low one h2 v (.head _)
        simp only [alv, Bool.and_eq_true, decide_eq_true_eq, h] at hp
        (first | with_reducible assumption | lia | omega)
    · subst h2
      have hvica : vic ∈ a := by
        rcases List.mem_append.mp hv with h | h
        · exact h
        · exact absurd (List.mem_singleton.mp h).symm h3
      have : ((vic :: kept'.filter (alv ivs one))).length ≤ a.length := by
        refine len_le_of_sub (List.nodup_cons.mpr ⟨fun h => ((hk vic).mp (List.mem_filter.mp h).1).2 rfl, hkn.sublist List.filter_sublist⟩) fun x hx => ?_
        rcases List.mem_cons.mp hx with rfl | hx
        · exact hvica
        · obtain ⟨h4, h5⟩ := List.mem_filter.mp hx
          simp only [alv, Bool.and_eq_true, decide_eq_true_eq] at h5
          rcases ((hk x).mp h4).1 with h | h
          · exact hin x h h5.2
          · rw [h] at h5; (first | with_reducible assumption | lia | omega)
      rw [List.length_cons] at this
      unfold aliveIn
      (first | with_reducible assumption | lia | omega)
  refine ⟨?_, ?_, han, ?_, ?_, ?_, hfit, ?_⟩
  · refine List.nodup_append.mpr ⟨hkn, hn2.2, fun x hx y hy e => ?_⟩
    subst e
    rcases ((hk x).mp hx).1 with h | h
    · exact hn3 x h x (.tail _ hy) rfl
    · exact hn2.1 (h ▸ hy)
  · intro u hu
    obtain ⟨h1, h2⟩ := (ha u).mp hu
    exact (hk u).mpr ⟨h1.imp_left fun h => (haa u h).2.1, h2⟩
  · intro u hu w hw
    rcases ((hk u).mp hu).1 with h | h
    · exact G.low u h w (.tail _ hw)
    · rw [h]; exact hpw.1 w hw
  · intro u hu w hw h
    obtain ⟨h1, h2⟩ := (hk u).mp hu
    refine (ha u).mpr ⟨?_, h2⟩
    rcases h1 with h1 | h1
    · have := hpw.1 w hw
      exact .inl (hin u h1 (by (first | with_reducible assumption | lia | omega)))
    · exact .inr h1
  · have : (vic :: act').length ≤ (a ++ [v]).length := by
      refine len_le_of_sub (List.nodup_cons.mpr ⟨fun h => ((ha vic).mp h).2 rfl, han⟩) fun x hx => ?_
      rcases List.mem_cons.mp hx with rfl | hx
      · exact hv
      · rcases ((ha x).mp hx).1 with h | h
        · exact List.mem_append_left _ h
        · rw [h]; exact List.mem_append_right _ (.head _)
    simp only [List.length_cons, List.length_append, List.length_nil] at this
    show act'.length ≤ c
    (first | with_reducible assumption | lia | omega)
  · intro S h1 h2 h3
    obtain ⟨S', g1, g2, g3, g4⟩ := G.opt S h1 h2 h3
    rw [crowd_le] at g3
    have g4' : ∀ x ∈ S', x ≠ vic → x ∈ kept' ∨ x ∈ rest := fun x hx hne => by
      rcases g4 x hx with h | h
      · exact .inl ((hk x).mpr ⟨.inl h, hne⟩)
      · rcases List.mem_cons.mp h with h | h
        · exact .inl ((hk x).mpr ⟨.inr h, hne⟩)
        · exact .inr h
    by_cases hvS : vic ∈ S'
    · have hy : ∃ y ∈ a ++ [v], y ∉ S' := by
        refine Classical.byContradiction fun hno => ?_
        have hall : ∀ y ∈ a ++ [v], y ∈ S' := fun y hy => Classical.byContradiction fun h => hno ⟨y, hy, h⟩
        have hvv := g3 v (hall v (List.mem_append_right _ (.head _)))
        have : a.length ≤ (S'.filter (alv ivs v)).length := by
          refine len_le_of_sub hand fun x hx => List.mem_filter.mpr ⟨hall x (List.mem_append_left _ hx), ?_⟩
          obtain ⟨_, _, q1, q2⟩ := haa x hx
          simp only [alv, Bool.and_eq_true, decide_eq_true_eq]
          exact ⟨q2, q1⟩
        unfold aliveIn at hvv
        (first | with_reducible assumption | lia | omega)
      obtain ⟨y, hy, hyS⟩ := hy
      have hyv : y ≠ vic := fun e => hyS (e ▸ hvS)
      have hyk : y ∈ kept' := by
        refine (hk y).mpr ⟨?_, hyv⟩
        rcases List.mem_append.mp hy with h | h
        · exact .inl (haa y h).2.1
        · exact .inr (List.mem_singleton.mp h)
      have hE : ∀ x ∈ S'.erase vic, x ∈ S' ∧ x ≠ vic := fun x hx => ⟨List.mem_of_mem_erase hx, fun e => by
        rw [e] at hx; exact ((List.Nodup.mem_erase_iff g1).mp hx).1 rfl⟩
      have hmem : ∀ x ∈ y :: S'.erase vic, x ∈ kept' ∨ x ∈ rest := fun x hx => by
        rcases List.mem_cons.mp hx with rfl | hx
        · exact .inl hyk
        · exact g4' x (hE x hx).1 (hE x hx).2
      have hnd : (y :: S'.erase vic).Nodup := List.nodup_cons.mpr ⟨fun h => hyS (hE y h).1, g1.sublist List.erase_sublist⟩
      refine ⟨y :: S'.erase vic, hnd, ?_, ?_, hmem⟩
      · have := List.length_erase_of_mem hvS
        have := List.length_pos_of_mem hvS
        rw [List.length_cons]
        (first | with_reducible assumption | lia | omega)
      · rw [crowd_le]
        intro one ho
        by_cases hlt : startOf ivs v < startOf ivs one
        · have hoS : one ∈ S' := by
            rcases List.mem_cons.mp ho with e | h
            · have := hsA y hy; rw [e] at hlt; (first | with_reducible assumption | lia | omega)
            · exact (hE one h).1
          refine Nat.le_trans ?_ (g3 one hoS)
          unfold aliveIn
          rw [((List.perm_cons_erase hvS).filter (alv ivs one)).length_eq]
          simp only [List.filter_cons]
          have hyy := hl y hy
          have hsv := hsA vic hv
          by_cases q : alv ivs one y = true
          · have q2 : alv ivs one vic = true := by
              simp only [alv, Bool.and_eq_true, decide_eq_true_eq] at q ⊢
              (first | with_reducible assumption | lia | omega)
            rw [if_pos q, if_pos q2]
            simp
          · rw [if_neg q]
            split <;> simp
        · have hok : one ∈ kept' := by
            rcases hmem one ho with h | h
            · exact h
            · have := hpw.1 one h; (first | with_reducible assumption | lia | omega)
          refine Nat.le_trans (Nat.add_le_add_left (filter_len_le hnd fun x hx hp => ⟨?_, hp⟩) 1) (hfit one hok)
          simp only [alv, Bool.and_eq_true, decide_eq_true_eq] at hp
          rcases hmem x hx with h | h
          · exact h
          · have := hpw.1 x h; (first | with_reducible assumption | lia | omega)
    · exact ⟨S', g1, g2, crowd_le.mpr g3, fun x hx => g4' x hx fun e => hvS (e ▸ hx)⟩
theorem Good.step {ivs : List (Int × Int × Int)} {names : List Int} {c : Nat} {st : Scan} {v : Int} {rest : List Int} (G : Good ivs names c st (v :: rest)) (hpw : (v :: rest).Pairwise fun a b => startOf ivs a < startOf ivs b) : Good ivs names c (scanStep ivs c st v) rest := by
  obtain ⟨hn1, hn2, hn3⟩ := List.nodup_append.mp G.nd
  have hpw' := List.pairwise_cons.mp hpw
  have hvk : v ∉ st.kept := fun h => hn3 v h v (.head _) rfl
  unfold scanStep
  dsimp only
  generalize ea : (st.act.filter fun u => decide (startOf ivs v ≤ endOf ivs u)) = a
  have haa : ∀ u ∈ a, u ∈ st.kept := fun u hu => by
    rw [← ea] at hu
    exact G.sub u (List.mem_filter.mp hu).1
  have hand : a.Nodup := by rw [← ea]; exact G.and.sublist List.filter_sublist
  have hva : v ∉ a := fun h => hvk (haa v h)
  have hin : ∀ x ∈ st.kept, startOf ivs v ≤ endOf ivs x → x ∈ a := fun x hx h => by
    rw [← ea]; exact List.mem_filter.mpr ⟨G.act x hx v (.head _) h, by simpa using h⟩
  split
  · rename_i hlt
    have hlt' : a.length < c := by (first | with_reducible assumption | lia | omega)
    refine ⟨by rw [List.append_assoc]; exact G.nd, ?_, ?_, ?_, ?_, ?_, ?_, ?_⟩
    · intro u hu
      rcases List.mem_append.mp hu with h | h
      · exact List.mem_append_left _ (haa u h)
      · exact List.mem_append_right _ h
    · refine List.nodup_append.mpr ⟨hand, (List.pairwise_singleton _ _), fun x hx y hy e => ?_⟩
      rw [List.mem_singleton.mp hy] at e
      exact hva (e ▸ hx)
    · intro u hu w hw
      rcases List.mem_append.mp hu with h | h
      · exact G.low u h w (.tail _ hw)
      · rw [List.mem_singleton.mp h]; exact hpw'.1 w hw
    · intro u hu w hw h
      rcases List.mem_append.mp hu with h1 | h1
      · have := hpw'.1 w hw
        exact List.mem_append_left _ (hin u h1 (by (first | with_reducible assumption | lia | omega)))
      · exact List.mem_append_right _ h1
    · show (a ++ [v]).length ≤ c
      rw [List.length_append, List.length_singleton]; (first | with_reducible assumption | lia | omega)
    · intro one ho
      have e : (st.kept ++ [v]).filter (alv ivs one) = st.kept.filter (alv ivs one) := by
        rw [List.filter_append]
        have : alv ivs one v = false := by
          refine Bool.eq_false_iff.mpr fun h => ?_
          simp only [alv, Bool.and_eq_true, decide_eq_true_eq] at h
          rcases List.mem_append.mp ho with h1 | h1
          · have := G.low one h1 v (.head _); (first | with_reducible assumption | lia | omega)
          · rw [List.mem_singleton.mp h1] at h; (first | with_reducible assumption | lia | omega)
        simp [this]
      unfold aliveIn
      rw [e]
      rcases List.mem_append.mp ho with h1 | h1
      · exact G.fit one h1
      · rw [List.mem_singleton.mp h1]
        have : (st.kept.filter (alv ivs v)).length ≤ a.length := len_le_of_sub (hn1.sublist List.filter_sublist) fun x hx => by
          obtain ⟨h4, h5⟩ := List.mem_filter.mp hx
          simp only [alv, Bool.and_eq_true, decide_eq_true_eq] at h5
          exact hin x h4 h5.2
        (first | with_reducible assumption | lia | omega)
    · intro S h1 h2 h3
      obtain ⟨S', g1, g2, g3, g4⟩ := G.opt S h1 h2 h3
      refine ⟨S', g1, g2, g3, fun x hx => ?_⟩
      rcases g4 x hx with h | h
      · exact .inl (List.mem_append_left _ h)
      · rcases List.mem_cons.mp h with h | h
        · exact .inl (List.mem_append_right _ (by rw [h]; exact .head _))
        · exact .inr h
  · rename_i hlt
    have hc : c ≤ a.length := by (first | with_reducible assumption | lia | omega)
    have hlat := latest_end (ivs := ivs) (a ++ [v]) ((a ++ [v]).headD 0)
    have hmem := latestOf_mem (ivs := ivs) (a ++ [v]) ((a ++ [v]).headD 0)
    generalize latestOf ivs ((a ++ [v]).headD 0) (a ++ [v]) = vic at *
    have hm : vic ∈ a ++ [v] := by
      rcases List.mem_cons.mp hmem with e | e
      · cases hca : a with
        | nil => rw [hca] at e; rw [e]; exact .head _
        | cons b r => rw [hca] at e; rw [e]; exact .head _
      · exact e
    split
    · rename_i hne
      refine G.swap hpw ea.symm hc hm hlat.2 (fun x => ?_) ?_ (fun x => ?_) ?_
      · simp only [List.mem_filter, List.mem_append, List.mem_singleton, decide_eq_true_eq]
      · refine List.Nodup.sublist List.filter_sublist (List.nodup_append.mpr ⟨hn1, (List.pairwise_singleton _ _), fun x hx y hy e => ?_⟩)
        rw [List.mem_singleton.mp hy] at e
        exact hvk (e ▸ hx)
      · simp only [List.mem_append, List.mem_filter, List.mem_singleton, decide_eq_true_eq]
        constructor
        · rintro (⟨h1, h2⟩ | h1)
          · exact ⟨.inl h1, h2⟩
          · exact ⟨.inr h1, by rw [h1]; exact Ne.symm hne⟩
        · rintro ⟨h1 | h1, h2⟩
          · exact .inl ⟨h1, h2⟩
          · exact .inr h1
      · refine List.nodup_append.mpr ⟨hand.sublist List.filter_sublist, (List.pairwise_singleton _ _), fun x hx y hy e => ?_⟩
        rw [List.mem_singleton.mp hy] at e
        exact hva (e ▸ (List.mem_filter.mp hx).1)
    · rename_i hne
      have hev : vic = v := by simpa using hne
      subst hev
      refine G.swap hpw ea.symm hc hm hlat.2 (fun x => ?_) hn1 (fun x => ?_) hand
      · constructor
        · intro h; exact ⟨.inl h, fun e => hvk (e ▸ h)⟩
        · rintro ⟨h1 | h1, h2⟩
          · exact h1
          · exact absurd h1 h2
      · constructor
        · intro h; exact ⟨.inl h, fun e => hva (e ▸ h)⟩
        · rintro ⟨h1 | h1, h2⟩
          · exact h1
          · exact absurd h1 h2
theorem Good.run {ivs : List (Int × Int × Int)} {names : List Int} {c : Nat} : ∀ (rest : List Int) (st : Scan), Good ivs names c st rest → rest.Pairwise (fun a b => startOf ivs a < startOf ivs b) → Good ivs names c (rest.foldl (scanStep ivs c) st) []
  | [], _, G, _ => G
  | _ :: rest, _, G, hpw => Good.run rest _ (G.step hpw) (List.pairwise_cons.mp hpw).2
theorem scan_best {ivs : List (Int × Int × Int)} {c : Nat} {ys : List Int} (hpw : ys.Pairwise fun a b => startOf ivs a < startOf ivs b) :
    (scanOf ivs c ys).kept.Nodup ∧ crowdOf ivs (scanOf ivs c ys).kept ≤ c ∧ ∀ S : List Int, S.Nodup → (∀ a ∈ S, a ∈ ys) → crowdOf ivs S ≤ c → S.length ≤ (scanOf ivs c ys).kept.length := by
  have hn : ys.Nodup := hpw.imp fun {a b} h e => by rw [e] at h; (first | with_reducible assumption | lia | omega)
  have G : Good ivs ys c (scanOf ivs c ys) [] := Good.run ys ⟨[], [], []⟩ ⟨by simpa using hn, fun u hu => (nomatch hu), .nil, fun u hu => (nomatch hu), fun u hu => (nomatch hu), Nat.zero_le _, fun u hu => (nomatch hu), fun S h1 h2 h3 => ⟨S, h1, Nat.le_refl _, h3, fun a ha => .inr (h2 a ha)⟩⟩ hpw
  have hk : (scanOf ivs c ys).kept.Nodup := by simpa using G.nd
  refine ⟨hk, crowd_le.mpr G.fit, fun S h1 h2 h3 => ?_⟩
  obtain ⟨S', g1, g2, _, g4⟩ := G.opt S h1 h2 h3
  refine Nat.le_trans g2 (len_le_of_sub g1 fun a ha => ?_)
  rcases g4 a ha with h | h
  · exact h
  · cases h
theorem fresh19 : True := by
  w_top off
  trivial
/-- a slots dict: names to slots, in order -/
inductive SlotRel : List (Int × Value) → List (Int × Int) → Prop
  | nil : SlotRel [] []
  | cons {v k : Int} {t : Tok} {r c} : SlotRel r c → SlotRel ((v, .int k t) :: r) ((v, k) :: c)
theorem SlotRel.length {r c} (h : SlotRel r c) : r.length = c.length := by
  induction h with
  | nil => rfl
  | cons _ ih => simp [ih]
theorem SlotRel.keys {r c} (h : SlotRel r c) : r.map (·.1) = c.map (·.1) := by
  induction h with
  | nil => rfl
  | cons _ ih => simp [ih]
theorem SlotRel.snoc {r c} (h : SlotRel r c) (v k : Int) (t : Tok) : SlotRel (r ++ [(v, .int k t)]) (c ++ [(v, k)]) := by
  induction h with
  | nil => exact .cons .nil
  | cons _ ih => exact .cons ih
theorem SlotRel.at {r c} (h : SlotRel r c) : ∀ {i : Nat} {k : Int} {u : Value}, r[i]? = some (k, u) → ∃ n t, u = .int n t ∧ c[i]? = some (k, n) := by
  induction h with
  | nil => intro i k u e; simp at e
  | @cons v k' t r c _ ih =>
    intro i k u e
    cases i with
    | zero =>
      simp at e
      obtain ⟨rfl, rfl⟩ := e
      exact ⟨k', t, rfl, by simp⟩
    | succ i =>
      obtain ⟨n, t', e1, e2⟩ := ih (by simpa using e)
      exact ⟨n, t', e1, by simpa using e2⟩
/-- two lives meet -/
def meets (ivs : List (Int × Int × Int)) (v u : Int) : Bool := decide (startOf ivs v ≤ endOf ivs u) && decide (startOf ivs u ≤ endOf ivs v)
def takenBy (ivs : List (Int × Int × Int)) (v : Int) (ps : List (Int × Int)) : List Int := (ps.filter fun p => meets ivs v p.1).map (·.2)
/-- each name has the least slot that no earlier one that it meets has -/
def GoodSlots (ivs : List (Int × Int × Int)) (ps : List (Int × Int)) : Prop := ∀ i v k, ps[i]? = some (v, k) → IsMex (takenBy ivs v (ps.take i)) k
theorem foldmaxZ_le {α : Type} (f : α → Int) (l : List α) : ∀ (m c : Int), l.foldl (fun m a => max m (f a)) m ≤ c ↔ m ≤ c ∧ ∀ a ∈ l, f a ≤ c := by
  induction l with
  | nil => intro m c; simp
  | cons a l ih =>
    intro m c
    rw [List.foldl_cons, ih]
    simp only [List.mem_cons, forall_eq_or_imp, Int.max_le, and_assoc]
def slotMost (ps : List (Int × Int)) : Int := ps.foldl (fun m p => max m (p.2 + 1)) 0
theorem slotMost_le {ps : List (Int × Int)} {c : Int} : slotMost ps ≤ c ↔ 0 ≤ c ∧ ∀ p ∈ ps, p.2 + 1 ≤ c := foldmaxZ_le _ _ _ _
theorem slot_ne {ivs : List (Int × Int × Int)} {ps : List (Int × Int)} (hG : GoodSlots ivs ps) {i j : Nat} {p q : Int × Int} (hj : ps[j]? = some p) (hi : ps[i]? = some q) (hlt : j < i) (hm : meets ivs q.1 p.1 = true) : p.2 ≠ q.2 := by
  intro e
  obtain ⟨_, h2, _⟩ := hG i q.1 q.2 hi
  refine h2 (e ▸ List.mem_map.mpr ⟨p, List.mem_filter.mpr ⟨?_, hm⟩, rfl⟩)
  have : (ps.take i)[j]? = some p := by rw [List.getElem?_take_of_lt hlt]; exact hj
  exact List.mem_of_getElem? this
theorem slotA1 {k : Int} {X Y Z : Nat} (h0 : 0 ≤ k) (hb : k.toNat ≤ Z) (hle : Z ≤ Y) (hc : 1 + Y ≤ X) : k + 1 ≤ (X : Int) := by (first | with_reducible assumption | lia | omega)
theorem slotA2 {a b c d : Int} (h1 : c < a) (h2 : a ≤ b) : a ≤ d ∧ c ≤ b ↔ c < a ∧ a ≤ d := by (first | with_reducible assumption | lia | omega)
theorem slotA3 {X : Nat} {Y : Int} (h : X ≤ Y.toNat) (h0 : 0 ≤ Y) : (X : Int) ≤ Y := by (first | with_reducible assumption | lia | omega)
theorem takenBy_take {ivs : List (Int × Int × Int)} {u : Int} {ps : List (Int × Int)} {j : Nat} {z n : Int} (h : ps[j]? = some (z, n)) : takenBy ivs u (ps.take (j + 1)) = takenBy ivs u (ps.take j) ++ (if meets ivs u z = true then [n] else []) := by
  unfold takenBy
  rw [List.take_add_one, h, Option.toList_some, List.filter_append, List.map_append]
  by_cases hm : meets ivs u z = true <;> simp [hm]
set_option maxHeartbeats 2000000 in
theorem slots_crowd {ivs : List (Int × Int × Int)} {ps : List (Int × Int)} (hG : GoodSlots ivs ps) (hpw : (ps.map (·.1)).Pairwise fun a b => startOf ivs a < startOf ivs b) (hse : ∀ p ∈ ps, startOf ivs p.1 ≤ endOf ivs p.1) : slotMost ps = (crowdOf ivs (ps.map (·.1)) : Int) := by
  rw [List.pairwise_map] at hpw
  have hlt : ∀ {i j : Nat} {p q : Int × Int}, ps[j]? = some p → ps[i]? = some q → j < i → startOf ivs p.1 < startOf ivs q.1 := by
    intro i j p q hj hi hji
    obtain ⟨h1, rfl⟩ := List.getElem?_eq_some_iff.mp hj
    obtain ⟨h2, rfl⟩ := List.getElem?_eq_some_iff.mp hi
    exact List.pairwise_iff_getElem.mp hpw j i h1 h2 hji
  have hnn : ∀ p ∈ ps, 0 ≤ p.2 := fun p hp => by
    obtain ⟨i, hi⟩ := List.mem_iff_getElem?.mp hp
    exact (hG i p.1 p.2 hi).1
  refine Int.le_antisymm ?_ ?_
  · refine slotMost_le.mpr ⟨Int.natCast_nonneg _, fun p hp => ?_⟩
    obtain ⟨i, hi⟩ := List.mem_iff_getElem?.mp hp
    obtain ⟨h0, _, h3⟩ := hG i p.1 p.2 hi
    have hb : p.2.toNat ≤ (takenBy ivs p.1 (ps.take i)).length := below_le fun j hj => h3 j (by (first | with_reducible assumption | lia | omega)) (by (first | with_reducible assumption | lia | omega))
    have hc := crowd_le.mp (Nat.le_refl (crowdOf ivs (ps.map (·.1)))) p.1 (List.mem_map.mpr ⟨p, hp, rfl⟩)
    unfold takenBy at hb
    rw [List.length_map] at hb
    have hle : ((ps.take i).filter fun q => meets ivs p.1 q.1).length ≤ ((ps.map (·.1)).filter (alv ivs p.1)).length := by
      rw [List.filter_map, List.length_map]
      have e9 : (List.filter (fun q => meets ivs p.1 q.1) (List.take i ps)) = (List.filter (alv ivs p.1 ∘ fun x => x.1) (List.take i ps)) := ?e9
      · rw [e9]; exact (List.Sublist.filter _ (List.take_sublist i ps)).length_le
      refine List.filter_congr fun q hq => ?_
      obtain ⟨j, hj⟩ := List.mem_iff_getElem?.mp hq
      have hji : j < i := by
        have := (List.getElem?_eq_some_iff.mp hj).1
        rw [List.length_take] at this; (first | with_reducible assumption | lia | omega)
      rw [List.getElem?_take_of_lt hji] at hj
      have h1 := hlt hj hi hji
      have h2 := hse p hp
      rw [Bool.eq_iff_iff]
      clear hb hc
      simp only [meets, alv, Function.comp_apply, Bool.and_eq_true, decide_eq_true_eq]
      exact slotA2 h1 h2
    unfold aliveIn at hc
    exact slotA1 h0 hb hle hc
  · have hM := slotMost_le.mp (Int.le_refl (slotMost ps))
    have : crowdOf ivs (ps.map (·.1)) ≤ (slotMost ps).toNat := by
      rw [crowd_le]
      intro one ho
      obtain ⟨q, hq, rfl⟩ := List.mem_map.mp ho
      obtain ⟨i, hi⟩ := List.mem_iff_getElem?.mp hq
      unfold aliveIn
      rw [List.filter_map, List.length_map]
      have hT : (q.2 :: (ps.filter (alv ivs q.1 ∘ fun x => x.1)).map (·.2)).Nodup := by
        refine List.nodup_cons.mpr ⟨fun h => ?_, ?_⟩
        · obtain ⟨p, hp, e⟩ := List.mem_map.mp h
          obtain ⟨h1, h2⟩ := List.mem_filter.mp hp
          obtain ⟨j, hj⟩ := List.mem_iff_getElem?.mp h1
          simp only [alv, Function.comp_apply, Bool.and_eq_true, decide_eq_true_eq] at h2
          have h3 := hse q hq
          have hji : j < i := by
            rcases Nat.lt_trichotomy j i with h | h | h
            · exact h
            · rw [h, hi] at hj; cases hj; (first | with_reducible assumption | lia | omega)
            · have := hlt hi hj h; (first | with_reducible assumption | lia | omega)
          refine slot_ne hG hj hi hji ?_ e
          simp only [meets, Bool.and_eq_true, decide_eq_true_eq]
          (first | with_reducible assumption | lia | omega)
        · rw [List.Nodup, List.pairwise_map]
          have hpp : ps.Pairwise fun p r => meets ivs r.1 p.1 = true → p.2 ≠ r.2 := by
            rw [List.pairwise_iff_getElem]
            intro j k h1 h2 h3 h4
            exact slot_ne hG (j := j) (i := k) (by simp [h1]) (by simp [h2]) h3 h4
          have hps := hpp.sublist (List.filter_sublist (p := (alv ivs q.1 ∘ fun x => x.1)))
          have hpw2 := hpw.sublist (List.filter_sublist (p := (alv ivs q.1 ∘ fun x => x.1)))
          refine (hps.and hpw2).imp_of_mem fun {p r} hp hr h => h.1 ?_
          have h1 := (List.mem_filter.mp hp).2
          have h2 := (List.mem_filter.mp hr).2
          have h3 := hse r (List.mem_filter.mp hr).1
          have h4 := h.2
          simp only [alv, Function.comp_apply, Bool.and_eq_true, decide_eq_true_eq] at h1 h2
          simp only [meets, Bool.and_eq_true, decide_eq_true_eq]
          (first | with_reducible assumption | lia | omega)
      have := len_le_of_sub hT (m := (List.range (slotMost ps).toNat).map fun n : Nat => (n : Int)) fun x hx => by
        have hx' : ∃ p ∈ ps, p.2 = x := by
          rcases List.mem_cons.mp hx with rfl | hx
          · exact ⟨q, hq, rfl⟩
          · obtain ⟨p, hp, e⟩ := List.mem_map.mp hx
            exact ⟨p, (List.mem_filter.mp hp).1, e⟩
        obtain ⟨p, hp, rfl⟩ := hx'
        have h1 := hM.2 p hp
        have h2 := hnn p hp
        exact List.mem_map.mpr ⟨p.2.toNat, List.mem_range.mpr (by (first | with_reducible assumption | lia | omega)), by (first | with_reducible assumption | lia | omega)⟩
      simp only [List.length_cons, List.length_map, List.length_range] at this
      (first | with_reducible assumption | lia | omega)
    exact slotA3 this hM.1
theorem GoodSlots.snoc {ivs : List (Int × Int × Int)} {ps : List (Int × Int)} (h : GoodSlots ivs ps) {u k : Int} (hm : IsMex (takenBy ivs u ps) k) : GoodSlots ivs (ps ++ [(u, k)]) := by
  intro i v k' e
  rcases Nat.lt_trichotomy i ps.length with hi | hi | hi
  · rw [List.getElem?_append_left hi] at e
    rw [List.take_append_of_le_length (Nat.le_of_lt hi)]
    exact h i v k' e
  · subst hi
    rw [List.getElem?_append_right (Nat.le_refl _), Nat.sub_self] at e
    cases e
    rw [List.take_left]
    exact hm
  · rw [List.getElem?_append_right (Nat.le_of_lt hi)] at e
    have : i - ps.length ≠ 0 := by (first | with_reducible assumption | lia | omega)
    obtain ⟨j, hj⟩ := Nat.exists_eq_succ_of_ne_zero this
    rw [hj] at e
    cases e
theorem fresh20 : True := by
  w_top off
  trivial
theorem pickScan {h₀ h : Heap} {L a1 a2 a3 a4 a5 a6 a7 : Addr} {o1 o2 o3 o4 o5 o6 o7 : Obj} {nw : Lg} (_ : News h₀ L h ((a1, o1) :: (a2, o2) :: (a3, o3) :: (a4, o4) :: (a5, o5) :: (a6, o6) :: (a7, o7) :: nw)) :
    ∃ b1 b2 b3 b4 b5 b6 b7 p4 p5, b1 = a1 ∧ b2 = a2 ∧ b3 = a3 ∧ b4 = a4 ∧ b5 = a5 ∧ b6 = a6 ∧ b7 = a7 ∧ p4 = o4 ∧ p5 = o5 := ⟨_, _, _, _, _, _, _, _, _, rfl, rfl, rfl, rfl, rfl, rfl, rfl, rfl, rfl⟩
theorem scan_perm {a1 a2 a3 a4 a5 a6 a7 a8 a9 : Addr × Obj} {base : Lg} : ∀ p ∈ a8 :: a5 :: a3 :: a4 :: a2 :: (a1 :: a6 :: a7 :: a9 :: base), p ∈ a1 :: a2 :: a3 :: a4 :: a5 :: a6 :: a7 :: a8 :: a9 :: base := by
  k_extra "my sub"
theorem ne_intB {prog : Program} {w : World} {A : Around} {E : Value → Shared → Prop} {s : Shared} {x y : Int} {t u : Tok} {b : Bool} {Q : Value → Shared → Prop} (hb : (x != y) = b) (h : Q (.bool b) s) : wpAny (model prog w) A (compareOp .NotEq (.int x t) (.int y u)) Q E s := by
  subst hb; exact PyProof.Rows.ne_int h
inductive ScanJ (w : World) (LE rg sp sl : Addr) (oS : Obj) (base2 : Lg) (ivs : List (Int × Int × Int)) (count : Int) (tc : Tok) (d : Addr) (ys : List Int) (i : Nat) (m : Str → Option Value) (nw : Lg) : Prop
  | mk (hm1 : m (PySem.Str.ofString "lives") = some (.ref d)) (hm2 : m (PySem.Str.ofString "count") = some (.int count tc)) (hm3 : m (PySem.Str.ofString "spilled") = some (.ref sp))
      (ac : Addr) (c1 : Obj) (oc : Option Value) (oR : Obj) (kvR : List (Int × Value)) (va : List Value) (na : Nat) (vsp : List Value) (nsp : Nat) (hm4 : m (PySem.Str.ofString "active") = some (.ref ac)) (hc : c1.data = .cell oc) (en : nw = (LE + 1 + 1, c1) :: (rg, oR) :: (sp, lst vsp nsp) :: (sl, oS) :: (ac, lst va na) :: base2)
        (hd : oR.IsDictOf (intKind P0 w) kvR) (hk : kvR.map (·.1) = (scanOf ivs count (ys.take i)).kept) (hkv : ∀ kv ∈ kvR, ∃ n t, kv.2 = .int n t) (hsv : IntsAre vsp (scanOf ivs count (ys.take i)).spilled) (hav : IntsAre va (scanOf ivs count (ys.take i)).act)
        (h1 : AllNe ac base2) (h2 : @Ne Nat ac (LE + 1 + 1)) (h3 : @Ne Nat ac rg) (h4 : @Ne Nat ac sp) (h5 : @Ne Nat ac sl)
theorem words10_31502 : True := by
  k_with "compareOp NotEq int int" => (k_here; refine Halt.out ?_)
  k_with "call ref" => (k_here; (with_reducible show wpAny _ _ (PySem.call (Value.ref 108) _) _ _ _); k_dflt (refine' Ctr.use (expire_c ?zzm1 ?zzh1 ?zzh2 ?zzh3 ?zzl1) ?zzB ?zzF ?zzX ?zzN ?zzT ?zzhk ?zzhd ?zzhu ?_; (case zzF => k_asm); (case zzB => k_asm); (case zzX => k_asm); (case zzN => k_asm); (case zzT => k_asm); (case zzm1 => k_mem); (case zzh1 => k_asm); (case zzh2 => k_asm); (case zzh3 => k_asm); (case zzl1 => (refine LivesAt.mono (by k_asm) ?_; intro pS hpS; repeat (first | exact hpS | refine List.Mem.tail _ ?_))); (case zzhk => first | exact rfl | assumption); (case zzhd => first | exact room_of (by assumption) (by decide) | ktr_room); (case zzhu => first | exact room_of (by assumption) (by decide) | ktr_units)); (intro rC nC hC kC FC NC PC); (refine opq ?_; intro GG hGG); (obtain ⟨lX, vX, nX, er, en, hX2, hX3⟩ := PC); (subst er); (subst en); (refine hGG ?_); (clear hGG GG); (refine Halt.out ?_); (try dsimp only); (try k_fold))
  k_with "call ref" => (k_here; (with_reducible show wpAny _ _ (PySem.call (Value.ref 91) _) _ _ _); k_dflt (refine' Ctr.use (mex_c ?zzm1 ?zzh1) ?zzB ?zzF ?zzX ?zzN ?zzT ?zzhk ?zzhd ?zzhu ?_; (case zzF => k_asm); (case zzB => k_asm); (case zzX => k_asm); (case zzN => k_asm); (case zzT => k_asm); (case zzm1 => k_mem); (case zzh1 => k_asm); (case zzhk => first | exact rfl | assumption); (case zzhd => first | exact room_of (by assumption) (by decide) | ktr_room); (case zzhu => first | exact room_of (by assumption) (by decide) | ktr_units)); (intro rC nC hC kC FC NC PC); (refine opq ?_; intro GG hGG); (obtain ⟨en, kM, tM, er, hM⟩ := PC); (subst er); (subst en); (refine hGG ?_); (clear hGG GG); (try dsimp only); (try k_fold))
  k_with "call ref" => (k_here; (with_reducible show wpAny _ _ (PySem.call (Value.ref 115) _) _ _ _); refine Halt.out ?_)
  k_with "call ref" => (k_here; (with_reducible show wpAny _ _ (PySem.call (Value.ref 42) _) _ _ _); k_dflt (refine' Ctr.use (spans_c ?zzh1 ?zzh2) ?zzB ?zzF ?zzX ?zzN ?zzT ?zzhk ?zzhd ?zzhu ?_; (case zzF => k_asm); (case zzB => k_asm); (case zzX => k_asm); (case zzN => k_asm); (case zzT => k_asm); (case zzh1 => k_asm); (case zzh2 => k_asm); (case zzhk => first | exact rfl | assumption); (case zzhd => first | exact room_of (by assumption) (by decide) | ktr_room); (case zzhu => first | exact room_of (by assumption) (by decide) | ktr_units)); (intro rC nC hC kC FC NC PC); (refine opq ?_; intro GG hGG); (obtain ⟨d, o, kvs, nxS, er, en, hL, hlS, hgS⟩ := PC); (subst er); (subst en); (refine hGG ?_); (clear hGG GG); (refine Halt.out ?_); (try dsimp only); (try k_fold))
  k_with "call ref" => (k_here; (with_reducible show wpAny _ _ (PySem.call (Value.ref 96) _) _ _ _); k_dflt (refine' Ctr.use (in_order_c ?zzm1 ?zzhN ?zzh1 ?zzh2 ?zzh3 ?zzl1) ?zzB ?zzF ?zzX ?zzN ?zzT ?zzhk ?zzhd ?zzhu ?_; (case zzF => k_asm); (case zzB => k_asm); (case zzX => k_asm); (case zzN => k_asm); (case zzT => k_asm); (case zzm1 => k_mem); (case zzhN => k_asm); (case zzh1 => k_asm); (case zzh2 => k_asm); (case zzh3 => k_asm); (case zzl1 => (refine LivesAt.mono (by k_asm) ?_; intro pS hpS; repeat (first | exact hpS | refine List.Mem.tail _ ?_))); (case zzhk => first | exact rfl | assumption); (case zzhd => first | exact room_of (by assumption) (by decide) | ktr_room); (case zzhu => first | exact room_of (by assumption) (by decide) | ktr_units)); (intro rC nC hC kC FC NC PC); (refine opq ?_; intro GG hGG); (obtain ⟨yI, ⟨lI, vI, nI, er, en, hI2, hI3⟩, hI4, hI5⟩ := PC); (subst er); (subst en); (refine hGG ?_); (clear hGG GG); (try dsimp only); (try k_fold))
  k_with "call ref" => (k_here; (with_reducible show wpAny _ _ (PySem.call (Value.ref 80) _) _ _ _); k_dflt (refine' PySem.W.call_cls ?zzk1 ?zzk2 ?zzk3 ?zzk4 ?zzk5 ?zzk6 ?_; (case zzk1 => k_asm); (case zzk2 => k_asm); (case zzk3 => k_asm); (case zzk4 => k_is); (case zzk5 => k_is); (case zzk6 => k_is); k_whole); intro x' d' h' F' N' l1 l2; (try k_lt l1); (try k_lt2 l2); k_dflt (refine' code_def ?zzk1 ?zzk2 ?zzk3 ?zzk4 ?zzk5 ?zzkA ?zzkF ?zzkK ?zzk6 ?zzk7 ?zzk8 ?zzk9 ?zzkB ?_ ?zzc2 ?zzc3 ?zzc4 ?zzc5; (case zzkA => exact rfl); (case zzkF => exact rfl); (case zzkK => first | exact rfl | assumption); (case zzk1 => k_asm); (case zzk2 => k_asm); (case zzk3 => k_asm); (case zzk4 => k_asm); (case zzk5 => k_asm); (case zzk6 => k_is); (case zzk7 => k_is); (case zzk8 => first | exact depth_room (by assumption) | ktr_room); (case zzk9 => exact BindsTo.of_eq rfl); (case zzc5 => decide); (case zzkB => exact locs rfl); (case zzc2 => exact rfl); (case zzc3 => exact rfl); (case zzc4 => exact rfl); k_whole); intro g' L' h' FG' F' N' B' X' T'; (try dsimp only); (try k_fold))
  trivial
set_option maxHeartbeats 8000000 in
theorem scan_turn {w : World} {dp un : Nat} {gd : Option (List Code)} {cn : Str} {cs : Scope} {L a : Addr} {ccd : Value} {cl : List (Str × Addr)} {outer : List Env} {base gE : Heap} {LE : Addr} {mean : ExcName → Option Value} {mg mb : Str → Option Value} {Q : Flow → Shared → Prop} {E : Value → Shared → Prop} {m₁ : Str → Option Value}
    {R : List Row} {count : Int} {tc : Tok} {d x dx rg sl sp I ac : Addr} {o ca oS oI c1 oR : Obj} {oc : Option Value} {kvs kvR : List (Int × Value)} {va vsp : List Value} {na nsp i : Nat} {base2 : Lg} {ys : List Int} {u : Int} {tu : Tok} {h : Heap} {gn : Array GenState} {dr : Drawn} {tk : Nat} {os : OsState}
    (B' : Below (ktrTop dp un gd cn cs L a ccd cl outer) base (envX cn cs L a ccd cl :: outer) gE) (X' : (hd.heap_39 w.params).In gE) (T' : Top hd.view_39 (looseW hd.view_39 []) mean mg mb gE) (hd : dp + 6 < recursionLimit) (hu : un + 80 < cLine)
    (hca : (LE + 1, ca) ∈ base2) (hcad : ca.data = .cell (some (.ref x))) (hA : AsgAt w base2 x dx rg sl) (hL : LivesAt w base2 d o kvs (spansOf R)) (q1 : @LT.lt Nat _ (LE + 1 + 1) rg) (q2 : @LT.lt Nat _ rg sl) (q3 : @LT.lt Nat _ sl sp)
    (hb1 : AllNe (LE + 1 + 1) base2) (hb2 : AllNe rg base2) (hb3 : AllNe sp base2) (hb4 : AllNe sl base2) (hyn : ys.Nodup) (hyl : ys.length ≤ 50) (hymem : ∀ v ∈ ys, v ∈ (spansOf R).map (·.1))
    (eu : ys[i]? = some u) (hm1 : m₁ (PySem.Str.ofString "lives") = some (.ref d)) (hm2 : m₁ (PySem.Str.ofString "count") = some (.int count tc)) (hm3 : m₁ (PySem.Str.ofString "spilled") = some (.ref sp)) (hm4 : m₁ (PySem.Str.ofString "active") = some (.ref ac)) (hc1 : c1.data = .cell oc)
    (hdR : oR.IsDictOf (intKind P0 w) kvR) (hkk : kvR.map (·.1) = (scanOf (spansOf R) count (ys.take i)).kept) (hkv : ∀ kv ∈ kvR, ∃ n t, kv.2 = .int n t) (hsv : IntsAre vsp (scanOf (spansOf R) count (ys.take i)).spilled) (hav : IntsAre va (scanOf (spansOf R) count (ys.take i)).act)
    (hac : AllNe ac base2) (hac2 : @Ne Nat ac (LE + 1 + 1)) (hac3 : @Ne Nat ac rg) (hac4 : @Ne Nat ac sp) (hac5 : @Ne Nat ac sl)
    (ho : @Ne Nat (LE + 1 + 1) I ∧ @Ne Nat rg I ∧ @Ne Nat sp I ∧ @Ne Nat sl I ∧ @Ne Nat ac I ∧ AllNe I base2)
    (F2 : Fr gE LE h (fun y => if y = PySem.Str.ofString "v" then some (.int u tu) else m₁ y)) (N2 : News gE LE h ((I, oI) :: (LE + 1 + 1, c1) :: (rg, oR) :: (sp, lst vsp nsp) :: (sl, oS) :: (ac, lst va na) :: base2)) :
    wpAny (model P0 w) ((ktrTop dp un gd cn cs L a ccd cl outer).deeper (envOfC (PySem.Str.ofString "linear_scan") (fnScope P0 13) LE 120 (.ref 119))) (execs scanBody (envOfC (PySem.Str.ofString "linear_scan") (fnScope P0 13) LE 120 (.ref 119)))
      (TurnPost gE LE (ScanJ w LE rg sp sl oS base2 (spansOf R) count tc d ys (i + 1)) I oI ⟨h, gn, dr, tk, os⟩ Q) E ⟨h, gn, dr, tk, os⟩ := by
  conv in scanBody => whnf
  conv => pattern (occs := *) fnScope P0 13; all_goals whnf
  have hil := (List.getElem?_eq_some_iff.mp eu).1
  refine opq ?_
  intro GG hGG
  obtain ⟨hinv1, hinv2⟩ := scanOf_inv (ivs := spansOf R) (count := count) hyn i (Nat.le_of_lt hil)
  have estep := scanOf_take (ivs := spansOf R) (count := count) eu
  obtain ⟨f, l, hlf⟩ := lifeOf_mem (hymem u (List.mem_of_getElem? eu))
  obtain ⟨al, t7, t8, hva, hma⟩ := hL.rel.look hlf
  have hLm := hL.mem
  have hLd := hL.dict
  obtain ⟨ta1, ta2, hA1, hA2⟩ := id hA
  have hsf : startOf (spansOf R) u = f := by rw [startOf, hlf]
  refine hGG ?_
  clear hGG GG
  unfold scanStep at estep
  dsimp only at estep
  rw [hsf] at estep
  have hkept : ∀ w ∈ (scanOf (spansOf R) count (ys.take i)).kept, w ∈ ys.take i := fun w hw => hinv2.mem_iff.mp (List.mem_append_left _ hw)
  have hlen := hinv2.length_eq
  have hsub := scanOf_sub (ivs := spansOf R) (count := count) (ys := ys) i
  rw [List.length_append, List.length_take, Nat.min_eq_left (Nat.le_of_lt hil)] at hlen
  generalize scanOf (spansOf R) count (ys.take i) = st at *
  have hunk : u ∉ kvR.map (·.1) := by
    rw [hkk]
    intro hu
    have h1 := hkept u hu
    refine opq ?_
    intro GG hGG
    obtain ⟨j, hj, e⟩ := List.mem_iff_getElem.mp h1
    rw [List.length_take] at hj
    rw [List.getElem_take] at e
    have h2 : ys[i] = u := (List.getElem?_eq_some_iff.mp eu).2
    have hji := Nat.lt_of_lt_of_le hj (Nat.min_le_left _ _)
    have := (List.getElem_inj hyn (h₀ := Nat.lt_trans hji hil) (h₁ := hil)).mp (e.trans h2.symm)
    refine hGG ?_
    clear hGG GG
    exact absurd this (Nat.ne_of_lt hji)
  have hact : ∀ w ∈ st.act, w ∈ (spansOf R).map (·.1) := fun w hw => hymem w (List.mem_of_mem_take (hkept w (hinv1 w hw)))
  have hal := hsub.length_le
  have hvn := hav.length
  have hi50 : i ≤ 50 := Nat.le_trans (Nat.le_of_lt hil) hyl
  have hk50 : st.kept.length ≤ 50 := Nat.le_trans (Nat.le_trans (Nat.le_add_right _ _) (Nat.le_of_eq hlen)) hi50
  have hact50 := Nat.le_trans hal hk50
  have hval : va.length ≤ 100 := Nat.le_trans (Nat.le_of_eq hvn) (Nat.le_trans hact50 (by decide))
  have hsp50 : vsp.length ≤ 50 := Nat.le_trans (Nat.le_of_eq hsv.length) (Nat.le_trans (Nat.le_trans (Nat.le_add_left _ _) (Nat.le_of_eq hlen)) hi50)
  have hspz := size_ready hsp50
  have hkvl := congrArg List.length hkk
  rw [List.length_map] at hkvl
  have hkv50 : kvR.length ≤ 50 := Nat.le_trans (Nat.le_of_eq hkvl) hk50
  have hkv20 : kvR.length < 2 ^ 20 := Nat.lt_of_le_of_lt hkv50 (by decide)
  clear hkvl hlen hal hvn hi50 hk50
  have hn13 := Nat.lt_trans (Nat.lt_trans q1 q2) q3
  have hn12 := Nat.lt_trans q1 q2
  have hn23 := Nat.lt_trans q2 q3
  k_steps
  all_goals (try k_data)
  rename Fr gE _ _ _ => F3
  rename News gE _ _ _ => N3
  rename IntsAre _ (st.act.filter _) => hX
  rename AllNe _ ((I, oI) :: _) => hXn
  refine opq ?_
  intro GG hGG
  obtain ⟨lX, vX, nX, rfl, rfl, rfl⟩ := pickL N3
  simp only [AllNe] at hXn
  have hXl := hX.length
  have hXl2 := List.length_filter_le (fun u_1 => decide (f ≤ endOf (spansOf R) u_1)) st.act
  have hXf : (st.act.filter fun v => decide (f ≤ endOf (spansOf R) v)).length ≤ 50 := Nat.le_trans hXl2 hact50
  have hX50 : vX.length ≤ 50 := Nat.le_trans (Nat.le_of_eq hXl) hXf
  have hXs := size_ready hX50
  clear hXl2 hact50
  refine hGG ?_
  clear hGG GG
  refine Halt.mk ?_
  k_steps
  all_goals (try k_data)
  case' _ =>
    refine Halt.mk ?_
    k_dflt (refine' LCg.CompSrc.ledger (its := vX.toArray) (k := nX) rfl ?F ?N ?m ?z ?_; (case F => k_asm); (case N => k_asm); (case m => k_mem); (case z => exact hXs))
    intro g
    k_dflt (refine' compU_all (fun i ys nw => ((nw = _) ∧ (∃ ts, (IntsAre ys ts)))) ?_ ?_ _ 0 [] _ (Nat.zero_add _) ⟨rfl, [], .nil⟩)
  · rintro j v ys2 nw2 I2 oI2 C oC D m₂ h2 tk2 E' hj hP ⟨rfl, ts, hy2⟩ hC hx2 F4 N4 off ne
    refine opq ?_
    intro GG hGG
    obtain ⟨offI, offC, offD⟩ := Off3_ne off
    simp only [List.getElem?_toArray] at hP
    obtain ⟨z, tz, rfl, ez⟩ := ints_at hX hP
    have hzk : z ∈ kvR.map (·.1) := by rw [hkk]; exact hinv1 z (List.mem_filter.mp (List.mem_of_getElem? ez)).1
    obtain ⟨n9, t9, hvz⟩ := valInt hkv hzk
    refine hGG ?_
    clear hGG GG
    k_steps
    all_goals (try k_data)
    refine LCg.CompEnd.intro F4 N4 _ (fun p hp => hp) off (srcAt_of (by k_mem)) ?_
    exact ⟨rfl, _, ints_snoc hy2 _ _⟩
  · rintro ys2 nw2 ⟨rfl, ts, hy2⟩
    intro D h2 tk2 F4 N4 o1
    replace o1 := Off1_ne o1
    simp only [AllNe] at o1
    k_steps
    all_goals (try k_data)
    rename News gE _ _ _ => N5
    rename Obj.IsDictOf _ _ (stored _ _ _) => hD5
    refine opq ?_
    intro GG hGG
    obtain ⟨o5, rfl⟩ := pickD hD5
    rw [List.push_toArray] at N5
    rw [if_pos (by rw [← hXl]; assumption)] at estep
    refine hGG ?_
    clear hGG GG
    refine TurnEnd.intro ((LE + 1 + 1, c1) :: (rg, o5) :: (sp, lst vsp nsp) :: (sl, oS) :: (lX, lst (vX ++ [.int u tu]) (nX + 1)) :: base2) (by k_asm) N5 (by k_mem) (by k_extra "my sub") (by k_all) ?_
    refine ⟨hm1, hm2, hm3, lX, c1, oc, o5, _, _, _, _, _, rfl, hc1, rfl, hD5, ?_, ?_, by rw [estep]; exact hsv, by rw [estep]; exact ints_snoc hX _ _, by k_all, by k_ne, by k_ne, by k_ne, by k_ne⟩
    · rw [stored_keys_new hunk, List.map_append, hkk, estep]; rfl
    · rw [stored_keys_new hunk]
      intro kv hkv'
      rcases List.mem_append.mp hkv' with hkv' | hkv'
      · exact hkv kv hkv'
      · rw [List.mem_singleton.mp hkv']; exact ⟨_, _, rfl⟩
  · refine Halt.mk ?_
    rename IntsAre _ (_ ++ _) => hW
    have hWl := hW.length
    rw [List.length_append, List.length_singleton] at hWl
    have hWm : ∀ w ∈ (st.act.filter fun v => decide (f ≤ endOf (spansOf R) v)) ++ [u], w ∈ (spansOf R).map (·.1) := fun w hw => by
      rcases List.mem_append.mp hw with hw | hw
      · exact hact w (List.mem_filter.mp hw).1
      · rw [List.mem_singleton.mp hw]; exact hymem u (List.mem_of_getElem? eu)
    k_dflt (refine' Ctr.use (latest_c2 ?m1 hW (by simp) hWm (by (first | with_reducible assumption | lia | omega)) ?l1) ?B ?F ?X ?N ?T ?hk ?hd ?hu ?_; (case F => k_asm); (case B => k_asm); (case X => k_asm); (case N => k_asm); (case T => k_asm); (case m1 => k_mem); (case l1 => (refine LivesAt.mono (by k_asm) ?_; intro pS hpS; repeat (first | exact hpS | refine List.Mem.tail _ ?_))); (case hk => first | exact rfl | assumption); (case hd => first | exact room_of (by assumption) (by decide) | ktr_room); (case hu => first | exact room_of (by assumption) (by decide) | ktr_units))
    intro rC nC hC kC FC NC PC
    refine opq ?_
    intro GG hGG
    obtain ⟨eN, tT, eR'⟩ := PC
    refine hGG ?_
    clear hGG GG
    (try dsimp only)
    generalize hvic : latestOf _ _ _ = vic at eR'
    subst eR' eN
    (try dsimp only)
    k_steps
    all_goals (try k_data)
    refine Halt.mk ?_
    by_cases hvu : vic = u
    · refine ne_intB (b := false) (by simp [hvu]) ?_
      k_steps
      all_goals (try k_data)
      rename News gE _ _ _ => N5
      refine opq ?_
      intro GG hGG
      obtain ⟨oc5, rfl⟩ := pickO5 N5
      rename Obj.data _ = Data.cell (some (.int vic tT)) => hc5
      rw [List.push_toArray] at N5
      rw [if_neg (by rw [← hXl]; assumption), hvic, if_neg (by simp [hvu])] at estep
      refine hGG ?_
      clear hGG GG
      refine TurnEnd.intro ((LE + 1 + 1, oc5) :: (rg, oR) :: (sp, lst (vsp ++ [.int vic tT]) (nsp + 1)) :: (sl, oS) :: (lX, lst vX nX) :: base2) (by k_asm) N5 (by k_mem) (by k_extra "my sub") (by k_all) ?_
      refine ⟨hm1, hm2, hm3, lX, oc5, _, oR, _, _, _, _, _, rfl, hc5, rfl, hdR, ?_, hkv, by rw [estep]; exact ints_snoc hsv _ _, by rw [estep]; exact hX, by k_all, by k_ne, by k_ne, by k_ne, by k_ne⟩
      rw [estep]; exact hkk
    · refine ne_intB (b := true) (by simp [hvu]) ?_
      have hvk : vic ∈ kvR.map (·.1) := by
        rw [hkk]
        have h1 := latestOf_mem (ivs := spansOf R) ((st.act.filter fun v => decide (f ≤ endOf (spansOf R) v)) ++ [u]) (((st.act.filter fun v => decide (f ≤ endOf (spansOf R) v)) ++ [u]).headD 0)
        rw [hvic] at h1
        have h2 : vic ∈ (st.act.filter fun v => decide (f ≤ endOf (spansOf R) v)) ++ [u] := by
          rcases List.mem_cons.mp h1 with e | e
          · rw [e]; cases (st.act.filter fun v => decide (f ≤ endOf (spansOf R) v)) <;> exact .head _
          · exact e
        rcases List.mem_append.mp h2 with e | e
        · exact hinv1 vic (List.mem_filter.mp e).1
        · exact absurd (List.mem_singleton.mp e) hvu
      refine opq ?_
      intro GG hGG
      obtain ⟨n9, t9, hvz⟩ := valInt hkv hvk
      refine hGG ?_
      clear hGG GG
      k_steps
      all_goals (try k_data)
      refine Halt.mk ?_
      rename Obj.IsDictOf _ _ (stored _ _ _) => hD6
      rw [stored_keys_new hunk] at hD6
      k_dflt (refine' dict_del ?dF ?dN ?dU hD6 ?dz ?dv ?_; (case dF => k_asm); (case dN => k_asm); (case dU => k_updF); (case dz => rw [List.length_append, List.length_singleton]; exact Nat.lt_of_le_of_lt (Nat.add_le_add_right hkv50 1) (by decide)); (case dv => rw [PyProof.Rows.valueAt_isSome_eq_any]; rw [List.any_append, ← PyProof.Rows.valueAt_isSome_eq_any, hvz]; rfl))
      intro h6 o6 F6 N6 hD7
      (try dsimp only at N6)
      k_steps
      all_goals (try k_data)
      refine Halt.mk ?_
      k_dflt (refine' LCt.CompSrcT.ledger (its := vX.toArray) (k := nX) rfl ?F ?N ?m ?z ?_; (case F => k_asm); (case N => k_asm); (case m => k_mem); (case z => exact hXs))
      intro g
      k_dflt (refine' compT_all (fun j ys nw => nw = _ ∧ IntsAre ys (((st.act.filter fun v => decide (f ≤ endOf (spansOf R) v)).take j).filter fun v => decide (v ≠ vic))) ?_ ?_ _ 0 [] _ (Nat.zero_add _) ⟨rfl, .nil⟩)
      · rintro j v ys2 nw2 I2 oI2 C oC D m₂ h2 tk2 E' hj hP ⟨rfl, hy2⟩ hC hx2 F4 N4 off ne
        simp only [List.getElem?_toArray] at hP
        refine opq ?_
        intro GG hGG
        obtain ⟨z, tz, rfl, ez⟩ := ints_at hX hP
        refine hGG ?_
        clear hGG GG
        k_steps
        all_goals (try k_data)
        refine Halt.mk ?_
        by_cases hzv : z = vic
        · refine ne_intB (b := false) (by simp [hzv]) ?_
          k_steps
          all_goals (try k_data)
          refine LCg.CompEnd.intro F4 N4 _ (fun p hp => hp) off (srcAt_of (by k_mem)) ?_
          exact ⟨rfl, by rw [filter_take ez, if_neg (by simp [hzv]), List.append_nil]; exact hy2⟩
        · refine ne_intB (b := true) (by simp [hzv]) ?_
          k_steps
          all_goals (try k_data)
          refine LCg.CompEnd.intro F4 N4 _ (fun p hp => hp) off (srcAt_of (by k_mem)) ?_
          exact ⟨rfl, by rw [filter_take ez, if_pos (by simp [hzv])]; exact ints_snoc hy2 _ _⟩
      · rintro ys2 nw2 ⟨rfl, hy2⟩
        rw [List.size_toArray, hX.length, List.take_length] at hy2
        intro D h2 tk2 F4 N4 o1
        replace o1 := Off1_ne o1
        simp only [AllNe] at o1
        have hy2l := hy2.length
        have hy2m := Nat.le_trans (List.length_filter_le (fun v => decide (v ≠ vic)) (st.act.filter fun v => decide (f ≤ endOf (spansOf R) v))) hXf
        k_steps
        all_goals (try k_data)
        rename News gE _ _ _ => N5
        rename IntsAre _ (_ ++ [u]) => hW5
        refine opq ?_
        intro GG hGG
        obtain ⟨oc5, rfl⟩ := pickO8 N5
        obtain ⟨lW, vW, nW, rfl, rfl, e9⟩ := pickL N5
        rw [← e9] at N5
        rename Obj.data _ = Data.cell (some (.int vic tT)) => hc5
        rw [List.push_toArray] at N5
        rw [if_neg (by rw [← hXl]; assumption), hvic, if_pos hvu] at estep
        refine hGG ?_
        clear hGG GG
        refine TurnEnd.intro ((LE + 1 + 1, oc5) :: (rg, o6) :: (sp, lst (vsp ++ [.int vic tT]) (nsp + 1)) :: (sl, oS) :: (lW, lst vW nW) :: base2) (by k_asm) N5 (by k_mem) (by k_extra "my sub") (by k_all) ?_
        refine ⟨hm1, hm2, hm3, lW, oc5, _, o6, _, _, _, _, _, rfl, hc5, rfl, hD7, ?_, ?_, by rw [estep]; exact ints_snoc hsv _ _, by rw [estep]; exact hW5, by k_all, by k_ne, by k_ne, by k_ne, by k_ne⟩
        · rw [estep, ← hkk]
          show ((kvR ++ [(u, Value.int n9 t9)]).filter fun kv => decide (kv.1 ≠ vic)).map (·.1) = (kvR.map (·.1) ++ [u]).filter fun v => decide (v ≠ vic)
          rw [List.filter_append, List.map_append, List.filter_append, List.filter_map]
          congr 1
          simp [Ne.symm hvu]
        · intro kv hkv'
          rcases List.mem_append.mp (List.mem_filter.mp hkv').1 with hkv' | hkv'
          · exact hkv kv hkv'
          · rw [List.mem_singleton.mp hkv']; exact ⟨_, _, rfl⟩
theorem fresh21 : True := by
  w_top off
  trivial
theorem pickI {vs : List Value} {ns : List Int} (_ : IntsAre vs ns) : ∃ ns', ns' = ns := ⟨_, rfl⟩
theorem words11_31502 : True := by
  k_with "call ref" => (k_here; (with_reducible show wpAny _ _ (PySem.call (Value.ref 49) _) _ _ _); k_dflt (refine' Ctr.use (overlap_c ?zzm1 ?zzm2) ?zzB ?zzF ?zzX ?zzN ?zzT ?zzhk ?zzhd ?zzhu ?_; (case zzF => k_asm); (case zzB => k_asm); (case zzX => k_asm); (case zzN => k_asm); (case zzT => k_asm); (case zzm1 => k_mem); (case zzm2 => k_mem); (case zzhk => first | exact rfl | assumption); (case zzhd => first | exact room_of (by assumption) (by decide) | ktr_room); (case zzhu => first | exact room_of (by assumption) (by decide) | ktr_units)); (intro rC nC hC kC FC NC PC); (refine opq ?_; intro GG hGG); (obtain ⟨en, er⟩ := PC); (subst er); (subst en); (refine hGG ?_); (clear hGG GG); (try dsimp only); (try k_fold))
  k_with "call ref" => (k_here; (with_reducible show wpAny _ _ (PySem.call (Value.ref 91) _) _ _ _); k_dflt (refine' Ctr.use (mex_c ?zzm1 ?zzh1) ?zzB ?zzF ?zzX ?zzN ?zzT ?zzhk ?zzhd ?zzhu ?_; (case zzF => k_asm); (case zzB => k_asm); (case zzX => k_asm); (case zzN => k_asm); (case zzT => k_asm); (case zzm1 => k_mem); (case zzh1 => k_asm); (case zzhk => first | exact rfl | assumption); (case zzhd => first | exact room_of (by assumption) (by decide) | ktr_room); (case zzhu => first | exact room_of (by assumption) (by decide) | ktr_units)); (intro rC nC hC kC FC NC PC); (refine opq ?_; intro GG hGG); (obtain ⟨en, kM, tM, er, hMex⟩ := PC); (subst er); (subst en); (refine hGG ?_); (clear hGG GG); (try dsimp only); (try k_fold))
  trivial
set_option maxHeartbeats 2000000 in
theorem give_slots_c {w : World} {base2 : Lg} {x dx rg sl lv sp : Addr} {oS oL : Obj} {kvs : List (Int × Value)} {ivs : List (Int × Int × Int)} {vsp : List Value} {nsp : Nat} {spl : List Int}
    (hb : AllNe sl base2) (hA : AsgAt w base2 x dx rg sl) (hL : LivesAt w base2 lv oL kvs ivs) (hsp : (sp, lst vsp nsp) ∈ base2) (hi : IntsAre vsp spl) (hns : ∀ v ∈ spl, v ∈ ivs.map (·.1)) (hnd : (spl.map (startOf ivs)).Nodup) (h50 : spl.length ≤ 50) (hd0 : oS.IsDictOf (intKind P0 w) []) (hlo : (sl == sysModules) = false) :
    Ctr w 103 [.ref x, .ref lv, .ref sp] 4 40 ((sl, oS) :: base2) (fun r nw => (Xs3 fun oS' kvS ps => (Cj5 (nw = (sl, oS') :: base2) (oS'.IsDictOf (intKind P0 w) kvS) (SlotRel kvS ps) (GoodSlots ivs ps) (((ps.map (·.1)).Perm spl) ∧ ((ps.map (·.1)).Pairwise (fun a b => startOf ivs a < startOf ivs b)))))) := by
  intro mean mg mb dp un gd cn cs a ccd cl outer A₀ base h₀ L m s Q E B F X N T hk hd hu ret
  have hNs : IsNames P0 w sp (lst vsp nsp) spl := .inl ⟨_, _, rfl, hi⟩
  refine wpAny_call ?_
  k_dflt (refine' code_def (binds := [(PySem.Str.ofString "assignment", Value.ref x), (PySem.Str.ofString "lives", Value.ref lv), (PySem.Str.ofString "spilled", Value.ref sp)]) ?k1 ?k2 ?k3 ?k4 ?k5 ?kA ?kF ?kK ?k6 ?k7 ?k8 ?k9 ?kB ?_ ?c2 ?c3 ?c4 ?c5; (case kA => exact rfl); (case kF => exact rfl); (case kK => assumption); (case k1 => k_asm); (case k2 => k_asm); (case k3 => k_asm); (case k4 => k_asm); (case k5 => k_asm); (case k6 => k_is); (case k7 => k_is); (case k8 => first | exact depth_room (by assumption) | ktr_room); (case k9 => exact BindsTo.of_eq rfl); (case c5 => decide); (case kB => exact locs rfl); (case c2 => exact rfl); (case c3 => exact rfl); (case c4 => exact rfl); k_whole)
  intro gE LE hE FG' F' N' B' X' T'
  (try dsimp only)
  refine gen_E ?_
  k_steps
  all_goals (try k_data)
  rename Fr gE LE _ _ => F1
  rename News gE LE _ _ => N1
  rename IntsAre _ _ => hyi
  rename List.Perm _ _ => hperm
  rename List.Pairwise _ _ => hpw
  rename AllNe _ ((sl, oS) :: _) => hlI
  simp only [AllNe] at hlI
  refine opq ?_
  intro GG hGG
  obtain ⟨lI, vI, nI, rfl, rfl, rfl⟩ := pickL N1
  refine hGG ?_
  clear hGG GG
  refine Halt.mk ?_
  refine opq ?_
  intro GG hGG
  obtain ⟨ys, rfl⟩ := pickI hyi
  have hLm := hL.mem
  have hLd := hL.dict
  have hym : ∀ v ∈ ys, v ∈ ivs.map (·.1) := fun v hv => hns v (hperm.mem_iff.mp hv)
  have hyl : ys.length ≤ 50 := by rw [hperm.length_eq]; exact h50
  obtain ⟨ta1, ta2, hA1, hA2⟩ := id hA
  refine hGG ?_
  clear hGG GG
  k_dflt (refine' for_list (fun i m nw => (Cj3 (m (PySem.Str.ofString "assignment") = some (.ref x)) (m (PySem.Str.ofString "lives") = some (.ref lv)) (Xs3 fun (oS : Obj) (kvS : List (Int × Value)) (ps : List (Int × Int)) => (Cj5 (nw = (lI, lst vI nI) :: (sl, oS) :: base2) (oS.IsDictOf (intKind P0 w) kvS) (SlotRel kvS ps) (GoodSlots ivs ps) (ps.map (·.1) = ys.take i))))) rfl (.head _) F1 N1 ⟨rfl, rfl, oS, [], [], rfl, hd0, .nil, (fun i v k e => by simp at e), rfl⟩ ?_ ?_ ?_)
  · rintro i m nw ⟨_, _, _, _, _, rfl, _⟩; exact .head _
  · rintro I oI hI2 i v m₁ nw h tk hx hJJ
    refine opq ?_
    intro GG hGG
    obtain ⟨hm1, hm2, oS, kvS, ps, rfl, hdS, hSl, hG, hps⟩ := hJJ
    refine hGG ?_
    clear hGG GG
    intro ho F2 N2
    clear F1 N1
    (try (refine gen_T ?_; intro Qv Jv hJn))
    refine opq ?_
    intro GG hGG
    simp only [AllLt] at hI2
    simp only [AllNe] at ho
    obtain ⟨u, tu, rfl, eu⟩ := ints_at hyi hx
    obtain ⟨f, l, hlf⟩ := lifeOf_mem (hym u (List.mem_of_getElem? eu))
    obtain ⟨al, t7, t8, hva, hma⟩ := hL.rel.look hlf
    refine hGG ?_
    clear hGG GG
    k_steps
    all_goals (try k_data)
    rename Fr gE _ _ _ => F3
    rename News gE _ _ _ => N3
    refine opq ?_
    intro GG hGG
    obtain ⟨tk', vt0, nt0, rfl, e8, e9⟩ := pickL (l := []) N3
    have hun : u ∉ ys.take i := by
      intro hu
      obtain ⟨j, hj, e⟩ := List.mem_iff_getElem.mp hu
      rw [List.length_take] at hj
      rw [List.getElem_take] at e
      obtain ⟨h3, h2⟩ := List.getElem?_eq_some_iff.mp eu
      have hji := Nat.lt_of_lt_of_le hj (Nat.min_le_left _ _)
      have hpj := List.pairwise_iff_getElem.mp hpw j i (Nat.lt_trans hji h3) h3 hji
      rw [e, h2] at hpj
      exact Int.lt_irrefl _ hpj
    have hkl := hSl.length
    have hpl := congrArg List.length hps
    rw [List.length_map, List.length_take] at hpl
    have hp50 : ps.length ≤ 50 := Nat.le_trans (Nat.le_of_eq hpl) (Nat.le_trans (Nat.min_le_right _ _) hyl)
    have hk20 : kvS.length < 2 ^ 20 := Nat.lt_of_le_of_lt (Nat.le_trans (Nat.le_of_eq hkl) hp50) (by decide)
    refine hGG ?_
    clear hGG GG
    refine Halt.mk ?_
    k_dflt (refine' for_dict (fun j m nw => (Cj5 (m (PySem.Str.ofString "assignment") = some (.ref x)) (m (PySem.Str.ofString "lives") = some (.ref lv)) (m (PySem.Str.ofString "v") = some (.int u tu)) (m (PySem.Str.ofString "taken") = some (.ref tk')) (Xs2 fun (vt : List Value) (nt : Nat) => ((nw = (tk', lst vt nt) :: (I, oI) :: (lI, lst vI nI) :: (sl, oS) :: base2) ∧ (IntsAre vt (takenBy ivs u (ps.take j))))))) rfl (.tail _ (.tail _ (.tail _ (.head _)))) hdS hlo F3 N3 ⟨hm1, hm2, rfl, rfl, [], 0, rfl, .nil⟩ ?_ ?_ ?_)
    · rintro j m nw ⟨_, _, _, _, _, _, rfl, _⟩; exact .tail _ (.tail _ (.tail _ (.head _)))
    · rintro I2 oI2 hI3 j kz t u2 m₂ nw2 h2 tk2 hx2 hJJ
      refine opq ?_
      intro GG hGG
      obtain ⟨hn1, hn2, hn3, hn4, vt, nt, rfl, hvt⟩ := hJJ
      refine hGG ?_
      clear hGG GG
      intro ho2 F4 N4
      clear F3 N3
      (try (refine gen_T ?_; intro Qv Jv hJn))
      refine opq ?_
      intro GG hGG
      simp only [AllLt] at hI3
      simp only [AllNe] at ho2
      obtain ⟨n2, t2, rfl, ej⟩ := hSl.at hx2
      obtain ⟨es, ep, _, _, _, _, hnk⟩ := id hdS
      have hvz := valueAt_of_get hnk hx2
      have hzm : kz ∈ ys := List.mem_of_mem_take (i := i) (hps ▸ List.mem_map.mpr ⟨_, List.mem_of_getElem? ej, rfl⟩)
      obtain ⟨f2, l2, hlf2⟩ := lifeOf_mem (hym kz hzm)
      obtain ⟨al2, t9, t10, hva2, hma2⟩ := hL.rel.look hlf2
      have hmt : meets ivs u kz = (decide (f ≤ l2) && decide (f2 ≤ l)) := by simp only [meets, startOf, endOf, hlf, hlf2]
      have htk := takenBy_take (ivs := ivs) (u := u) ej
      rw [hmt] at htk
      have hvl : vt.length ≤ 100 := by
        have := hvt.length
        unfold takenBy at this
        rw [List.length_map] at this
        have h9 := List.length_filter_le (fun p => meets ivs u p.1) (ps.take j)
        rw [List.length_take] at h9
        exact Nat.le_trans (Nat.le_of_eq this) (Nat.le_trans h9 (Nat.le_trans (Nat.min_le_right _ _) (Nat.le_trans hp50 (by decide))))
      have hvz9 := size_ready hvl
      refine hGG ?_
      clear hGG GG
      k_steps
      all_goals (try k_data)
      · rename (_ && _) = true => hc
        rename News gE _ _ _ => N5
        rw [if_pos hc] at htk
        rw [List.push_toArray] at N5
        refine TurnEnd.into hJn ((tk', lst (vt ++ [.int n2 t2]) (nt + 1)) :: (I, oI) :: (lI, lst vI nI) :: (sl, oS) :: base2) (by k_asm) N5 (by k_mem) (fun p hp => .tail _ hp) (by k_all) ?_
        exact ⟨hn1, hn2, hn3, hn4, _, _, rfl, by rw [htk]; exact ints_snoc hvt _ _⟩
      · rename (_ && _) = false => hc
        rw [if_neg (by rw [hc]; decide), List.append_nil] at htk
        refine TurnEnd.into hJn ((tk', lst vt nt) :: (I, oI) :: (lI, lst vI nI) :: (sl, oS) :: base2) (by k_asm) (by k_asm) (by k_mem) (by first | assumption | k_extra "my sub" | (intro pS hpS; first | exact hpS | exact .tail _ hpS | exact .tail _ (.tail _ hpS) | exact .tail _ (.tail _ (.tail _ hpS)) | (simp only [List.mem_cons, List.mem_append] at hpS ⊢; grind))) ?_ ?_
        · k_all
        · exact ⟨hn1, hn2, hn3, hn4, _, _, rfl, by rw [htk]; exact hvt⟩
    · rintro m₂ nw2 h2 tk2 hJJ
      refine opq ?_
      intro GG hGG
      obtain ⟨hn1, hn2, hn3, hn4, vt, nt, rfl, hvt⟩ := hJJ
      refine hGG ?_
      clear hGG GG
      intro F4 N4
      clear F3 N3
      rw [hkl, List.take_length] at hvt
      have hvl : vt.length ≤ 100 := by
        have := hvt.length
        unfold takenBy at this
        rw [List.length_map] at this
        have h9 := List.length_filter_le (fun p => meets ivs u p.1) ps
        exact Nat.le_trans (Nat.le_of_eq this) (Nat.le_trans h9 (Nat.le_trans hp50 (by decide)))
      k_steps
      all_goals (try k_data)
      rename IsMex _ _ => hM
      rename Obj.IsDictOf _ _ (stored _ _ _) => hD5
      rename News gE _ _ _ => N5
      refine opq ?_
      intro GG hGG
      obtain ⟨o5, rfl⟩ := pickD hD5
      have hkk : u ∉ kvS.map (·.1) := by rw [hSl.keys, hps]; exact hun
      rw [stored_keys_new hkk] at hD5
      refine hGG ?_
      clear hGG GG
      refine TurnEnd.into hJn ((lI, lst vI nI) :: (sl, o5) :: base2) (by k_asm) N5 (by k_mem) (by k_extra "my sub") (by k_all) ?_
      exact ⟨hn1, hn2, o5, _, _, rfl, hD5, hSl.snoc u _ _, hG.snoc hM, by rw [List.map_append, hps, List.take_add_one, eu]; rfl⟩
  · rintro m₁ nw h tk hJJ
    refine opq ?_
    intro GG hGG
    obtain ⟨hm1, hm2, oS, kvS, ps, rfl, hdS, hSl, hG, hps⟩ := hJJ
    refine hGG ?_
    clear hGG GG
    intro F2 N2
    clear F1 N1
    rw [hyi.length, List.take_length] at hps
    k_steps
    refine ret _ ((sl, oS) :: base2) _ _ (by k_asm) (News.sub (by k_asm) (by first | assumption | k_extra "my sub" | (intro pS hpS; first | exact hpS | exact .tail _ hpS | exact .tail _ (.tail _ hpS) | exact .tail _ (.tail _ (.tail _ hpS)) | (simp only [List.mem_cons, List.mem_append] at hpS ⊢; grind)))) ?_
    exact ⟨oS, kvS, ps, rfl, hdS, hSl, hG, hps ▸ hperm, hps ▸ hpw⟩
theorem fresh22 : True := by
  w_top off
  trivial
/-- what linear_scan leaves -/
def ScanRes (w : World) (R : List Row) (count : Int) (news : Lg) (r : Value) (nw : Lg) : Prop :=
  (((∀ p ∈ news, p ∈ nw)) ∧ (Xs8 fun (x : Addr) (dx : Addr) (rg : Addr) (sl : Addr) (oR : Obj) (oS : Obj) (kvR : List (Int × Value)) (kvS : List (Int × Value)) => Xs2 fun (ps : List (Int × Int)) (ys : List Int) => (Cj12 (r = .ref x) (AsgAt w nw x dx rg sl) ((rg, oR) ∈ nw) ((sl, oS) ∈ nw) ((rg == sysModules) = false) ((sl == sysModules) = false) (oR.IsDictOf (intKind P0 w) kvR) (oS.IsDictOf (intKind P0 w) kvS) (ys.Perm (namesOf R)) (ys.Pairwise (fun a b => startOf (spansOf R) a < startOf (spansOf R) b)) (kvR.map (·.1) = (scanOf (spansOf R) count ys).kept) (Cj4 (SlotRel kvS ps) (GoodSlots (spansOf R) ps) ((ps.map (·.1)).Perm (scanOf (spansOf R) count ys).spilled) ((ps.map (·.1)).Pairwise (fun a b => startOf (spansOf R) a < startOf (spansOf R) b))))))
theorem words12_31502 : True := by
  k_with "call ref" => (k_here; (with_reducible show wpAny _ _ (PySem.call (Value.ref 103) _) _ _ _); k_dflt (refine' Ctr.use (give_slots_c ?zzh1 ?zzh2 ?zzh3 ?zzm4 ?zzh5 ?zzh6 ?zzh7 ?zzh8 ?zzh9 ?zzh10) ?zzB ?zzF ?zzX ?zzN ?zzT ?zzhk ?zzhd ?zzhu ?_; (case zzF => k_asm); (case zzB => k_asm); (case zzX => k_asm); (case zzN => k_asm); (case zzT => k_asm); (case zzh1 => k_asm); (case zzh2 => k_asm); (case zzh3 => k_asm); (case zzm4 => k_mem); (case zzh5 => k_asm); (case zzh6 => k_asm); (case zzh7 => k_asm); (case zzh8 => k_asm); (case zzh9 => k_asm); (case zzh10 => k_asm); (case zzhk => first | exact rfl | assumption); (case zzhd => first | exact room_of (by assumption) (by decide) | ktr_room); (case zzhu => first | exact room_of (by assumption) (by decide) | ktr_units)); (intro rC nC hC kC FC NC PC); (refine opq ?_; intro GG hGG); (obtain ⟨oS2, kvS2, ps2, en, hdS2, hSl2, hG2, hpp2, hpw2⟩ := PC); (subst en); (refine hGG ?_); (clear hGG GG); (try dsimp only); (try k_fold))
  trivial
set_option maxHeartbeats 3000000 in
theorem scan_c {w : World} {news : Lg} {rows : Addr} {R : List Row} {count : Int} {tc : Tok} (hr : RowsAt news rows R) (hwf : WF R) : Ctr w 120 [.ref rows, .int count tc] 6 80 news (ScanRes w R count news) := by
  intro mean mg mb dp un gd cn cs a ccd cl outer A₀ base h₀ L m s Q E B F X N T hk hd hu ret
  refine wpAny_call ?_
  k_dflt (refine' code_defC (binds := [(PySem.Str.ofString "rows", Value.ref rows), (PySem.Str.ofString "count", Value.int count tc)]) ?k1 ?k2 ?k3 ?k4 ?k5 ?kA ?kF ?kK ?k6 ?k7 ?k8 ?k9 ?kB ?kD ?_ ?c2 ?c3 ?c4; (case kA => exact rfl); (case kF => exact rfl); (case kK => assumption); (case k1 => k_asm); (case k2 => k_asm); (case k3 => k_asm); (case k4 => k_asm); (case k5 => k_asm); (case k6 => k_is); (case k7 => k_is); (case k8 => first | exact depth_room (by assumption) | ktr_room); (case k9 => exact BindsTo.of_eq rfl); (case kB => exact rfl); (case kD => decide +kernel); (case c2 => exact rfl); (case c3 => exact rfl); (case c4 => exact rfl); k_whole)
  intro gE LE hE tE cellsE FG' F' N' YE B' X' T' lE
  k_cells YE
  (try simp only [List.cons_append, List.nil_append] at N')
  (try dsimp only)
  replace lE := allLt_of lE
  refine gen_E ?_
  refine opq ?_
  intro GG hGG
  obtain ⟨c1, c2, rfl, rfl⟩ := pickC2 N'
  have hr2 := hr.mono (news' := (LE + 1 + 1, c1) :: (LE + 1, c2) :: news) fun p hp => .tail _ (.tail _ hp)
  have hn2 : AllNe (LE + 1 + 1) news := AllNe_of fun p hp => by have := AllLt_all lE p hp; (first | with_reducible assumption | lia | omega)
  have hn1 : AllNe (LE + 1) news := AllNe_of fun p hp => by have := AllLt_all lE p hp; (first | with_reducible assumption | lia | omega)
  refine hGG ?_
  clear hGG GG
  k_steps
  all_goals (try k_data)
  rename LivesAt _ _ _ _ _ _ => hL0
  rename Fr gE LE _ _ => F1
  rename News gE LE _ _ => N0
  rename AllLt _ ((LE + 1 + 1, c1) :: _) => hlS
  rename AllGt _ _ => hgS
  refine opq ?_
  intro GG hGG
  obtain ⟨d, o, rfl, rfl⟩ := pick N0
  simp only [AllLt] at hlS
  obtain ⟨nxS, rfl⟩ := pickG hgS
  obtain ⟨base, N1, hL, hS, hb2, hb1⟩ := (⟨_, N0.sub fun p hp => by (simp only [List.mem_cons, List.mem_append] at hp ⊢; grind), hL0.mono (sub_app news), fun p hp => .tail _ (List.mem_append_right _ hp),
      ne_app2 hlS.1 hgS hn2, ne_app2 hlS.2.1 hgS hn1⟩ : (∃ base, (Cj5 (News gE LE _ ((LE + 1 + 1, c1) :: (LE + 1, c2) :: base)) (LivesAt w base d o _ (spansOf R)) ((∀ p ∈ news, p ∈ base)) (AllNe (LE + 1 + 1) base) (AllNe (LE + 1) base))))
  clear N0 hL0 hgS hlS hr2
  have hLm := hL.mem
  have hLd := hL.dict
  have hkeys := hL.rel.keys
  rw [spansOf_names] at hkeys
  have hN : IsNames P0 w d o (namesOf R) := .inr ⟨hL.lo, _, hL.dict, hkeys⟩
  have hns : ∀ v ∈ namesOf R, v ∈ (spansOf R).map (·.1) := fun v hv => by rw [spansOf_names]; exact hv
  have hnd := spans_start_nodup hwf
  have hRl : R.length ≤ 50 := hr.choose_spec.choose_spec.2.2.2
  have h50 : (namesOf R).length ≤ 50 := Nat.le_trans (namesOf_length R) hRl
  refine hGG ?_
  clear hGG GG
  refine Halt.mk ?_
  k_steps
  all_goals (try k_data)
  rename Fr gE LE _ _ => F2
  rename News gE LE _ _ => N2
  rename List.Perm _ _ => hperm
  rename List.Pairwise _ _ => hpw
  rename IntsAre _ _ => hyi
  rename AllNe _ _ => hlI
  refine opq ?_
  intro GG hGG
  obtain ⟨lI, ac, sp, sl, rg, x, dx, oS, oR, rfl, rfl, rfl, rfl, rfl, rfl, rfl, rfl, rfl⟩ := pickScan N2
  have hdr : Obj.IsDictOf (intKind P0 w) oR [] := by assumption
  have hds : Obj.IsDictOf (intKind P0 w) oS [] := by assumption
  have hlor : (rg == sysModules) = false := by assumption
  have hlos : (sl == sysModules) = false := by assumption
  simp only [AllNe] at hlI
  have keep : Halt ((Xs6 fun (base2 : Lg) (m0 : Str → Option Value) (ys : List Int) (vI : List Value) (nI : Nat) (ca : Obj) => (Cj12 (Fr gE LE _ m0) (News gE LE _ ((LE + 1 + 1, c1) :: (rg, oR) :: (sp, lst [] 0) :: (sl, oS) :: (ac, lst [] 0) :: base2)) (m0 (PySem.Str.ofString "active") = some (.ref ac)) (m0 (PySem.Str.ofString "spilled") = some (.ref sp)) (m0 (PySem.Str.ofString "lives") = some (.ref d)) (m0 (PySem.Str.ofString "count") = some (.int count tc)) ((LE + 1, ca) ∈ base2) (ca.data = .cell (some (.ref x))) (AsgAt w base2 x dx rg sl) (LivesAt w base2 d o _ (spansOf R)) ((lI, lst vI nI) ∈ base2) (Cj12 (IntsAre vI ys) (ys.Perm (namesOf R)) (ys.Pairwise (fun a b => startOf (spansOf R) a < startOf (spansOf R) b)) ((∀ p ∈ news, p ∈ base2)) ((@LT.lt Nat _ (LE + 1 + 1) rg ∧ @LT.lt Nat _ rg sl ∧ @LT.lt Nat _ sl sp ∧ @LT.lt Nat _ sp ac)) (AllNe (LE + 1 + 1) base2) (AllNe rg base2) (AllNe sp base2) (AllNe sl base2) (AllNe ac base2) (oR.IsDictOf (intKind P0 w) []) ((oS.IsDictOf (intKind P0 w) []) ∧ (c1.data = .cell none)))))) :=
    ⟨⟨_, _, _, _, _, _, F2, N2.sub scan_perm, rfl, rfl, rfl, rfl, .tail _ (.tail _ (.tail _ (.head _))), by assumption, ⟨_, _, .tail _ (.head _), .tail _ (.tail _ (.head _))⟩, hL.mono (fun p hp => .tail _ (.tail _ (.tail _ (.tail _ hp)))), .head _, hyi, hperm, hpw,
      (fun p hp => .tail _ (.tail _ (.tail _ (.tail _ (hS p hp))))), ⟨by k_ne, by k_ne, by k_ne, by k_ne⟩, by k_all, by k_all, by k_all, by k_all, by k_all, hdr, hds, by assumption⟩⟩
  clear F2 N2 hlI hperm hpw hyi hnd hkeys hLm hLd hN hns hL hb1 hb2 hS hdr hds hn1 hn2 lE
  refine hGG ?_
  clear hGG GG
  (repeat ((with_reducible rename _ ∧ _ => hq); clear hq))
  (repeat ((with_reducible rename AllLt _ _ => hq); clear hq))
  (repeat ((with_reducible rename Obj.IsDictOf _ _ _ => hq); clear hq))
  (repeat ((with_reducible rename FlatPairs _ _ _ => hq); clear hq))
  (repeat ((with_reducible rename Fr gE _ _ _ => hq); clear hq))
  (repeat ((with_reducible rename News gE _ _ _ => hq); clear hq))
  (repeat ((with_reducible rename Obj.data _ = _ => hq); clear hq))
  refine opq ?_
  intro GG hGG
  obtain ⟨⟨base2, m0, ys, vI, nI, ca, F1, N1, ha, hsp, hlv, hct, hca, hcad, hA, hL, hI, hyi, hperm, hpw, hS, ⟨q1, q2, q3, q4⟩, hb1, hb2, hb3, hb4, hb5, hdr, hds, hc1⟩⟩ := keep
  have hyn : ys.Nodup := (hperm.nodup_iff).mpr (namesOf_nodup hwf)
  have hyl : ys.length ≤ 50 := by rw [hperm.length_eq]; exact h50
  have hymem : ∀ v ∈ ys, v ∈ (spansOf R).map (·.1) := fun v hv => by rw [spansOf_names]; exact hperm.mem_iff.mp hv
  refine hGG ?_
  clear hGG GG
  refine Halt.mk ?_
  k_dflt (refine' for_list (ScanJ w LE rg sp sl oS base2 (spansOf R) count tc d ys) rfl (.tail _ (.tail _ (.tail _ (.tail _ (.tail _ hI))))) F1 N1 ⟨hlv, hct, hsp, ac, c1, none, oR, [], [], 0, [], 0, ha, hc1, rfl, hdr, rfl, (fun kv hkv => nomatch hkv), .nil, .nil, hb5, by k_ne, by k_ne, by k_ne, by k_ne⟩ ?_ ?_ ?_)
  · rintro i m nw ⟨_, _, _, _, _, _, _, _, _, _, _, _, _, _, rfl, _⟩; exact .tail _ (.tail _ (.tail _ (.tail _ (.tail _ hI))))
  · rintro I oI hI2 i v m₁ nw h tk hx hJJ
    refine opq ?_
    intro GG hGG
    obtain ⟨hm1, hm2, hm3, ac, c1, oc, oR, kvR, va, na, vsp, nsp, hm4, hc1, rfl, hdR, hkk, hkv, hsv, hav, hac, hac2, hac3, hac4, hac5⟩ := hJJ
    refine hGG ?_
    clear hGG GG
    intro ho F2 N2
    refine opq ?_
    intro GG hGG
    simp only [AllNe] at ho
    obtain ⟨u, tu, rfl, eu⟩ := ints_at hyi hx
    refine hGG ?_
    clear hGG GG
    exact scan_turn (by k_asm) (by k_asm) (by k_asm) hd hu hca hcad hA hL q1 q2 q3 hb1 hb2 hb3 hb4 hyn hyl hymem eu hm1 hm2 hm3 hm4 hc1 hdR hkk hkv hsv hav hac hac2 hac3 hac4 hac5 ho F2 N2
  · rintro m₁ nw h tk hJJ
    refine opq ?_
    intro GG hGG
    obtain ⟨hm1, hm2, hm3, ac, c1, oc, oR, kvR, va, na, vsp, nsp, hm4, hc1, rfl, hdR, hkk, hkv, hsv, hav, hac, hac2, hac3, hac4, hac5⟩ := hJJ
    refine hGG ?_
    clear hGG GG
    intro F2 N2
    clear F1
    refine opq ?_
    intro GG hGG
    rw [hyi.length, List.take_length] at hkk hsv hav
    have hinv := (scanOf_inv (ivs := spansOf R) (count := count) hyn ys.length (Nat.le_refl _)).2
    rw [List.take_length] at hinv
    have hstn : ((namesOf R).map (startOf (spansOf R))).Nodup := spans_start_nodup hwf
    have hspn : ∀ v ∈ (scanOf (spansOf R) count ys).spilled, v ∈ (spansOf R).map (·.1) := fun v hv => hymem v (hinv.mem_iff.mp (List.mem_append_right _ hv))
    have hspd : ((scanOf (spansOf R) count ys).spilled.map (startOf (spansOf R))).Nodup := by
      have h1 := (((hinv.trans hperm).map (startOf (spansOf R))).nodup_iff).mpr hstn
      rw [List.map_append] at h1
      exact (List.nodup_append.mp h1).2.1
    have hspl : (scanOf (spansOf R) count ys).spilled.length ≤ 50 := by
      have := hinv.length_eq
      rw [List.length_append] at this
      (first | with_reducible assumption | lia | omega)
    obtain ⟨base3, N3, hA3, hL3, hsp3, hca3, hb3', hrg3, hS3⟩ : (∃ base3, (Cj7 (News gE LE h ((sl, oS) :: base3)) (AsgAt w base3 x dx rg sl) (LivesAt w base3 d o _ (spansOf R)) ((sp, lst vsp nsp) ∈ base3) ((LE + 1, ca) ∈ base3) (AllNe sl base3) (((rg, oR) ∈ base3) ∧ ((∀ p ∈ news, p ∈ base3))))) :=
      ⟨(LE + 1 + 1, c1) :: (rg, oR) :: (sp, lst vsp nsp) :: (ac, lst va na) :: base2, N2.sub (by k_extra "my sub"), hA.mono (fun p hp => .tail _ (.tail _ (.tail _ (.tail _ hp)))), hL.mono (fun p hp => .tail _ (.tail _ (.tail _ (.tail _ hp)))), .tail _ (.tail _ (.head _)), .tail _ (.tail _ (.tail _ (.tail _ hca))), by k_all, .tail _ (.head _), fun p hp => .tail _ (.tail _ (.tail _ (.tail _ (hS p hp))))⟩
    clear N2 N1 hA hL
    refine hGG ?_
    clear hGG GG
    k_steps
    all_goals (try k_data)
    rename SlotRel _ _ => hSl2
    rename GoodSlots _ _ => hG2
    rename Obj.IsDictOf _ _ _ => hdS2
    rename List.Perm _ (scanOf _ _ _).spilled => hpp2
    rename List.Pairwise _ (List.map _ _) => hpw2
    refine ret _ _ _ _ (by k_asm) (by k_asm) ?_
    exact ⟨fun p hp => .tail _ (hS3 p hp), x, dx, rg, sl, oR, _, kvR, _, _, ys, rfl, hA3.mono (fun p hp => .tail _ hp), .tail _ hrg3, .head _, hlor, hlos, hdR, hdS2, hperm, hpw, hkk, hSl2, hG2, hpp2, hpw2⟩
theorem fresh23 : True := by
  w_top off
  trivial
/-! the law's own lives: born and dies -/
def lawStep (st : List (Int × Int × Int)) (i : Int) (r : Row) : List (Int × Int × Int) := usesAt st (usedOf r) i ++ (if r.k.defs then [(r.a, i, i)] else [])
noncomputable def lawFrom (st : List (Int × Int × Int)) (i : Int) : List Row → List (Int × Int × Int)
  | [] => st
  | r :: rs => lawFrom (lawStep st i r) (i + 1) rs
noncomputable def lawOf (R : List Row) : List (Int × Int × Int) := lawFrom [] 0 R
theorem lawFrom_append (A B : List Row) (st : List (Int × Int × Int)) (i : Int) : lawFrom st i (A ++ B) = lawFrom (lawFrom st i A) (i + A.length) B := by
  induction A generalizing st i with
  | nil => simp [lawFrom]
  | cons a A ih => simp only [List.cons_append, lawFrom, ih, List.length_cons]; congr 1; push_cast; (first | with_reducible assumption | lia | omega)
theorem lawOf_take {R : List Row} {i : Nat} {r : Row} (h : R[i]? = some r) : lawOf (R.take (i + 1)) = lawStep (lawOf (R.take i)) i r := by
  have hl := (List.getElem?_eq_some_iff.mp h).1
  unfold lawOf
  rw [List.take_add_one, h, Option.toList_some, lawFrom_append, List.length_take, Nat.min_eq_left (by (first | with_reducible assumption | lia | omega))]
  simp [lawFrom]
theorem lawStep_names (st : List (Int × Int × Int)) (i : Int) (r : Row) : (lawStep st i r).map (·.1) = st.map (·.1) ++ namesOf [r] := by
  unfold lawStep namesOf
  rw [List.map_append, usesAt_names]
  cases h : r.k.defs <;> simp [h]
theorem lawFrom_names (R : List Row) (st : List (Int × Int × Int)) (i : Int) : (lawFrom st i R).map (·.1) = st.map (·.1) ++ namesOf R := by
  induction R generalizing st i with
  | nil => simp [lawFrom, namesOf]
  | cons r R ih =>
    rw [lawFrom, ih, lawStep_names, List.append_assoc]
    congr 1
    unfold namesOf
    rw [← List.filterMap_append]; rfl
theorem lawOf_names (R : List Row) : (lawOf R).map (·.1) = namesOf R := by
  rw [lawOf, lawFrom_names]; rfl
def toSpan (p : Int × Int × Int) : Int × Int × Int := (p.1, 2 * p.2.1 + 1, if p.2.2 = p.2.1 then 2 * p.2.1 + 1 else 2 * p.2.2)
theorem useAt_span {st : List (Int × Int × Int)} {v i : Int} (h : ∀ p ∈ st, p.2.1 < i) : useAt (st.map toSpan) v (2 * i) = (useAt st v i).map toSpan := by
  unfold useAt
  rw [List.map_map, List.map_map]
  apply List.map_congr_left
  intro p hp
  have := h p hp
  by_cases hv : p.1 = v
  · simp [toSpan, hv, show ¬ i = p.2.1 by (first | with_reducible assumption | lia | omega)]
  · simp [toSpan, hv]
theorem useAt_born {st : List (Int × Int × Int)} {v i j : Int} (h : ∀ p ∈ st, p.2.1 < j) : ∀ p ∈ useAt st v i, p.2.1 < j := by
  intro p hp
  obtain ⟨q, hq, rfl⟩ := List.mem_map.mp hp
  have := h q hq
  by_cases hv : q.1 = v <;> simpa [hv] using this
theorem useAt_le {st : List (Int × Int × Int)} {v i : Int} (h : ∀ p ∈ st, p.2.1 < i) (h2 : ∀ p ∈ st, p.2.1 ≤ p.2.2) : ∀ p ∈ useAt st v i, p.2.1 ≤ p.2.2 := by
  intro p hp
  obtain ⟨q, hq, rfl⟩ := List.mem_map.mp hp
  have := h q hq
  have := h2 q hq
  by_cases hv : q.1 = v
  · simp only [hv, if_true]; (first | with_reducible assumption | lia | omega)
  · simpa [hv] using this
theorem usesAt_span (us : List Int) : ∀ {st : List (Int × Int × Int)} {i : Int}, (∀ p ∈ st, p.2.1 < i) → (∀ p ∈ st, p.2.1 ≤ p.2.2) →
    usesAt (st.map toSpan) us (2 * i) = (usesAt st us i).map toSpan ∧ (∀ p ∈ usesAt st us i, p.2.1 < i) ∧ (∀ p ∈ usesAt st us i, p.2.1 ≤ p.2.2) := by
  induction us with
  | nil => intro st i h h2; exact ⟨rfl, h, h2⟩
  | cons u us ih =>
    intro st i h h2
    have := ih (useAt_born (v := u) (i := i) h) (useAt_le (v := u) h h2)
    refine ⟨?_, this.2⟩
    show usesAt (useAt (st.map toSpan) u (2 * i)) us (2 * i) = _
    rw [useAt_span h]
    exact this.1
theorem spans_law (R : List Row) : ∀ {st : List (Int × Int × Int)} {i : Int}, (∀ p ∈ st, p.2.1 < i) → (∀ p ∈ st, p.2.1 ≤ p.2.2) →
    spansFrom (st.map toSpan) i R = (lawFrom st i R).map toSpan ∧ ∀ p ∈ lawFrom st i R, p.2.1 ≤ p.2.2 := by
  induction R with
  | nil => intro st i h h2; exact ⟨rfl, h2⟩
  | cons r R ih =>
    intro st i h h2
    obtain ⟨e, h3, h4⟩ := usesAt_span (usedOf r) h h2
    have key : spansStep (st.map toSpan) i r = (lawStep st i r).map toSpan := by
      unfold spansStep lawStep
      rw [e, List.map_append]
      congr 1
      cases r.k.defs <;> simp [toSpan]
    have := ih (st := lawStep st i r) (i := i + 1) (fun p hp => by
      rcases List.mem_append.mp hp with hp | hp
      · have := h3 p hp; (first | with_reducible assumption | lia | omega)
      · split at hp
        · rw [List.mem_singleton.mp hp]; show i < i + 1; (first | with_reducible assumption | lia | omega)
        · cases hp) (fun p hp => by
      rcases List.mem_append.mp hp with hp | hp
      · exact h4 p hp
      · split at hp
        · rw [List.mem_singleton.mp hp]; exact Int.le_refl _
        · cases hp)
    rw [spansFrom, lawFrom, key]
    exact this
theorem spansOf_law (R : List Row) : spansOf R = (lawOf R).map toSpan ∧ ∀ p ∈ lawOf R, p.2.1 ≤ p.2.2 := spans_law R (st := []) (i := 0) (fun p hp => nomatch hp) (fun p hp => nomatch hp)
theorem spans_le (R : List Row) : ∀ p ∈ spansOf R, p.2.1 ≤ p.2.2 := by
  intro p hp
  rw [(spansOf_law R).1] at hp
  obtain ⟨q, hq, rfl⟩ := List.mem_map.mp hp
  have := (spansOf_law R).2 q hq
  unfold toSpan
  dsimp only
  split <;> (first | with_reducible assumption | lia | omega)
/-- what the two dicts of the law say of the lives -/
def BD (ivs : List (Int × Int × Int)) (kb kd : List (Int × Value)) : Prop := ∀ v ∈ ivs.map (·.1), (Xs4 fun b d t t' => (Cj5 (valueAt kb v = some (.int b t)) (valueAt kd v = some (.int d t')) (startOf ivs v = 2 * b + 1) (b ≤ d) (endOf ivs v = if d = b then 2 * b + 1 else 2 * d)))
def setI (ps : List (Int × Int)) (k n : Int) : List (Int × Int) := if ps.any (fun p => decide (p.1 = k)) then ps.map (fun p => if p.1 = k then (p.1, n) else p) else ps ++ [(k, n)]
theorem SlotRel.upd {kvs : List (Int × Value)} {ps : List (Int × Int)} (h : SlotRel kvs ps) (k n : Int) (t : Tok) : SlotRel (kvs.map fun kv => if kv.1 = k then (kv.1, .int n t) else kv) (ps.map fun p => if p.1 = k then (p.1, n) else p) := by
  induction h with
  | nil => exact .nil
  | @cons v k' t' r c _ ih =>
    simp only [List.map_cons]
    by_cases hv : v = k
    · rw [if_pos hv, if_pos hv]; exact .cons ih
    · rw [if_neg hv, if_neg hv]; exact .cons ih
theorem SlotRel.any {kvs : List (Int × Value)} {ps : List (Int × Int)} (h : SlotRel kvs ps) (k : Int) : kvs.any (fun p => decide (p.1 = k)) = ps.any (fun p => decide (p.1 = k)) := by
  induction h with
  | nil => rfl
  | cons _ ih => simp only [List.any_cons, ih]
theorem SlotRel.set {kvs : List (Int × Value)} {ps : List (Int × Int)} (h : SlotRel kvs ps) (k n : Int) (t : Tok) : SlotRel (stored kvs k (.int n t)) (setI ps k n) := by
  unfold stored setI
  rw [← h.any k]
  by_cases hc : kvs.any (fun p => decide (p.1 = k)) = true
  · rw [if_pos hc, if_pos (by simpa using hc)]; exact h.upd k n t
  · rw [if_neg hc, if_neg (by simpa using hc)]; exact h.snoc k n t
theorem SlotRel.look {kvs : List (Int × Value)} {ps : List (Int × Int)} (h : SlotRel kvs ps) (hn : (ps.map (·.1)).Nodup) {v n : Int} (hm : (v, n) ∈ ps) : ∃ t, valueAt kvs v = some (.int n t) := by
  induction h with
  | nil => cases hm
  | @cons v' k' t' r c hr ih =>
    rw [List.map_cons, List.nodup_cons] at hn
    rcases List.mem_cons.mp hm with e | hm
    · cases e; exact ⟨t', by simp [valueAt]⟩
    · obtain ⟨t, e⟩ := ih hn.2 hm
      have hne : v' ≠ v := fun e => hn.1 (e ▸ List.mem_map.mpr ⟨_, hm, rfl⟩)
      exact ⟨t, by simpa [valueAt, hne] using e⟩
def bornOf (st : List (Int × Int × Int)) : List (Int × Int) := st.map fun p => (p.1, p.2.1)
def diesOf (st : List (Int × Int × Int)) : List (Int × Int) := st.map fun p => (p.1, p.2.2)
theorem bornOf_names (st : List (Int × Int × Int)) : (bornOf st).map (·.1) = st.map (·.1) := by unfold bornOf; rw [List.map_map]; rfl
theorem diesOf_names (st : List (Int × Int × Int)) : (diesOf st).map (·.1) = st.map (·.1) := by unfold diesOf; rw [List.map_map]; rfl
theorem bd_of {R : List Row} (hwf : WF R) {kb kd : List (Int × Value)} (hb : SlotRel kb (bornOf (lawOf R))) (hd : SlotRel kd (diesOf (lawOf R))) : BD (spansOf R) kb kd := by
  intro v hv
  rw [spansOf_names, ← lawOf_names] at hv
  obtain ⟨⟨v', b, d⟩, hp, rfl⟩ := List.mem_map.mp hv
  have hn : ((lawOf R).map (·.1)).Nodup := by rw [lawOf_names]; exact namesOf_nodup hwf
  obtain ⟨t, e1⟩ := hb.look (by rw [bornOf_names]; exact hn) (List.mem_map.mpr ⟨_, hp, rfl⟩)
  obtain ⟨t', e2⟩ := hd.look (by rw [diesOf_names]; exact hn) (List.mem_map.mpr ⟨_, hp, rfl⟩)
  have hs : ((spansOf R).map (·.1)).Nodup := by rw [spansOf_names]; exact namesOf_nodup hwf
  have hm : toSpan (v', b, d) ∈ spansOf R := by rw [(spansOf_law R).1]; exact List.mem_map.mpr ⟨_, hp, rfl⟩
  have hlf := lifeOf_of_mem (v := v') hs hm
  exact ⟨b, d, t, t', e1, e2, by rw [startOf, hlf], (spansOf_law R).2 _ hp, by rw [endOf, hlf]⟩
theorem setI_born {st : List (Int × Int × Int)} {v i j : Int} (h : v ∉ st.map (·.1)) : setI (bornOf st) v i = bornOf (st ++ [(v, i, j)]) := by
  unfold setI
  rw [if_neg]
  · unfold bornOf; rw [List.map_append]; rfl
  · intro q
    obtain ⟨p, hp, e⟩ := List.any_eq_true.mp q
    obtain ⟨q, hq, rfl⟩ := List.mem_map.mp hp
    exact h (List.mem_map.mpr ⟨q, hq, by simpa using e⟩)
theorem setI_diesNew {st : List (Int × Int × Int)} {v i j : Int} (h : v ∉ st.map (·.1)) : setI (diesOf st) v i = diesOf (st ++ [(v, j, i)]) := by
  unfold setI
  rw [if_neg]
  · unfold diesOf; rw [List.map_append]; rfl
  · intro q
    obtain ⟨p, hp, e⟩ := List.any_eq_true.mp q
    obtain ⟨q, hq, rfl⟩ := List.mem_map.mp hp
    exact h (List.mem_map.mpr ⟨q, hq, by simpa using e⟩)
theorem setI_dies {st : List (Int × Int × Int)} {v i : Int} (h : v ∈ st.map (·.1)) : setI (diesOf st) v i = diesOf (useAt st v i) := by
  unfold setI
  rw [if_pos]
  · unfold diesOf useAt
    rw [List.map_map, List.map_map]
    apply List.map_congr_left
    intro p _
    by_cases hv : p.1 = v <;> simp [hv]
  · obtain ⟨p, hp, e⟩ := List.mem_map.mp h
    exact List.any_eq_true.mpr ⟨(p.1, p.2.2), List.mem_map.mpr ⟨p, hp, rfl⟩, by simpa using e⟩
theorem useAt_bornOf (st : List (Int × Int × Int)) (v i : Int) : bornOf (useAt st v i) = bornOf st := by
  unfold bornOf useAt
  rw [List.map_map]
  apply List.map_congr_left
  intro p _
  by_cases hv : p.1 = v <;> simp [hv]
theorem useAt_app (st : List (Int × Int × Int)) (v i a : Int) : useAt (st ++ [(a, i, i)]) v i = useAt st v i ++ [(a, i, i)] := by
  unfold useAt
  rw [List.map_append]
  congr 1
  by_cases hv : a = v <;> simp [hv]
theorem useAt_twice (st : List (Int × Int × Int)) (v i : Int) : useAt (useAt st v i) v i = useAt st v i := by
  unfold useAt
  rw [List.map_map]
  apply List.map_congr_left
  intro p _
  by_cases hv : p.1 = v <;> simp [hv]
theorem law_out {st : List (Int × Int × Int)} {a b c i : Int} (hb : b ∈ st.map (·.1)) : bornOf (lawStep st i ⟨.out, a, b, c⟩) = bornOf st ∧ diesOf (lawStep st i ⟨.out, a, b, c⟩) = setI (diesOf st) b i := by
  have e : lawStep st i ⟨.out, a, b, c⟩ = useAt st b i := by simp [lawStep, usedOf, RowK.defs, usesAt]
  rw [e, useAt_bornOf, setI_dies hb]; exact ⟨rfl, rfl⟩
theorem law_inp {st : List (Int × Int × Int)} {a b c i : Int} (ha : a ∉ st.map (·.1)) : bornOf (lawStep st i ⟨.inp, a, b, c⟩) = setI (bornOf st) a i ∧ diesOf (lawStep st i ⟨.inp, a, b, c⟩) = setI (diesOf st) a i := by
  have e : lawStep st i ⟨.inp, a, b, c⟩ = st ++ [(a, i, i)] := by simp [lawStep, usedOf, RowK.defs, usesAt]
  rw [e, setI_born (j := i) ha, setI_diesNew (j := i) ha]; exact ⟨rfl, rfl⟩
theorem law_add {st : List (Int × Int × Int)} {a b c i : Int} (ha : a ∉ st.map (·.1)) (hb : b ∈ st.map (·.1)) (hc : c ∈ st.map (·.1)) : bornOf (lawStep st i ⟨.add, a, b, c⟩) = setI (bornOf st) a i ∧ diesOf (lawStep st i ⟨.add, a, b, c⟩) = setI (setI (setI (diesOf st) a i) b i) c i := by
  have e : lawStep st i ⟨.add, a, b, c⟩ = useAt (useAt st b i) c i ++ [(a, i, i)] := by
    unfold lawStep usedOf
    dsimp only
    congr 1
    split
    · rename_i h
      subst h
      rw [useAt_twice]; rfl
    · rfl
  rw [setI_born (j := i) ha, setI_diesNew (j := i) ha, setI_dies (by rw [List.map_append]; exact List.mem_append_left _ hb), setI_dies (by rw [useAt_names, List.map_append]; exact List.mem_append_left _ hc), useAt_app, useAt_app, ← e]
  refine ⟨?_, rfl⟩
  rw [e, bornOf, bornOf, List.map_append, List.map_append]
  congr 1
  exact (useAt_bornOf (useAt st b i) c i).trans (useAt_bornOf st b i)
theorem fresh24 : True := by
  w_top off
  trivial
theorem slotMost_take {ps : List (Int × Int)} {i : Nat} {v k : Int} (h : ps[i]? = some (v, k)) : slotMost (ps.take (i + 1)) = max (slotMost (ps.take i)) (k + 1) := by
  unfold slotMost
  rw [List.take_add_one, h, Option.toList_some, List.foldl_append]; rfl
set_option maxHeartbeats 1000000 in
theorem slot_count_c {w : World} {news : Lg} {x dx rg sl : Addr} {oS : Obj} {kvS : List (Int × Value)} {ps : List (Int × Int)}
    (hA : AsgAt w news x dx rg sl) (hs : (sl, oS) ∈ news) (hlo : (sl == sysModules) = false) (hdS : oS.IsDictOf (intKind P0 w) kvS) (hSl : SlotRel kvS ps) :
    Ctr w 77 [.ref x] 2 20 news (fun r nw => ((nw = news) ∧ (∃ t, (r = .int (slotMost ps) t)))) := by
  intro mean mg mb dp un gd cn cs a ccd cl outer A₀ base h₀ L m s Q E B F X N T hk hd hu ret
  refine wpAny_call ?_
  k_dflt (refine' code_def (binds := [(PySem.Str.ofString "self", Value.ref x)]) ?k1 ?k2 ?k3 ?k4 ?k5 ?kA ?kF ?kK ?k6 ?k7 ?k8 ?k9 ?kB ?_ ?c2 ?c3 ?c4 ?c5; (case kA => exact rfl); (case kF => exact rfl); (case kK => assumption); (case k1 => k_asm); (case k2 => k_asm); (case k3 => k_asm); (case k4 => k_asm); (case k5 => k_asm); (case k6 => k_is); (case k7 => k_is); (case k8 => first | exact depth_room (by assumption) | ktr_room); (case k9 => exact BindsTo.of_eq rfl); (case c5 => decide); (case kB => exact locs rfl); (case c2 => exact rfl); (case c3 => exact rfl); (case c4 => exact rfl); k_whole)
  intro gE LE hE FG' F' N' B' X' T'
  (try dsimp only)
  refine gen_E ?_
  refine opq ?_
  intro GG hGG
  obtain ⟨ta1, ta2, hA1, hA2⟩ := id hA
  refine hGG ?_
  clear hGG GG
  k_steps
  all_goals (try k_data)
  rename Fr gE LE _ _ => F1
  rename News gE LE _ _ => N1
  refine Halt.mk ?_
  k_dflt (refine' for_dict (fun i m nx => (Cj3 (m (PySem.Str.ofString "self") = some (.ref x)) ((∃ t, m (PySem.Str.ofString "most") = some (.int (slotMost (ps.take i)) t))) (nx = news))) rfl hs hdS hlo F1 N1 ⟨rfl, ⟨_, rfl⟩, rfl⟩ ?_ ?_ ?_)
  · rintro i m nx ⟨_, _, rfl⟩; exact hs
  · rintro I oI hI i k t u m₁ nx h tk hx hJJ
    refine opq ?_
    intro GG hGG
    obtain ⟨hm1, ⟨t1, hm2⟩, rfl⟩ := hJJ
    refine hGG ?_
    clear hGG GG
    intro ho F2 N2
    clear F1 N1
    (try (refine gen_T ?_; intro Qv Jv hJn))
    refine opq ?_
    intro GG hGG
    obtain ⟨n2, t2, rfl, ej⟩ := hSl.at hx
    obtain ⟨es, ep, _, _, _, _, hnk⟩ := id hdS
    have hvz := valueAt_of_get hnk hx
    have e1 := slotMost_take ej
    refine hGG ?_
    clear hGG GG
    k_steps
    all_goals (try k_data)
    refine TurnEnd.into hJn (nx) (by k_asm) (by k_asm) (by k_mem) (by first | assumption | k_extra "my sub" | (intro pS hpS; first | exact hpS | exact .tail _ hpS | exact .tail _ (.tail _ hpS) | exact .tail _ (.tail _ (.tail _ hpS)) | (simp only [List.mem_cons, List.mem_append] at hpS ⊢; grind))) ?_ ?_
    · exact ho
    · refine ⟨hm1, ?_, rfl⟩
      rw [e1, maxif]
      exact ⟨_, rfl⟩
  · rintro m₁ nx h tk hJJ
    refine opq ?_
    intro GG hGG
    obtain ⟨hm1, ⟨t1, hm2⟩, rfl⟩ := hJJ
    refine hGG ?_
    clear hGG GG
    intro F2 N2
    clear F1 N1
    rw [hSl.length, List.take_length] at hm2
    k_steps
    refine ret _ _ _ _ (by k_asm) (by k_asm) ?_
    exact ⟨rfl, _, rfl⟩
theorem fresh25 : True := by
  w_top off
  trivial
theorem mulOkR {a b : Int} (h : b.natAbs < 2 ^ 64) : IntMulOk a b := IntMulOk.of_right (intBits_le_iff.mpr h)
theorem fmod_in {a b : Int} (h : 0 < b) : 0 ≤ a.fmod b ∧ a.fmod b < b := ⟨Int.fmod_nonneg_of_pos a h, Int.fmod_lt_of_pos a h⟩
theorem words13_31502 : True := by
  k_with "binaryOp FloorDiv int int" => (k_here; (with_reducible show wpAny _ _ (binaryOp Operator.FloorDiv (Value.int _ _) (Value.int _ _)) _ _ _); k_dflt (refine' PyProof.Rows.floordiv_int ?zze ?_ (Or.inl (PyProof.noPylong_small ?zzp)); (case zze => (first | with_reducible assumption | lia | omega)); (case zzp => (first | with_reducible assumption | lia | omega)); k_whole))
  k_with "binaryOp Mult int int" => (k_here; (with_reducible show wpAny _ _ (binaryOp Operator.Mult (Value.int _ _) (Value.int (2862933555777941757 + _) _)) _ _ _); k_dflt (refine' PyProof.Rows.mul_int ?_ (mulOkR ?zzp); (case zzp => (first | with_reducible assumption | lia | omega)); k_whole))
  k_with "exec If" => (k_here; (with_reducible show wpAny _ _ (exec (Stmt.If (Expr.Compare (Expr.Subscript _ _ _) [CmpOp.Lt] _ _) _ _ _) _) _ _ _); (fail_if_success (with_reducible rename Mark => hMK)); refine Halt.out ?_)
  trivial
set_option maxHeartbeats 2000000 in
theorem pull_c {w : World} {base2 : Lg} {wl ce : Addr} {a0 p : Int} {ta tp tm : Tok} {nn nc : Nat} {cv : List Value} {cs : List Int} {most : Int}
    (hb : AllNe wl base2) (hc : (ce, lst cv nc) ∈ base2) (hi : IntsAre cv cs) (h1 : 1 ≤ cv.length) (h40 : cv.length ≤ 100) (hp : 0 ≤ p) (hp2 : p ≤ 1000) (hm : 0 < most) (hm2 : most ≤ 1000) :
    Ctr w 134 [.ref wl, .int most tm] 2 20 ((wl, lst [.int a0 ta, .ref ce, .int p tp] nn) :: base2) (fun r nw => (Xs6 fun r' t a' ta' p' tp' => (Cj5 (r = .int r' t) (0 ≤ r') (r' < most) (p ≤ p') ((p' ≤ p + 1) ∧ (nw = (wl, lst [.int a' ta', .ref ce, .int p' tp'] nn) :: base2))))) := by
  intro mean mg mb dp un gd cn cs a ccd cl outer A₀ base h₀ L m s Q E B F X N T hk hd hu ret
  refine wpAny_call ?_
  k_dflt (refine' code_def (binds := [(PySem.Str.ofString "well", Value.ref wl), (PySem.Str.ofString "most", Value.int most tm)]) ?k1 ?k2 ?k3 ?k4 ?k5 ?kA ?kF ?kK ?k6 ?k7 ?k8 ?k9 ?kB ?_ ?c2 ?c3 ?c4 ?c5; (case kA => exact rfl); (case kF => exact rfl); (case kK => assumption); (case k1 => k_asm); (case k2 => k_asm); (case k3 => k_asm); (case k4 => k_asm); (case k5 => k_asm); (case k6 => k_is); (case k7 => k_is); (case k8 => first | exact depth_room (by assumption) | ktr_room); (case k9 => exact BindsTo.of_eq rfl); (case c5 => decide); (case kB => exact locs rfl); (case c2 => exact rfl); (case c3 => exact rfl); (case c4 => exact rfl); k_whole)
  intro gE LE hE FG' F' N' B' X' T'
  (try dsimp only)
  refine gen_E ?_
  k_steps
  all_goals (try k_data)
  refine Halt.mk ?_
  refine joinB (fun fl s' => Halt (((fl = .next) ∧ (Xs6 fun (h' : Heap) (tk' : Nat) (a' : Int) (ta' : Tok) (p' : Int) (tp' : Tok) => ∃ (m' : Str → Option Value), (Cj7 (s' = { s with heap := h', toks := tk' }) (Fr gE LE h' m') (News gE LE h' ((wl, lst [.int a' ta', .ref ce, .int p' tp'] nn) :: base2)) (m' (PySem.Str.ofString "well") = some (.ref wl)) (m' (PySem.Str.ofString "most") = some (.int most tm)) (p ≤ p') (p' ≤ p + 1)))))) ?_ ?_
  · have hMK : Mark := ⟨⟩
    k_steps
    all_goals (try k_data)
    all_goals exact ⟨rfl, _, _, _, _, _, _, _, rfl, by k_asm, by k_asm, rfl, rfl, by (first | with_reducible assumption | lia | omega), by (first | with_reducible assumption | lia | omega)⟩
  · rintro fl s' hJJ
    refine opq ?_
    intro GG hGG
    obtain ⟨⟨rfl, h', tk', a', ta', p', tp', m', rfl, F9, N9, hm1, hm2, hp3, hp4⟩⟩ := hJJ
    refine hGG ?_
    clear hGG GG
    dsimp only
    k_steps
    all_goals (try k_data)
    refine ret _ _ _ _ (by k_asm) (by k_asm) ?_
    exact ⟨_, _, _, _, _, _, rfl, (fmod_in hm).1, (fmod_in hm).2, by (first | with_reducible assumption | lia | omega), by (first | with_reducible assumption | lia | omega), rfl⟩
theorem fresh26 : True := by
  w_top off
  trivial
theorem pull_u {w : World} {news : Lg} {g : Obj → Lg} {wl cl : Addr} {a p : Int} {ta tp tm : Tok} {nn nc : Nat} {cv : List Value} {cs : List Int} {most : Int}
    (U : PySem.W.UpdF wl (lst [.int a ta, .ref cl, .int p tp] nn) news g) (hne : @Ne Nat cl wl) (hc : (cl, lst cv nc) ∈ news) (hi : IntsAre cv cs) (h1 : 1 ≤ cv.length) (h40 : cv.length ≤ 100) (hp : 0 ≤ p) (hp2 : p ≤ 1000) (hm : 0 < most) (hm2 : most ≤ 1000) :
    Ctr w 134 [.ref wl, .int most tm] 2 20 news (fun r nw => (Xs6 fun r' t a' ta' p' tp' => (Cj5 (r = .int r' t) (0 ≤ r') (r' < most) (p ≤ p') ((p' ≤ p + 1) ∧ (nw = g (lst [.int a' ta', .ref cl, .int p' tp'] nn)))))) := by
  refine opq ?_
  intro GG hGG
  obtain ⟨pre, post, rfl, hg, ha, hb⟩ := U.split
  have hc' : (cl, lst cv nc) ∈ pre ++ post := by
    rcases List.mem_append.mp hc with h | h
    · exact List.mem_append_left _ h
    · rcases List.mem_cons.mp h with e | h
      · exact absurd (congrArg Prod.fst e) hne
      · exact List.mem_append_right _ h
  have hb' : AllNe wl (pre ++ post) := AllNe_of fun q hq => by
    rcases List.mem_append.mp hq with h | h
    · exact ha q h
    · exact hb q h
  have C := pull_c (w := w) (a0 := a) (ta := ta) (tp := tp) (tm := tm) (nn := nn) hb' hc' hi h1 h40 hp hp2 hm hm2
  refine hGG ?_
  clear hGG GG
  intro mean mg mb dp un gd cn cs a ccd cl outer A₀ base h₀ L m s Q E B F X N T hk hd hu ret
  refine C _ _ _ _ _ _ _ _ _ _ _ _ _ _ _ _ _ _ _ _ B F X (N.sub fun q hq => ?_) T hk hd hu fun r nw h' tk' F' N' P => ?_
  · simp only [List.mem_cons, List.mem_append] at hq ⊢; grind
  · obtain ⟨r', t, a', ta', p', tp', q1, q2, q3, q4, q5, rfl⟩ := P
    refine ret r _ h' tk' F' (N'.sub fun q hq => ?_) ⟨r', t, a', ta', p', tp', q1, q2, q3, q4, q5, rfl⟩
    rw [hg] at hq
    simp only [List.mem_cons, List.mem_append] at hq ⊢; grind
theorem pick2A {h₀ h : Heap} {L a b : Addr} {o o2 : Obj} {nw : Lg} (_ : News h₀ L h ((a, o) :: (b, o2) :: nw)) : ∃ a' b', a' = a ∧ b' = b := ⟨_, _, rfl, rfl⟩
theorem RowsRel.length {news : Lg} {vs : List Value} {rs : List Row} (h : RowsRel news vs rs) : vs.length = rs.length := by
  induction h with
  | nil => rfl
  | cons _ _ ih => simp [ih]
theorem RowsRel.snoc {news : Lg} {vs : List Value} {rs : List Row} (h : RowsRel news vs rs) {p : Addr} {k : RowK} {a b c : Int} {t0 t1 t2 t3 : Tok} (hm : (p, tup [.str k.text t0, .int a t1, .int b t2, .int c t3]) ∈ news) : RowsRel news (vs ++ [.ref p]) (rs ++ [⟨k, a, b, c⟩]) := by
  induction h with
  | nil => exact .cons hm .nil
  | cons h1 _ ih => exact .cons h1 ih
theorem namesOf_app (R : List Row) (r : Row) : namesOf (R ++ [r]) = namesOf R ++ (if r.k.defs then [r.a] else []) := by
  unfold namesOf
  rw [List.filterMap_append]
  cases h : r.k.defs <;> simp [h]
theorem WF.snoc {R : List Row} (h : WF R) {r : Row} (h1 : ∀ u ∈ usedOf r, u ∈ namesOf R) (h2 : r.k.defs = true → 0 ≤ r.a ∧ r.a ∉ namesOf R) : WF (R ++ [r]) := by
  intro i r' e
  rcases Nat.lt_trichotomy i R.length with hi | hi | hi
  · rw [List.getElem?_append_left hi] at e
    rw [List.take_append_of_le_length (Nat.le_of_lt hi)]
    exact h i r' e
  · subst hi
    rw [List.getElem?_append_right (Nat.le_refl _), Nat.sub_self] at e
    cases e
    rw [List.take_left]
    exact ⟨h1, h2⟩
  · rw [List.getElem?_append_right (Nat.le_of_lt hi)] at e
    refine opq ?_
    intro GG hGG
    obtain ⟨j, hj⟩ := Nat.exists_eq_succ_of_ne_zero (Nat.ne_of_gt (Nat.sub_pos_of_lt hi))
    rw [hj] at e
    refine hGG ?_
    clear hGG GG
    cases e
theorem step_new {R : List Row} {i : Nat} (hi : i < 10) (h : ∀ v ∈ namesOf R, ∃ j : Nat, j < i ∧ v = ((j : Int) * 11).fmod 47) : 0 ≤ ((i : Int) * 11).fmod 47 ∧ ((i : Int) * 11).fmod 47 ∉ namesOf R := by
  refine ⟨Int.fmod_nonneg_of_pos _ (by decide), fun hm => ?_⟩
  refine opq ?_
  intro GG hGG
  obtain ⟨j, hj, e⟩ := h _ hm
  have key : ∀ a b : Fin 10, b.val < a.val → ((a.val : Int) * 11).fmod 47 ≠ ((b.val : Int) * 11).fmod 47 := by decide
  refine hGG ?_
  clear hGG GG
  exact key ⟨i, hi⟩ ⟨j, Nat.lt_trans hj hi⟩ hj e
theorem getD_in {l : List Int} {k : Int} (h0 : 0 ≤ k) (h : k < (l.length : Int)) : l.getD k.toNat 0 ∈ l := by
  have hk : k.toNat < l.length := (Int.toNat_lt h0).mpr h
  rw [List.getD_eq_getElem?_getD, List.getElem?_eq_getElem hk]
  exact List.getElem_mem hk
theorem eq_nil {prog : Program} {w : World} {A : Around} {E : Value → Shared → Prop} {s : Shared} {h₀ : Heap} {L a b : Addr} {news : Lg} {xs : List Value} {ns : List Int} {n1 n2 : Nat} {Q : Value → Shared → Prop} (N : News h₀ L s.heap news) (hm : (a, lst xs n1) ∈ news) (hm2 : (b, lst [] n2) ∈ news) (hi : IntsAre xs ns) (hu : A.units + 64 < cLine)
    (h1 : (ns.length : Int) = 0 → Q (.bool true) s) (h2 : (0 : Int) < ns.length → Q (.bool false) s) : wpAny (model prog w) A (compareOp .Eq (.ref a) (.ref b)) Q E s := by
  refine PySem.W.ke_eq_ints (xs := xs) (ys := []) (ns := ns) (ms := []) (News.isList N hm) (News.isList N hm2) hi .nil hu ?_
  cases ns with
  | nil => exact h1 rfl
  | cons a r =>
    rw [decide_eq_false (by simp)]
    exact h2 (by simp only [List.length_cons]; (first | with_reducible assumption | lia | omega))
theorem words14_31502 : True := by
  k_with "isTrue BoolOp" => (k_here; (with_reducible show wpAny _ _ (isTrue (Expr.BoolOp BoolOp.Or (Expr.Compare (Expr.Name _ _) [CmpOp.Eq] _ _ :: _) _) _ _) _ _ _); (fail_if_success (with_reducible rename Mark => hMK)); refine Halt.out ?_)
  k_with "isTrue BoolOp" => (k_here; (with_reducible show wpAny _ _ (isTrue (Expr.BoolOp BoolOp.And (Expr.Compare (Expr.Call _ _ _ _) [CmpOp.Lt] _ _ :: _) _) _ _) _ _ _); (fail_if_success (with_reducible rename Mark => hMK)); refine Halt.out ?_)
  k_with "compareOp Eq ref ref" => (k_here; (with_reducible show wpAny _ _ (compareOp CmpOp.Eq (Value.ref _) (Value.ref _)) _ _ _); k_dflt (refine' eq_nil ?zzN ?zzm ?zzm2 ?zzi ?zzu ?_ ?_; (case zzN => k_asm); (case zzm => k_mem); (case zzm2 => k_mem); (case zzi => assumption); (case zzu => first | exact room_of (by assumption) (by decide) | units_room)); intro hEN)
  k_with "call ref" => (k_here; (with_reducible show wpAny _ _ (PySem.call (Value.ref 134) _) _ _ _); k_dflt (refine' Ctr.use (pull_u ?zzu1 ?zzz2 ?zzm3 ?zzh4 ?zzz5 ?zzz6 ?zzz7 ?zzz8 ?zzz9 ?zzzA) ?zzB ?zzF ?zzX ?zzN ?zzT ?zzhk ?zzhd ?zzhu ?_; (case zzF => k_asm); (case zzB => k_asm); (case zzX => k_asm); (case zzN => k_asm); (case zzT => k_asm); (case zzu1 => k_updF); (case zzz2 => (first | assumption | decide | (refine Int.le_trans ?_ (by assumption); assumption) | exact le_step (by assumption) (by assumption) | (first | with_reducible assumption | lia | omega))); (case zzm3 => k_mem); (case zzh4 => k_asm); (case zzz5 => (first | assumption | decide | (refine Int.le_trans ?_ (by assumption); assumption) | exact le_step (by assumption) (by assumption) | (first | with_reducible assumption | lia | omega))); (case zzz6 => (first | assumption | decide | (refine Int.le_trans ?_ (by assumption); assumption) | exact le_step (by assumption) (by assumption) | (first | with_reducible assumption | lia | omega))); (case zzz7 => (first | assumption | decide | (refine Int.le_trans ?_ (by assumption); assumption) | exact le_step (by assumption) (by assumption) | (first | with_reducible assumption | lia | omega))); (case zzz8 => (first | assumption | decide | (refine Int.le_trans ?_ (by assumption); assumption) | exact le_step (by assumption) (by assumption) | (first | with_reducible assumption | lia | omega))); (case zzz9 => (first | assumption | decide | (refine Int.le_trans ?_ (by assumption); assumption) | exact le_step (by assumption) (by assumption) | (first | with_reducible assumption | lia | omega))); (case zzzA => (first | assumption | decide | (refine Int.le_trans ?_ (by assumption); assumption) | exact le_step (by assumption) (by assumption) | (first | with_reducible assumption | lia | omega))); (case zzhk => first | exact rfl | assumption); (case zzhd => first | exact room_of (by assumption) (by decide) | ktr_room); (case zzhu => first | exact room_of (by assumption) (by decide) | ktr_units)); (intro rC nC hC kC FC NC PC); (refine opq ?_; intro GG hGG); (obtain ⟨dr, td, wa, ta, wp, tp, er, hd0, hd1, hwp0, hwp1, en⟩ := PC); (subst er); (subst en); (refine hGG ?_); (clear hGG GG); (try dsimp only); (try k_fold))
  trivial
theorem natOf {d : Int} (h : d < 9) (h0 : 0 ≤ d) : ∃ n : Nat, 2 + d = (n : Int) ∧ n ≤ 10 := ⟨(2 + d).toNat, by (first | with_reducible assumption | lia | omega), by (first | with_reducible assumption | lia | omega)⟩
theorem chain1 {p a i : Int} (h : p ≤ 1 + 4 * i) (h1 : a ≤ p + 1) : a ≤ 1 + 4 * (i + 1) := by
  rw [Int.mul_add, ← Int.add_assoc]
  exact Int.le_trans h1 (Int.add_le_add h (by decide))
theorem chain2 {p a b i : Int} (h : p ≤ 1 + 4 * i) (h1 : a ≤ p + 1) (h2 : b ≤ a + 1) (h3 : i < 10) : b ≤ 100 := by (first | with_reducible assumption | lia | omega)
theorem chain3 {p a b c i : Int} (h : p ≤ 1 + 4 * i) (h1 : a ≤ p + 1) (h2 : b ≤ a + 1) (h3 : c ≤ b + 1) : c ≤ 1 + 4 * (i + 1) := by
  rw [Int.mul_add, ← Int.add_assoc]
  refine Int.le_trans h3 (Int.le_trans (Int.add_le_add_right (Int.le_trans h2 (Int.add_le_add_right h1 1)) 1) ?_)
  rw [Int.add_assoc, Int.add_assoc]
  exact Int.add_le_add h (by decide)
theorem chain4 {p a b c d i : Int} (h : p ≤ 1 + 4 * i) (h1 : a ≤ p + 1) (h2 : b ≤ a + 1) (h3 : c ≤ b + 1) (h4 : d ≤ c + 1) : d ≤ 1 + 4 * (i + 1) := by
  rw [Int.mul_add, ← Int.add_assoc]
  refine Int.le_trans h4 (Int.le_trans (Int.add_le_add_right (Int.le_trans h3 (Int.add_le_add_right (Int.le_trans h2 (Int.add_le_add_right h1 1)) 1)) 1) ?_)
  rw [Int.add_assoc, Int.add_assoc, Int.add_assoc]
  exact Int.add_le_add h (by decide)
inductive ProgJ (base2 : Lg) (wl ce md ol : Addr) (nn : Nat) (i : Nat) (m : Str → Option Value) (nw : Lg) : Prop
  | mk (_ : m (PySem.Str.ofString "well") = some (.ref wl)) (_ : m (PySem.Str.ofString "made") = some (.ref md)) (_ : m (PySem.Str.ofString "old_ones") = some (.ref ol)) (ov : List Value) (on : Nat) (mv : List Value) (mn : Nat) (a : Int) (ta : Tok) (p : Int) (tp : Tok) (nx : Lg) (R : List Row) (_ : nw = (ol, lst ov on) :: (md, lst mv mn) :: (wl, lst [.int a ta, .ref ce, .int p tp] nn) :: nx) (_ : 0 ≤ p) (_ : p ≤ 1 + 4 * (i : Int)) (_ : IntsAre ov (namesOf R)) (_ : RowsRel nx mv R) (_ : WF R) (_ : R.length = i) (_ : (namesOf R).length ≤ 7) (_ : (∀ v ∈ namesOf R, ∃ j : Nat, j < i ∧ v = ((j : Int) * 11).fmod 47)) (_ : (∀ q ∈ base2, q ∈ nx)) (_ : AllNe ol nx) (_ : AllNe md nx) (_ : AllNe wl nx) : ProgJ base2 wl ce md ol nn i m nw
theorem prog_fin {base2 nx : Lg} {wl ce md ol D I : Addr} {nn i on mn tk : Nat} {m' : Str → Option Value} {gE h' : Heap} {LE : Addr} {s₁ : Shared} {oI : Obj} {ov mv : List Value} {R : List Row} {k : RowK} {a b c wa wp : Int} {t0 t1 t2 t3 ta tp : Tok}
    (F : Fr gE LE h' m') (N : News gE LE h' ((D, tup [.str k.text t0, .int a t1, .int b t2, .int c t3]) :: (I, oI) :: (ol, lst ov on) :: (md, listOf (mv.toArray.push (.ref D)) mn) :: (wl, lst [.int wa ta, .ref ce, .int wp tp] nn) :: nx))
    (hm1 : m' (PySem.Str.ofString "well") = some (.ref wl)) (hm2 : m' (PySem.Str.ofString "made") = some (.ref md)) (hm3 : m' (PySem.Str.ofString "old_ones") = some (.ref ol))
    (d1 : @Ne Nat D I) (d2 : @Ne Nat D ol) (d3 : @Ne Nat D md) (d4 : @Ne Nat D wl) (ho : @Ne Nat ol I ∧ @Ne Nat md I ∧ @Ne Nat wl I ∧ AllNe I nx) (ho1 : AllNe ol nx) (ho2 : AllNe md nx) (ho3 : AllNe wl nx) (hS : ∀ q ∈ base2, q ∈ nx)
    (hp0 : 0 ≤ wp) (hp1 : wp ≤ 1 + 4 * ((i + 1 : Nat) : Int)) (hov : IntsAre ov (namesOf (R ++ [⟨k, a, b, c⟩]))) (hmv : RowsRel nx mv R) (hwf : WF R) (hRl : R.length = i) (hRv : ∀ v ∈ namesOf R, ∃ j : Nat, j < i ∧ v = ((j : Int) * 11).fmod 47)
    (h7 : (namesOf (R ++ [⟨k, a, b, c⟩])).length ≤ 7) (hus : ∀ u ∈ usedOf ⟨k, a, b, c⟩, u ∈ namesOf R) (hde : k.defs = true → 0 ≤ a ∧ a ∉ namesOf R ∧ a = ((i : Int) * 11).fmod 47) :
    TurnEnd gE LE (ProgJ base2 wl ce md ol nn (i + 1)) I oI s₁ { s₁ with heap := h', toks := tk } := by
  rw [List.push_toArray] at N
  refine TurnEnd.intro ((ol, lst ov on) :: (md, lst (mv ++ [.ref D]) mn) :: (wl, lst [.int wa ta, .ref ce, .int wp tp] nn) :: (D, tup [.str k.text t0, .int a t1, .int b t2, .int c t3]) :: nx) F N (.tail _ (.head _)) (by k_extra "my sub") ?_ ?_
  · exact ⟨ho.1, ho.2.1, ho.2.2.1, d1, ho.2.2.2⟩
  · refine ⟨hm1, hm2, hm3, ov, on, mv ++ [.ref D], mn, wa, ta, wp, tp, _, R ++ [⟨k, a, b, c⟩], rfl, hp0, hp1, hov, (hmv.mono fun q hq => .tail _ hq).snoc (.head _), hwf.snoc hus fun hd => ⟨(hde hd).1, (hde hd).2.1⟩, by rw [List.length_append, hRl]; rfl, h7, ?_, fun q hq => .tail _ (hS q hq), ⟨d2, ho1⟩, ⟨d3, ho2⟩, ⟨d4, ho3⟩⟩
    intro v hv
    rw [namesOf_app] at hv
    rcases List.mem_append.mp hv with hv | hv
    · obtain ⟨j, hj, e⟩ := hRv v hv
      exact ⟨j, by (first | with_reducible assumption | lia | omega), e⟩
    · dsimp only at hv
      split at hv
      · rename_i hd
        rw [List.mem_singleton.mp hv]
        exact ⟨i, Nat.lt_succ_self _, (hde hd).2.2⟩
      · cases hv
theorem prog_def {base2 nx : Lg} {wl ce md ol D I : Addr} {nn i on mn tk : Nat} {m' : Str → Option Value} {gE h' : Heap} {LE : Addr} {s₁ : Shared} {oI : Obj} {ov mv : List Value} {R : List Row} (k : RowK) {b c wa wp : Int} {t0 t1 t2 t3 t4 ta tp : Tok} (hd : k.defs = true)
    (F : Fr gE LE h' m') (N : News gE LE h' ((D, tup [.str k.text t0, .int (((i : Int) * 11).fmod 47) t1, .int b t2, .int c t3]) :: (I, oI) :: (ol, listOf (ov.toArray.push (.int (((i : Int) * 11).fmod 47) t4)) on) :: (md, listOf (mv.toArray.push (.ref D)) mn) :: (wl, lst [.int wa ta, .ref ce, .int wp tp] nn) :: nx))
    (hm1 : m' (PySem.Str.ofString "well") = some (.ref wl)) (hm2 : m' (PySem.Str.ofString "made") = some (.ref md)) (hm3 : m' (PySem.Str.ofString "old_ones") = some (.ref ol))
    (d1 : @Ne Nat D I) (d2 : @Ne Nat D ol) (d3 : @Ne Nat D md) (d4 : @Ne Nat D wl) (ho : @Ne Nat ol I ∧ @Ne Nat md I ∧ @Ne Nat wl I ∧ AllNe I nx) (ho1 : AllNe ol nx) (ho2 : AllNe md nx) (ho3 : AllNe wl nx) (hS : ∀ q ∈ base2, q ∈ nx)
    (hp0 : 0 ≤ wp) (hp1 : wp ≤ 1 + 4 * ((i + 1 : Nat) : Int)) (hov : IntsAre ov (namesOf R)) (hmv : RowsRel nx mv R) (hwf : WF R) (hRl : R.length = i) (hRv : ∀ v ∈ namesOf R, ∃ j : Nat, j < i ∧ v = ((j : Int) * 11).fmod 47)
    (h7 : (namesOf R).length < 7) (hv0 : 0 ≤ ((i : Int) * 11).fmod 47) (hvn : ((i : Int) * 11).fmod 47 ∉ namesOf R) (hus : ∀ u ∈ usedOf ⟨k, ((i : Int) * 11).fmod 47, b, c⟩, u ∈ namesOf R) :
    TurnEnd gE LE (ProgJ base2 wl ce md ol nn (i + 1)) I oI s₁ { s₁ with heap := h', toks := tk } := by
  rw [List.push_toArray] at N
  have e : namesOf (R ++ [⟨k, ((i : Int) * 11).fmod 47, b, c⟩]) = namesOf R ++ [((i : Int) * 11).fmod 47] := by rw [namesOf_app, if_pos hd]
  exact prog_fin F N hm1 hm2 hm3 d1 d2 d3 d4 ho ho1 ho2 ho3 hS hp0 hp1 (by rw [e]; exact ints_snoc hov _ _) hmv hwf hRl hRv (by rw [e, List.length_append]; show _ + 1 ≤ 7; (first | with_reducible assumption | lia | omega)) hus fun _ => ⟨hv0, hvn, rfl⟩
theorem add_used {R : List Row} {a b c u : Int} (h1 : b ∈ namesOf R) (h2 : c ∈ namesOf R) (h : u ∈ usedOf ⟨.add, a, b, c⟩) : u ∈ namesOf R := by
  unfold usedOf at h
  dsimp only at h
  split at h
  · rw [List.mem_singleton.mp h]; exact h1
  · rcases List.mem_cons.mp h with e | h
    · rw [e]; exact h1
    · rw [List.mem_singleton.mp h]; exact h2
set_option maxHeartbeats 2000000 in
theorem program_c {w : World} {base2 : Lg} {wl ce : Addr} {a p : Int} {ta tp : Tok} {nn nc : Nat} {cv : List Value} {cs : List Int}
    (hb : AllNe wl base2) (hne : @Ne Nat ce wl) (hc : (ce, lst cv nc) ∈ base2) (hi : IntsAre cv cs) (h1 : 1 ≤ cv.length) (h40 : cv.length ≤ 100) (hp : p = 0) :
    Ctr w 141 [.ref wl] 4 120 ((wl, lst [.int a ta, .ref ce, .int p tp] nn) :: base2) (fun r nw => (Xs6 fun (x : Addr) (a' : Int) (ta' : Tok) (p' : Int) (tp' : Tok) (nx : Lg) => ∃ (R : List Row), (Cj9 (r = .ref x) (nw = (wl, lst [.int a' ta', .ref ce, .int p' tp'] nn) :: nx) ((∀ q ∈ base2, q ∈ nx)) (AllNe wl nx) (0 ≤ p') (p' ≤ 100) (RowsAt nx x R) (WF R) ((namesOf R).length ≤ 7)))) := by
  intro mean mg mb dp un gd cn cs a ccd cl outer A₀ base h₀ L m s Q E B F X N T hk hd hu ret
  refine wpAny_call ?_
  k_dflt (refine' code_def (binds := [(PySem.Str.ofString "well", Value.ref wl)]) ?k1 ?k2 ?k3 ?k4 ?k5 ?kA ?kF ?kK ?k6 ?k7 ?k8 ?k9 ?kB ?_ ?c2 ?c3 ?c4 ?c5; (case kA => exact rfl); (case kF => exact rfl); (case kK => assumption); (case k1 => k_asm); (case k2 => k_asm); (case k3 => k_asm); (case k4 => k_asm); (case k5 => k_asm); (case k6 => k_is); (case k7 => k_is); (case k8 => first | exact depth_room (by assumption) | ktr_room); (case k9 => exact BindsTo.of_eq rfl); (case c5 => decide); (case kB => exact locs rfl); (case c2 => exact rfl); (case c3 => exact rfl); (case c4 => exact rfl); k_whole)
  intro gE LE hE FG' F' N' B' X' T'
  (try dsimp only)
  refine gen_E ?_
  k_steps
  all_goals (try k_data)
  rename Fr gE LE _ _ => F1
  rename News gE LE _ _ => N1
  rename IsRange _ _ _ _ _ _ _ _ => R1
  refine opq ?_
  intro GG hGG
  obtain ⟨ol, md, rfl, rfl⟩ := pick2A N1
  rename (_ < (9 : Int)) => hd9
  obtain ⟨n, hn, hn2⟩ := natOf hd9 (by assumption)
  refine hGG ?_
  clear hGG GG
  refine Halt.mk ?_
  k_dflt (refine' for_range0 (n := n) (ProgJ base2 wl ce md ol nn) rfl R1 hn (by (first | with_reducible assumption | lia | omega)) F1 N1 ?dJ ?_ ?_)
  case dJ => exact ⟨rfl, rfl, rfl, [], 0, [], 0, _, _, _, _, _, [], rfl, by (first | with_reducible assumption | lia | omega), by (first | with_reducible assumption | lia | omega), .nil, .nil, (fun i r h => by simp at h), rfl, by decide, (fun v hv => nomatch hv), (fun q hq => hq), by k_all, by k_all, by k_all⟩
  · rintro I oI hI2 i t m₁ nw h tk hi2 hJJ
    refine opq ?_
    intro GG hGG
    obtain ⟨hm1, hm2, hm3, ov, on, mv, mn, a, ta, p, tp, nx, R, rfl, hp0, hp1, hov, hmv, hwf, hRl, hR7, hRv, hS, ho1, ho2, ho3⟩ := hJJ
    refine hGG ?_
    clear hGG GG
    intro ho F2 N2
    clear F1 N1
    (try (refine gen_T ?_; intro Qv Jv hJn))
    refine opq ?_
    intro GG hGG
    simp only [AllLt] at hI2
    simp only [AllNe] at ho
    have hc2 := hS _ hc
    have hi10 : i < 10 := Nat.lt_of_lt_of_le hi2 hn2
    have hml := hmv.length
    have hol := hov.length
    have hol2 : ov.length ≤ 10 := Nat.le_trans (Nat.le_of_eq hol) (Nat.le_trans hR7 (by decide))
    have hml2 : mv.length ≤ 10 := Nat.le_trans (Nat.le_of_eq (hml.trans hRl)) (Nat.le_of_lt hi10)
    have hz1 := size_ready hol2
    have hz2 := size_ready hml2
    obtain ⟨hv0, hvn⟩ := step_new hi10 hRv
    refine hGG ?_
    clear hGG GG
    k_steps
    all_goals (try k_data)
    refine Halt.mk ?_
    refine joinB (fun c s' => Halt ((Xs8 fun (h' : Heap) (tk' : Nat) (a' : Int) (ta' : Tok) (p' : Int) (tp' : Tok) (m' : Str → Option Value) (tv : Tok) => (Cj12 (s' = { s with heap := h', toks := tk' }) (Fr gE LE h' m') (News gE LE h' ((I, oI) :: (ol, lst ov on) :: (md, lst mv mn) :: (wl, lst [.int a' ta', .ref ce, .int p' tp'] nn) :: nx)) (m' (PySem.Str.ofString "well") = some (.ref wl)) (m' (PySem.Str.ofString "made") = some (.ref md)) (m' (PySem.Str.ofString "old_ones") = some (.ref ol)) (m' (PySem.Str.ofString "step") = some (.int i t)) (m' (PySem.Str.ofString "v") = some (.int (((i : Int) * 11).fmod 47) tv)) (p ≤ p') (p' ≤ p + 1) ((c = true → (namesOf R).length < 7)) ((c = false → 0 < (namesOf R).length)))))) ?_ ?_
    · have hMK : Mark := ⟨⟩
      k_steps
      all_goals (try k_data)
      all_goals (rename Fr gE _ _ _ => F5; rename News gE _ _ _ => N5)
      all_goals refine ⟨_, _, _, _, _, _, _, _, rfl, F5, (by first | exact N5 | exact News.tail N5), hm1, hm2, hm3, rfl, rfl, by (first | with_reducible assumption | lia | omega), by (first | with_reducible assumption | lia | omega), fun hcc => ?_, fun hcc => ?_⟩ <;> first | (first | with_reducible assumption | lia | omega) | (exact absurd hcc (by decide))
    · rintro c s' hJJ
      refine opq ?_
      intro GG hGG
      obtain ⟨⟨h5, tk5, a5, ta5, p5, tp5, m5, tv, rfl, F5, N5, hn1, hn2, hn3, hn4, hn5, hp5, hp6, hc1, hc0⟩⟩ := hJJ
      refine hGG ?_
      clear hGG GG
      clear F2 N2
      have hq5 : 0 ≤ p5 := Int.le_trans hp0 hp5
      have hq5' : p5 ≤ 1000 := by (first | with_reducible assumption | lia | omega)
      have hpk : p ≤ 1000 := Int.le_trans hp5 hq5'
      cases c with
      | true =>
        have h7 := hc1 rfl
        clear hc1 hc0
        (try dsimp only)
        rw [if_pos rfl]
        k_steps
        all_goals (try k_data)
        rename Fr gE _ _ _ => F6
        rename News gE _ _ _ => N6
        refine TurnEnd.imp hJn ?_
        exact prog_def .inp rfl F6 N6 hn1 hn2 hn3 (by k_ne) (by k_ne) (by k_ne) (by k_ne) ho ho1 ho2 ho3 hS (Int.le_trans hp0 hp5) (chain1 hp1 hp6) hov hmv hwf hRl hRv (by (first | with_reducible assumption | lia | omega)) hv0 hvn (fun u hu => nomatch hu)
      | false =>
        have hpos := hc0 rfl
        have hpo : (0 : Int) < (ov.length : Int) := Int.ofNat_lt.mpr (hol ▸ hpos)
        have hpo2 : (ov.length : Int) ≤ 1000 := Int.ofNat_le.mpr (Nat.le_trans hol2 (by decide))
        have hov60 : ov.length < 2 ^ 60 := Nat.lt_of_le_of_lt hol2 (by decide)
        clear hc1 hc0
        (try dsimp only)
        rw [if_neg (by decide)]
        k_steps
        all_goals (try k_data)
        refine Halt.mk ?_
        refine joinB (fun c s' => Halt ((Xs8 fun (h' : Heap) (tk' : Nat) (a' : Int) (ta' : Tok) (p' : Int) (tp' : Tok) (m' : Str → Option Value) (tv : Tok) => (Cj12 (s' = { s with heap := h', toks := tk' }) (Fr gE LE h' m') (News gE LE h' ((I, oI) :: (ol, lst ov on) :: (md, lst mv mn) :: (wl, lst [.int a' ta', .ref ce, .int p' tp'] nn) :: nx)) (m' (PySem.Str.ofString "well") = some (.ref wl)) (m' (PySem.Str.ofString "made") = some (.ref md)) (m' (PySem.Str.ofString "old_ones") = some (.ref ol)) (m' (PySem.Str.ofString "step") = some (.int i t)) (m' (PySem.Str.ofString "v") = some (.int (((i : Int) * 11).fmod 47) tv)) (p5 ≤ p') (p' ≤ p5 + 1) ((c = true → (namesOf R).length < 7)) ((c = false → 0 < (namesOf R).length)))))) ?_ ?_
        · have hMK : Mark := ⟨⟩
          k_steps
          all_goals (try k_data)
          all_goals (rename Fr gE _ _ _ => F6; rename News gE _ _ _ => N6)
          all_goals refine ⟨_, _, _, _, _, _, _, _, rfl, F6, (by first | exact N6 | exact News.tail N6), hn1, hn2, hn3, hn4, hn5, by (first | with_reducible assumption | lia | omega), by (first | with_reducible assumption | lia | omega), fun hcc => ?_, fun hcc => ?_⟩ <;> first | (first | with_reducible assumption | lia | omega) | (exact absurd hcc (by decide))
        · rintro c s' hJJ
          refine opq ?_
          intro GG hGG
          obtain ⟨⟨h6, tk6, a6, ta6, p6, tp6, m6, tv6, rfl, F6, N6, hr1, hr2, hr3, hr4, hr5, hp7, hp8, hc1, hc0⟩⟩ := hJJ
          refine hGG ?_
          clear hGG GG
          clear F5 N5
          have hq6 : 0 ≤ p6 := Int.le_trans hq5 hp7
          have hq6' : p6 ≤ 100 := chain2 hp1 hp6 hp8 (Int.ofNat_lt.mpr hi10)
          have hq6'' : p6 ≤ 1000 := Int.le_trans hq6' (by decide)
          cases c with
          | true =>
            have h7 := hc1 rfl
            clear hc1 hc0
            (try dsimp only)
            rw [if_pos rfl]
            k_steps
            all_goals (try k_data)
            rename Fr gE _ _ _ => F7
            rename News gE _ _ _ => N7
            refine TurnEnd.imp hJn ?_
            refine prog_def .add rfl F7 N7 hr1 hr2 hr3 (by k_ne) (by k_ne) (by k_ne) (by k_ne) ho ho1 ho2 ho3 hS (Int.le_trans (Int.le_trans hq6 (by assumption)) (by assumption)) (chain4 hp1 hp6 hp8 (by assumption) (by assumption)) hov hmv hwf hRl hRv (by (first | with_reducible assumption | lia | omega)) hv0 hvn (fun u hu => ?_)
            refine add_used ?_ ?_ hu
            · exact getD_in (by assumption) (by rw [← hol]; assumption)
            · exact getD_in (by assumption) (by rw [← hol]; assumption)
          | false =>
            clear hc1 hc0
            (try dsimp only)
            rw [if_neg (by decide)]
            k_steps
            all_goals (try k_data)
            rename Fr gE _ _ _ => F7
            rename News gE _ _ _ => N7
            refine TurnEnd.imp hJn ?_
            refine prog_fin (k := .out) F7 N7 hr1 hr2 hr3 (by k_ne) (by k_ne) (by k_ne) (by k_ne) ho ho1 ho2 ho3 hS (Int.le_trans hq6 (by assumption)) (chain3 hp1 hp6 hp8 (by assumption)) (by rw [namesOf_app]; simpa [RowK.defs] using hov) hmv hwf hRl hRv (by rw [namesOf_app]; simpa [RowK.defs] using hR7) (fun u hu => ?_) (fun h => nomatch h)
            rw [List.mem_singleton.mp hu]; exact getD_in (by assumption) (by rw [← hol]; assumption)
  · rintro m₁ nw h tk hJJ
    refine opq ?_
    intro GG hGG
    obtain ⟨hm1, hm2, hm3, ov, on, mv, mn, a, ta, p, tp, nx, R, rfl, hp0, hp1, hov, hmv, hwf, hRl, hR7, hRv, hS, ho1, ho2, ho3⟩ := hJJ
    refine hGG ?_
    clear hGG GG
    intro F2 N2
    clear F1 N1
    k_steps
    refine ret _ ((wl, lst [.int a ta, .ref ce, .int p tp] nn) :: (md, lst mv mn) :: nx) _ _ (by k_asm) (News.sub (by k_asm) (by k_extra "my sub")) ?_
    exact ⟨md, a, ta, p, tp, _, R, rfl, rfl, fun q hq => .tail _ (hS q hq), ⟨by k_ne, ho3⟩, hp0, by (first | with_reducible assumption | lia | omega), ⟨mv, mn, .head _, hmv.mono (fun q hq => .tail _ hq), hmv.length, by (first | with_reducible assumption | lia | omega)⟩, hwf, hR7⟩
theorem fresh27 : True := by
  w_top off
  trivial
theorem stored_len {prog : Program} {w : World} {o : Obj} {kvs : List (Int × Value)} {k : Int} {v : Value} (_ : o.IsDictOf (intKind prog w) (stored kvs k v)) : (stored kvs k v).length ≤ kvs.length + 1 := by
  unfold stored; split <;> simp
theorem lawLen {kvs : List (Int × Value)} {f : List (Int × Int × Int) → List (Int × Int)} (hf : ∀ st, (f st).map (·.1) = st.map (·.1)) {R : List Row} {i : Nat} (h : SlotRel kvs (f (lawOf (R.take i)))) (hR : R.length ≤ 50) : kvs.length ≤ 50 := by
  have e := congrArg List.length (hf (lawOf (R.take i)))
  rw [List.length_map, lawOf_names, ← h.length] at e
  have := namesOf_length (R.take i)
  rw [List.length_take] at this
  (first | with_reducible assumption | lia | omega)
section
theorem words15_31502 : True := by
  k_with "setItem ref int" => (k_here; (with_reducible show wpAny _ _ (setItem (Value.ref _) (Value.int _ _) _) _ _ _); k_dflt (refine' dict_set ?zzF ?zzN ?zzU ?zzd ?zzz ?_; (case zzF => k_asm); (case zzN => k_asm); (case zzU => k_updF); (case zzd => k_asm); (case zzz => first | assumption | exact Nat.lt_of_le_of_lt (by assumption) (by decide) | (first | with_reducible assumption | lia | omega))); intro h' o' F' N' hd'; (try dsimp only at N'); have hsl := stored_len hd')
  trivial
set_option maxHeartbeats 2000000 in
theorem lives_c {w : World} {news : Lg} {rows : Addr} {R : List Row} (hr : RowsAt news rows R) (hwf : WF R) : Ctr w 148 [.ref rows] 2 40 news (fun r nw => (Xs6 fun (x : Addr) (bd : Addr) (dd : Addr) (ob : Obj) (od : Obj) (kb : List (Int × Value)) => ∃ (kd : List (Int × Value)), (Cj7 (r = .ref x) (nw = (x, tup [.ref bd, .ref dd]) :: (dd, od) :: (bd, ob) :: news) ((bd == sysModules) = false) ((dd == sysModules) = false) (ob.IsDictOf (intKind P0 w) kb) (od.IsDictOf (intKind P0 w) kd) ((SlotRel kb (bornOf (lawOf R))) ∧ (SlotRel kd (diesOf (lawOf R))))))) := by
  intro mean mg mb dp un gd cn cs a ccd cl outer A₀ base h₀ L m s Q E B F X N T hk hd hu ret
  refine opq ?_
  intro GG hGG
  obtain ⟨vs, nn, hrm, hrr, hvl, hRl⟩ := hr
  refine hGG ?_
  clear hGG GG
  refine wpAny_call ?_
  k_dflt (refine' code_def (binds := [(PySem.Str.ofString "made", Value.ref rows)]) ?k1 ?k2 ?k3 ?k4 ?k5 ?kA ?kF ?kK ?k6 ?k7 ?k8 ?k9 ?kB ?_ ?c2 ?c3 ?c4 ?c5; (case kA => exact rfl); (case kF => exact rfl); (case kK => assumption); (case k1 => k_asm); (case k2 => k_asm); (case k3 => k_asm); (case k4 => k_asm); (case k5 => k_asm); (case k6 => k_is); (case k7 => k_is); (case k8 => first | exact depth_room (by assumption) | ktr_room); (case k9 => exact BindsTo.of_eq rfl); (case c5 => decide); (case kB => exact locs rfl); (case c2 => exact rfl); (case c3 => exact rfl); (case c4 => exact rfl); k_whole)
  intro gE LE hE FG' F' N' B' X' T'
  (try dsimp only)
  refine gen_E ?_
  k_steps
  all_goals (try k_data)
  rename Fr gE LE _ _ => F1
  rename News gE LE _ _ => N1
  rename IsRange _ _ _ _ _ _ _ _ => R1
  refine opq ?_
  intro GG hGG
  obtain ⟨dd, bd, rfl, rfl⟩ := pick2A N1
  refine hGG ?_
  clear hGG GG
  refine Halt.mk ?_
  k_dflt (refine' for_range0 (fun i m nw => (Cj4 (m (PySem.Str.ofString "made") = some (.ref rows)) (m (PySem.Str.ofString "born") = some (.ref bd)) (m (PySem.Str.ofString "dies") = some (.ref dd)) (Xs4 fun (ob : Obj) (od : Obj) (kb : List (Int × Value)) (kd : List (Int × Value)) => (Cj5 (nw = (dd, od) :: (bd, ob) :: news) (ob.IsDictOf (intKind P0 w) kb) (od.IsDictOf (intKind P0 w) kd) (SlotRel kb (bornOf (lawOf (R.take i)))) (SlotRel kd (diesOf (lawOf (R.take i)))))))) rfl R1 rfl (by (first | with_reducible assumption | lia | omega)) F1 N1 ⟨rfl, rfl, rfl, _, _, [], [], rfl, by assumption, by assumption, .nil, .nil⟩ ?_ ?_)
  · rintro I oI hI i t m₁ nw h tk hi hJJ
    refine opq ?_
    intro GG hGG
    obtain ⟨hm1, hm2, hm3, ob, od, kb, kd, rfl, hD1, hD2, hB, hK⟩ := hJJ
    refine hGG ?_
    clear hGG GG
    intro ho F2 N2
    clear F1 N1
    (try (refine gen_T ?_; intro Qv Jv hJn))
    refine opq ?_
    intro GG hGG
    simp only [AllLt] at hI
    simp only [AllNe] at ho
    obtain ⟨p, k, a, b, c, t0, t1, t2, t3, ev, eR, hpm⟩ := rows_at hrr hi
    have hbl := lawLen bornOf_names hB (by (first | with_reducible assumption | lia | omega))
    have hdl := lawLen diesOf_names hK (by (first | with_reducible assumption | lia | omega))
    have el := lawOf_take eR
    refine hGG ?_
    clear hGG GG
    cases k <;> dsimp only [RowK.text] at hpm
    all_goals k_steps
    all_goals (try k_data)
    · have hna : a ∉ (lawOf (R.take i)).map (·.1) := by rw [lawOf_names]; exact ((hwf i _ eR).2 rfl).2
      rename Obj.IsDictOf _ _ (stored kd _ _) => hE2
      rename Obj.IsDictOf _ _ (stored kb _ _) => hE1
      refine opq ?_
      intro GG hGG
      obtain ⟨o1, rfl⟩ := pickD hE1
      obtain ⟨o2, rfl⟩ := pickD hE2
      refine hGG ?_
      clear hGG GG
      refine TurnEnd.into hJn ((dd, o2) :: (bd, o1) :: news) (by k_asm) (by k_asm) (by k_mem) (by first | assumption | k_extra "my sub" | (intro pS hpS; first | exact hpS | exact .tail _ hpS | exact .tail _ (.tail _ hpS) | exact .tail _ (.tail _ (.tail _ hpS)) | (simp only [List.mem_cons, List.mem_append] at hpS ⊢; grind))) ?_ ?_
      · k_all
      · exact ⟨hm1, hm2, hm3, o1, o2, _, _, rfl, hE1, hE2, by rw [el, (law_inp hna).1]; exact hB.set _ _ _, by rw [el, (law_inp hna).2]; exact hK.set _ _ _⟩
    · have hna : a ∉ (lawOf (R.take i)).map (·.1) := by rw [lawOf_names]; exact ((hwf i _ eR).2 rfl).2
      have hnb : b ∈ (lawOf (R.take i)).map (·.1) := by rw [lawOf_names]; exact (hwf i _ eR).1 b (by unfold usedOf; dsimp only; split <;> simp)
      have hnc : c ∈ (lawOf (R.take i)).map (·.1) := by rw [lawOf_names]; exact (hwf i _ eR).1 c (by unfold usedOf; dsimp only; split <;> simp [*])
      rename Obj.IsDictOf _ _ (stored (stored (stored kd _ _) _ _) _ _) => hE2
      rename Obj.IsDictOf _ _ (stored kb _ _) => hE1
      refine opq ?_
      intro GG hGG
      obtain ⟨o1, rfl⟩ := pickD hE1
      obtain ⟨o2, rfl⟩ := pickD hE2
      refine hGG ?_
      clear hGG GG
      refine TurnEnd.into hJn ((dd, o2) :: (bd, o1) :: news) (by k_asm) (by k_asm) (by k_mem) (by first | assumption | k_extra "my sub" | (intro pS hpS; first | exact hpS | exact .tail _ hpS | exact .tail _ (.tail _ hpS) | exact .tail _ (.tail _ (.tail _ hpS)) | (simp only [List.mem_cons, List.mem_append] at hpS ⊢; grind))) ?_ ?_
      · k_all
      · exact ⟨hm1, hm2, hm3, o1, o2, _, _, rfl, hE1, hE2, by rw [el, (law_add hna hnb hnc).1]; exact hB.set _ _ _, by rw [el, (law_add hna hnb hnc).2]; exact ((hK.set _ _ _).set _ _ _).set _ _ _⟩
    · have hnb : b ∈ (lawOf (R.take i)).map (·.1) := by rw [lawOf_names]; exact (hwf i _ eR).1 b (.head _)
      rename Obj.IsDictOf _ _ (stored kd _ _) => hE2
      refine opq ?_
      intro GG hGG
      obtain ⟨o2, rfl⟩ := pickD hE2
      refine hGG ?_
      clear hGG GG
      refine TurnEnd.into hJn ((dd, o2) :: (bd, ob) :: news) (by k_asm) (by k_asm) (by k_mem) (by first | assumption | k_extra "my sub" | (intro pS hpS; first | exact hpS | exact .tail _ hpS | exact .tail _ (.tail _ hpS) | exact .tail _ (.tail _ (.tail _ hpS)) | (simp only [List.mem_cons, List.mem_append] at hpS ⊢; grind))) ?_ ?_
      · k_all
      · exact ⟨hm1, hm2, hm3, ob, o2, _, _, rfl, hD1, hE2, by rw [el, (law_out hnb).1]; exact hB, by rw [el, (law_out hnb).2]; exact hK.set _ _ _⟩
  · rintro m₁ nw h tk hJJ
    refine opq ?_
    intro GG hGG
    obtain ⟨hm1, hm2, hm3, ob, od, kb, kd, rfl, hD1, hD2, hB, hK⟩ := hJJ
    refine hGG ?_
    clear hGG GG
    intro F2 N2
    clear F1 N1
    rw [hvl, List.take_length] at hB hK
    k_steps
    all_goals (try k_data)
    refine ret _ _ _ _ (by k_asm) (by k_asm) ?_
    exact ⟨_, bd, dd, ob, od, kb, kd, rfl, rfl, by assumption, by assumption, hD1, hD2, hB, hK⟩
end
theorem fresh28 : True := by
  w_top off
  trivial
theorem alv_bd {ivs : List (Int × Int × Int)} {v u b b2 d2 : Int} (h1 : startOf ivs v = 2 * b + 1) (h2 : startOf ivs u = 2 * b2 + 1) (h3 : b2 ≤ d2) (h4 : endOf ivs u = if d2 = b2 then 2 * b2 + 1 else 2 * d2) : alv ivs v u = (decide (b2 < b) && decide (b < d2)) := by
  unfold alv
  rw [h1, h2, h4, Bool.eq_iff_iff]
  simp only [Bool.and_eq_true, decide_eq_true_eq]
  split <;> (first | with_reducible assumption | lia | omega)
def aliveTo (ivs : List (Int × Int × Int)) (ns : List Int) (one : Int) (i : Nat) : Int := 1 + (((ns.take i).filter (alv ivs one)).length : Int)
def crowdTo (ivs : List (Int × Int × Int)) (ns : List Int) (i : Nat) : Int := (((ns.take i).foldl (fun m one => max m (aliveIn ivs ns one)) 0 : Nat) : Int)
theorem crowdTo_take {ivs : List (Int × Int × Int)} {ns : List Int} {i : Nat} {u : Int} (h : ns[i]? = some u) : crowdTo ivs ns (i + 1) = max (crowdTo ivs ns i) (aliveIn ivs ns u : Int) := by
  unfold crowdTo
  rw [List.take_add_one, h, Option.toList_some, List.foldl_append]
  show ((max (List.foldl _ 0 (List.take i ns)) (aliveIn ivs ns u) : Nat) : Int) = _
  (first | with_reducible assumption | lia | omega)
set_option maxHeartbeats 2000000 in
theorem crowd_c {w : World} {news : Lg} {bd dd sm : Addr} {ob od : Obj} {kb kd : List (Int × Value)} {ivs : List (Int × Int × Int)} {vs : List Value} {nn : Nat} {ns : List Int}
    (hb : (bd, ob) ∈ news) (hd1 : (dd, od) ∈ news) (hob : ob.IsDictOf (intKind P0 w) kb) (hod : od.IsDictOf (intKind P0 w) kd) (hBD : BD ivs kb kd) (hs : (sm, lst vs nn) ∈ news) (hi : IntsAre vs ns) (hns : ∀ v ∈ ns, v ∈ ivs.map (·.1)) :
    Ctr w 155 [.ref bd, .ref dd, .ref sm] 2 20 news (fun r nw => ((nw = news) ∧ (∃ t, (r = .int (crowdOf ivs ns) t)))) := by
  intro mean mg mb dp un gd cn cs a ccd cl outer A₀ base h₀ L m s Q E B F X N T hk hd hu ret
  refine wpAny_call ?_
  k_dflt (refine' code_def (binds := [(PySem.Str.ofString "born", Value.ref bd), (PySem.Str.ofString "dies", Value.ref dd), (PySem.Str.ofString "some", Value.ref sm)]) ?k1 ?k2 ?k3 ?k4 ?k5 ?kA ?kF ?kK ?k6 ?k7 ?k8 ?k9 ?kB ?_ ?c2 ?c3 ?c4 ?c5; (case kA => exact rfl); (case kF => exact rfl); (case kK => assumption); (case k1 => k_asm); (case k2 => k_asm); (case k3 => k_asm); (case k4 => k_asm); (case k5 => k_asm); (case k6 => k_is); (case k7 => k_is); (case k8 => first | exact depth_room (by assumption) | ktr_room); (case k9 => exact BindsTo.of_eq rfl); (case c5 => decide); (case kB => exact locs rfl); (case c2 => exact rfl); (case c3 => exact rfl); (case c4 => exact rfl); k_whole)
  intro gE LE hE FG' F' N' B' X' T'
  (try dsimp only)
  refine gen_E ?_
  k_steps
  all_goals (try k_data)
  rename Fr gE LE _ _ => F1
  rename News gE LE _ _ => N1
  refine Halt.mk ?_
  k_dflt (refine' for_list (fun i m nx => (Cj5 (m (PySem.Str.ofString "born") = some (.ref bd)) (m (PySem.Str.ofString "dies") = some (.ref dd)) (m (PySem.Str.ofString "some") = some (.ref sm)) ((∃ t, m (PySem.Str.ofString "most") = some (.int (crowdTo ivs ns i) t))) (nx = news))) rfl hs F1 N1 ⟨rfl, rfl, rfl, ⟨_, rfl⟩, rfl⟩ ?_ ?_ ?_)
  · rintro i m nx ⟨_, _, _, _, rfl⟩; exact hs
  · rintro I oI hI i v m₁ nx h tk hx hJJ
    refine opq ?_
    intro GG hGG
    obtain ⟨hm1, hm2, hm3, ⟨t1, hm4⟩, rfl⟩ := hJJ
    refine hGG ?_
    clear hGG GG
    intro ho F2 N2
    clear F1 N1
    (try (refine gen_T ?_; intro Qv Jv hJn))
    refine opq ?_
    intro GG hGG
    obtain ⟨u, tu, rfl, eu⟩ := ints_at hi hx
    obtain ⟨b, d, t2, t3, hvb, hvd, hst, hle, hen⟩ := hBD u (hns u (List.mem_of_getElem? eu))
    refine hGG ?_
    clear hGG GG
    k_steps
    all_goals (try k_data)
    rename Fr gE LE _ _ => F3
    rename News gE LE _ _ => N3
    refine Halt.mk ?_
    k_dflt (refine' for_list (fun j m nw => (Cj7 (m (PySem.Str.ofString "born") = some (.ref bd)) (m (PySem.Str.ofString "dies") = some (.ref dd)) (m (PySem.Str.ofString "some") = some (.ref sm)) ((∃ t, m (PySem.Str.ofString "most") = some (.int (crowdTo ivs ns i) t))) (m (PySem.Str.ofString "one") = some (.int u tu)) ((∃ t, m (PySem.Str.ofString "alive") = some (.int (aliveTo ivs ns u j) t))) (nw = (I, oI) :: nx))) rfl (.tail _ hs) F3 N3 ⟨hm1, hm2, hm3, ⟨_, hm4⟩, rfl, ⟨_, rfl⟩, rfl⟩ ?_ ?_ ?_)
    · rintro i m nx ⟨_, _, _, _, _, _, rfl⟩; exact .tail _ hs
    · rintro I2 oI2 hI2 j v m₂ nw2 h2 tk2 hx2 hJJ
      refine opq ?_
      intro GG hGG
      obtain ⟨hn1, hn2, hn3, ⟨t4, hn4⟩, hn5, ⟨t5, hn6⟩, rfl⟩ := hJJ
      refine hGG ?_
      clear hGG GG
      intro ho2 F4 N4
      clear F3 N3
      (try (refine gen_T ?_; intro Qv Jv hJn))
      refine opq ?_
      intro GG hGG
      obtain ⟨z, tz, rfl, ez⟩ := ints_at hi hx2
      obtain ⟨b2, d2, t6, t7, hvb2, hvd2, hst2, hle2, hen2⟩ := hBD z (hns z (List.mem_of_getElem? ez))
      have ha := alv_bd hst hst2 hle2 hen2
      have hat : aliveTo ivs ns u (j + 1) = aliveTo ivs ns u j + (if alv ivs u z = true then 1 else 0) := by
        unfold aliveTo
        rw [filter_take ez, List.length_append]
        split <;> simp <;> (first | with_reducible assumption | lia | omega)
      rw [ha] at hat
      refine hGG ?_
      clear hGG GG
      k_steps
      all_goals (try k_data)
      · rw [if_pos (by simp [*])] at hat
        refine TurnEnd.into hJn ((I, oI) :: nx) (by k_asm) (by k_asm) (by k_mem) (by first | assumption | k_extra "my sub" | (intro pS hpS; first | exact hpS | exact .tail _ hpS | exact .tail _ (.tail _ hpS) | exact .tail _ (.tail _ (.tail _ hpS)) | (simp only [List.mem_cons, List.mem_append] at hpS ⊢; grind))) ?_ ?_
        · exact ho2
        · exact ⟨hn1, hn2, hn3, ⟨_, hn4⟩, hn5, ⟨_, by rw [hat]; rfl⟩, rfl⟩
      · rw [if_neg (by simp only [Bool.and_eq_true, decide_eq_true_eq]; (first | with_reducible assumption | lia | omega)), Int.add_zero] at hat
        refine TurnEnd.into hJn ((I, oI) :: nx) (by k_asm) (by k_asm) (by k_mem) (by first | assumption | k_extra "my sub" | (intro pS hpS; first | exact hpS | exact .tail _ hpS | exact .tail _ (.tail _ hpS) | exact .tail _ (.tail _ (.tail _ hpS)) | (simp only [List.mem_cons, List.mem_append] at hpS ⊢; grind))) ?_ ?_
        · exact ho2
        · exact ⟨hn1, hn2, hn3, ⟨_, hn4⟩, hn5, ⟨_, by rw [hat]; exact hn6⟩, rfl⟩
      · rw [if_neg (by simp only [Bool.and_eq_true, decide_eq_true_eq]; (first | with_reducible assumption | lia | omega)), Int.add_zero] at hat
        refine TurnEnd.into hJn ((I, oI) :: nx) (by k_asm) (by k_asm) (by k_mem) (by first | assumption | k_extra "my sub" | (intro pS hpS; first | exact hpS | exact .tail _ hpS | exact .tail _ (.tail _ hpS) | exact .tail _ (.tail _ (.tail _ hpS)) | (simp only [List.mem_cons, List.mem_append] at hpS ⊢; grind))) ?_ ?_
        · exact ho2
        · exact ⟨hn1, hn2, hn3, ⟨_, hn4⟩, hn5, ⟨_, by rw [hat]; exact hn6⟩, rfl⟩
    · rintro m₂ nw2 h2 tk2 hJJ
      refine opq ?_
      intro GG hGG
      obtain ⟨hn1, hn2, hn3, ⟨t4, hn4⟩, hn5, ⟨t5, hn6⟩, rfl⟩ := hJJ
      refine hGG ?_
      clear hGG GG
      intro F4 N4
      clear F3 N3
      rw [hi.length] at hn6
      have hal : aliveTo ivs ns u ns.length = (aliveIn ivs ns u : Int) := by
        unfold aliveTo aliveIn
        rw [List.take_length]; push_cast; rfl
      rw [hal] at hn6
      k_steps
      all_goals (try k_data)
      refine TurnEnd.into hJn (nx) (by k_asm) (by k_asm) (by k_mem) (by first | assumption | k_extra "my sub" | (intro pS hpS; first | exact hpS | exact .tail _ hpS | exact .tail _ (.tail _ hpS) | exact .tail _ (.tail _ (.tail _ hpS)) | (simp only [List.mem_cons, List.mem_append] at hpS ⊢; grind))) ?_ ?_
      · exact ho
      · refine ⟨hn1, hn2, hn3, ?_, rfl⟩
        rw [crowdTo_take eu, maxif]
        exact ⟨_, rfl⟩
  · rintro m₁ nx h tk hJJ
    refine opq ?_
    intro GG hGG
    obtain ⟨hm1, hm2, hm3, ⟨t1, hm4⟩, rfl⟩ := hJJ
    refine hGG ?_
    clear hGG GG
    intro F2 N2
    clear F1 N1
    rw [hi.length, crowdTo, List.take_length] at hm4
    k_steps
    refine ret _ _ _ _ (by k_asm) (by k_asm) ?_
    exact ⟨rfl, _, rfl⟩
theorem fresh29 : True := by
  w_top off
  trivial
/-- best is the size of a largest choice -/
def IsBest (ivs : List (Int × Int × Int)) (names : List Int) (c : Nat) (best : Nat) : Prop := (∃ S : List Int, S.Sublist names ∧ crowdOf ivs S ≤ c ∧ S.length = best) ∧ ∀ S : List Int, S.Sublist names → crowdOf ivs S ≤ c → S.length ≤ best
structure BestInv (ivs : List (Int × Int × Int)) (names : List Int) (c : Nat) (best : Nat) (es : List (Nat × List Int)) : Prop where
  ok : ∀ e ∈ es, e.1 ≤ names.length ∧ e.2.Sublist (names.take e.1) ∧ crowdOf ivs e.2 ≤ c
  ach : ∃ S : List Int, S.Sublist names ∧ crowdOf ivs S ≤ c ∧ S.length = best
  cov : ∀ S : List Int, S.Sublist names → crowdOf ivs S ≤ c → S.length ≤ best ∨ ∃ e ∈ es, ∃ U : List Int, U.Sublist (names.drop e.1) ∧ S = e.2 ++ U
theorem BestInv.zero {ivs : List (Int × Int × Int)} {names : List Int} {c : Nat} : BestInv ivs names c 0 [(0, [])] :=
  ⟨fun e he => by rw [List.mem_singleton.mp he]; exact ⟨Nat.zero_le _, List.nil_sublist _, Nat.zero_le _⟩, ⟨[], List.nil_sublist _, Nat.zero_le _, rfl⟩, fun S h1 _ => .inr ⟨_, .head _, S, h1, rfl⟩⟩
theorem BestInv.fin {ivs : List (Int × Int × Int)} {names : List Int} {c best : Nat} (h : BestInv ivs names c best []) : IsBest ivs names c best :=
  ⟨h.ach, fun S h1 h2 => by
    rcases h.cov S h1 h2 with h | ⟨e, he, _⟩
    · exact h
    · cases he⟩
theorem BestInv.achTop {ivs : List (Int × Int × Int)} {names : List Int} {c best p : Nat} {tk : List Int} {es : List (Nat × List Int)} (h : BestInv ivs names c best (es ++ [(p, tk)])) {b' : Nat} (hb : b' = max best tk.length) : ∃ S : List Int, S.Sublist names ∧ crowdOf ivs S ≤ c ∧ S.length = b' := by
  obtain ⟨h1, h2, h3⟩ := h.ok (p, tk) (List.mem_append_right _ (.head _))
  by_cases hc : best < tk.length
  · exact ⟨tk, h2.trans (List.take_sublist _ _), h3, by (first | grind -ring | omega)⟩
  · obtain ⟨S, g1, g2, g3⟩ := h.ach
    exact ⟨S, g1, g2, by (first | grind -ring | omega)⟩
theorem BestInv.drop {ivs : List (Int × Int × Int)} {names : List Int} {c best p : Nat} {tk : List Int} {es : List (Nat × List Int)} (h : BestInv ivs names c best (es ++ [(p, tk)])) {b' : Nat} (hb : b' = max best tk.length) (hc : tk.length + names.length ≤ b' + p) : BestInv ivs names c b' es := by
  refine ⟨fun e he => h.ok e (List.mem_append_left _ he), h.achTop hb, fun S h1 h2 => ?_⟩
  rcases h.cov S h1 h2 with g | ⟨e, he, U, hU, e2⟩
  · exact .inl (by (first | grind -ring | omega))
  · rcases List.mem_append.mp he with he | he
    · exact .inr ⟨e, he, U, hU, e2⟩
    · rw [List.mem_singleton.mp he] at hU e2
      have := hU.length_le
      rw [List.length_drop] at this
      have h3 := (h.ok (p, tk) (List.mem_append_right _ (.head _))).1
      refine .inl ?_
      rw [e2, List.length_append]
      dsimp only at *
      (first | grind -ring | omega)
theorem drop_cons {names : List Int} {p : Nat} {x : Int} (h : names[p]? = some x) : names.drop p = x :: names.drop (p + 1) := by
  obtain ⟨h1, rfl⟩ := List.getElem?_eq_some_iff.mp h
  exact List.drop_eq_getElem_cons h1
theorem BestInv.okNext {ivs : List (Int × Int × Int)} {names : List Int} {c best p : Nat} {tk : List Int} {es : List (Nat × List Int)} (h : BestInv ivs names c best (es ++ [(p, tk)])) {x : Int} (hx : names[p]? = some x) : p + 1 ≤ names.length ∧ tk.Sublist (names.take (p + 1)) ∧ crowdOf ivs tk ≤ c ∧ (tk ++ [x]).Sublist (names.take (p + 1)) := by
  obtain ⟨h1, h2, h3⟩ := h.ok (p, tk) (List.mem_append_right _ (.head _))
  have hl := (List.getElem?_eq_some_iff.mp hx).1
  have e : names.take (p + 1) = names.take p ++ [x] := by rw [List.take_add_one, hx]; rfl
  refine ⟨hl, ?_, h3, ?_⟩
  · rw [e]; exact h2.trans (List.sublist_append_left _ _)
  · rw [e]; exact h2.append (.refl _)
theorem BestInv.one {ivs : List (Int × Int × Int)} {names : List Int} {c best p : Nat} {tk : List Int} {es : List (Nat × List Int)} (h : BestInv ivs names c best (es ++ [(p, tk)])) (hn : names.Nodup) {b' : Nat} (hb : b' = max best tk.length) {x : Int} (hx : names[p]? = some x) (hc : ¬ crowdOf ivs (tk ++ [x]) ≤ c) : BestInv ivs names c b' (es ++ [(p + 1, tk)]) := by
  obtain ⟨q1, q2, q3, q4⟩ := h.okNext hx
  refine ⟨fun e he => ?_, h.achTop hb, fun S h1 h2 => ?_⟩
  · rcases List.mem_append.mp he with he | he
    · exact h.ok e (List.mem_append_left _ he)
    · rw [List.mem_singleton.mp he]; exact ⟨q1, q2, q3⟩
  · rcases h.cov S h1 h2 with g | ⟨e, he, U, hU, e2⟩
    · exact .inl (by (first | grind -ring | omega))
    · rcases List.mem_append.mp he with he | he
      · exact .inr ⟨e, List.mem_append_left _ he, U, hU, e2⟩
      · rw [List.mem_singleton.mp he] at hU e2
        dsimp only at hU e2
        rw [drop_cons hx] at hU
        cases hU with
        | cons _ hU => exact .inr ⟨_, List.mem_append_right _ (.head _), U, hU, e2⟩
        | @cons_cons U' _ _ hU =>
          refine absurd (Nat.le_trans (crowd_mono (hn.sublist (q4.trans (List.take_sublist _ _))) fun a ha => ?_) h2) hc
          rw [e2]
          rcases List.mem_append.mp ha with ha | ha
          · exact List.mem_append_left _ ha
          · rw [List.mem_singleton.mp ha]; exact List.mem_append_right _ (.head _)
theorem BestInv.two {ivs : List (Int × Int × Int)} {names : List Int} {c best p : Nat} {tk : List Int} {es : List (Nat × List Int)} (h : BestInv ivs names c best (es ++ [(p, tk)])) {b' : Nat} (hb : b' = max best tk.length) {x : Int} (hx : names[p]? = some x) (hc : crowdOf ivs (tk ++ [x]) ≤ c) : BestInv ivs names c b' ((es ++ [(p + 1, tk)]) ++ [(p + 1, tk ++ [x])]) := by
  obtain ⟨q1, q2, q3, q4⟩ := h.okNext hx
  refine ⟨fun e he => ?_, h.achTop hb, fun S h1 h2 => ?_⟩
  · rcases List.mem_append.mp he with he | he
    · rcases List.mem_append.mp he with he | he
      · exact h.ok e (List.mem_append_left _ he)
      · rw [List.mem_singleton.mp he]; exact ⟨q1, q2, q3⟩
    · rw [List.mem_singleton.mp he]; exact ⟨q1, q4, hc⟩
  · rcases h.cov S h1 h2 with g | ⟨e, he, U, hU, e2⟩
    · exact .inl (by (first | grind -ring | omega))
    · rcases List.mem_append.mp he with he | he
      · exact .inr ⟨e, List.mem_append_left _ (List.mem_append_left _ he), U, hU, e2⟩
      · rw [List.mem_singleton.mp he] at hU e2
        dsimp only at hU e2
        rw [drop_cons hx] at hU
        cases hU with
        | cons _ hU => exact .inr ⟨_, List.mem_append_left _ (List.mem_append_right _ (.head _)), U, hU, e2⟩
        | @cons_cons U' _ _ hU => exact .inr ⟨_, List.mem_append_right _ (.head _), U', hU, by rw [e2, List.append_assoc]; rfl⟩
def weight (names : List Int) (es : List (Nat × List Int)) : Nat := (es.map fun e => 3 ^ (names.length - e.1)).sum
theorem weight_app {names : List Int} (es : List (Nat × List Int)) (p : Nat) (tk : List Int) : weight names (es ++ [(p, tk)]) = weight names es + 3 ^ (names.length - p) := by
  unfold weight; simp
theorem weight_len {names : List Int} (es : List (Nat × List Int)) : es.length ≤ weight names es := by
  unfold weight
  induction es with
  | nil => exact Nat.le_refl _
  | cons e es ih =>
    simp only [List.map_cons, List.sum_cons, List.length_cons]
    have : 1 ≤ 3 ^ (names.length - e.1) := Nat.one_le_pow _ _ (by decide)
    (first | grind -ring | omega)
theorem weight_drop {names : List Int} (es : List (Nat × List Int)) (p : Nat) (tk : List Int) : weight names es < weight names (es ++ [(p, tk)]) := by
  rw [weight_app]
  have : 1 ≤ 3 ^ (names.length - p) := Nat.one_le_pow _ _ (by decide)
  (first | grind -ring | omega)
theorem weight_two {names : List Int} (es : List (Nat × List Int)) {p : Nat} (tk tk2 tk3 : List Int) (h : p < names.length) : weight names ((es ++ [(p + 1, tk2)]) ++ [(p + 1, tk3)]) < weight names (es ++ [(p, tk)]) := by
  rw [weight_app, weight_app, weight_app, show names.length - p = (names.length - (p + 1)) + 1 by (first | grind -ring | omega), Nat.pow_succ]
  have : 1 ≤ 3 ^ (names.length - (p + 1)) := Nat.one_le_pow _ _ (by decide)
  (first | grind -ring | omega)
theorem weight_one {names : List Int} (es : List (Nat × List Int)) {p : Nat} (tk tk2 : List Int) (h : p < names.length) : weight names (es ++ [(p + 1, tk2)]) < weight names (es ++ [(p, tk)]) :=
  Nat.lt_trans (weight_drop _ _ _) (weight_two es tk tk2 tk2 h)
theorem weight_zero {names : List Int} (h : names.length ≤ 7) : weight names [(0, [])] ≤ 2187 := by
  unfold weight
  have := Nat.pow_le_pow_right (show 0 < 3 by decide) h
  simp only [List.map_cons, List.map_nil, List.sum_cons, List.sum_nil, Nat.sub_zero, Nat.add_zero]
  (first | grind -ring | omega)
/-- the stack's entries: a place and the chosen ones -/
inductive StackRel (news : Lg) : List Value → List (Nat × List Int) → Prop
  | nil : StackRel news [] []
  | cons {q l : Addr} {p : Nat} {t : Tok} {vs : List Value} {nn : Nat} {tk : List Int} {r c} : (q, tup [.int (p : Int) t, .ref l]) ∈ news → (l, lst vs nn) ∈ news → IntsAre vs tk → StackRel news r c → StackRel news (.ref q :: r) ((p, tk) :: c)
theorem StackRel.mono {news news' : Lg} {r c} (h : StackRel news r c) (hs : ∀ p ∈ news, p ∈ news') : StackRel news' r c := by
  induction h with
  | nil => exact .nil
  | cons h1 h2 h3 _ ih => exact .cons (hs _ h1) (hs _ h2) h3 ih
theorem StackRel.snoc {news : Lg} {r c} (h : StackRel news r c) {q l : Addr} {p : Nat} {t : Tok} {vs : List Value} {nn : Nat} {tk : List Int} (h1 : (q, tup [.int (p : Int) t, .ref l]) ∈ news) (h2 : (l, lst vs nn) ∈ news) (h3 : IntsAre vs tk) : StackRel news (r ++ [.ref q]) (c ++ [(p, tk)]) := by
  induction h with
  | nil => exact .cons h1 h2 h3 .nil
  | cons a b d _ ih => exact .cons a b d ih
theorem StackRel.length {news : Lg} {r c} (h : StackRel news r c) : r.length = c.length := by
  induction h with
  | nil => rfl
  | cons _ _ _ _ ih => simp [ih]
theorem StackRel.last {news : Lg} {r c} (h : StackRel news r c) : (r = [] ∧ c = []) ∨ ∃ (r' : List Value) (c' : List (Nat × List Int)) (q l : Addr) (p : Nat) (t : Tok) (vs : List Value) (nn : Nat) (tk : List Int), r = r' ++ [.ref q] ∧ c = c' ++ [(p, tk)] ∧ (q, tup [.int (p : Int) t, .ref l]) ∈ news ∧ (l, lst vs nn) ∈ news ∧ IntsAre vs tk ∧ StackRel news r' c' := by
  induction h with
  | nil => exact .inl ⟨rfl, rfl⟩
  | @cons q l p t vs nn tk r c h1 h2 h3 h4 ih =>
    refine .inr ?_
    rcases ih with ⟨rfl, rfl⟩ | ⟨r', c', q', l', p', t', vs', nn', tk', rfl, rfl, g1, g2, g3, g4⟩
    · exact ⟨[], [], q, l, p, t, vs, nn, tk, rfl, rfl, h1, h2, h3, .nil⟩
    · exact ⟨.ref q :: r', (p, tk) :: c', q', l', p', t', vs', nn', tk', rfl, rfl, g1, g2, g3, .cons h1 h2 h3 g4⟩
theorem kl_last_snoc (p : List Value) (y : Value) : PySem.W.kl_last (p ++ [y]) = some (p, y) := by
  induction p with
  | nil => rfl
  | cons a p ih =>
    cases hp : p ++ [y] with
    | nil => simp at hp
    | cons b r =>
      show PySem.W.kl_last (a :: (p ++ [y])) = _
      rw [PySem.W.kl_last, ih]
section
variable {prog : Program} {w : World} {A : Around} {E : Value → Shared → Prop} {s : Shared} {h₀ : Heap} {L a b : Addr} {news : Lg} {m : Str → Option Value}
theorem ne_snoc {xs : List Value} {y : Value} {n1 n2 : Nat} {Q : Value → Shared → Prop} (N : News h₀ L s.heap news) (hm : (a, lst (xs ++ [y]) n1) ∈ news) (hm2 : (b, lst [] n2) ∈ news) (hu : A.units + 64 < cLine) (h : Q (.bool true) s) : wpAny (model prog w) A (compareOp .NotEq (.ref a) (.ref b)) Q E s :=
  PySem.SeqAt.RcNeAt.lists_lengths (News.isList N hm) (News.isList N hm2) (by simp) (by (first | grind -ring | omega)) prog w E Q h
theorem ne_nil0 {n1 n2 : Nat} {Q : Value → Shared → Prop} (N : News h₀ L s.heap news) (hm : (a, lst [] n1) ∈ news) (hm2 : (b, lst [] n2) ∈ news) (hu : A.units + 64 < cLine) (h : Q (.bool false) s) : wpAny (model prog w) A (compareOp .NotEq (.ref a) (.ref b)) Q E s :=
  PySem.W.ke_ne_ints (xs := []) (ys := []) (ns := []) (ms := []) (News.isList N hm) (News.isList N hm2) .nil .nil hu h
theorem pop_L {xs : List Value} {y : Value} {n : Nat} {news' : Lg} {Q : Value → Shared → Prop} (F : Fr h₀ L s.heap m) (N : News h₀ L s.heap news) (U : PySem.W.Upd a (lst (xs ++ [y]) n) (lst xs (n + 1)) news news') (hz : xs.length < 100000) (h : ∀ h', Fr h₀ L h' m → News h₀ L h' news' → Q y { s with heap := h' }) :
    wpAny (model prog w) A (call (.builtin "list.pop") [.ref a]) Q E s :=
  PySem.W.kl_pop F N (kl_last_snoc xs y) U (by rw [sizeLine_eq]; simp; (first | grind -ring | omega)) h
end
theorem fresh30 : True := by
  w_top off
  trivial
theorem pick3A {h₀ h : Heap} {L a b c : Addr} {o o2 o3 : Obj} {nw : Lg} (_ : News h₀ L h ((a, o) :: (b, o2) :: (c, o3) :: nw)) : ∃ a' b' c', a' = a ∧ b' = b ∧ c' = c := ⟨_, _, _, rfl, rfl, rfl⟩
inductive BestJ (bd dd nm sk : Addr) (ivs : List (Int × Int × Int)) (names : List Int) (c : Nat) (tc : Tok) (base : Lg) (n : Nat) (m : Str → Option Value) (nw : Lg) : Prop
  | mk (_ : m (PySem.Str.ofString "born") = some (.ref bd)) (_ : m (PySem.Str.ofString "dies") = some (.ref dd)) (_ : m (PySem.Str.ofString "names") = some (.ref nm)) (_ : m (PySem.Str.ofString "count") = some (.int (c : Int) tc)) (_ : m (PySem.Str.ofString "stack") = some (.ref sk)) (best : Nat) (tb : Tok) (sv : List Value) (sn : Nat) (nx : Lg) (es : List (Nat × List Int)) (_ : m (PySem.Str.ofString "best") = some (.int (best : Int) tb)) (_ : nw = (sk, lst sv sn) :: nx) (_ : StackRel nx sv es) (_ : (∀ q ∈ base, q ∈ nx)) (_ : AllNe sk nx) (_ : BestInv ivs names c best es) (_ : n = weight names es) (_ : n ≤ 2187) : BestJ bd dd nm sk ivs names c tc base n m nw
theorem best_drop {bd dd nm sk : Addr} {ivs : List (Int × Int × Int)} {names : List Int} {c best b' p sn tk1 : Nat} {tc tB : Tok} {base nx : Lg} {gE h' : Heap} {LE : Addr} {m' : Str → Option Value} {s₁ : Shared} {Q : Flow → Shared → Prop} {sv : List Value} {tk : List Int} {es : List (Nat × List Int)} (F : Fr gE LE h' m') (N : News gE LE h' ((sk, lst sv sn) :: nx)) (hm1 : m' (PySem.Str.ofString "born") = some (.ref bd)) (hm2 : m' (PySem.Str.ofString "dies") = some (.ref dd)) (hm3 : m' (PySem.Str.ofString "names") = some (.ref nm)) (hm4 : m' (PySem.Str.ofString "count") = some (.int (c : Int) tc)) (hm5 : m' (PySem.Str.ofString "stack") = some (.ref sk)) (hm6 : m' (PySem.Str.ofString "best") = some (.int (b' : Int) tB)) (hne : AllNe sk nx) (hst : StackRel nx sv es) (hS : ∀ q ∈ base, q ∈ nx) (hinv : BestInv ivs names c best (es ++ [(p, tk)])) (hw : weight names (es ++ [(p, tk)]) ≤ 2187) (hb : b' = max best tk.length) (hc : tk.length + names.length ≤ b' + p) :
    WhileStep2 gE LE s₁ (BestJ bd dd nm sk ivs names c tc base) Q (weight names (es ++ [(p, tk)])) .next { s₁ with heap := h', toks := tk1 } := by
  have hlt := weight_drop (names := names) es p tk
  refine While2.intro (nw := (sk, lst sv sn) :: nx) (n' := weight names es) F N hlt ?_
  exact ⟨hm1, hm2, hm3, hm4, hm5, b', _, _, _, _, es, hm6, rfl, hst, hS, hne, hinv.drop hb hc, rfl, by (first | with_reducible assumption | lia | omega)⟩
theorem best_one {bd dd nm sk l D1 : Addr} {ivs : List (Int × Int × Int)} {names : List Int} {c best b' p sn tk1 : Nat} {tc tB t1 : Tok} {base nx : Lg} {gE h' : Heap} {LE : Addr} {m' : Str → Option Value} {s₁ : Shared} {Q : Flow → Shared → Prop} {sv vt : List Value} {nt : Nat} {tk : List Int} {es : List (Nat × List Int)} {x : Int} {o3 o4 : Addr × Obj} (F : Fr gE LE h' m') (N : News gE LE h' (o3 :: o4 :: (D1, tup [.int ((p : Int) + 1) t1, .ref l]) :: (sk, listOf (sv.toArray.push (.ref D1)) sn) :: nx)) (hm1 : m' (PySem.Str.ofString "born") = some (.ref bd)) (hm2 : m' (PySem.Str.ofString "dies") = some (.ref dd)) (hm3 : m' (PySem.Str.ofString "names") = some (.ref nm)) (hm4 : m' (PySem.Str.ofString "count") = some (.int (c : Int) tc)) (hm5 : m' (PySem.Str.ofString "stack") = some (.ref sk)) (hm6 : m' (PySem.Str.ofString "best") = some (.int (b' : Int) tB)) (hne : AllNe sk (o3 :: o4 :: (D1, tup [.int ((p : Int) + 1) t1, .ref l]) :: nx)) (hst : StackRel nx sv es) (hS : ∀ q ∈ base, q ∈ nx) (hinv : BestInv ivs names c best (es ++ [(p, tk)])) (hw : weight names (es ++ [(p, tk)]) ≤ 2187) (hb : b' = max best tk.length)
    (hl : (l, lst vt nt) ∈ nx) (hvt : IntsAre vt tk) (hn : names.Nodup) (hx : names[p]? = some x) (hc : ¬ (crowdOf ivs (tk ++ [x]) : Int) ≤ (c : Int)) :
    WhileStep2 gE LE s₁ (BestJ bd dd nm sk ivs names c tc base) Q (weight names (es ++ [(p, tk)])) .next { s₁ with heap := h', toks := tk1 } := by
  rw [List.push_toArray] at N
  rw [show (p : Int) + 1 = ((p + 1 : Nat) : Int) from rfl] at N hne
  have hlt := weight_one (names := names) es (p := p) tk tk (List.getElem?_eq_some_iff.mp hx).1
  refine While2.intro (nw := (sk, lst (sv ++ [.ref D1]) sn) :: o3 :: o4 :: (D1, tup [.int ((p + 1 : Nat) : Int) t1, .ref l]) :: nx) (n' := weight names (es ++ [(p + 1, tk)])) F (N.sub (by k_extra "my sub")) hlt ?_
  refine ⟨hm1, hm2, hm3, hm4, hm5, b', _, _, _, _, es ++ [(p + 1, tk)], hm6, rfl, ?_, fun q hq => .tail _ (.tail _ (.tail _ (hS q hq))), hne, hinv.one hn hb hx (by (first | with_reducible assumption | lia | omega)), rfl, by (first | with_reducible assumption | lia | omega)⟩
  exact (hst.mono fun q hq => .tail _ (.tail _ (.tail _ hq))).snoc (.tail _ (.tail _ (.head _))) (.tail _ (.tail _ (.tail _ hl))) hvt
theorem best_two {bd dd nm sk l D1 D2 D3 : Addr} {ivs : List (Int × Int × Int)} {names : List Int} {c best b' p sn tk1 : Nat} {tc tB t1 t2 : Tok} {base nx : Lg} {gE h' : Heap} {LE : Addr} {m' : Str → Option Value} {s₁ : Shared} {Q : Flow → Shared → Prop} {sv vt ws : List Value} {nt : Nat} {tk : List Int} {es : List (Nat × List Int)} {x : Int} {o3 o4 o5 : Addr × Obj} (F : Fr gE LE h' m') (N : News gE LE h' ((D1, tup [.int ((p : Int) + 1) t1, .ref D2]) :: (D2, lst ws 0) :: o3 :: o4 :: o5 :: (D3, tup [.int ((p : Int) + 1) t2, .ref l]) :: (sk, listOf ((sv.toArray.push (.ref D3)).push (.ref D1)) sn) :: nx)) (hm1 : m' (PySem.Str.ofString "born") = some (.ref bd)) (hm2 : m' (PySem.Str.ofString "dies") = some (.ref dd)) (hm3 : m' (PySem.Str.ofString "names") = some (.ref nm)) (hm4 : m' (PySem.Str.ofString "count") = some (.int (c : Int) tc)) (hm5 : m' (PySem.Str.ofString "stack") = some (.ref sk)) (hm6 : m' (PySem.Str.ofString "best") = some (.int (b' : Int) tB))
    (hne : AllNe sk ((D1, tup [.int ((p : Int) + 1) t1, .ref D2]) :: (D2, lst ws 0) :: o3 :: o4 :: o5 :: (D3, tup [.int ((p : Int) + 1) t2, .ref l]) :: nx)) (hst : StackRel nx sv es) (hS : ∀ q ∈ base, q ∈ nx) (hinv : BestInv ivs names c best (es ++ [(p, tk)])) (hw : weight names (es ++ [(p, tk)]) ≤ 2187) (hb : b' = max best tk.length)
    (hl : (l, lst vt nt) ∈ nx) (hvt : IntsAre vt tk) (hws : IntsAre ws (tk ++ [x])) (hx : names[p]? = some x) (hc : (crowdOf ivs (tk ++ [x]) : Int) ≤ (c : Int)) :
    WhileStep2 gE LE s₁ (BestJ bd dd nm sk ivs names c tc base) Q (weight names (es ++ [(p, tk)])) .next { s₁ with heap := h', toks := tk1 } := by
  rw [List.push_toArray, List.push_toArray] at N
  rw [show (p : Int) + 1 = ((p + 1 : Nat) : Int) from rfl] at N hne
  have hlt := weight_two (names := names) es (p := p) tk tk (tk ++ [x]) (List.getElem?_eq_some_iff.mp hx).1
  refine While2.intro (nw := (sk, lst ((sv ++ [.ref D3]) ++ [.ref D1]) sn) :: (D1, tup [.int ((p + 1 : Nat) : Int) t1, .ref D2]) :: (D2, lst ws 0) :: o3 :: o4 :: o5 :: (D3, tup [.int ((p + 1 : Nat) : Int) t2, .ref l]) :: nx) (n' := weight names ((es ++ [(p + 1, tk)]) ++ [(p + 1, tk ++ [x])])) F (N.sub (by k_extra "my sub")) hlt ?_
  refine ⟨hm1, hm2, hm3, hm4, hm5, b', _, _, _, _, (es ++ [(p + 1, tk)]) ++ [(p + 1, tk ++ [x])], hm6, rfl, ?_, fun q hq => .tail _ (.tail _ (.tail _ (.tail _ (.tail _ (.tail _ (hS q hq)))))), hne, hinv.two hb hx (by (first | with_reducible assumption | lia | omega)), rfl, by (first | with_reducible assumption | lia | omega)⟩
  exact ((hst.mono fun q hq => .tail _ (.tail _ (.tail _ (.tail _ (.tail _ (.tail _ hq)))))).snoc (.tail _ (.tail _ (.tail _ (.tail _ (.tail _ (.head _)))))) (.tail _ (.tail _ (.tail _ (.tail _ (.tail _ (.tail _ hl)))))) hvt).snoc (.head _) (.tail _ (.head _)) hws
theorem words16_31502 : True := by
  k_with "compareOp NotEq ref ref" => (k_here; (with_reducible show wpAny _ _ (compareOp CmpOp.NotEq (Value.ref _) (Value.ref _)) _ _ _); k_dflt (first
  | (refine' ne_snoc ?zzN ?zzm ?zzm2 ?zzu ?_; (case zzN => k_asm); (case zzm => k_mem); (case zzm2 => k_mem); (case zzu => first | exact room_of (by assumption) (by decide) | units_room))
  | (refine' ne_nil0 ?zzN ?zzm ?zzm2 ?zzu ?_; (case zzN => k_asm); (case zzm => k_mem); (case zzm2 => k_mem); (case zzu => first | exact room_of (by assumption) (by decide) | units_room))))
  k_with "call builtin:list.pop" => (k_here; (with_reducible show wpAny _ _ (call (Value.builtin _) [Value.ref _]) _ _ _); k_dflt (refine' pop_L ?zzF ?zzN ?zzU ?zzz ?_; (case zzF => k_asm); (case zzN => k_asm); (case zzU => k_upd); (case zzz => first | assumption | exact Nat.lt_of_le_of_lt (by assumption) (by decide) | (first | with_reducible assumption | lia | omega))); intro h' F' N'; (try dsimp only [List.nil_append, List.cons_append] at N'))
  k_with "exec If" => (k_here; (with_reducible show wpAny _ _ (exec (Stmt.If (Expr.Compare (Expr.Call _ _ _ _) [CmpOp.Gt] _ _) _ _ _) _) _ _ _); (fail_if_success (with_reducible rename Mark => hMK)); refine Halt.out ?_)
  k_with "call ref" => (k_here; (with_reducible show wpAny _ _ (PySem.call (Value.ref 155) _) _ _ _); k_dflt (refine' Ctr.use (crowd_c ?zzm1 ?zzm2 ?zzh3 ?zzh4 ?zzh5 ?zzm6 ?zzh7 ?zzh8) ?zzB ?zzF ?zzX ?zzN ?zzT ?zzhk ?zzhd ?zzhu ?_; (case zzF => k_asm); (case zzB => k_asm); (case zzX => k_asm); (case zzN => k_asm); (case zzT => k_asm); (case zzm1 => k_mem); (case zzm2 => k_mem); (case zzh3 => k_asm); (case zzh4 => k_asm); (case zzh5 => k_asm); (case zzm6 => k_mem); (case zzh7 => k_asm); (case zzh8 => k_asm); (case zzhk => first | exact rfl | assumption); (case zzhd => first | exact room_of (by assumption) (by decide) | ktr_room); (case zzhu => first | exact room_of (by assumption) (by decide) | ktr_units)); (intro rC nC hC kC FC NC PC); (refine opq ?_; intro GG hGG); (obtain ⟨en, tcr, er⟩ := PC); (subst er); (subst en); (refine hGG ?_); (clear hGG GG); (try dsimp only); (try k_fold))
  trivial
set_option maxHeartbeats 2000000 in
theorem best_c {w : World} {news : Lg} {bd dd nm : Addr} {ob od : Obj} {kb kd : List (Int × Value)} {ivs : List (Int × Int × Int)} {vn : List Value} {nn : Nat} {ns : List Int} {c : Nat} {tc : Tok}
    (hb : (bd, ob) ∈ news) (hd1 : (dd, od) ∈ news) (hob : ob.IsDictOf (intKind P0 w) kb) (hod : od.IsDictOf (intKind P0 w) kd) (hBD : BD ivs kb kd) (hs : (nm, lst vn nn) ∈ news) (hi : IntsAre vn ns) (hns : ∀ v ∈ ns, v ∈ ivs.map (·.1)) (hnd : ns.Nodup) (h7 : ns.length ≤ 7) :
    Ctr w 162 [.ref bd, .ref dd, .ref nm, .int (c : Int) tc] 4 150 news (fun r nw => (((∀ q ∈ news, q ∈ nw)) ∧ (Xs2 fun (best : Nat) (t : Tok) => ((r = .int (best : Int) t) ∧ (IsBest ivs ns c best))))) := by
  intro mean mg mb dp un gd cn cs a ccd cl outer A₀ base h₀ L m s Q E B F X N T hk hd hu ret
  refine wpAny_call ?_
  k_dflt (refine' code_def (binds := [(PySem.Str.ofString "born", Value.ref bd), (PySem.Str.ofString "dies", Value.ref dd), (PySem.Str.ofString "names", Value.ref nm), (PySem.Str.ofString "count", Value.int (c : Int) tc)]) ?k1 ?k2 ?k3 ?k4 ?k5 ?kA ?kF ?kK ?k6 ?k7 ?k8 ?k9 ?kB ?_ ?c2 ?c3 ?c4 ?c5; (case kA => exact rfl); (case kF => exact rfl); (case kK => assumption); (case k1 => k_asm); (case k2 => k_asm); (case k3 => k_asm); (case k4 => k_asm); (case k5 => k_asm); (case k6 => k_is); (case k7 => k_is); (case k8 => first | exact depth_room (by assumption) | ktr_room); (case k9 => exact BindsTo.of_eq rfl); (case c5 => decide); (case kB => exact locs rfl); (case c2 => exact rfl); (case c3 => exact rfl); (case c4 => exact rfl); k_whole)
  intro gE LE hE FG' F' N' B' X' T'
  (try dsimp only)
  refine gen_E ?_
  k_steps
  all_goals (try k_data)
  rename Fr gE LE _ _ => F1
  rename News gE LE _ _ => N1
  refine opq ?_
  intro GG hGG
  obtain ⟨sk, q0, l0, rfl, rfl, rfl⟩ := pick3A N1
  refine hGG ?_
  clear hGG GG
  refine Halt.mk ?_
  k_dflt (refine' While_inv2 (n₀ := weight ns [(0, [])]) (BestJ bd dd nm sk ivs ns c tc news) F1 N1 ⟨rfl, rfl, rfl, rfl, rfl, 0, _, _, _, _, [(0, [])], rfl, rfl, .cons (p := 0) (.head _) (.tail _ (.head _)) .nil .nil, (fun q hq => .tail _ (.tail _ hq)), by k_all, .zero, rfl, weight_zero h7⟩ ?_)
  rintro n m₁ nw h₁ tk₁ F2 N2 hJJ
  refine opq ?_
  intro GG hGG
  obtain ⟨hm1, hm2, hm3, hm4, hm5, best, tb, sv, sn, nx, es, hm6, rfl, hst, hS, hsk, hinv, rfl, hw⟩ := hJJ
  refine hGG ?_
  clear hGG GG
  clear F1 N1
  have hb' := hS _ hb
  have hd' := hS _ hd1
  have hs' := hS _ hs
  have hvl := hi.length
  refine opq ?_
  intro GG hGG
  rcases hst.last with ⟨rfl, rfl⟩ | ⟨sv', es', q, l, p, tp, vt, nt, tk, rfl, rfl, hq, hl, hvt, hst'⟩
  · refine hGG ?_
    clear hGG GG
    k_steps
    all_goals (try k_data)
    refine ret _ _ _ _ (by k_asm) (by k_asm) ?_
    exact ⟨fun q hq => .tail _ (.tail _ (hS q hq)), best, _, rfl, hinv.fin⟩
  · refine hGG ?_
    clear hGG GG
    have hok := hinv.ok (p, tk) (List.mem_append_right _ (.head _))
    have ok1 := hok.1
    have ok2 := hok.2.1
    have ok3 := hok.2.2
    clear hok
    dsimp only at ok1 ok2 ok3
    have htl := ok2.length_le
    rw [List.length_take] at htl
    have hvtl := hvt.length
    have htk7 : tk.length ≤ 7 := Nat.le_trans htl (Nat.le_trans (Nat.min_le_right _ _) h7)
    have hvt7 : vt.length ≤ 7 := Nat.le_trans (Nat.le_of_eq hvtl) htk7
    have hvt60 : vt.length < 2 ^ 60 := Nat.lt_of_le_of_lt hvt7 (by decide)
    have hvtz := size_ready hvt7
    have hvn60 : vn.length < 2 ^ 60 := Nat.lt_of_le_of_lt (Nat.le_trans (Nat.le_of_eq hvl) h7) (by decide)
    clear htl
    have hsl := hst'.length
    have hwl := weight_len (names := ns) es'
    have hwd := weight_drop (names := ns) es' p tk
    have hsv : sv'.length ≤ 2187 := by (first | with_reducible assumption | lia | omega)
    have hsvz := size_ready hsv
    k_steps
    all_goals (try k_data)
    refine Halt.mk ?_
    refine joinB (fun fl s' => Halt (((fl = .next) ∧ (Xs4 fun (h' : Heap) (tk' : Nat) (b' : Nat) (tB : Tok) => ∃ (m' : Str → Option Value), (Cj12 (s' = { s with heap := h', toks := tk' }) (Fr gE LE h' m') (News gE LE h' ((sk, lst sv' (sn + 1)) :: nx)) (m' (PySem.Str.ofString "born") = some (.ref bd)) (m' (PySem.Str.ofString "dies") = some (.ref dd)) (m' (PySem.Str.ofString "names") = some (.ref nm)) (m' (PySem.Str.ofString "count") = some (.int (c : Int) tc)) (m' (PySem.Str.ofString "stack") = some (.ref sk)) (m' (PySem.Str.ofString "best") = some (.int (b' : Int) tB)) (m' (PySem.Str.ofString "place") = some (.int (p : Int) tp)) (m' (PySem.Str.ofString "taken") = some (.ref l)) (b' = max best tk.length)))))) ?_ ?_
    · have hMK : Mark := ⟨⟩
      k_steps
      all_goals (try k_data)
      all_goals (rename Fr gE _ _ _ => F5; rename News gE _ _ _ => N5)
      · exact ⟨rfl, _, _, vt.length, _, _, rfl, F5, (by first | exact N5 | exact News.tail N5), hm1, hm2, hm3, hm4, hm5, rfl, rfl, rfl, by rw [← hvtl]; exact (Nat.max_eq_right (Nat.le_of_lt (Int.ofNat_lt.mp (by assumption)))).symm⟩
      · exact ⟨rfl, _, _, best, _, _, rfl, F5, (by first | exact N5 | exact News.tail N5), hm1, hm2, hm3, hm4, hm5, hm6, rfl, rfl, by rw [← hvtl]; exact (Nat.max_eq_left (Nat.not_lt.mp fun q => absurd (Int.ofNat_lt.mpr q) (by assumption))).symm⟩
    · rintro fl s' hJJ
      refine opq ?_
      intro GG hGG
      obtain ⟨⟨rfl, h5, tk5, b5, tB5, m5, rfl, F5, N5, hn1, hn2, hn3, hn4, hn5, hn6, hn7, hn8, hb5⟩⟩ := hJJ
      refine hGG ?_
      clear hGG GG
      dsimp only
      by_cases hp : p < ns.length
      · refine opq ?_
        intro GG hGG
        have hpv : p < vn.length := Nat.lt_of_lt_of_eq hp hvl.symm
        obtain ⟨vx, hvx⟩ : ∃ vx, vn[p]? = some vx := ⟨_, List.getElem?_eq_getElem hpv⟩
        obtain ⟨x, tx, rfl, ex⟩ := ints_at hi hvx
        have hmx : ∀ v ∈ tk ++ [x], v ∈ ivs.map (·.1) := fun v hv => by
          rcases List.mem_append.mp hv with h | h
          · exact hns v (List.mem_of_mem_take (ok2.subset h))
          · rw [List.mem_singleton.mp h]; exact hns x (List.mem_of_getElem? ex)
        refine hGG ?_
        clear hGG GG
        k_steps
        all_goals (try k_data)
        all_goals (rename Fr gE _ _ _ => F6; rename News gE _ _ _ => N6)
        · exact best_two (best := best) (b' := b5) F6 N6 hn1 hn2 hn3 hn4 hn5 hn6 (by k_all) hst' hS hinv hw hb5 hl hvt (by assumption) ex (by assumption)
        · exact best_one (best := best) (b' := b5) F6 N6 hn1 hn2 hn3 hn4 hn5 hn6 (by k_all) hst' hS hinv hw hb5 hl hvt hnd ex (by assumption)
        · exact best_drop (best := best) (b' := b5) F6 N6 hn1 hn2 hn3 hn4 hn5 hn6 (by k_all) hst' hS hinv hw hb5 (by (first | with_reducible assumption | lia | omega))
      · have hp2 : p = ns.length := Nat.le_antisymm ok1 (Nat.not_lt.mp hp)
        k_steps
        all_goals (try k_data)
        rename Fr gE _ _ _ => F6
        rename News gE _ _ _ => N6
        exact best_drop (best := best) (b' := b5) F6 N6 hn1 hn2 hn3 hn4 hn5 hn6 (by k_all) hst' hS hinv hw hb5 (by (first | with_reducible assumption | lia | omega))
theorem fresh31 : True := by
  w_top off
  trivial
theorem ints_of_get {ks : List Int} : ∀ {vs : List Value}, vs.length = ks.length → (∀ (j : Nat) (v : Value), vs[j]? = some v → ∃ k t, v = .int k t ∧ ks[j]? = some k) → IntsAre vs ks := by
  induction ks with
  | nil => intro vs hl _; rw [List.eq_nil_of_length_eq_zero hl]; exact .nil
  | cons k ks ih =>
    intro vs hl h
    cases vs with
    | nil => simp at hl
    | cons v vs =>
      obtain ⟨k', t, rfl, e⟩ := h 0 v rfl
      cases e
      exact .cons _ _ (ih (by simpa using hl) fun j v hj => h (j + 1) v (by simpa using hj))
section
open PySem.W
variable {prog : Program} {w : World} {A : Around} {E : Value → Shared → Prop} {s : Shared} {h₀ : Heap} {L d : Addr} {m : Str → Option Value} {news : Lg} {o : Obj} {kvs : List (Int × Value)}
theorem sorted_dict {Q : Value → Shared → Prop} (hh : A.handled = none) (F : Fr h₀ L s.heap m) (N : News h₀ L s.heap news) (hm : (d, o) ∈ news) (lo : (d == sysModules) = false) (hd : o.IsDictOf (intKind prog w) kvs) (h60 : kvs.length < 60)
    (h : ∀ D c h' tk vs' ns', Fr h₀ L h' m → News h₀ L h' ((D, lst vs' c) :: news) → AllLt D news → IntsAre vs' ns' → ns'.Perm (kvs.map (·.1)) → Q (.ref D) { s with heap := h', toks := tk }) :
    wpAny (model prog w) A (call (.builtin "sorted") [.ref d]) Q E s := by
  obtain ⟨ep, hat⟩ : ∃ ep, s.heap.DictAt (intKind prog w) d kvs ep := let ⟨es, ep, r⟩ := hd; ⟨ep, o, es, (N _ hm).1, r⟩
  refine kdu_sorted (kdl_dict (knd := intKind prog w) (kvs := kvs) (ep := ep) lo) hh F N hat (by rw [sizeLine_eq]; (first | with_reducible assumption | lia | omega)) fun D h' tk vs F' N' l1 hl hv => ?_
  have hI : IntsAre vs (kvs.map (·.1)) := ints_of_get (by rw [hl, List.length_map]) fun j v e => by
    obtain ⟨k, x, hx, hk⟩ := hv j v e
    cases v <;> simp [intKind, Value.isInt] at hk
    exact ⟨_, _, rfl, by simp [hx, hk]⟩
  have z := N' _ (.head _)
  have ho : h'.get? D = some (seqObj "list" vs.toArray 0) := z.1
  have hna : ∀ p ∈ news, p.1 ≠ D := fun p hp => Nat.ne_of_lt (l1 p hp)
  have N0 : News h₀ L h' news := fun p hp => N' p (.tail _ hp)
  refine wpAny_call_entry slot_list_sort ⟨_, ho, rfl⟩ entry_list_sort (list_sort_tree (s := { s with heap := h', toks := tk }) (n := 0) (vs := vs) ho hI (by (first | with_reducible assumption | lia | omega)) fun out ns' hI' hp hP => ⟨.none, rfl, ?_⟩) (args_list_sort _)
  have s1 := Heap.SameBut.update h' D (Obj.mapSeq fun _ => (#[] : Array Value))
  obtain ⟨e1, ho1⟩ : ∃ e1, (h'.update D (Obj.mapSeq fun _ => (#[] : Array Value))).get? D = some (seqObj "list" #[] e1) := ⟨_, get?_update_seq ho fun _ => #[]⟩
  have F3 : Fr h₀ L (((h'.update D (Obj.mapSeq fun _ => (#[] : Array Value))).push (seqObj "tuple" vs.toArray 0)).push (seqObj "list" #[] 0)) m := ((kas_fr F' s1 z.2.1 z.2.2).push _).push _
  have N2 : News h₀ L (((h'.update D (Obj.mapSeq fun _ => (#[] : Array Value))).push (seqObj "tuple" vs.toArray 0)).push (seqObj "list" #[] 0)) news :=
    (kas_news N0 s1 hna).grown fun b x e => Heap.get?_push_of_some _ (Heap.get?_push_of_some _ e)
  have na : (((h'.update D (Obj.mapSeq fun _ => (#[] : Array Value))).push (seqObj "tuple" vs.toArray 0)).push (seqObj "list" #[] 0)).get? D = some (seqObj "list" #[] e1) := Heap.get?_push_of_some _ (Heap.get?_push_of_some _ ho1)
  have s2 := Heap.SameBut.update (((h'.update D (Obj.mapSeq fun _ => (#[] : Array Value))).push (seqObj "tuple" vs.toArray 0)).push (seqObj "list" #[] 0)) D (Obj.mapSeq fun _ => out)
  obtain ⟨c2, hc2⟩ : ∃ c2, ((((h'.update D (Obj.mapSeq fun _ => (#[] : Array Value))).push (seqObj "tuple" vs.toArray 0)).push (seqObj "list" #[] 0)).update D (Obj.mapSeq fun _ => out)).get? D = some (seqObj "list" out c2) := ⟨_, get?_update_seq na fun _ => out⟩
  refine h D c2 _ tk out.toList ns' (kas_fr F3 s2 z.2.1 z.2.2) (fun p hp => ?_) (allLt_of l1) hI' hp
  rcases List.mem_cons.mp hp with rfl | hp
  · exact ⟨by show _ = some (seqObj "list" out.toList.toArray c2); rw [Array.toArray_toList]; exact hc2, z.2.1, z.2.2⟩
  · exact kas_news N2 s2 hna p hp
end
theorem best_kept {ivs : List (Int × Int × Int)} {ys ns nm : List Int} {c best : Nat} (hpw : ys.Pairwise fun a b => startOf ivs a < startOf ivs b) (hp : ys.Perm nm) (hp2 : ns.Perm nm) (hB : IsBest ivs ns c best) : (scanOf ivs (c : Int) ys).kept.length = best := by
  obtain ⟨h1, h2, h3⟩ := scan_best (c := c) hpw
  obtain ⟨⟨S, g1, g2, g3⟩, g4⟩ := hB
  have hyn : ys.Nodup := hpw.imp fun {a b} h e => by rw [e] at h; (first | with_reducible assumption | lia | omega)
  have hnn : ns.Nodup := (hp2.nodup_iff).mpr ((hp.nodup_iff).mp hyn)
  have hle := h3 S (hnn.sublist g1) (fun a ha => hp.mem_iff.mpr (hp2.mem_iff.mp (g1.subset ha))) g2
  have hks : ∀ a ∈ (scanOf ivs (c : Int) ys).kept, a ∈ ys := fun a ha => by
    have := (scanOf_inv (ivs := ivs) (count := (c : Int)) hyn ys.length (Nat.le_refl _)).2
    rw [List.take_length] at this
    exact this.mem_iff.mp (List.mem_append_left _ ha)
  have hfn : (ns.filter fun a => decide (a ∈ (scanOf ivs (c : Int) ys).kept)).Nodup := hnn.sublist List.filter_sublist
  have hc2 := g4 (ns.filter fun a => decide (a ∈ (scanOf ivs (c : Int) ys).kept)) List.filter_sublist (Nat.le_trans (crowd_mono hfn fun a ha => by simpa using (List.mem_filter.mp ha).2) h2)
  have hl2 : (scanOf ivs (c : Int) ys).kept.length ≤ (ns.filter fun a => decide (a ∈ (scanOf ivs (c : Int) ys).kept)).length :=
    len_le_of_sub h1 fun a ha => List.mem_filter.mpr ⟨hp2.mem_iff.mpr (hp.mem_iff.mp (hks a ha)), by simpa using ha⟩
  (first | with_reducible assumption | lia | omega)
theorem start_le_end {R : List Row} (hwf : WF R) {v : Int} (hv : v ∈ namesOf R) : startOf (spansOf R) v ≤ endOf (spansOf R) v := by
  rw [← spansOf_names] at hv
  obtain ⟨⟨v', f, l⟩, hp, rfl⟩ := List.mem_map.mp hv
  have hs : ((spansOf R).map (·.1)).Nodup := by rw [spansOf_names]; exact namesOf_nodup hwf
  have hlf := lifeOf_of_mem (v := v') hs hp
  have := spans_le R _ hp
  simpa [startOf, endOf, hlf] using this
theorem fresh32 : True := by
  w_top off
  trivial
theorem list_copy_L {prog : Program} {w : World} {A : Around} {E : Value → Shared → Prop} {s : Shared} {h₀ : Heap} {L b : Addr} {m : Str → Option Value} {news : Lg} {vs : List Value} {nn : Nat} {Q : Value → Shared → Prop} (F : Fr h₀ L s.heap m) (N : News h₀ L s.heap news) (hb : (b, lst vs nn) ∈ news) (hz : vs.length < 100000)
    (h : ∀ D c h', Fr h₀ L h' m → News h₀ L h' ((D, lst vs c) :: news) → AllLt D news → Q (.ref D) { s with heap := h' }) : wpAny (model prog w) A (call (.type "list") [.ref b]) Q E s :=
  PySem.W.kup_listOf (zs := vs) F N hb rfl (fun D c h' F' N' l1 => h D c h' F' N' (allLt_of l1)) (by show vs.length ≤ _; rw [sizeLine_eq]; (first | with_reducible assumption | lia | omega))
theorem words17_31502 : True := by
  k_with "call ref" => (k_here; (with_reducible show wpAny _ _ (PySem.call (Value.ref 148) _) _ _ _); k_dflt (refine' Ctr.use (lives_c ?zzh1 ?zzh2) ?zzB ?zzF ?zzX ?zzN ?zzT ?zzhk ?zzhd ?zzhu ?_; (case zzF => k_asm); (case zzB => k_asm); (case zzX => k_asm); (case zzN => k_asm); (case zzT => k_asm); (case zzh1 => k_asm); (case zzh2 => k_asm); (case zzhk => first | exact rfl | assumption); (case zzhd => first | exact room_of (by assumption) (by decide) | ktr_room); (case zzhu => first | exact room_of (by assumption) (by decide) | ktr_units)); (intro rC nC hC kC FC NC PC); (refine opq ?_; intro GG hGG); (obtain ⟨xL, bdL, ddL, obL, odL, kbL, kdL, er, en, hlo1, hlo2, hob, hod, hkb, hkd⟩ := PC); (subst er); (subst en); (refine hGG ?_); (clear hGG GG); (try dsimp only); (try k_fold))
  k_with "call ref" => (k_here; (with_reducible show wpAny _ _ (PySem.call (Value.ref 127) _) _ _ _); refine Halt.out ?_)
  k_with "call ref" => (k_here; (with_reducible show wpAny _ _ (PySem.call (Value.ref 120) _) _ _ _); refine Halt.out ?_)
  k_with "call ref" => (k_here; (with_reducible show wpAny _ _ (PySem.call (Value.ref 162) _) _ _ _); refine Halt.out ?_)
  k_with "call type:list" => (k_here; (with_reducible show wpAny _ _ (call (Value.type "list") [Value.ref _]) _ _ _); k_dflt (refine' list_copy_L ?zzF ?zzN ?zzb ?zzz ?_; (case zzF => k_asm); (case zzN => k_asm); (case zzb => k_mem); (case zzz => first | assumption | exact Nat.lt_of_le_of_lt (by assumption) (by decide) | (first | with_reducible assumption | lia | omega))); intro D' c' h' F' N' l1; (try simp only [AllLt] at l1))
  k_with "call builtin:len" => (k_here; (with_reducible show wpAny _ _ (call (Value.builtin "len") [Value.ref _]) _ _ _); k_dflt (refine' PySem.W.kda_len (knd := intKind _ _) ?zzN ?zzm ?zzd ?zzlo ?zzz ?_; (case zzN => k_asm); (case zzm => k_mem); (case zzd => with_reducible assumption); (case zzlo => assumption); (case zzz => first | assumption | exact Nat.lt_of_le_of_lt (by assumption) (by decide) | (first | with_reducible assumption | lia | omega)); k_whole))
  k_with "call ref" => (k_here; (with_reducible show wpAny _ _ (PySem.call (Value.ref 77) _) _ _ _); k_dflt (refine' Ctr.use (slot_count_c ?zzh1 ?zzm2 ?zzh3 ?zzh4 ?zzh5) ?zzB ?zzF ?zzX ?zzN ?zzT ?zzhk ?zzhd ?zzhu ?_; (case zzF => k_asm); (case zzB => k_asm); (case zzX => k_asm); (case zzN => k_asm); (case zzT => k_asm); (case zzh1 => k_asm); (case zzm2 => k_mem); (case zzh3 => k_asm); (case zzh4 => k_asm); (case zzh5 => k_asm); (case zzhk => first | exact rfl | assumption); (case zzhd => first | exact room_of (by assumption) (by decide) | ktr_room); (case zzhu => first | exact room_of (by assumption) (by decide) | ktr_units)); (intro rC nC hC kC FC NC PC); (refine opq ?_; intro GG hGG); (obtain ⟨en, tsc, er⟩ := PC); (subst er); (subst en); (refine hGG ?_); (clear hGG GG); (try dsimp only); (try k_fold))
  trivial
set_option maxHeartbeats 2000000 in
theorem good_c {w : World} {news : Lg} {mk : Addr} {R : List Row} {c : Nat} {tc : Tok} (hr : RowsAt news mk R) (hwf : WF R) (h7 : (namesOf R).length ≤ 7) :
    Ctr w 169 [.ref mk, .int (c : Int) tc] 12 400 news (fun r nw => (∀ q ∈ news, q ∈ nw) ∧ r = .bool true) := by
  intro mean mg mb dp un gd cn cs a ccd cl outer A₀ base h₀ L m s Q E B F X N T hk hd hu ret
  refine wpAny_call ?_
  k_dflt (refine' code_def (binds := [(PySem.Str.ofString "made", Value.ref mk), (PySem.Str.ofString "count", Value.int (c : Int) tc)]) ?k1 ?k2 ?k3 ?k4 ?k5 ?kA ?kF ?kK ?k6 ?k7 ?k8 ?k9 ?kB ?_ ?c2 ?c3 ?c4 ?c5; (case kA => exact rfl); (case kF => exact rfl); (case kK => assumption); (case k1 => k_asm); (case k2 => k_asm); (case k3 => k_asm); (case k4 => k_asm); (case k5 => k_asm); (case k6 => k_is); (case k7 => k_is); (case k8 => first | exact depth_room (by assumption) | ktr_room); (case k9 => exact BindsTo.of_eq rfl); (case c5 => decide); (case kB => exact locs rfl); (case c2 => exact rfl); (case c3 => exact rfl); (case c4 => exact rfl); k_whole)
  intro gE LE hE FG' F' N' B' X' T'
  (try dsimp only)
  refine gen_E ?_
  k_steps
  all_goals (try k_data)
  rename Fr gE LE _ _ => F1
  rename News gE LE _ _ => N1
  refine opq ?_
  intro GG hGG
  obtain ⟨xL, ddL, bdL, rfl, rfl, rfl⟩ := pick3A N1
  have hlo1 : (bdL == sysModules) = false := by assumption
  obtain ⟨base, ob, od, kb, kd, N2, hbm, hdm, hob, hod, hBD, hkeys, hS⟩ : (Xs4 fun base ob od kb => ∃ kd, (Cj7 (News gE LE _ base) ((bdL, ob) ∈ base) ((ddL, od) ∈ base) (ob.IsDictOf (intKind P0 w) kb) (od.IsDictOf (intKind P0 w) kd) (BD (spansOf R) kb kd) ((kb.map (·.1) = namesOf R) ∧ ((∀ q ∈ news, q ∈ base))))) :=
    ⟨_, _, _, _, _, N1, .tail _ (.tail _ (.head _)), .tail _ (.head _), by assumption, by assumption, bd_of hwf (by assumption) (by assumption), (SlotRel.keys (by assumption)).trans ((bornOf_names _).trans (lawOf_names R)), fun q hq => .tail _ (.tail _ (.tail _ hq))⟩
  clear N1
  have hkl := congrArg List.length hkeys
  rw [List.length_map] at hkl
  refine hGG ?_
  clear hGG GG
  refine Halt.mk ?_
  refine sorted_dict rfl F1 N2 hbm hlo1 hob (by (first | with_reducible assumption | lia | omega)) ?_
  rintro D1 cD h2 tk2 vn ns F3 N3 hlt1 hvn hperm
  rw [hkeys] at hperm
  refine opq ?_
  intro GG hGG
  obtain ⟨rv, rn, hrm, hrr, hrl, hR50⟩ := id hr
  obtain ⟨base2, N4, hnm, hbm2, hdm2, hS2, hrm2, hrr2⟩ : (∃ base2, (Cj7 (News gE LE _ base2) ((D1, lst vn cD) ∈ base2) ((bdL, ob) ∈ base2) ((ddL, od) ∈ base2) ((∀ q ∈ news, q ∈ base2)) ((mk, lst rv rn) ∈ base2) (RowsRel base2 rv R))) :=
    ⟨_, N3, .head _, .tail _ hbm, .tail _ hdm, fun q hq => .tail _ (hS q hq), .tail _ (hS _ hrm), hrr.mono fun q hq => .tail _ (hS q hq)⟩
  clear N3 N2 F1 hlt1 hbm hdm hS
  have hnl := hperm.length_eq
  have hnn := namesOf_nodup hwf
  have hnd : ns.Nodup := (hperm.nodup_iff).mpr hnn
  have hns : ∀ v ∈ ns, v ∈ (spansOf R).map (·.1) := fun v hv => by rw [spansOf_names]; exact hperm.mem_iff.mp hv
  refine hGG ?_
  clear hGG GG
  k_steps
  all_goals (try k_data)
  rename Fr gE LE _ _ => F5
  rename News gE LE _ _ => N5
  refine opq ?_
  intro GG hGG
  obtain ⟨D2, rfl⟩ := pickA N5
  rename (AllLt _ base2) => hl5
  obtain ⟨base3, N6, hrA, hnm3, hbm3, hdm3, hS3, hrm3, hrr3⟩ : (∃ base3, (Cj7 (News gE LE _ base3) (RowsAt base3 D2 R) ((D1, lst vn cD) ∈ base3) ((bdL, ob) ∈ base3) ((ddL, od) ∈ base3) ((∀ q ∈ news, q ∈ base3)) (((mk, lst rv rn) ∈ base3) ∧ (RowsRel base3 rv R)))) :=
    ⟨_, N5, ⟨rv, _, .head _, hrr2.mono (fun q hq => .tail _ hq), hrl, hR50⟩, .tail _ hnm, .tail _ hbm2, .tail _ hdm2, fun q hq => .tail _ (hS2 q hq), .tail _ hrm2, hrr2.mono fun q hq => .tail _ hq⟩
  clear N5 hl5 hnm hbm2 hdm2 hS2 hrm2 hrr2
  refine hGG ?_
  clear hGG GG
  refine Halt.mk ?_
  k_dflt (refine' Ctr.use (pressure_c hrA hwf) ?B ?F ?X ?N ?T ?hk ?hd ?hu ?_; (case F => k_asm); (case B => k_asm); (case X => k_asm); (case N => k_asm); (case T => k_asm); (case hk => first | exact rfl | assumption); (case hd => first | exact room_of (by assumption) (by decide) | ktr_room); (case hu => first | exact room_of (by assumption) (by decide) | ktr_units))
  intro rC nC hC kC FC NC PC
  refine opq ?_
  intro GG hGG
  obtain ⟨en, tp, er⟩ := PC
  subst er
  subst en
  refine hGG ?_
  clear hGG GG
  (try dsimp only)
  k_steps
  all_goals (try k_data)
  have hpc : pressureOf (spansOf R) = (crowdOf (spansOf R) ns : Int) := pressure_crowd (by rw [spansOf_names]; exact hnn) (pair_nodup (spansOf_starts R)) (spans_le R) (by rw [spansOf_names]; exact hperm)
  refine Halt.mk ?_
  refine ne_intB (b := false) (by rw [hpc]; simp) ?_
  k_steps
  all_goals (try k_data)
  rename Fr gE LE _ _ => F7
  rename News gE LE _ _ => N7
  refine opq ?_
  intro GG hGG
  obtain ⟨D3, rfl⟩ := pickA N7
  obtain ⟨base4, N8, hrA4, hnm4, hbm4, hdm4, hS4⟩ : (∃ base4, (Cj5 (News gE LE _ base4) (RowsAt base4 D3 R) ((D1, lst vn cD) ∈ base4) ((bdL, ob) ∈ base4) (((ddL, od) ∈ base4) ∧ ((∀ q ∈ news, q ∈ base4))))) :=
    ⟨_, N7, ⟨rv, _, .head _, hrr3.mono (fun q hq => .tail _ hq), hrl, hR50⟩, .tail _ hnm3, .tail _ hbm3, .tail _ hdm3, fun q hq => .tail _ (hS3 q hq)⟩
  clear N7 hrA hnm3 hbm3 hdm3 hS3 hrm3 hrr3
  refine hGG ?_
  clear hGG GG
  refine Halt.mk ?_
  k_dflt (refine' Ctr.use (scan_c hrA4 hwf) ?B ?F ?X ?N ?T ?hk ?hd ?hu ?_; (case F => k_asm); (case B => k_asm); (case X => k_asm); (case N => k_asm); (case T => k_asm); (case hk => first | exact rfl | assumption); (case hd => first | exact room_of (by assumption) (by decide) | ktr_room); (case hu => first | exact room_of (by assumption) (by decide) | ktr_units))
  intro rC nC hC kC FC NC PC
  refine opq ?_
  intro GG hGG
  obtain ⟨hSC, xS, dxS, rgS, slS, oR, oS, kvR, kvS, ps, ys, er, hAsg, hrg, hsl, hlor, hlos, hdR, hdS, hyp, hypw, hkept, hSl, hG, hpp, hppw⟩ := PC
  subst er
  refine hGG ?_
  clear hGG GG
  (try dsimp only)
  k_steps
  all_goals (try k_data)
  rename Fr gE LE _ _ => F9
  rename News gE LE _ _ => N9
  refine Halt.mk ?_
  k_dflt (refine' Ctr.use (best_c (hSC _ hbm4) (hSC _ hdm4) hob hod hBD (hSC _ hnm4) hvn hns hnd (by (first | with_reducible assumption | lia | omega))) ?B ?F ?X ?N ?T ?hk ?hd ?hu ?_; (case F => k_asm); (case B => k_asm); (case X => k_asm); (case N => k_asm); (case T => k_asm); (case hk => first | exact rfl | assumption); (case hd => first | exact room_of (by assumption) (by decide) | ktr_room); (case hu => first | exact room_of (by assumption) (by decide) | ktr_units))
  intro rC nC hC kC FC NC PC
  refine opq ?_
  intro GG hGG
  obtain ⟨hSB, best, tB, er, hBest⟩ := PC
  subst er
  refine hGG ?_
  clear hGG GG
  (try dsimp only)
  have hkb := best_kept hypw hyp hperm hBest
  have hkl2 := congrArg List.length hkept
  rw [List.length_map] at hkl2
  have hsl2 := hSl.length
  have hpl2 := hpp.length_eq
  rw [List.length_map] at hpl2
  have hyl := hyp.length_eq
  have hyn : ys.Nodup := hypw.imp fun {a b} h e => by rw [e] at h; (first | with_reducible assumption | lia | omega)
  have hinv := (scanOf_inv (ivs := spansOf R) (count := (c : Int)) hyn ys.length (Nat.le_refl _)).2
  rw [List.take_length] at hinv
  have hil := hinv.length_eq
  rw [List.length_append] at hil
  refine opq ?_
  intro GG hGG
  obtain ⟨ta1, ta2, hA1, hA2⟩ := hAsg.mono hSB
  have hAsg2 := hAsg.mono hSB
  have hrg2 := hSB _ hrg
  have hslm2 := hSB _ hsl
  have hbm5 := hSB _ (hSC _ hbm4)
  have hdm5 := hSB _ (hSC _ hdm4)
  have hnm5 := hSB _ (hSC _ hnm4)
  have hvl := hvn.length
  refine hGG ?_
  clear hGG GG
  k_steps
  all_goals (try k_data)
  refine Halt.mk ?_
  refine ne_intB (b := false) (by rw [bne_eq_false_iff_eq]; (first | with_reducible assumption | lia | omega)) ?_
  k_steps
  all_goals (try k_data)
  refine Halt.mk ?_
  refine ne_intB (b := false) (by rw [bne_eq_false_iff_eq]; (first | with_reducible assumption | lia | omega)) ?_
  k_steps
  all_goals (try k_data)
  refine Halt.mk ?_
  refine sorted_dict rfl (by k_asm) (by k_asm) hslm2 hlos hdS (by (first | with_reducible assumption | lia | omega)) ?_
  rintro D7 cD7 h7' tk7 vm ms FB NB hltB hvm hmp
  have hmk : kvS.map (·.1) = ps.map (·.1) := hSl.keys
  rw [hmk] at hmp
  have hmem : ∀ v ∈ ms, v ∈ namesOf R := fun v hv => hyp.mem_iff.mp (hinv.mem_iff.mp (List.mem_append_right _ (hpp.mem_iff.mp (hmp.mem_iff.mp hv))))
  have hmiv : ∀ v ∈ ms, v ∈ (spansOf R).map (·.1) := fun v hv => by rw [spansOf_names]; exact hmem v hv
  have hslots : slotMost ps = (crowdOf (spansOf R) ms : Int) := by
    rw [crowd_perm hmp]
    refine slots_crowd hG hppw fun p hp => start_le_end hwf ?_
    exact hmem p.1 (hmp.mem_iff.mpr (List.mem_map.mpr ⟨p, hp, rfl⟩))
  k_steps
  all_goals (try k_data)
  refine ret _ _ _ _ (by k_asm) (by k_asm) ?_
  exact ⟨fun q hq => .tail _ (hSB _ (hSC _ (hS4 q hq))), by rw [hslots]; simp⟩
theorem fresh33 : True := by
  w_top off
  trivial
theorem let_name {n : Str} {p : Pos} {o : Value} : ∀ r, letTemporaryGo (PySem.Expr.Name n p) o r = pure () := fun _ => rfl
theorem words18_31502 : True := by
  k_with "subscriptTail BinOp Call Add List Slice ref ref" => (k_here; (with_reducible show wpAny _ _ (subscriptTail (PySem.Expr.BinOp _ _ _ _) _ _ _) _ _ _); refine PySem.W.kba_turn (let_name (n := PySem.Str.ofString "_") (p := ⟨0, 0, 0, 0⟩)) ?_)
  trivial
theorem good_z {w : World} {news : Lg} {mk : Addr} {R : List Row} {cnt : Int} {tc : Tok} (hr : RowsAt news mk R) (hwf : WF R) (h7 : (namesOf R).length ≤ 7) (h0 : 0 ≤ cnt) :
    Ctr w 169 [.ref mk, .int cnt tc] 12 400 news (fun r nw => (∀ q ∈ news, q ∈ nw) ∧ r = .bool true) := by
  refine opq ?_
  intro GG hGG
  obtain ⟨c, rfl⟩ := Int.eq_ofNat_of_zero_le h0
  refine hGG ?_
  clear hGG GG
  exact good_c hr hwf h7
theorem words19_31502 : True := by
  k_with "call ref" => (k_here; (with_reducible show wpAny _ _ (PySem.call (Value.ref 141) _) _ _ _); refine Halt.out ?_)
  k_with "call ref" => (k_here; (with_reducible show wpAny _ _ (PySem.call (Value.ref 169) _) _ _ _); refine Halt.out ?_)
  trivial
theorem ite_not_true {p q : Prop} (h : q) : (if (!true) = true then p else q) := by
  rw [if_neg (by decide)]; exact h
def fixedR : List Row := [⟨.inp, 1, 0, 0⟩, ⟨.inp, 2, 1, 0⟩, ⟨.out, 0, 2, 0⟩, ⟨.inp, 3, 1, 0⟩, ⟨.out, 1, 3, 0⟩, ⟨.out, 2, 1, 0⟩]
theorem wf_nil : WF [] := fun i r h => by simp at h
theorem fixed_wf : WF fixedR :=
  (((((wf_nil.snoc (r := ⟨.inp, 1, 0, 0⟩) (by decide) (by decide)).snoc (r := ⟨.inp, 2, 1, 0⟩) (by decide) (by decide)).snoc (r := ⟨.out, 0, 2, 0⟩) (by decide) (by decide)).snoc (r := ⟨.inp, 3, 1, 0⟩) (by decide) (by decide)).snoc (r := ⟨.out, 1, 3, 0⟩) (by decide) (by decide)).snoc (r := ⟨.out, 2, 1, 0⟩) (by decide) (by decide)
set_option maxHeartbeats 4000000 in
theorem law_holds : PySem.Challenge.rw_pb0322_01.Holds := by
  refine hd ?_
  k_go0
  all_goals try k_fold
  k_steps
  all_goals (try k_data)
  rename Fr _ _ _ _ => F1
  rename News _ _ _ _ => N1
  rename IntsAre _ (List.take _ _) => hi2
  refine opq ?_
  intro GG hGG
  obtain ⟨wl, ce, rfl, rfl⟩ := pick2A N1
  have hlen := hi2.length
  rw [List.length_take, List.length_append] at hlen
  simp only [List.length_cons, List.length_nil] at hlen
  obtain ⟨base2, N2, hwb, hne, hce⟩ : (∃ base2, (Cj4 (News _ _ _ ((wl, lst _ 0) :: base2)) (AllNe wl base2) (@Ne Nat ce wl) ((ce, lst _ 0) ∈ base2))) := ⟨_, N1, by k_all, by k_ne, .head _⟩
  refine hGG ?_
  clear hGG GG
  refine Halt.mk ?_
  k_dflt (refine' Ctr.use (program_c hwb hne hce hi2 (by (first | with_reducible assumption | lia | omega)) (by (first | with_reducible assumption | lia | omega)) rfl) ?B ?F ?X ?N ?T ?hk ?hd ?hu ?_; (case F => k_asm); (case B => k_asm); (case X => k_asm); (case N => k_asm); (case T => k_asm); (case hk => first | exact rfl | assumption); (case hd => first | exact room_of (by assumption) (by decide) | ktr_room); (case hu => first | exact room_of (by assumption) (by decide) | ktr_units))
  intro rC nC hC kC FC NC PC
  refine opq ?_
  intro GG hGG
  obtain ⟨mk, a', ta', p', tp', nx, R, er, en, hS, hwn, hp0, hp1, hrA, hwf, h7⟩ := PC
  subst er
  subst en
  refine hGG ?_
  clear hGG GG
  (try dsimp only)
  have hce2 := hS _ hce
  k_steps
  all_goals (try k_data)
  rename News _ _ _ _ => N5
  refine opq ?_
  intro GG hGG
  obtain ⟨base5, N6, hrB⟩ : ∃ base5, News _ _ _ base5 ∧ RowsAt base5 mk R := ⟨_, N5, hrA.mono fun q hq => .tail _ hq⟩
  clear N5
  refine hGG ?_
  clear hGG GG
  refine Halt.mk ?_
  k_dflt (refine' Ctr.use (good_z hrB hwf h7 (by assumption)) ?B ?F ?X ?N ?T ?hk ?hd ?hu ?_; (case F => k_asm); (case B => k_asm); (case X => k_asm); (case N => k_asm); (case T => k_asm); (case hk => first | exact rfl | assumption); (case hd => first | exact room_of (by assumption) (by decide) | ktr_room); (case hu => first | exact room_of (by assumption) (by decide) | ktr_units))
  intro rC nC hC kC FC NC PC
  refine opq ?_
  intro GG hGG
  obtain ⟨hS2, er⟩ := PC
  subst er
  refine hGG ?_
  clear hGG GG
  (try dsimp only)
  walk1
  refine ite_not_true ?_
  k_steps
  rename News _ _ _ _ => N7
  refine opq ?_
  intro GG hGG
  obtain ⟨fx, rfl⟩ := pickA N7
  obtain ⟨base7, N8, hrF⟩ : ∃ base7, News _ _ _ base7 ∧ RowsAt base7 fx fixedR :=
    ⟨_, N7, _, _, .head _, .cons (k := .inp) (by k_mem) (.cons (k := .inp) (by k_mem) (.cons (k := .out) (by k_mem) (.cons (k := .inp) (by k_mem) (.cons (k := .out) (by k_mem) (.cons (k := .out) (by k_mem) .nil))))), rfl, by decide⟩
  clear N7
  refine hGG ?_
  clear hGG GG
  refine Halt.mk ?_
  k_dflt (refine' Ctr.use (good_z hrF fixed_wf (by decide) (by decide)) ?B ?F ?X ?N ?T ?hk ?hd ?hu ?_; (case F => k_asm); (case B => k_asm); (case X => k_asm); (case N => k_asm); (case T => k_asm); (case hk => first | exact rfl | assumption); (case hd => first | exact room_of (by assumption) (by decide) | ktr_room); (case hu => first | exact room_of (by assumption) (by decide) | ktr_units))
  intro rC nC hC kC FC NC PC
  refine opq ?_
  intro GG hGG
  obtain ⟨hS3, er⟩ := PC
  subst er
  refine hGG ?_
  clear hGG GG
  (try dsimp only)
  k_steps
  refine Halt.mk ?_
  k_dflt (refine' Ctr.use (good_z (hrF.mono hS3) fixed_wf (by decide) (by decide)) ?B ?F ?X ?N ?T ?hk ?hd ?hu ?_; (case F => k_asm); (case B => k_asm); (case X => k_asm); (case N => k_asm); (case T => k_asm); (case hk => first | exact rfl | assumption); (case hd => first | exact room_of (by assumption) (by decide) | ktr_room); (case hu => first | exact room_of (by assumption) (by decide) | ktr_units))
  intro rC nC hC kC FC NC PC
  refine opq ?_
  intro GG hGG
  obtain ⟨hS4, er⟩ := PC
  subst er
  refine hGG ?_
  clear hGG GG
  (try dsimp only)
  k_steps
end Mine

theorem PySem.Challenge.cw_pb0322_01_holds : PySem.Challenge.rw_pb0322_01.Holds := by
  exact Mine.law_holds

