import PyProof.Rows.All
import Wide.All
import OpenK.AllK
import Wide.FinOn
import Lean
import PySem.Challenge.RW_tg0001_01
open PySem PySem.W PyProof.Rows
set_option Elab.async false
set_option maxRecDepth 100000
set_option maxHeartbeats 4000000

namespace Mine
-- the top's run, stated once
set_option maxHeartbeats 8000000 in
open_top hd for PySem.Challenge.rw_tg0001_01

section PartMb
theorem fill : PySem.Challenge.rw_tg0001_01 = PySem.Challenge.rw_tg0001_01 ∧ hd.heap_39 = hd.heap_39 := by
  k_fill
  exact ⟨rfl, rfl⟩

abbrev Led := List (Addr × Obj)
abbrev Map := Str → Option Value

/-- what a call of the def at `f` gives back: a value and a ledger -/
def Con (w : World) (mean : ExcName → Option Value) (mg mb : Map) (f : Addr) (d : Nat) (vs : List Value) (news : Led) (Post : Value → Led → Prop) : Prop :=
  ∀ (dp un : Nat) (gd : Option (List Code)) (cn : Str) (cs : Scope) (a : Addr) (ccd : Value) (cl : List (Str × Addr)) (outer : List Env) (A₀ : Around) (base h₀ : Heap) (L : Addr) (m : Map) (s : Shared) (Q E : Value → Shared → Prop),
    Below A₀ base outer h₀ → Fr h₀ L s.heap m → (hd.heap_39 w.params).In h₀ → News h₀ L s.heap news → Top hd.view_39 (looseW hd.view_39 []) mean mg mb h₀ → cs.kind = .function → dp + d < recursionLimit → un + 8 * d < cLine →
    (∀ r news' h' tk', Post r news' → Fr h₀ L h' m → News h₀ L h' news' → Q r { s with heap := h', toks := tk' }) →
    wpAny (model PySem.Challenge.rw_tg0001_01.row.prog w) (ktrTop dp un gd cn cs L a ccd cl outer) (call (.ref f) vs) Q E s

theorem Con.use {w : World} {mean : ExcName → Option Value} {mg mb : Map} {f : Addr} {d : Nat} {vs : List Value} {news : Led} {Post : Value → Led → Prop}
    {dp un : Nat} {gd : Option (List Code)} {cn : Str} {cs : Scope} {a : Addr} {ccd : Value} {cl : List (Str × Addr)} {outer : List Env} {A₀ : Around} {base h₀ : Heap} {L : Addr} {m : Map} {s : Shared} {Q E : Value → Shared → Prop}
    (C : Con w mean mg mb f d vs news Post) (B : Below A₀ base outer h₀) (F : Fr h₀ L s.heap m) (X : (hd.heap_39 w.params).In h₀) (N : News h₀ L s.heap news) (T : Top hd.view_39 (looseW hd.view_39 []) mean mg mb h₀) (hk : cs.kind = .function) (hd : dp + d < recursionLimit) (hu : un + 8 * d < cLine)
    (h : ∀ r news' h' tk', Post r news' → Fr h₀ L h' m → News h₀ L h' news' → Q r { s with heap := h', toks := tk' }) :
    wpAny (model PySem.Challenge.rw_tg0001_01.row.prog w) (ktrTop dp un gd cn cs L a ccd cl outer) (call (.ref f) vs) Q E s :=
  C dp un gd cn cs a ccd cl outer A₀ base h₀ L m s Q E B F X N T hk hd hu h

def Hold (P : Prop) : Prop := P
theorem hold {P : Prop} (h : Hold P) : P := h
theorem Hold.out {P : Prop} (h : P) : Hold P := h

theorem know {h₀ h : Heap} {L : Addr} {m : Map} {x : Str} {v : Value} (F : Fr h₀ L h m) (e : m x = some v) : Fr h₀ L h (fun y => if y = x then some v else m y) := by
  have : (fun y => if y = x then some v else m y) = m := by
    funext y
    by_cases hy : y = x
    · rw [if_pos hy, hy, e]
    · rw [if_neg hy]
  rw [this]
  exact F

def Knows (m : Map) (ps : List (Str × Value)) : Prop := ∀ p ∈ ps, m p.1 = some p.2
theorem knows {h₀ h : Heap} {L : Addr} {m : Map} {ps : List (Str × Value)} (F : Fr h₀ L h m) (e : Knows m ps) : Fr h₀ L h (kstB m ps) := by
  have : kstB m ps = m := funext fun y => kstB_eq e fun _ => rfl
  rw [this]
  exact F
theorem Knows.nil {m : Map} : Knows m [] := fun _ h => nomatch h
theorem Knows.cons {m : Map} {x : Str} {v : Value} {ps : List (Str × Value)} (e : m x = some v) (h : Knows m ps) : Knows m ((x, v) :: ps) := List.forall_mem_cons.mpr ⟨e, h⟩

def TEnd (h₀ : Heap) (L : Addr) (s₁ : Shared) (its : Led) (J : Map → Led → Prop) (s₂ : Shared) : Prop :=
  ∃ h' tk m' news', s₂ = { s₁ with heap := h', toks := tk } ∧ Fr h₀ L h' m' ∧ News h₀ L h' (its ++ news') ∧ (∀ p ∈ news', ∀ q ∈ its, p.1 ≠ q.1) ∧ J m' news'
def TPost (h₀ : Heap) (L : Addr) (s₁ : Shared) (its : Led) (J : Map → Led → Prop) (Q : Flow → Shared → Prop) (f : Flow) (s₂ : Shared) : Prop :=
  match f with
  | .ret v => Q (.ret v) s₂
  | .brk => Q .next s₂
  | _ => TEnd h₀ L s₁ its J s₂

theorem objs1 {w : Addr × String} : ∀ {its : Led}, Objs [w] its → ∃ o, its = [(w.1, o)]
  | [], h => (show False from h).elim
  | [(a, o)], h => ⟨o, by rw [← h.1.1]⟩
  | _ :: _ :: _, h => (show False from h.2).elim
theorem objs2 {w w' : Addr × String} : ∀ {its : Led}, Objs [w, w'] its → ∃ o o', its = [(w.1, o), (w'.1, o')]
  | [], h => (show False from h).elim
  | [_], h => (show False from h.2).elim
  | [(a, o), (a', o')], h => ⟨o, o', by rw [← h.1.1, ← h.2.1.1]⟩
  | _ :: _ :: _ :: _, h => (show False from h.2.2).elim

def WEnd (h₀ : Heap) (L : Addr) (s₁ : Shared) (J : Nat → Map → Led → Prop) (n : Nat) (s₂ : Shared) : Prop :=
  ∃ h' tk m' news' n', s₂ = { s₁ with heap := h', toks := tk } ∧ Fr h₀ L h' m' ∧ News h₀ L h' news' ∧ n' < n ∧ J n' m' news'
def WPost (h₀ : Heap) (L : Addr) (s₁ : Shared) (J : Nat → Map → Led → Prop) (Q : Flow → Shared → Prop) (n : Nat) (f : Flow) (s₂ : Shared) : Prop :=
  match f with
  | .ret v => Q (.ret v) s₂
  | .brk => Q .next s₂
  | _ => WEnd h₀ L s₁ J n s₂
theorem while_inv {prog : Program} {w : World} {A : Around} {E : Value → Shared → Prop} {s : Shared} {env : Env} {h₀ : Heap} {L : Addr} {body : List Stmt} {Q : Flow → Shared → Prop} {test : Expr} {pos : Pos} {m : Map} {news : Led} (J : Nat → Map → Led → Prop) {n₀ : Nat}
    (F : Fr h₀ L s.heap m) (N : News h₀ L s.heap news) (hJ : J n₀ m news)
    (turn : ∀ n m₁ news₁ h₁ tk₁, Fr h₀ L h₁ m₁ → News h₀ L h₁ news₁ → J n m₁ news₁ →
      wpAny (model prog w) A (isTrue test env (eval test env)) (fun b s₂ =>
        if b = true then wpAny (model prog w) A (execs body env) (WPost h₀ L s J Q n) E s₂ else Q .next s₂) E { s with heap := h₁, toks := tk₁ })
    (hE : PassesOwn (model prog w) A env E := by passes_own) :
    wpAny (model prog w) A (exec (.While test body [] pos) env) Q E s := by
  refine While_inv2 J F N hJ (fun n m₁ news₁ h₁ tk₁ F₁ N₁ J₁ => ?_) hE
  refine wpAny_mono (turn n m₁ news₁ h₁ tk₁ F₁ N₁ J₁) (fun b s₂ h₂ => ?_) fun _ _ e => e
  cases b with
  | false => simpa using h₂
  | true =>
    simp only [if_true] at h₂ ⊢
    refine wpAny_mono h₂ (fun f s₃ h₃ => ?_) fun _ _ e => e
    cases f with
    | next => exact h₃
    | cont => exact h₃
    | brk => exact h₃
    | ret v => exact h₃

theorem drop1 {h₀ h : Heap} {L : Addr} {p : Addr × Obj} {news : Led} (N : News h₀ L h (p :: news)) : News h₀ L h news := fun q hq => N q (.tail _ hq)
theorem drop2 {h₀ h : Heap} {L : Addr} {p q : Addr × Obj} {news : Led} (N : News h₀ L h (p :: q :: news)) : News h₀ L h (p :: news) := fun r hr => by
  rcases List.mem_cons.mp hr with rfl | hr
  · exact N _ (.head _)
  · exact N _ (.tail _ (.tail _ hr))
theorem swap1 {h₀ h : Heap} {L : Addr} {p q : Addr × Obj} {news : Led} (N : News h₀ L h (p :: q :: news)) : News h₀ L h (q :: p :: news) := fun r hr => by
  rcases List.mem_cons.mp hr with rfl | hr
  · exact N _ (.tail _ (.head _))
  · rcases List.mem_cons.mp hr with rfl | hr
    · exact N _ (.head _)
    · exact N _ (.tail _ (.tail _ hr))
theorem fmodN (a b : Nat) : Int.fmod (a : Int) (b : Int) = ((a % b : Nat) : Int) := by
  rw [Int.fmod_eq_emod_of_nonneg _ (by omega)]; rfl
theorem fdivN (a b : Nat) : Int.fdiv (a : Int) (b : Int) = ((a / b : Nat) : Int) := by
  rw [Int.fdiv_eq_ediv_of_nonneg _ (by omega)]; rfl
theorem ints_rep (k : Nat) (t : Tok) : IntsAre (List.replicate k [Value.int 0 t]).flatten (List.replicate k 0) := by
  induction k with
  | zero => exact .nil
  | succ k ih => rw [List.replicate_succ, List.replicate_succ, List.flatten_cons]; exact .cons _ _ ih
theorem ints_at {vs : List Value} {ns : List Int} (hi : IntsAre vs ns) {i : Nat} {v : Value} (e : vs[i]? = some v) : i < ns.length ∧ ∃ t, v = .int (ns.getD i 0) t := by
  induction hi generalizing i with
  | nil => cases e
  | cons x t h ih =>
    cases i with
    | zero =>
      refine ⟨Nat.succ_pos _, t, ?_⟩
      exact (Option.some.inj e).symm
    | succ i =>
      obtain ⟨a, b⟩ := ih e
      exact ⟨Nat.succ_lt_succ a, b⟩
theorem getD_mem {ns : List Int} {i : Nat} (h : i < ns.length) : ns.getD i 0 ∈ ns := by
  rw [List.getD_eq_getElem?_getD, List.getElem?_eq_getElem h]
  exact List.getElem_mem h
theorem off1 {I : Addr} {o : Obj} {nx : Led} (h : ∀ p ∈ nx, p.1 ≠ I) : ∀ p ∈ nx, ∀ q ∈ [(I, o)], p.1 ≠ q.1 := fun p hp q hq => by
  rw [List.mem_singleton.mp hq]
  exact h p hp
theorem off2 {I J : Addr} {o o' : Obj} {nx : Led} (h : ∀ p ∈ nx, p.1 ≠ I ∧ p.1 ≠ J) : ∀ p ∈ nx, ∀ q ∈ [(I, o), (J, o')], p.1 ≠ q.1 := fun p hp q hq => by
  rcases List.mem_cons.mp hq with rfl | hq
  · exact (h p hp).1
  · rw [List.mem_singleton.mp hq]
    exact (h p hp).2
theorem ltNe {l : Addr} {news : Led} (h : AllLt l news) : ∀ p ∈ news, p.1 ≠ l := fun p hp => Nat.ne_of_lt (kst_ltOf h p hp)

section
variable {prog : Program} {w : World} {A : Around} {E : Value → Shared → Prop} {s : Shared} {env : Env} {h₀ : Heap} {target : Expr} {body : List Stmt} {Q : Flow → Shared → Prop}

theorem allObj_of : ∀ (ws : List (Addr × String)) {k : Led → Prop}, (∀ its, Objs ws its → k its) → AllObj ws k
  | [], _, h => h [] trivial
  | w :: r, _, h => fun o ho => allObj_of r fun its hi => h ((w.1, o) :: its) ⟨⟨rfl, ho⟩, hi⟩

/-- a loop's items, one by one, out of what holds between the turns -/
theorem rest_of_inv {ws : List (Addr × String)} {keep : Led} {xs : List Itm} (J : Nat → Map → Led → Prop) (hk : ∀ i m nx, J i m nx → SubL keep nx)
    (turn : ∀ i a v m₁ nx h tk its, xs[i]? = some a → a.Is v h → J i m₁ nx → Objs ws its → (∀ p ∈ nx, ∀ q ∈ its, p.1 ≠ q.1) → Fr h₀ env.locals h m₁ → News h₀ env.locals h (its ++ nx) →
      wpAny (model prog w) A (assign target env v) (fun _ s₂ => wpAny (model prog w) A (execs body env) (TPost h₀ env.locals { s with heap := h, toks := tk } its (J (i + 1)) Q) E s₂) E { s with heap := h, toks := tk })
    (done : ∀ h tk m₁ nx, J xs.length m₁ nx → Fr h₀ env.locals h m₁ → News h₀ env.locals h nx → Q .next { s with heap := h, toks := tk }) :
    ∀ (r : List Itm) (i : Nat), xs.drop i = r → i ≤ xs.length → ∀ m nx, J i m nx → (∀ p ∈ nx, ∀ q ∈ ws, p.1 ≠ q.1) → ItemsRest prog w A E h₀ env target body Q s ws keep r m nx
  | [], i, e, hi, m, nx, hJ, _ => fun h tk F N => by
    have hl := congrArg List.length e
    rw [List.length_drop] at hl
    have e2 : i = xs.length := by simp at hl; omega
    exact done h tk m nx (e2 ▸ hJ) F N
  | a :: r, i, e, hi, m, nx, hJ, hoff => fun v h tk hv F => allObj_of ws fun its hits N => by
    have hx : xs[i]? = some a := by
      have h0 := congrArg (fun l => l[0]?) e
      simpa using h0
    have hr : xs.drop (i + 1) = r := by
      have h1 := congrArg List.tail e
      simpa [List.tail_drop] using h1
    have hi' : i + 1 ≤ xs.length := by
      have hl := congrArg List.length e
      rw [List.length_drop, List.length_cons] at hl
      omega
    have hsep : ∀ p ∈ nx, ∀ q ∈ its, p.1 ≠ q.1 := fun p hp q hq => by
      have hm : q.1 ∈ ws.map (·.1) := by rw [← hits.map]; exact List.mem_map.mpr ⟨q, hq, rfl⟩
      obtain ⟨u, hu, hue⟩ := List.mem_map.mp hm
      rw [← hue]
      exact hoff p hp u hu
    refine wpAny_mono (turn i a v m nx h tk its hx hv hJ hits hsep F N) (fun _ s₂ h₂ => wpAny_mono h₂ (fun f s₃ p => ?_) fun _ _ x => x) fun _ _ x => x
    have fin : TEnd h₀ env.locals { s with heap := h, toks := tk } its (J (i + 1)) s₃ → UnrEndW h₀ env.locals { s with heap := h, toks := tk } its (fun m' n' => SubL keep n' ∧ ItemsRest prog w A E h₀ env target body Q s ws keep r m' n') s₃ := by
      rintro ⟨h', tk', m', n', es, F', N', ho, hJ'⟩
      refine ⟨h', tk', m', n', es, F', N', ho, hk _ _ _ hJ', rest_of_inv J hk turn done r (i + 1) hr hi' m' n' hJ' fun p hp u hu => ?_⟩
      have hm : u.1 ∈ its.map (·.1) := by rw [hits.map]; exact List.mem_map.mpr ⟨u, hu, rfl⟩
      obtain ⟨q, hq, hqe⟩ := List.mem_map.mp hm
      rw [← hqe]
      exact ho p hp q hq
    cases f with
    | ret v => exact p
    | brk => exact p
    | next => exact fin p
    | cont => exact fin p

theorem letGo_range {I : Addr} {x left step : Int} {v : Value} {Q' : Unit → Shared → Prop} {s' : Shared} (hit : IsRangeIter s'.heap I x left step) (h : Q' () s') :
    wpAny (model prog w) A (letOwnedTupleGo target (.ref I) v) Q' E s' := by
  unfold letOwnedTupleGo
  cases target <;> first
    | exact wpAny_pure h
    | (cases v <;> first
        | exact wpAny_pure h
        | (refine wpAny_bind (wpAny_load hit ?_)
           dsimp only
           rw [if_neg (by simp)]
           exact wpAny_pure h))

theorem mem1 {a b : Addr} (h : b ∈ [a]) : b = a := List.mem_singleton.mp h

/-- a loop over range(a, b) -/
theorem turns_range {r : Addr} {a₀ b₀ : Int} {t₀ u₀ v₀ : Tok} {n : Nat} {m₀ : Map} {news : Led} (J : Nat → Map → Led → Prop)
    (hr : IsRange s.heap r a₀ b₀ 1 t₀ u₀ v₀) (hsmall : Builtin.Range.small a₀ b₀ 1 = true) (hn : Builtin.Range.rangeSize a₀ b₀ 1 = (n : Int)) (F : Fr h₀ env.locals s.heap m₀) (N : News h₀ env.locals s.heap news) (h0 : J 0 m₀ news)
    (turn : ∀ (i : Nat) (t : Tok) (I : Addr) (o : Obj) m₁ nx h tk, i < n → J i m₁ nx → (∀ p ∈ nx, p.1 ≠ I) → Fr h₀ env.locals h m₁ → News h₀ env.locals h ((I, o) :: nx) →
      wpAny (model prog w) A (assign target env (.int (a₀ + (i : Int)) t)) (fun _ s₂ => wpAny (model prog w) A (execs body env) (TPost h₀ env.locals { s with heap := h, toks := tk } [(I, o)] (J (i + 1)) Q) E s₂) E { s with heap := h, toks := tk })
    (done : ∀ h tk m₁ nx, J n m₁ nx → Fr h₀ env.locals h m₁ → News h₀ env.locals h nx → Q .next { s with heap := h, toks := tk })
    (hh : A.handled = none := by rfl) :
    wpAny (model prog w) A (pyIter (.ref r)) (fun it s₂ => TurnsAt prog w A h₀ env target body Q E it s₂) E s := by
  refine wpAny_pyIter_range hr hsmall ?_
  have hI : ∀ p ∈ news, p.1 ≠ s.heap.objs.size := fun p hp => Nat.ne_of_lt (Heap.lt_size (N p hp).1)
  refine ktu_core (tk0 := s.toks) (ws := [(s.heap.objs.size, "range_iterator")]) (keep := []) (xs := (List.range n).map fun (i : Nat) => Itm.tok fun t => Value.int (a₀ + (i : Int)) t)
    (KTurns.ofWalks (Walks.range hh s.heap.objs.size a₀ 1 n).bound fun i v s' Q' E' st q => letGo_range st q) (by simp) ?_ ?_ ?_ (fun b hb => hb) (fun b hb => .inl hb) ?_ ?_ (by show IsRangeIter _ _ _ _ _; rw [hn]; simpa using Heap.get?_push_size _ rfl)
    (F.push _) (fun p hp => ⟨Heap.get?_push_of_some _ (N p hp).1, (N p hp).2⟩) trivial
    (rest_of_inv (keep := []) J (fun _ _ _ _ => trivial) ?_ ?_ _ 0 List.drop_zero (Nat.zero_le _) m₀ news h0 ?_)
  · rintro i v h ⟨hi, t, rfl⟩
    refine ⟨Itm.tok fun t => Value.int (a₀ + (i : Int)) t, by rw [List.getElem?_map, List.getElem?_range hi]; rfl, t, ?_⟩
    show Value.int (a₀ + (i : Int) * 1) t = Value.int (a₀ + (i : Int)) t
    rw [Int.mul_one]
  · intro i h st
    have he : ∃ oe : Obj, h.get? s.heap.objs.size = some oe ∧ oe.cls = .type "range_iterator" := ⟨_, st, rfl⟩
    obtain ⟨oe, h1, h2⟩ := he
    exact ⟨[(s.heap.objs.size, oe)], ⟨⟨rfl, h2⟩, trivial⟩, fun p hp => by rw [List.mem_singleton.mp hp]; exact h1⟩
  · intro b hb
    have hb' : b = s.heap.objs.size := by simpa using hb
    rw [hb']
    exact ⟨List.mem_cons_self .., next_is_new F⟩
  · intro hm
    exact Nat.lt_irrefl _ ((List.mem_singleton.mp hm) ▸ F.ns.lt)
  · intro p hp hm
    exact hI p hp (List.mem_singleton.mp hm)
  · intro i a v m₁ nx h tk its hx hv hJ hits hoff F₁ N₁
    obtain ⟨o, rfl⟩ := objs1 hits
    have hi : i < n := by
      rcases Nat.lt_or_ge i n with q | q
      · exact q
      · rw [List.getElem?_eq_none (by simpa using q)] at hx; cases hx
    rw [List.getElem?_map, List.getElem?_range hi] at hx
    have ha := Option.some.inj hx
    subst ha
    obtain ⟨t, rfl⟩ := hv
    exact turn i t _ o m₁ nx h tk hi hJ (fun p hp => hoff p hp _ (List.mem_cons_self ..)) F₁ N₁
  · intro h tk m₁ nx hJ
    exact done h tk m₁ nx (by simpa using hJ)
  · intro p hp u hu
    rw [List.mem_singleton.mp hu]
    exact hI p hp

/-- a loop over enumerate(a list of the ledger) -/
theorem turns_enum {elts : List Expr} {k : Nat} {pos : Pos} {ax : Addr} {vs : List Value} {c : Nat} {m₀ : Map} {news : Led} (J : Nat → Map → Led → Prop)
    (hm : (ax, listOf vs.toArray c) ∈ news) (F : Fr h₀ env.locals s.heap m₀) (N : News h₀ env.locals s.heap news) (h0 : J 0 m₀ news) (hk : ∀ i m nx, J i m nx → (ax, listOf vs.toArray c) ∈ nx)
    (turn : ∀ (i : Nat) (v : Value) (T : Addr) (t : Tok) (I₁ I₂ : Addr) (o₁ o₂ : Obj) m₁ nx h tk, vs[i]? = some v → IsTup h T #[.int (i : Int) t, v] → J i m₁ nx → (∀ p ∈ nx, p.1 ≠ I₁ ∧ p.1 ≠ I₂) → Fr h₀ env.locals h m₁ → News h₀ env.locals h ((I₁, o₁) :: (I₂, o₂) :: nx) → I₁ = I₂ + 1 →
      wpAny (model prog w) A (assign (.Tuple elts k pos) env (.ref T)) (fun _ s₂ => wpAny (model prog w) A (execs body env) (TPost h₀ env.locals { s with heap := h, toks := tk } [(I₁, o₁), (I₂, o₂)] (J (i + 1)) Q) E s₂) E { s with heap := h, toks := tk })
    (done : ∀ h tk m₁ nx, J vs.length m₁ nx → Fr h₀ env.locals h m₁ → News h₀ env.locals h nx → Q .next { s with heap := h, toks := tk })
    (hh : A.handled = none := by rfl) :
    wpAny (model prog w) A (call (.type "enumerate") [.ref ax]) (fun xv s₁ => wpAny (model prog w) A (pyIter xv) (fun it s₂ => TurnsAt prog w A h₀ env (.Tuple elts k pos) body Q E it s₂) E s₁) E s := by
  refine ktu_enum (lo := listOf vs.toArray c) hh F N hm rfl rfl rfl fun I hI => rest_of_inv (keep := [(ax, listOf vs.toArray c)]) J (fun i m nx hJ => ⟨hk i m nx hJ, trivial⟩) ?_ ?_ _ 0 List.drop_zero (Nat.zero_le _) m₀ news h0 ?_
  · intro i a v m₁ nx h tk its hx hv hJ hits hoff F₁ N₁
    obtain ⟨o₁, o₂, rfl⟩ := objs2 hits
    have hi : i < vs.length := by
      rcases Nat.lt_or_ge i vs.length with q | q
      · exact q
      · rw [List.getElem?_eq_none (by rw [enumItems_length]; exact q)] at hx; cases hx
    have hvi : vs[i]? = some vs[i] := List.getElem?_eq_getElem hi
    rw [enumItems_get vs 0 i hvi] at hx
    have ha := Option.some.inj hx
    subst ha
    obtain ⟨T, t, rfl, hT⟩ := hv
    rw [Nat.zero_add] at hT
    exact turn i _ T t _ _ o₁ o₂ m₁ nx h tk hvi hT hJ (fun p hp => ⟨hoff p hp _ (List.mem_cons_self ..), hoff p hp _ (List.mem_cons_of_mem _ (List.mem_cons_self ..))⟩) F₁ N₁ rfl
  · intro h tk m₁ nx hJ
    exact done h tk m₁ nx (by rw [enumItems_length] at hJ; exact hJ)
  · intro p hp u hu
    have hlt := hI p hp
    rcases List.mem_cons.mp hu with rfl | hu
    · exact Nat.ne_of_lt (Nat.lt_succ_of_lt hlt)
    · rw [List.mem_singleton.mp hu]
      exact Nat.ne_of_lt hlt
end
end PartMb

section PartC1
theorem cleanC1 : True := by
  w_top off
  trivial
local macro_rules | `(tactic| walk_at "exec For Name Call cons nil") => `(tactic| refine hold ?_)
local macro_rules | `(tactic| walk_at "exec For Tuple Call cons nil") => `(tactic| refine hold ?_)
local macro_rules | `(tactic| walk_at "exec While Compare cons nil") => `(tactic| refine hold ?_)
local macro_rules | `(tactic| walk_at "pyIter ref") => `(tactic| refine hold ?_)
local macro_rules | `(tactic| walk_at "call type:enumerate") => `(tactic| refine hold ?_)
local macro_rules | `(tactic| walk_at "TPost") => `(tactic| dsimp only [TPost])
local macro_rules | `(tactic| walk_at "subscriptTail Name Name ref int") => `(tactic| (k_dflt (refine' ksa_sub ?k1 ?k2 ?k3 ?k4 ?k5 ?k6 ?_ ?k7; (case k1 => k_asm); (case k2 => k_mem); (case k3 => with_reducible assumption); (case k4 => omega); (case k5 => omega); (case k6 => omega); (case k7 => with_unfolding_all rfl)); intro _))
local macro_rules | `(tactic| k_all) => `(tactic| assumption)

def binStep (n : Nat) (row : List Int) (k : Nat) : List Int := row ++ [Int.fdiv (row.getD k 0 * ((n : Int) - (k : Int))) ((k : Int) + 1)]
def binPre (n i : Nat) : List Int := (List.range i).foldl (binStep n) [1]
def binRow (n : Nat) : List Int := binPre n n
theorem binPre_succ (n i : Nat) : binPre n (i + 1) = binStep n (binPre n i) i := by
  simp [binPre, List.range_succ]
theorem binPre_len (n i : Nat) : (binPre n i).length = i + 1 := by
  induction i with
  | zero => rfl
  | succ i ih => rw [binPre_succ, binStep, List.length_append, ih]; rfl

theorem con_binomial (w : World) (mean : ExcName → Option Value) (mg mb : Map) (news : Led) (n : Nat) (hn : n ≤ 26) (t : Tok) :
    Con w mean mg mb 21 1 [.int n t] news (fun r news' => ∃ l vs c, r = .ref l ∧ IntsAre vs (binRow n) ∧ news' = (l, listOf vs.toArray c) :: news ∧ AllLt l news) := by
  unfold Con
  intro dp un gd cn cs a ccd cl outer A₀ base h₀ L m s Q E B F X N T hk hd hu hret
  refine wpAny_call ?_
  k_dflt cell_enter
  k_steps
  refine Hold.out ?_
  rename Fr _ _ _ _ => F1
  with_unfolding_all refine' For_turns F1 ?_
  k_steps
  refine Hold.out ?_
  rename Fr _ _ _ _ => F2
  rename News _ _ _ _ => N2
  rename IsRange _ _ _ _ _ _ _ _ => R2
  rename ∀ p ∈ news, _ => hlt
  with_unfolding_all refine' turns_range (n := n) (fun i m nx => ∃ l vs c t, Knows m [(Str.ofString "found", .ref l), (Str.ofString "n", .int n t)] ∧ IntsAre vs (binPre n i) ∧ nx = (l, listOf vs.toArray c) :: news ∧ AllLt l news) R2 ?_ ?_ F2 N2 ?_ ?_ ?_
  · exact small_one (by omega) (by omega) (by omega) (by omega)
  · first | exact rangeSize_nat _ _ | rfl
  · refine ⟨_, [Value.int 1 _], 0, _, .cons rfl (.cons rfl .nil), ?_, rfl, allLt_of hlt⟩
    exact IntsAre.cons _ _ .nil
  · rintro i t I o m₁ nx h tk hi ⟨l, vs, c, t', e1, hv, rfl, hl⟩ hI F3 N3
    have F4 := knows F3 e1
    dsimp only [kstB] at F4
    have hL := binPre_len n i
    have hvl := hv.length
    have hI1 : @Ne Nat l I := hI _ (List.mem_cons_self ..)
    have hl2 := ltNe hl
    k_steps
    rename Fr _ _ _ _ => F9
    rename News _ _ _ _ => N9
    simp only [List.push_toArray] at N9
    refine ⟨_, _, _, _, rfl, F9, N9, off1 (List.forall_mem_cons.mpr ⟨hI1, fun p hp => hI p (.tail _ hp)⟩), l, _, _, t', .cons rfl (.cons rfl .nil), ?_, rfl, hl⟩
    rw [binPre_succ, binStep]
    refine IntsAre.append hv ?_
    simp only [Int.zero_add, Int.toNat_natCast]
    exact IntsAre.cons _ _ .nil
  · rintro h tk m₁ nx ⟨l, vs, c, t', e1, hv, rfl, hl⟩ F3 N3
    have F4 := knows F3 e1
    dsimp only [kstB] at F4
    clear F3 F2 N2
    k_steps
    exact hret _ _ _ _ ⟨l, vs, c, rfl, hv, rfl, hl⟩ (by assumption) (by assumption)
end PartC1

section PartC2
theorem cleanC2 : True := by
  w_top off
  trivial
local macro_rules | `(tactic| walk_at "exec For Name Call cons nil") => `(tactic| refine hold ?_)
local macro_rules | `(tactic| walk_at "exec For Tuple Call cons nil") => `(tactic| refine hold ?_)
local macro_rules | `(tactic| walk_at "exec While Compare cons nil") => `(tactic| refine hold ?_)
local macro_rules | `(tactic| walk_at "exec While BoolOp cons nil") => `(tactic| refine hold ?_)
local macro_rules | `(tactic| walk_at "pyIter ref") => `(tactic| refine hold ?_)
local macro_rules | `(tactic| walk_at "call type:enumerate") => `(tactic| refine hold ?_)
local macro_rules | `(tactic| walk_at "TPost") => `(tactic| dsimp only [TPost])
local macro_rules | `(tactic| walk_at "WPost") => `(tactic| dsimp only [WPost])
local macro_rules | `(tactic| walk_at "subscriptTail Name Name ref int") => `(tactic| (k_dflt (refine' ksa_sub ?k1 ?k2 ?k3 ?k4 ?k5 ?k6 ?_ ?k7; (case k1 => k_asm); (case k2 => k_mem); (case k3 => with_reducible assumption); (case k4 => omega); (case k5 => omega); (case k6 => omega); (case k7 => with_unfolding_all rfl)); intro _))
local macro_rules | `(tactic| k_all) => `(tactic| assumption)
def figsL (p : Nat) : Nat → Nat → List Int
  | 0, _ => []
  | f + 1, n => if n = 0 then [] else ((n % p : Nat) : Int) :: figsL p f (n / p)
def figs (p n : Nat) : List Int := figsL p n n
theorem figsL_zero (p f : Nat) : figsL p f 0 = [] := by cases f <;> simp [figsL]
theorem figsL_pos {p f n : Nat} (h : n ≠ 0) : figsL p (f + 1) n = ((n % p : Nat) : Int) :: figsL p f (n / p) := by simp [figsL, h]

theorem con_figures (w : World) (mean : ExcName → Option Value) (mg mb : Map) (news : Led) (n p : Nat) (hn : n ≤ 26) (hp : 2 ≤ p) (hp' : p ≤ 26) (t u : Tok) :
    Con w mean mg mb 68 1 [.int n t, .int p u] news (fun r news' => ∃ l vs c, r = .ref l ∧ IntsAre vs (figs p n) ∧ news' = (l, listOf vs.toArray c) :: news ∧ AllLt l news) := by
  unfold Con
  intro dp un gd cn cs a ccd cl outer A₀ base h₀ L m s Q E B F X N T hk hd hu hret
  refine wpAny_call ?_
  k_dflt cell_enter
  k_steps
  refine Hold.out ?_
  rename Fr _ _ _ _ => F1
  rename News _ _ _ _ => N1
  rename ∀ p ∈ news, _ => hlt
  with_unfolding_all refine' while_inv (fun k m nx => ∃ (l : Addr) (vs : List Value) (c cur : Nat) (pre : List Int) (t u : Tok), Knows m [(Str.ofString "number", .int cur t), (Str.ofString "p", .int p u), (Str.ofString "found", .ref l)] ∧ IntsAre vs pre ∧ nx = (l, listOf vs.toArray c) :: news ∧ AllLt l news ∧ cur ≤ k ∧ pre ++ figsL p k cur = figs p n ∧ pre.length + k ≤ 26) (n₀ := n) F1 N1 ?_ ?_
  · exact ⟨_, [], 0, n, [], _, _, .cons rfl (.cons rfl (.cons rfl .nil)), .nil, rfl, allLt_of hlt, Nat.le_refl _, rfl, by simpa using hn⟩
  · rintro k m₁ nx h tk F3 N3 ⟨l, vs, c, cur, pre, t', u', e1, hv, rfl, hl, hck, hfg, hlen⟩
    have F4 := knows F3 e1
    dsimp only [kstB] at F4
    clear F3
    have hvl := hv.length
    have hl2 := ltNe hl
    k_steps
    · have hc : 0 < cur := by omega
      obtain ⟨k', rfl⟩ : ∃ k', k = k' + 1 := ⟨k - 1, by omega⟩
      have hdv := Nat.div_lt_self hc (by omega : 1 < p)
      rename Fr _ _ _ _ => F9
      rename News _ _ _ _ => N9
      simp only [fdivN] at F9
      simp only [List.push_toArray, fmodN] at N9
      rw [figsL_pos (by omega)] at hfg
      refine ⟨_, _, _, _, k', rfl, F9, N9, Nat.lt_succ_self _, l, _, _, cur / p, pre ++ [((cur % p : Nat) : Int)], _, _, .cons rfl (.cons rfl (.cons rfl .nil)), IntsAre.append hv (IntsAre.cons _ _ .nil), rfl, hl, by omega, by rw [List.append_assoc]; exact hfg, by rw [List.length_append]; show _ + 1 + _ ≤ _; omega⟩
    · have hc : cur = 0 := by omega
      subst hc
      rw [figsL_zero, List.append_nil] at hfg
      subst hfg
      exact hret _ _ _ _ ⟨l, vs, c, rfl, hv, rfl, hl⟩ (by assumption) (by assumption)
end PartC2

section PartC3
theorem cleanC3 : True := by
  w_top off
  trivial
local macro_rules | `(tactic| walk_at "mine:pad0") => `(tactic| skip)
local macro_rules | `(tactic| walk_at "exec For Name Call cons nil") => `(tactic| refine hold ?_)
local macro_rules | `(tactic| walk_at "exec For Tuple Call cons nil") => `(tactic| refine hold ?_)
local macro_rules | `(tactic| walk_at "exec While Compare cons nil") => `(tactic| refine hold ?_)
local macro_rules | `(tactic| walk_at "exec While BoolOp cons nil") => `(tactic| refine hold ?_)
local macro_rules | `(tactic| walk_at "pyIter ref") => `(tactic| refine hold ?_)
local macro_rules | `(tactic| walk_at "call type:enumerate") => `(tactic| refine hold ?_)
local macro_rules | `(tactic| walk_at "TPost") => `(tactic| dsimp only [TPost])
local macro_rules | `(tactic| walk_at "WPost") => `(tactic| dsimp only [WPost])
local macro_rules | `(tactic| walk_at "subscriptTail Name Name ref int") => `(tactic| (k_dflt (refine' ksa_sub ?k1 ?k2 ?k3 ?k4 ?k5 ?k6 ?_ ?k7; (case k1 => k_asm); (case k2 => k_mem); (case k3 => with_reducible assumption); (case k4 => omega); (case k5 => omega); (case k6 => omega); (case k7 => with_unfolding_all rfl)); intro _))
local macro_rules | `(tactic| k_all) => `(tactic| assumption)
def carL (p : Nat) : Nat → Nat → Nat → Nat → Nat → Nat
  | 0, _, _, _, found => found
  | f + 1, a, b, c, found => if a + b + c = 0 then found else
      if p ≤ a % p + b % p + c then carL p f (a / p) (b / p) 1 (found + 1) else carL p f (a / p) (b / p) 0 (found + 0)
def carries (a b p : Nat) : Nat := carL p (a + b) a b 0 0
theorem carL_zero (p f x : Nat) : carL p f 0 0 0 x = x := by cases f <;> simp [carL]
theorem carL_pos {p f a b c x : Nat} (h : a + b + c ≠ 0) : carL p (f + 1) a b c x = if p ≤ a % p + b % p + c then carL p f (a / p) (b / p) 1 (x + 1) else carL p f (a / p) (b / p) 0 (x + 0) := by
  simp only [carL]; rw [if_neg h]
theorem car_dec1 {p a b c : Nat} (hp : 2 ≤ p) (h : p ≤ a % p + b % p + c) : a / p + b / p + 1 < a + b + c := by
  have h1 := Nat.div_add_mod a p
  have h2 := Nat.div_add_mod b p
  have h3 : 2 * (a / p) ≤ p * (a / p) := Nat.mul_le_mul_right _ hp
  have h4 : 2 * (b / p) ≤ p * (b / p) := Nat.mul_le_mul_right _ hp
  omega
theorem car_dec0 {p a b c : Nat} (hp : 2 ≤ p) (h : a + b + c ≠ 0) : a / p + b / p + 0 < a + b + c := by
  have h1 := Nat.div_add_mod a p
  have h2 := Nat.div_add_mod b p
  have h3 : 2 * (a / p) ≤ p * (a / p) := Nat.mul_le_mul_right _ hp
  have h4 : 2 * (b / p) ≤ p * (b / p) := Nat.mul_le_mul_right _ hp
  omega

theorem con_carries (w : World) (mean : ExcName → Option Value) (mg mb : Map) (news : Led) (x y p : Nat) (hx : x ≤ 26) (hy : y ≤ 26) (hp : 2 ≤ p) (hp' : p ≤ 26) (t u v : Tok) :
    Con w mean mg mb 75 1 [.int x t, .int y u, .int p v] news (fun r news' => ∃ t, r = .int (carries x y p : Nat) t ∧ news' = news) := by
  unfold Con
  intro dp un gd cn cs a ccd cl outer A₀ base h₀ L m s Q E B F X N T hk hd hu hret
  refine wpAny_call ?_
  k_dflt cell_enter
  k_steps
  refine Hold.out ?_
  rename Fr _ _ _ _ => F1
  rename News _ _ _ _ => N1
  replace N1 := drop1 N1
  with_unfolding_all refine' while_inv (fun k m nx => ∃ (a b c f : Nat) (t1 t2 t3 t4 t5 : Tok), Knows m [(Str.ofString "one", .int a t1), (Str.ofString "other", .int b t2), (Str.ofString "carry", .int c t3), (Str.ofString "found", .int f t4), (Str.ofString "p", .int p t5)] ∧ nx = news ∧ a + b + c ≤ k ∧ carL p k a b c f = carries x y p) (n₀ := x + y) F1 N1 ?_ ?_
  · exact ⟨x, y, 0, 0, _, _, _, _, _, .cons rfl (.cons rfl (.cons rfl (.cons rfl (.cons rfl .nil)))), rfl, Nat.le_refl _, rfl⟩
  · rintro k m₁ nx h tk F3 N3 ⟨a, b, c, f, t1, t2, t3, t4, t5, e1, rfl, hck, hfg⟩
    have F4 := knows F3 e1
    dsimp only [kstB] at F4
    clear F3
    k_steps
    · rename Fr _ _ _ _ => F9
      rename News _ _ _ _ => N9
      simp only [fdivN] at F9
      have hc : a + b + c ≠ 0 := by omega
      have hq : p ≤ a % p + b % p + c := by
        rename (p : Int) ≤ _ => hq
        simp only [fmodN] at hq
        omega
      obtain ⟨k', rfl⟩ : ∃ k', k = k' + 1 := ⟨k - 1, by omega⟩
      have hdc := car_dec1 hp hq
      rw [carL_pos hc, if_pos hq] at hfg
      exact ⟨_, _, _, _, k', rfl, F9, drop1 N9, Nat.lt_succ_self _, a / p, b / p, 1, f + 1, _, _, _, _, _, .cons rfl (.cons rfl (.cons rfl (.cons rfl (.cons rfl .nil)))), rfl, by omega, hfg⟩
    · rename Fr _ _ _ _ => F9
      rename News _ _ _ _ => N9
      simp only [fdivN] at F9
      have hc : a + b + c ≠ 0 := by omega
      have hq : ¬ p ≤ a % p + b % p + c := by
        rename ¬ (p : Int) ≤ _ => hq
        simp only [fmodN] at hq
        omega
      obtain ⟨k', rfl⟩ : ∃ k', k = k' + 1 := ⟨k - 1, by omega⟩
      have hdc := car_dec0 (p := p) hp hc
      rw [carL_pos hc, if_neg hq] at hfg
      exact ⟨_, _, _, _, k', rfl, F9, drop1 N9, Nat.lt_succ_self _, a / p, b / p, 0, f + 0, _, _, _, _, _, .cons rfl (.cons rfl (.cons rfl (.cons rfl (.cons rfl .nil)))), rfl, by omega, hfg⟩
    · have ha : a = 0 := by omega
      have hb : b = 0 := by omega
      have hc : c = 0 := by omega
      subst ha hb hc
      rw [carL_zero] at hfg
      subst hfg
      exact hret _ _ _ _ ⟨_, rfl, rfl⟩ (by assumption) (by assumption)
end PartC3

section PartC4
theorem cleanC4 : True := by
  w_top off
  trivial
local macro_rules | `(tactic| walk_at "exec For Name Call cons nil") => `(tactic| refine hold ?_)
local macro_rules | `(tactic| walk_at "exec For Tuple Call cons nil") => `(tactic| refine hold ?_)
local macro_rules | `(tactic| walk_at "exec While Compare cons nil") => `(tactic| refine hold ?_)
local macro_rules | `(tactic| walk_at "exec While BoolOp cons nil") => `(tactic| refine hold ?_)
local macro_rules | `(tactic| walk_at "pyIter ref") => `(tactic| refine hold ?_)
local macro_rules | `(tactic| walk_at "call type:enumerate") => `(tactic| refine hold ?_)
local macro_rules | `(tactic| walk_at "TPost") => `(tactic| dsimp only [TPost])
local macro_rules | `(tactic| walk_at "WPost") => `(tactic| dsimp only [WPost])
local macro_rules | `(tactic| walk_at "subscriptTail Name Name ref int") => `(tactic| (k_dflt (refine' ksa_sub ?k1 ?k2 ?k3 ?k4 ?k5 ?k6 ?_ ?k7; (case k1 => k_asm); (case k2 => k_mem); (case k3 => with_reducible assumption); (case k4 => omega); (case k5 => omega); (case k6 => omega); (case k7 => with_unfolding_all rfl)); intro _))
local macro_rules | `(tactic| k_all) => `(tactic| assumption)
def ldL (n : Nat) : Nat → Nat → Nat
  | 0, _ => n
  | f + 1, b => if b * b ≤ n then (if n % b = 0 then b else ldL n f (if b = 2 then b + 1 else b + 2)) else n
def ld (n b : Nat) : Nat := ldL n 3300 b
theorem ldL_end {n f b : Nat} (h : ¬ b * b ≤ n) : ldL n f b = n := by cases f <;> simp [ldL, h]
theorem ldL_hit {n f b : Nat} (h : b * b ≤ n) (h' : n % b = 0) : ldL n (f + 1) b = b := by simp [ldL, h, h']
theorem ldL_go {n f b : Nat} (h : b * b ≤ n) (h' : ¬ n % b = 0) : ldL n (f + 1) b = ldL n f (if b = 2 then b + 1 else b + 2) := by simp [ldL, h, h']

theorem con_ld (w : World) (mean : ExcName → Option Value) (mg mb : Map) (news : Led) (n b : Nat) (hn : n ≤ 10400600) (hb : 2 ≤ b) (hb' : b ≤ 2 ^ 40) (t u : Tok) :
    Con w mean mg mb 28 1 [.int n t, .int b u] news (fun r news' => ∃ t, r = .int (ld n b : Nat) t ∧ news' = news) := by
  unfold Con
  intro dp un gd cn cs a ccd cl outer A₀ base h₀ L m s Q E B F X N T hk hd hu hret
  refine wpAny_call ?_
  k_dflt cell_enter
  k_steps
  refine Hold.out ?_
  rename Fr _ _ _ _ => F1
  rename News _ _ _ _ => N1
  with_unfolding_all refine' while_inv (fun k m nx => ∃ (f : Nat) (t1 t2 : Tok), Knows m [(Str.ofString "n", .int n t1), (Str.ofString "found", .int f t2)] ∧ nx = news ∧ 2 ≤ f ∧ f ≤ 2 ^ 40 ∧ 3300 ≤ f + k ∧ ldL n k f = ld n b) (n₀ := 3300) F1 N1 ?_ ?_
  · exact ⟨b, _, _, .cons rfl (.cons rfl .nil), rfl, hb, hb', by omega, rfl⟩
  · rintro k m₁ nx h tk F3 N3 ⟨f, t1, t2, e1, rfl, hf, hf', hfk, hfg⟩
    have F4 := knows F3 e1
    dsimp only [kstB] at F4
    clear F3
    k_steps
    · have hff : f * f ≤ n := by
        rename (f : Int) * f ≤ n => hx
        exact_mod_cast hx
      have hmod : n % f = 0 := by
        rename Int.fmod (n : Int) f = 0 => hx
        rw [fmodN] at hx
        omega
      have hsm : f < 3300 := by
        rcases Nat.lt_or_ge f 3300 with h | h
        · exact h
        · have := Nat.mul_le_mul h h
          omega
      obtain ⟨k', rfl⟩ : ∃ k', k = k' + 1 := ⟨k - 1, by omega⟩
      rw [ldL_hit hff hmod] at hfg
      subst hfg
      exact hret _ _ _ _ ⟨_, rfl, rfl⟩ (by assumption) (by assumption)
    · have hff : f * f ≤ n := by
        rename (f : Int) * f ≤ n => hx
        exact_mod_cast hx
      have hmod : ¬ n % f = 0 := by
        rename ¬ Int.fmod (n : Int) f = 0 => hx
        rw [fmodN] at hx
        omega
      have hsm : f < 3300 := by
        rcases Nat.lt_or_ge f 3300 with h | h
        · exact h
        · have := Nat.mul_le_mul h h
          omega
      have h2 : f = 2 := by omega
      obtain ⟨k', rfl⟩ : ∃ k', k = k' + 1 := ⟨k - 1, by omega⟩
      rw [ldL_go hff hmod, if_pos h2] at hfg
      rename Fr _ _ _ _ => F9
      rename News _ _ _ _ => N9
      exact ⟨_, _, _, _, k', rfl, F9, N9, Nat.lt_succ_self _, f + 1, _, _, .cons rfl (.cons rfl .nil), rfl, by omega, by omega, by omega, hfg⟩
    · have hff : f * f ≤ n := by
        rename (f : Int) * f ≤ n => hx
        exact_mod_cast hx
      have hmod : ¬ n % f = 0 := by
        rename ¬ Int.fmod (n : Int) f = 0 => hx
        rw [fmodN] at hx
        omega
      have hsm : f < 3300 := by
        rcases Nat.lt_or_ge f 3300 with h | h
        · exact h
        · have := Nat.mul_le_mul h h
          omega
      have h2 : ¬ f = 2 := by omega
      obtain ⟨k', rfl⟩ : ∃ k', k = k' + 1 := ⟨k - 1, by omega⟩
      rw [ldL_go hff hmod, if_neg h2] at hfg
      rename Fr _ _ _ _ => F9
      rename News _ _ _ _ => N9
      exact ⟨_, _, _, _, k', rfl, F9, N9, Nat.lt_succ_self _, f + 2, _, _, .cons rfl (.cons rfl .nil), rfl, by omega, by omega, by omega, hfg⟩
    · have hff : ¬ f * f ≤ n := by
        rename ¬ (f : Int) * f ≤ n => hx
        exact_mod_cast hx
      rw [ldL_end hff] at hfg
      rw [← hfg] at hret
      exact hret _ _ _ _ ⟨_, rfl, rfl⟩ (by assumption) (by assumption)
end PartC4

section PartC5
theorem cleanC5 : True := by
  w_top off
  trivial
local macro_rules | `(tactic| walk_at "exec For Name Call cons nil") => `(tactic| refine hold ?_)
local macro_rules | `(tactic| walk_at "exec For Tuple Call cons nil") => `(tactic| refine hold ?_)
local macro_rules | `(tactic| walk_at "exec While Compare cons nil") => `(tactic| refine hold ?_)
local macro_rules | `(tactic| walk_at "exec While BoolOp cons nil") => `(tactic| refine hold ?_)
local macro_rules | `(tactic| walk_at "pyIter ref") => `(tactic| refine hold ?_)
local macro_rules | `(tactic| walk_at "call type:enumerate") => `(tactic| refine hold ?_)
local macro_rules | `(tactic| walk_at "TPost") => `(tactic| dsimp only [TPost])
local macro_rules | `(tactic| walk_at "WPost") => `(tactic| dsimp only [WPost])
local macro_rules | `(tactic| walk_at "subscriptTail Name Name ref int") => `(tactic| (k_dflt (refine' ksa_sub ?k1 ?k2 ?k3 ?k4 ?k5 ?k6 ?_ ?k7; (case k1 => k_asm); (case k2 => k_mem); (case k3 => with_reducible assumption); (case k4 => omega); (case k5 => omega); (case k6 => omega); (case k7 => with_unfolding_all rfl)); intro _))
local macro_rules | `(tactic| k_all) => `(tactic| assumption)
def dvL (p : Nat) : Nat → Nat → Nat → Nat × Nat
  | 0, n, m => (n, m)
  | f + 1, n, m => if n % p = 0 then dvL p f (n / p) (m + 1) else (n, m)
def pfL : Nat → Nat → Nat → List (Nat × Nat)
  | 0, _, _ => []
  | f + 1, n, b => if 1 < n then (ld n b, (dvL (ld n b) 24 n 0).2) :: pfL f (dvL (ld n b) 24 n 0).1 (if ld n b = 2 then 3 else ld n b + 2) else []
def pf (n : Nat) : List (Nat × Nat) := pfL 24 n 2
def prD (p : Nat × Nat) : Dat := .tuple [.int p.1, .int p.2]
theorem ldL_spec {n : Nat} (hn : 2 ≤ n) : ∀ (f b : Nat), 2 ≤ b → 2 ≤ ldL n f b ∧ ldL n f b ≤ n ∧ n % ldL n f b = 0
  | 0, b, hb => ⟨hn, Nat.le_refl _, Nat.mod_self _⟩
  | f + 1, b, hb => by
    unfold ldL
    split
    · rename_i h
      split
      · rename_i h'
        refine ⟨hb, ?_, h'⟩
        have := Nat.mul_le_mul hb (Nat.le_refl b)
        omega
      · exact ldL_spec hn f _ (by split <;> omega)
    · exact ⟨hn, Nat.le_refl _, Nat.mod_self _⟩
theorem ld_spec {n b : Nat} (hn : 2 ≤ n) (hb : 2 ≤ b) : 2 ≤ ld n b ∧ ld n b ≤ n ∧ n % ld n b = 0 := ldL_spec hn _ _ hb
theorem dvL_hit {p f n m : Nat} (h : n % p = 0) : dvL p (f + 1) n m = dvL p f (n / p) (m + 1) := by simp [dvL, h]
theorem dvL_end {p f n m : Nat} (h : ¬ n % p = 0) : dvL p f n m = (n, m) := by cases f <;> simp [dvL, h]
theorem dv_dec {p n k : Nat} (hp : 2 ≤ p) (hn : 1 ≤ n) (h : n % p = 0) (hk : n < 2 ^ (k + 1)) : 1 ≤ n / p ∧ n / p < 2 ^ k := by
  have h1 := Nat.div_add_mod n p
  have h3 : 2 * (n / p) ≤ p * (n / p) := Nat.mul_le_mul_right _ hp
  rw [Nat.pow_succ] at hk
  refine ⟨?_, by omega⟩
  rcases Nat.eq_zero_or_pos (n / p) with h0 | h0
  · rw [h0] at h1; omega
  · exact h0
/-- what the inner loop leaves -/
theorem dvL_spec {p : Nat} (hp : 2 ≤ p) : ∀ (f n m k : Nat), 1 ≤ n → n < 2 ^ k → (dvL p f n m).1 < 2 ^ k ∧ 1 ≤ (dvL p f n m).1
  | 0, n, m, k, hn, hk => ⟨hk, hn⟩
  | f + 1, n, m, k, hn, hk => by
    unfold dvL
    split
    · rename_i h
      have hk' : n < 2 ^ (k + 1) := by rw [Nat.pow_succ]; omega
      exact dvL_spec hp f _ _ k (dv_dec hp hn h hk').1 (dv_dec hp hn h hk').2
    · exact ⟨hk, hn⟩

local macro_rules | `(tactic| walk_at "call ref") => `(tactic| (k_dflt (refine' Con.use (con_ld _ _ _ _ _ _ _ ?c1 ?c2 ?c3 _ _) ?k1 ?k2 ?k3 ?k4 ?k5 ?k6 ?k7 ?k8 ?_; (case k1 => k_asm); (case k2 => k_asm); (case k3 => k_asm); (case k4 => k_asm); (case k5 => k_asm); (case k6 => exact rfl); (case k7 => first | omega | ktr_room); (case k8 => first | omega | ktr_units); (case c1 => omega); (case c2 => omega); (case c3 => omega)); intro r9 news9 h9 tk9 hP9 F9 N9; obtain ⟨t9, hr9, hn9⟩ := hP9; subst hr9 hn9; (try dsimp only); (try k_sweep)))

theorem con_pf (w : World) (mean : ExcName → Option Value) (mg mb : Map) (news : Led) (n : Nat) (hn : n ≤ 10400600) (hn1 : 1 ≤ n) (t : Tok) :
    Con w mean mg mb 35 2 [.int n t] news (fun r news' => ∃ l vs c tl, r = .ref l ∧ DatAll tl vs ((pf n).map prD) ∧ news' = (l, listOf vs.toArray c) :: (tl ++ news) ∧ AllLt l news ∧ ∀ p ∈ tl, @LT.lt Nat _ l p.1) := by
  unfold Con
  intro dp un gd cn cs a ccd cl outer A₀ base h₀ L m s Q E B F X N T hk hd hu hret
  refine wpAny_call ?_
  k_dflt cell_enter
  k_steps
  refine Hold.out ?_
  rename Fr _ _ _ _ => F1
  rename News _ _ _ _ => N1
  rename ∀ p ∈ news, _ => hlt
  replace N1 := drop1 N1
  with_unfolding_all refine' while_inv (fun k m nx => ∃ (l : Addr) (vs : List Value) (c : Nat) (tl : Led) (x b : Nat) (pre : List (Nat × Nat)) (t1 t2 : Tok), Knows m [(Str.ofString "n", .int x t1), (Str.ofString "prime", .int b t2), (Str.ofString "found", .ref l)] ∧ DatAll tl vs (pre.map prD) ∧ nx = (l, listOf vs.toArray c) :: (tl ++ news) ∧ AllLt l news ∧ (∀ p ∈ tl, @LT.lt Nat _ l p.1) ∧ 1 ≤ x ∧ x < 2 ^ k ∧ 2 ≤ b ∧ b ≤ 10400602 ∧ x ≤ 10400600 ∧ pre.length + k ≤ 24 ∧ pre ++ pfL k x b = pf n) (n₀ := 24) F1 N1 ?_ ?_
  · exact ⟨_, [], 0, [], n, 2, [], _, _, .cons rfl (.cons rfl (.cons rfl .nil)), .nil, rfl, allLt_of hlt, (fun _ h => nomatch h), hn1, by omega, by omega, by omega, hn, by decide, rfl⟩
  · rintro k m₁ nx h tk F3 N3 ⟨l, vs, c, tl, x, b, pre, t1, t2, e1, hv, rfl, hl, htl, hx1, hxk, hb2, hb3, hx2, hpk, hpf⟩
    have F4 := knows F3 e1
    dsimp only [kstB] at F4
    clear F3 F1 N1
    have hvl := hv.length
    have hl2 := ltNe hl
    k_steps
    · refine Hold.out ?_
      rename Fr _ _ _ _ => F1
      rename News _ _ _ _ => N1
      replace N1 := drop1 N1
      have hx : 2 ≤ x := by omega
      obtain ⟨hp2, hpx, hpd⟩ := ld_spec (b := b) hx hb2
      obtain ⟨k', rfl⟩ : ∃ k', k = k' + 1 := by
        cases k with
        | zero => exact absurd hxk (by simp; omega)
        | succ k => exact ⟨k, rfl⟩
      with_unfolding_all refine' while_inv (fun j m nx => ∃ (y q : Nat) (t1 t2 t3 : Tok), Knows m [(Str.ofString "n", .int y t1), (Str.ofString "prime", .int (ld x b : Nat) t2), (Str.ofString "many", .int q t3), (Str.ofString "found", .ref l)] ∧ nx = (l, listOf vs.toArray c) :: (tl ++ news) ∧ 1 ≤ y ∧ y < 2 ^ j ∧ y ≤ x ∧ dvL (ld x b) j y q = dvL (ld x b) 24 x 0) (n₀ := 24) F1 N1 ?_ ?_
      · exact ⟨x, 0, _, _, _, .cons rfl (.cons rfl (.cons rfl (.cons rfl .nil))), rfl, hx1, by omega, by omega, rfl⟩
      · rintro j m₂ nx h' tk' F5 N5 ⟨y, q, t3, t4, t5, e2, rfl, hy1, hyj, hyx, hdv⟩
        have F6 := knows F5 e2
        dsimp only [kstB] at F6
        clear F5 F1 N1
        have htn : ∀ p ∈ tl ++ news, p.1 ≠ l := List.forall_mem_append.mpr ⟨fun p hp => Nat.ne_of_gt (htl p hp), hl2⟩
        have hdl := hv.length
        simp only [List.length_map] at hdl
        k_steps
        · have hmod : y % ld x b = 0 := by
            rename Int.fmod (y : Int) _ = 0 => hz
            rw [fmodN] at hz
            omega
          obtain ⟨j', rfl⟩ : ∃ j', j = j' + 1 := by
            cases j with
            | zero => exact absurd hyj (by simp; omega)
            | succ j => exact ⟨j, rfl⟩
          rename Fr _ _ _ _ => F9
          rename News _ _ _ _ => N9
          simp only [fdivN] at F9
          rw [dvL_hit hmod] at hdv
          obtain ⟨d1, d2⟩ := dv_dec hp2 hy1 hmod hyj
          have d3 := Nat.div_le_self y (ld x b)
          exact ⟨_, _, _, _, j', rfl, F9, drop1 N9, Nat.lt_succ_self _, y / ld x b, q + 1, _, _, _, .cons rfl (.cons rfl (.cons rfl (.cons rfl .nil))), rfl, d1, d2, by omega, hdv⟩
        all_goals (
          have hmod : ¬ y % ld x b = 0 := by
            rename ¬ Int.fmod (y : Int) _ = 0 => hz
            rw [fmodN] at hz
            omega
          rw [dvL_end hmod] at hdv
          have hx2' := dv_dec hp2 hx1 hpd hxk
          have hy2 : y < 2 ^ k' := by
            have := (dvL_spec hp2 23 (x / ld x b) 1 k' hx2'.1 hx2'.2).1
            rw [show dvL (ld x b) 24 x 0 = dvL (ld x b) 23 (x / ld x b) 1 from dvL_hit hpd] at hdv
            rw [← hdv] at this
            exact this
          rename Fr _ _ _ _ => F9
          rename News _ _ _ _ => N9
          rename _ ∧ AllLt _ (tl ++ news) => hD
          simp only [List.push_toArray] at N9
          rw [pfL, if_pos (by omega), ← hdv] at hpf)
        · have h2 : ld x b = 2 := by omega
          rw [if_pos h2] at hpf
          refine ⟨_, _, _, _, k', rfl, F9, swap1 N9, Nat.lt_succ_self _, l, _, _, _ :: tl, y, 3, pre ++ [(ld x b, q)], _, _, .cons rfl (.cons rfl (.cons rfl .nil)), ?_, rfl, hl, ?_, hy1, hy2, by omega, by omega, by omega, ?_, by rw [List.append_assoc]; exact hpf⟩
          · rw [List.map_append]
            exact (hv.mono fun p hp => .tail _ hp).append (DatAll.one (.tuple (vs := [_, _]) (.head _) (.cons (.int _ _) (.cons (.int _ _) .nil))))
          · exact List.forall_mem_cons.mpr ⟨hD.1, htl⟩
          · rw [List.length_append]; show _ + 1 + _ ≤ _; omega
        · have h2 : ¬ ld x b = 2 := by omega
          rw [if_neg h2] at hpf
          refine ⟨_, _, _, _, k', rfl, F9, swap1 N9, Nat.lt_succ_self _, l, _, _, _ :: tl, y, ld x b + 2, pre ++ [(ld x b, q)], _, _, .cons rfl (.cons rfl (.cons rfl .nil)), ?_, rfl, hl, ?_, hy1, hy2, by omega, by omega, by omega, ?_, by rw [List.append_assoc]; exact hpf⟩
          · rw [List.map_append]
            exact (hv.mono fun p hp => .tail _ hp).append (DatAll.one (.tuple (vs := [_, _]) (.head _) (.cons (.int _ _) (.cons (.int _ _) .nil))))
          · exact List.forall_mem_cons.mpr ⟨hD.1, htl⟩
          · rw [List.length_append]; show _ + 1 + _ ≤ _; omega
    · have hx : ¬ 1 < x := by omega
      have hz : pfL k x b = [] := by cases k <;> simp [pfL, hx]
      rw [hz, List.append_nil] at hpf
      subst hpf
      exact hret _ _ _ _ ⟨l, vs, c, tl, rfl, hv, rfl, hl, htl⟩ (by assumption) (by assumption)
end PartC5

section PartC6
theorem cleanC6 : True := by
  w_top off
  trivial
local macro_rules | `(tactic| walk_at "exec For Name Call cons nil") => `(tactic| refine hold ?_)
local macro_rules | `(tactic| walk_at "exec For Tuple Call cons nil") => `(tactic| refine hold ?_)
local macro_rules | `(tactic| walk_at "exec While Compare cons nil") => `(tactic| refine hold ?_)
local macro_rules | `(tactic| walk_at "exec While BoolOp cons nil") => `(tactic| refine hold ?_)
local macro_rules | `(tactic| walk_at "pyIter ref") => `(tactic| refine hold ?_)
local macro_rules | `(tactic| walk_at "call type:enumerate") => `(tactic| refine hold ?_)
local macro_rules | `(tactic| walk_at "TPost") => `(tactic| dsimp only [TPost])
local macro_rules | `(tactic| walk_at "WPost") => `(tactic| dsimp only [WPost])
local macro_rules | `(tactic| walk_at "subscriptTail Name Name ref int") => `(tactic| (k_dflt (refine' ksa_sub ?k1 ?k2 ?k3 ?k4 ?k5 ?k6 ?_ ?k7; (case k1 => k_asm); (case k2 => first | assumption | k_mem); (case k3 => with_reducible assumption); (case k4 => omega); (case k5 => omega); (case k6 => omega); (case k7 => with_unfolding_all rfl)); intro _))
local macro_rules | `(tactic| walk_at "subscriptTail Name BinOp ref int") => `(tactic| (k_dflt (refine' ksa_sub ?k1 ?k2 ?k3 ?k4 ?k5 ?k6 ?_ ?k7; (case k1 => k_asm); (case k2 => first | assumption | k_mem); (case k3 => with_reducible assumption); (case k4 => omega); (case k5 => omega); (case k6 => omega); (case k7 => with_unfolding_all rfl)); intro _))
local macro_rules | `(tactic| walk_at "call builtin:len") => `(tactic| ((with_reducible show wpAny _ _ (call (Value.builtin "len") [Value.ref _]) _ _ _); k_dflt (refine' kst_len ?k1 ?k2 ?k3 ?k4 ?_; (case k1 => k_asm); (case k2 => first | assumption | k_mem); (case k3 => exact IntsAre.length (by assumption)); (case k4 => omega))))
local macro_rules | `(tactic| k_all) => `(tactic| assumption)
def trN (ns : List Int) : Nat → Nat
  | 0 => 0
  | m + 1 => if ns.getD m 0 = 0 then trN ns m else m + 1
def trimL (ns : List Int) : List Int := ns.take (trN ns ns.length)
theorem trN_le (ns : List Int) : ∀ m, trN ns m ≤ m
  | 0 => Nat.le_refl _
  | m + 1 => by
    unfold trN
    split
    · exact Nat.le_succ_of_le (trN_le ns m)
    · exact Nat.le_refl _

theorem con_mtrim (w : World) (mean : ExcName → Option Value) (mg mb : Map) (news : Led) (l : Addr) (vs : List Value) (c : Nat) (ns : List Int) (hm : (l, listOf vs.toArray c) ∈ news) (hv : IntsAre vs ns) (hn : ns.length ≤ 1000) :
    Con w mean mg mb 42 1 [.ref l] news (fun r news' => ∃ l vs c, r = .ref l ∧ IntsAre vs (trimL ns) ∧ news' = (l, listOf vs.toArray c) :: news ∧ AllLt l news) := by
  unfold Con
  intro dp un gd cn cs a ccd cl outer A₀ base h₀ L m s Q E B F X N T hk hd hu hret
  have hvl := hv.length
  refine wpAny_call ?_
  k_dflt cell_enter
  k_steps
  refine Hold.out ?_
  rename Fr _ _ _ _ => F1
  rename News _ _ _ _ => N1
  with_unfolding_all refine' while_inv (fun k m nx => ∃ (t1 : Tok), Knows m [(Str.ofString "a", .ref l), (Str.ofString "many", .int (k : Nat) t1)] ∧ nx = news ∧ k ≤ ns.length ∧ trN ns k = trN ns ns.length) (n₀ := ns.length) F1 N1 ?_ ?_
  · exact ⟨_, .cons rfl (.cons rfl .nil), rfl, Nat.le_refl _, rfl⟩
  · rintro k m₁ nx h tk F3 N3 ⟨t1, e1, rfl, hk1, hk2⟩
    have F4 := knows F3 e1
    dsimp only [kstB] at F4
    clear F3 F1 N1
    k_steps
    · have hk0 : 0 < k := by omega
      obtain ⟨k', rfl⟩ : ∃ k', k = k' + 1 := ⟨k - 1, by omega⟩
      have hz : ns.getD k' 0 = 0 := by
        rename ns.getD _ 0 = 0 => hz
        rw [show (((k' + 1 : Nat) : Int) - 1).toNat = k' by omega] at hz
        exact hz
      rename Fr _ _ _ _ => F9
      rename News _ _ _ _ => N9
      rw [show (((k' + 1 : Nat) : Int) - 1) = (k' : Int) by omega] at F9
      rw [trN, if_pos hz] at hk2
      exact ⟨_, _, _, _, k', rfl, F9, N9, Nat.lt_succ_self _, _, .cons rfl (.cons rfl .nil), rfl, by omega, hk2⟩
    · have hk0 : 0 < k := by omega
      obtain ⟨k', rfl⟩ : ∃ k', k = k' + 1 := ⟨k - 1, by omega⟩
      have hz : ¬ ns.getD k' 0 = 0 := by
        rename ns.getD _ 0 ≠ 0 => hz
        rw [show (((k' + 1 : Nat) : Int) - 1).toNat = k' by omega] at hz
        exact hz
      rename News _ _ _ _ => N9
      rename IntsAre _ (List.take _ ns) => hI
      rename _ ∧ AllLt _ nx => hD
      rw [trN, if_neg hz] at hk2
      rw [Int.toNat_natCast, hk2] at hI
      exact hret _ _ _ _ ⟨_, _, _, rfl, hI, rfl, hD.2⟩ (by assumption) (drop2 N9)
    · have hk0 : k = 0 := by omega
      subst hk0
      rename News _ _ _ _ => N9
      rename IntsAre _ (List.take _ ns) => hI
      rename _ ∧ AllLt _ nx => hD
      rw [Int.toNat_natCast, show 0 = trN ns 0 from rfl, hk2] at hI
      exact hret _ _ _ _ ⟨_, _, _, rfl, hI, rfl, hD.2⟩ (by assumption) (drop2 N9)
end PartC6

section PartC7
theorem cleanC7 : True := by
  w_top off
  trivial
local macro_rules | `(tactic| walk_at "exec For Name Call cons nil") => `(tactic| refine hold ?_)
local macro_rules | `(tactic| walk_at "exec For Tuple Call cons nil") => `(tactic| refine hold ?_)
local macro_rules | `(tactic| walk_at "exec While Compare cons nil") => `(tactic| refine hold ?_)
local macro_rules | `(tactic| walk_at "exec While BoolOp cons nil") => `(tactic| refine hold ?_)
local macro_rules | `(tactic| walk_at "pyIter ref") => `(tactic| refine hold ?_)
local macro_rules | `(tactic| walk_at "call type:enumerate") => `(tactic| refine hold ?_)
local macro_rules | `(tactic| walk_at "TPost") => `(tactic| dsimp only [TPost])
local macro_rules | `(tactic| walk_at "WPost") => `(tactic| dsimp only [WPost])
local macro_rules | `(tactic| walk_at "subscriptTail Name Name ref int") => `(tactic| (k_dflt (refine' ksa_sub ?k1 ?k2 ?k3 ?k4 ?k5 ?k6 ?_ ?k7; (case k1 => k_asm); (case k2 => first | assumption | k_mem); (case k3 => with_reducible assumption); (case k4 => omega); (case k5 => omega); (case k6 => omega); (case k7 => with_unfolding_all rfl)); intro _))
local macro_rules | `(tactic| walk_at "subscriptTail Name BinOp ref int") => `(tactic| (k_dflt (refine' ksa_sub ?k1 ?k2 ?k3 ?k4 ?k5 ?k6 ?_ ?k7; (case k1 => k_asm); (case k2 => first | assumption | k_mem); (case k3 => with_reducible assumption); (case k4 => omega); (case k5 => omega); (case k6 => omega); (case k7 => with_unfolding_all rfl)); intro _))
local macro_rules | `(tactic| walk_at "call builtin:len") => `(tactic| ((with_reducible show wpAny _ _ (call (Value.builtin "len") [Value.ref _]) _ _ _); k_dflt (refine' kst_len ?k1 ?k2 ?k3 ?k4 ?_; (case k1 => k_asm); (case k2 => first | assumption | k_mem); (case k3 => exact IntsAre.length (by assumption)); (case k4 => omega))))
local macro_rules | `(tactic| k_all) => `(tactic| assumption)
local macro_rules | `(tactic| walk_at "call ref") => `(tactic| (k_dflt (refine' Con.use (con_mtrim _ _ _ _ _ _ _ _ _ ?c1 ?c2 ?c3) ?k1 ?k2 ?k3 ?k4 ?k5 ?k6 ?k7 ?k8 ?_; (case k1 => k_asm); (case k2 => k_asm); (case k3 => k_asm); (case k4 => k_asm); (case k5 => k_asm); (case k6 => exact rfl); (case k7 => first | omega | ktr_room); (case k8 => first | omega | ktr_units); (case c1 => first | assumption | k_mem); (case c2 => assumption); (case c3 => ((try simp only [List.length_map]); omega))); intro r9 news9 h9 tk9 hP9 F9 N9; obtain ⟨l9, vs9, c9, hr9, hi9, hn9, hl9⟩ := hP9; subst hr9 hn9; (try dsimp only); (try k_sweep)))
local macro_rules | `(tactic| walk_at "CompSrc") => `(tactic| (refine hold ?_))
local macro_rules | `(tactic| walk_at "mine:enterC") => `(tactic| (refine' code_defC ?k1 ?k2 ?k3 ?k4 ?k5 ?kA ?kF ?kK ?k6 ?k7 ?k8 ?k9 ?kB ?kD ?_ ?c2 ?c3 ?c4; (case kA => exact rfl); (case kF => exact rfl); (case kK => assumption); (case k1 => k_asm); (case k2 => k_asm); (case k3 => k_asm); (case k4 => k_asm); (case k5 => k_asm); (case k6 => k_is); (case k7 => k_is); (case k8 => ktr_room); (case k9 => exact BindsTo.of_eq rfl); (case kB => exact rfl); (case kD => decide +kernel); (case c2 => exact rfl); (case c3 => exact rfl); (case c4 => exact rfl); k_whole; intro g' L' h' tk' cells' FG' F' N' Y' B' X' T' l1; (replace l1 := allLt_of l1); k_cells Y'; (try simp only [List.cons_append, List.nil_append] at N'); (try dsimp only); (try k_fold)))
theorem con_mreduce (w : World) (mean : ExcName → Option Value) (mg mb : Map) (news : Led) (l : Addr) (vs : List Value) (c : Nat) (ns : List Int) (hm : (l, listOf vs.toArray c) ∈ news) (hv : IntsAre vs ns) (hn : ns.length ≤ 1000) (p : Nat) (hp : 2 ≤ p) (hp' : p ≤ 26) (u : Tok) :
    Con w mean mg mb 47 2 [.ref l, .int p u] news (fun r news' => ∃ l vs c, r = .ref l ∧ IntsAre vs (trimL (ns.map fun x => Int.fmod x p)) ∧ news' = (l, listOf vs.toArray c) :: news ∧ AllLt l news) := by
  unfold Con
  intro dp un gd cn cs a ccd cl outer A₀ base h₀ L m s Q E B F X N T hk hd hu hret
  have hvl := hv.length
  refine wpAny_call ?_
  k_dflt (walk_at "mine:enterC")
  k_steps
  refine Hold.out ?_
  rename News _ _ _ _ => N1
  refine LCg.CompSrc.ledger (by rfl) (by k_asm) N1 (.tail _ hm) (by rw [PySem.sizeLine_eq]; simp only [List.size_toArray]; omega) ?_
  intro g9
  refine' kcf_list (fun x => Int.fmod x p) hv (fun k t I oI C oC D m2 ys h tk E2 hk2 hC hx F2 N2 off ne hMark => ?_) ?_
  · k_steps
    exact LCg.CompEnd.intro (by assumption) (by assumption) _ (fun _ hp => hp) off (.inr ⟨_, .tail _ hm, rfl, _, rfl⟩) (kcf_el rfl rfl rfl)
  · k_steps
    rename News _ _ _ _ => N9
    rename IntsAre _ (trimL _) => hI
    rename AllLt _ (_ :: _ :: news) => hD
    exact hret _ _ _ _ ⟨_, _, _, rfl, hI, rfl, hD.2.2⟩ (by assumption) (drop2 (drop2 N9))
end PartC7

section PartC8
theorem cleanC8 : True := by
  w_top off
  trivial
local macro_rules | `(tactic| walk_at "exec For Name Call cons nil") => `(tactic| refine hold ?_)
local macro_rules | `(tactic| walk_at "exec For Tuple Call cons nil") => `(tactic| refine hold ?_)
local macro_rules | `(tactic| walk_at "exec While Compare cons nil") => `(tactic| refine hold ?_)
local macro_rules | `(tactic| walk_at "exec While BoolOp cons nil") => `(tactic| refine hold ?_)
local macro_rules | `(tactic| walk_at "pyIter ref") => `(tactic| refine hold ?_)
local macro_rules | `(tactic| walk_at "call type:enumerate") => `(tactic| refine hold ?_)
local macro_rules | `(tactic| walk_at "TPost") => `(tactic| dsimp only [TPost])
local macro_rules | `(tactic| walk_at "WPost") => `(tactic| dsimp only [WPost])
local macro_rules | `(tactic| walk_at "mine:mem") => `(tactic| first | assumption | exact List.Mem.head _ | (refine' List.Mem.tail _ ?_; walk_at "mine:mem"))
local macro_rules | `(tactic| walk_at "subscriptTail Name Name ref int") => `(tactic| (k_dflt (refine' ksa_sub ?k1 ?k2 ?k3 ?k4 ?k5 ?k6 ?_ ?k7; (case k1 => k_asm); (case k2 => walk_at "mine:mem"); (case k3 => with_reducible assumption); (case k4 => omega); (case k5 => omega); (case k6 => omega); (case k7 => with_unfolding_all rfl)); intro _))
local macro_rules | `(tactic| walk_at "subscriptTail Name BinOp ref int") => `(tactic| (k_dflt (refine' ksa_sub ?k1 ?k2 ?k3 ?k4 ?k5 ?k6 ?_ ?k7; (case k1 => k_asm); (case k2 => walk_at "mine:mem"); (case k3 => with_reducible assumption); (case k4 => omega); (case k5 => omega); (case k6 => omega); (case k7 => with_unfolding_all rfl)); intro _))
local macro_rules | `(tactic| walk_at "call builtin:len") => `(tactic| ((with_reducible show wpAny _ _ (call (Value.builtin "len") [Value.ref _]) _ _ _); k_dflt (refine' kst_len ?k1 ?k2 ?k3 ?k4 ?_; (case k1 => k_asm); (case k2 => walk_at "mine:mem"); (case k3 => exact IntsAre.length (by assumption)); (case k4 => omega))))
local macro_rules | `(tactic| k_all) => `(tactic| assumption)
local macro_rules | `(tactic| walk_at "call ref") => `(tactic| (k_dflt (refine' Con.use (con_mtrim _ _ _ _ _ _ _ _ _ ?c1 ?c2 ?c3) ?k1 ?k2 ?k3 ?k4 ?k5 ?k6 ?k7 ?k8 ?_; (case k1 => k_asm); (case k2 => k_asm); (case k3 => k_asm); (case k4 => k_asm); (case k5 => k_asm); (case k6 => exact rfl); (case k7 => first | omega | ktr_room); (case k8 => first | omega | ktr_units); (case c1 => walk_at "mine:mem"); (case c2 => assumption); (case c3 => ((try simp only [List.length_map]); omega))); intro r9 news9 h9 tk9 hP9 F9 N9; obtain ⟨l9, vs9, c9, hr9, hi9, hn9, hl9⟩ := hP9; subst hr9 hn9; (try dsimp only); (try k_sweep)))
def mmStep (p : Nat) (x : Int) (nb : List Int) (i : Nat) (f : List Int) (j : Nat) : List Int := f.set (i + j) (Int.fmod (f.getD (i + j) 0 + x * nb.getD j 0) p)
def mmIn (p : Nat) (x : Int) (nb : List Int) (i : Nat) (f : List Int) (j : Nat) : List Int := (List.range j).foldl (mmStep p x nb i) f
def mmRow (p : Nat) (na nb : List Int) (f : List Int) (i : Nat) : List Int := if na.getD i 0 ≠ 0 then mmIn p (na.getD i 0) nb i f nb.length else f
def mmOut (p : Nat) (na nb : List Int) (i : Nat) : List Int := (List.range i).foldl (mmRow p na nb) (List.replicate (na.length + nb.length - 1) 0)
def mmulL (p : Nat) (na nb : List Int) : List Int := trimL (mmOut p na nb na.length)

theorem mmIn_succ (p : Nat) (x : Int) (nb : List Int) (i : Nat) (f : List Int) (j : Nat) : mmIn p x nb i f (j + 1) = mmStep p x nb i (mmIn p x nb i f j) j := by
  simp [mmIn, List.range_succ]
theorem mmIn_len (p : Nat) (x : Int) (nb : List Int) (i : Nat) (f : List Int) (j : Nat) : (mmIn p x nb i f j).length = f.length := by
  induction j with
  | zero => rfl
  | succ j ih => rw [mmIn_succ, mmStep, List.length_set, ih]
theorem mmOut_succ (p : Nat) (na nb : List Int) (i : Nat) : mmOut p na nb (i + 1) = mmRow p na nb (mmOut p na nb i) i := by
  simp [mmOut, List.range_succ]
theorem mmOut_len (p : Nat) (na nb : List Int) (i : Nat) : (mmOut p na nb i).length = na.length + nb.length - 1 := by
  induction i with
  | zero => simp [mmOut]
  | succ i ih => rw [mmOut_succ, mmRow]; split; rw [mmIn_len, ih]; exact ih

theorem con_mmul (w : World) (mean : ExcName → Option Value) (mg mb : Map) (news : Led) (la lb : Addr) (va vb : List Value) (ca cb : Nat) (na nb : List Int) (hma : (la, listOf va.toArray ca) ∈ news) (hmb : (lb, listOf vb.toArray cb) ∈ news)
    (hva : IntsAre va na) (hvb : IntsAre vb nb) (hna1 : 1 ≤ na.length) (hna : na.length ≤ 100) (hnb1 : 1 ≤ nb.length) (hnb : nb.length ≤ 100) (hba : ∀ x ∈ na, 0 ≤ x ∧ x < 1000) (p : Nat) (hp : 2 ≤ p) (hp' : p ≤ 26) (u : Tok) :
    Con w mean mg mb 54 2 [.ref la, .ref lb, .int p u] news (fun r news' => ∃ l vs c, r = .ref l ∧ IntsAre vs (mmulL p na nb) ∧ news' = (l, listOf vs.toArray c) :: news ∧ AllLt l news) := by
  unfold Con
  intro dp un gd cn cs a ccd cl outer A₀ base h₀ L m s Q E B F X N T hk hd hu hret
  have hla := hva.length
  have hlb := hvb.length
  refine wpAny_call ?_
  k_dflt cell_enter
  k_steps
  · exfalso; omega
  · exfalso; omega
  refine Hold.out ?_
  rename Fr _ _ _ _ => F1
  rename _ ∧ AllLt _ news => hD
  with_unfolding_all refine' For_turns F1 ?_
  k_steps
  refine Hold.out ?_
  rename Fr _ _ _ _ => F2
  rename News _ _ _ _ => N2
  with_unfolding_all refine' turns_enum (ax := la) (vs := va) (c := ca) (fun i m nx => ∃ (l : Addr) (vs : List Value) (c : Nat) (t : Tok), Knows m [(Str.ofString "a", .ref la), (Str.ofString "b", .ref lb), (Str.ofString "p", .int p t), (Str.ofString "found", .ref l)] ∧ IntsAre vs (mmOut p na nb i) ∧ nx = (l, listOf vs.toArray c) :: news ∧ AllLt l news) (.tail _ hma) F2 (drop2 N2) ?_ ?_ ?_ ?_
  · refine ⟨_, _, 0, _, .cons rfl (.cons rfl (.cons rfl (.cons rfl .nil))), ?_, rfl, hD.2⟩
    have e9 : ((na.length : Int) + (nb.length : Int) - 1).toNat = na.length + nb.length - 1 := by omega
    rw [e9]
    exact ints_rep _ _
  · rintro i m nx ⟨l, vs, c, t, _, _, rfl, _⟩
    exact .tail _ hma
  · rintro i v T t I₁ I₂ o₁ o₂ m₁ nx h tk hvi hT ⟨l, vs, c, t', e1, hv, rfl, hl⟩ hoff F3 N3 hI
    obtain ⟨hi, tx, rfl⟩ := ints_at hva hvi
    have hx := hba _ (getD_mem hi)
    have hx1 := hx.1
    have hx2 := hx.2
    have F4 := knows F3 e1
    dsimp only [kstB] at F4
    clear F3 F2 N2
    have hvl := hv.length
    rw [mmOut_len] at hvl
    have hI1 : @Ne Nat l I₁ := (hoff _ (List.mem_cons_self ..)).1
    have hI2 : @Ne Nat l I₂ := (hoff _ (List.mem_cons_self ..)).2
    have hl2 := ltNe hl
    k_steps
    · refine Hold.out ?_
      have hne : na.getD i 0 ≠ 0 := by assumption
      rename Fr _ _ _ _ => F1
      with_unfolding_all refine' For_turns F1 ?_
      k_steps
      refine Hold.out ?_
      rename Fr _ _ _ _ => F2
      rename News _ _ _ _ => N2
      with_unfolding_all refine' turns_enum (ax := lb) (vs := vb) (c := cb) (fun j m nx => ∃ (vs : List Value) (c : Nat) (t1 t2 t3 : Tok), Knows m [(Str.ofString "a", .ref la), (Str.ofString "b", .ref lb), (Str.ofString "p", .int p t1), (Str.ofString "found", .ref l), (Str.ofString "at", .int i t2), (Str.ofString "one", .int (na.getD i 0) t3)] ∧ IntsAre vs (mmIn p (na.getD i 0) nb i (mmOut p na nb i) j) ∧ nx = (I₁, o₁) :: (I₂, o₂) :: (l, listOf vs.toArray c) :: news) (.tail _ (.tail _ (.tail _ hmb))) F2 N2 ?_ ?_ ?_ ?_
      · exact ⟨_, _, _, _, _, .cons rfl (.cons rfl (.cons rfl (.cons rfl (.cons rfl (.cons rfl .nil))))), hv, rfl⟩
      · rintro j m nx ⟨_, _, _, _, _, _, _, rfl⟩
        exact .tail _ (.tail _ (.tail _ hmb))
      · rintro j v T2 t5 J₁ J₂ p₁ p₂ m₂ nx h' tk' hvj hT2 ⟨ws, c', t6, t7, t8, e2, hw, rfl⟩ hoff2 F5 N5 hJ
        obtain ⟨hj, tz, rfl⟩ := ints_at hvb hvj
        have F6 := knows F5 e2
        dsimp only [kstB] at F6
        clear F5 F2 N2
        have hwl := hw.length
        rw [mmIn_len, mmOut_len] at hwl
        have hml := mmIn_len p (na.getD i 0) nb i (mmOut p na nb i) j
        rw [mmOut_len] at hml
        have hJ1 : @Ne Nat l J₁ := (hoff2 _ (.tail _ (.tail _ (.head _)))).1
        have hJ2 : @Ne Nat l J₂ := (hoff2 _ (.tail _ (.tail _ (.head _)))).2
        k_steps
        rename Fr _ _ _ _ => F9
        rename News _ _ _ _ => N9
        have e9 : ((i : Int) + (j : Int)).toNat = i + j := by omega
        rw [e9] at N9
        refine ⟨_, _, _, _, rfl, F9, N9, off2 (List.forall_mem_cons.mpr ⟨hoff2 _ (.head _), List.forall_mem_cons.mpr ⟨hoff2 _ (.tail _ (.head _)), List.forall_mem_cons.mpr ⟨⟨hJ1, hJ2⟩, fun p hp => hoff2 p (.tail _ (.tail _ (.tail _ hp)))⟩⟩⟩), _, _, _, _, _, .cons rfl (.cons rfl (.cons rfl (.cons rfl (.cons rfl (.cons rfl .nil))))), ?_, rfl⟩
        rw [mmIn_succ, mmStep]
        exact ints_set hw _
      · rintro h' tk' m₂ nx ⟨ws, c', t6, t7, t8, e2, hw, rfl⟩ F5 N5
        have F6 := knows F5 e2
        dsimp only [kstB] at F6
        clear F5 F2 N2
        k_steps
        rename Fr _ _ _ _ => F9
        rename News _ _ _ _ => N9
        refine ⟨_, _, _, _, rfl, F9, N9, off2 (List.forall_mem_cons.mpr ⟨⟨hI1, hI2⟩, fun p hp => hoff p (.tail _ hp)⟩), l, ws, c', _, .cons rfl (.cons rfl (.cons rfl (.cons rfl .nil))), ?_, rfl, hl⟩
        rw [mmOut_succ, mmRow, if_pos hne, ← hlb]
        exact hw
    · have hne : na.getD i 0 = 0 := by assumption
      rename Fr _ _ _ _ => F9
      rename News _ _ _ _ => N9
      refine ⟨_, _, _, _, rfl, F9, N9, off2 (List.forall_mem_cons.mpr ⟨⟨hI1, hI2⟩, fun p hp => hoff p (.tail _ hp)⟩), l, vs, c, _, .cons rfl (.cons rfl (.cons rfl (.cons rfl .nil))), ?_, rfl, hl⟩
      rw [mmOut_succ, mmRow, if_neg (fun h => h hne)]
      exact hv
  · rintro h tk m₁ nx ⟨l, vs, c, t', e1, hv, rfl, hl⟩ F3 N3
    have F4 := knows F3 e1
    dsimp only [kstB] at F4
    have hvl := hv.length
    rw [hla, mmOut_len] at hvl
    have hml := mmOut_len p na nb va.length
    clear F3 F2 N2
    k_steps
    rename News _ _ _ _ => N9
    rename IntsAre _ (trimL _) => hI
    rename AllLt _ (_ :: news) => hD
    rw [hla] at hI
    exact hret _ _ _ _ ⟨_, _, _, rfl, hI, rfl, hD.2⟩ (by assumption) (drop2 N9)
end PartC8

section PartFast
/-- the same product, a row at a time: what the kernel is to reckon -/
def addTo (p : Nat) (x : Int) : List Int → List Int → List Int
  | a :: f, b :: nb => Int.fmod (a + x * b) p :: addTo p x f nb
  | [], _ => []
  | a :: f, [] => a :: f
theorem addTo_nil (p : Nat) (x : Int) (f : List Int) : addTo p x f [] = f := by cases f <;> rfl
theorem addTo_step (p : Nat) (x : Int) : ∀ (j : Nat) (f nb : List Int), j < f.length → j < nb.length →
    addTo p x f (nb.take (j + 1)) = (addTo p x f (nb.take j)).set j (Int.fmod ((addTo p x f (nb.take j)).getD j 0 + x * nb.getD j 0) p)
  | _, [], _, h, _ => absurd h (Nat.not_lt_zero _)
  | _, _ :: _, [], _, h => absurd h (Nat.not_lt_zero _)
  | 0, a :: f, b :: nb, _, _ => by
    simp [addTo, addTo_nil]
  | j + 1, a :: f, b :: nb, h1, h2 => by
    have ih := addTo_step p x j f nb (Nat.lt_of_succ_lt_succ h1) (Nat.lt_of_succ_lt_succ h2)
    rw [List.take_succ_cons, List.take_succ_cons, addTo, addTo, ih]
    rfl
theorem mmIn_fast (p : Nat) (x : Int) (nb : List Int) (i : Nat) (f : List Int) : ∀ j, j ≤ nb.length → i + j ≤ f.length → mmIn p x nb i f j = f.take i ++ addTo p x (f.drop i) (nb.take j)
  | 0, _, _ => by rw [List.take_zero, addTo_nil, List.take_append_drop]; rfl
  | j + 1, h1, h2 => by
    have ih := mmIn_fast p x nb i f j (by omega) (by omega)
    have hl : (f.take i).length = i := by rw [List.length_take]; omega
    have hg : ∀ g : List Int, (f.take i ++ g).getD (i + j) 0 = g.getD j 0 := fun g => by
      rw [List.getD_eq_getElem?_getD, List.getElem?_append_right (by omega), hl, Nat.add_sub_cancel_left, ← List.getD_eq_getElem?_getD]
    rw [mmIn_succ, mmStep, ih, hg, List.set_append_right _ _ (by omega), hl, Nat.add_sub_cancel_left, ← addTo_step p x j _ _ (by rw [List.length_drop]; omega) (by omega)]
def mmRowF (p : Nat) (na nb : List Int) (f : List Int) (i : Nat) : List Int := if na.getD i 0 ≠ 0 then f.take i ++ addTo p (na.getD i 0) (f.drop i) nb else f
def mmOutF (p : Nat) (na nb : List Int) (i : Nat) : List Int := (List.range i).foldl (mmRowF p na nb) (List.replicate (na.length + nb.length - 1) 0)
def mmulF (p : Nat) (na nb : List Int) : List Int := trimL (mmOutF p na nb na.length)
theorem mmOut_fast (p : Nat) (na nb : List Int) : ∀ i, i ≤ na.length → mmOut p na nb i = mmOutF p na nb i
  | 0, _ => rfl
  | i + 1, h => by
    have ih := mmOut_fast p na nb i (by omega)
    have hs : mmOutF p na nb (i + 1) = mmRowF p na nb (mmOutF p na nb i) i := by simp [mmOutF, List.range_succ]
    have hl := mmOut_len p na nb i
    rw [ih] at hl
    rw [mmOut_succ, hs, ih, mmRow, mmRowF]
    split
    · rw [mmIn_fast _ _ _ _ _ _ (Nat.le_refl _) (by omega), List.take_length]
    · rfl
theorem mmul_fast : mmulL = mmulF := by
  funext p na nb
  rw [mmulL, mmulF, mmOut_fast _ _ _ _ (Nat.le_refl _)]
end PartFast

section PartC9
theorem cleanC9 : True := by
  w_top off
  trivial
local macro_rules | `(tactic| walk_at "exec For Name Call cons nil") => `(tactic| refine hold ?_)
local macro_rules | `(tactic| walk_at "exec For Tuple Call cons nil") => `(tactic| refine hold ?_)
local macro_rules | `(tactic| walk_at "exec While Compare cons nil") => `(tactic| refine hold ?_)
local macro_rules | `(tactic| walk_at "exec While BoolOp cons nil") => `(tactic| refine hold ?_)
local macro_rules | `(tactic| walk_at "pyIter ref") => `(tactic| refine hold ?_)
local macro_rules | `(tactic| walk_at "call type:enumerate") => `(tactic| refine hold ?_)
local macro_rules | `(tactic| walk_at "TPost") => `(tactic| dsimp only [TPost])
local macro_rules | `(tactic| walk_at "WPost") => `(tactic| dsimp only [WPost])
local macro_rules | `(tactic| walk_at "mine:mem") => `(tactic| first | assumption | exact List.Mem.head _ | (refine' List.Mem.tail _ ?_; walk_at "mine:mem"))
local macro_rules | `(tactic| walk_at "subscriptTail Name Name ref int") => `(tactic| (k_dflt (refine' ksa_sub ?k1 ?k2 ?k3 ?k4 ?k5 ?k6 ?_ ?k7; (case k1 => k_asm); (case k2 => walk_at "mine:mem"); (case k3 => with_reducible assumption); (case k4 => omega); (case k5 => omega); (case k6 => omega); (case k7 => with_unfolding_all rfl)); intro _))
local macro_rules | `(tactic| walk_at "subscriptTail Name BinOp ref int") => `(tactic| (k_dflt (refine' ksa_sub ?k1 ?k2 ?k3 ?k4 ?k5 ?k6 ?_ ?k7; (case k1 => k_asm); (case k2 => walk_at "mine:mem"); (case k3 => with_reducible assumption); (case k4 => omega); (case k5 => omega); (case k6 => omega); (case k7 => with_unfolding_all rfl)); intro _))
local macro_rules | `(tactic| walk_at "call builtin:len") => `(tactic| ((with_reducible show wpAny _ _ (call (Value.builtin "len") [Value.ref _]) _ _ _); k_dflt (refine' kst_len ?k1 ?k2 ?k3 ?k4 ?_; (case k1 => k_asm); (case k2 => walk_at "mine:mem"); (case k3 => exact IntsAre.length (by assumption)); (case k4 => omega))))
local macro_rules | `(tactic| k_all) => `(tactic| assumption)
theorem end_draw {Q : Value → Shared → Prop} {Y : Int} {many : Nat} {t : Tok} {S : Shared} (hm : 1 ≤ many) (k : ∀ x : Nat, x < many → Q (.int (x : Int) t) S) : Q (.int (Int.fmod Y many) t) S := by
  have h1 := fmod_lo Y (n := (many : Int)) (by omega)
  have h2 := fmod_hi Y (n := (many : Int)) (by omega)
  have e : Int.fmod Y many = ((Int.fmod Y many).toNat : Int) := by omega
  rw [e]
  exact k _ (by omega)
theorem con_draw (w : World) (mean : ExcName → Option Value) (mg mb : Map) (rest : Led) (D C : Addr) (vs : List Value) (ns : List Int) (c n spot many : Nat) (hi : IntsAre vs ns) (hns : ns.length ≤ 4) (hsp : spot ≤ 4) (hmn : 1 ≤ many) (hmn' : many ≤ 30) (hDC : @Ne Nat C D) (hr : ∀ p ∈ rest, p.1 ≠ D) (t u : Tok) :
    Con w mean mg mb 61 1 [.ref D, .int many u] ((D, listOf [.ref C, .int spot t].toArray n) :: (C, listOf vs.toArray c) :: rest)
      (fun r news' => ∃ (x : Nat) (t1 t2 : Tok), x < many ∧ r = .int x t1 ∧ news' = (D, listOf [.ref C, .int (spot + 1 : Nat) t2].toArray n) :: (C, listOf vs.toArray c) :: rest) := by
  unfold Con
  intro dp un gd cn cs a ccd cl outer A₀ base h₀ L m s Q E B F X N T hk hd hu hret
  have hvl := hi.length
  refine wpAny_call ?_
  k_dflt cell_enter
  k_steps
  · exact end_draw hmn fun x hx => hret _ _ _ _ ⟨x, _, _, hx, rfl, rfl⟩ (by assumption) (by assumption)
  · exact end_draw hmn fun x hx => hret _ _ _ _ ⟨x, _, _, hx, rfl, rfl⟩ (by assumption) (by assumption)
end PartC9

section PartLw
def lawOf : List Stmt → List Stmt × Scope
  | [.FunctionDef _ _ b _ _ _ sc _ _ _] => (b, sc)
  | _ :: r => lawOf r
  | [] => ([], { kind := .function, names := [], isGenerator := false, isCoroutine := false })
def lawBody : List Stmt := (lawOf PySem.Challenge.rw_tg0001_01.row.prog.main.body).1
def lawScope : Scope := (lawOf PySem.Challenge.rw_tg0001_01.row.prog.main.body).2
/-- the pool, its script and the cell of the law's frame -/
structure Pool (L D C : Addr) (spot : Nat) (po co oc : Obj) : Prop where
  pool : ∃ t n, po = listOf [.ref C, .int spot t].toArray n
  cells : ∃ vs ns c, co = listOf vs.toArray c ∧ IntsAre vs ns ∧ ns.length ≤ 4
  cell : ∃ v, oc.data = .cell v
  cd : @Ne Nat C D
  ld : @Ne Nat (L + 1) D
  lc : @Ne Nat (L + 1) C
theorem tor3 {h₀ h : Heap} {L : Addr} {a b c : Addr × Obj} {r : Led} (N : News h₀ L h (a :: b :: c :: r)) : News h₀ L h (c :: a :: b :: r) := fun q hq => by
  rcases List.mem_cons.mp hq with rfl | hq
  · exact N _ (.tail _ (.tail _ (.head _)))
  · rcases List.mem_cons.mp hq with rfl | hq
    · exact N _ (.head _)
    · rcases List.mem_cons.mp hq with rfl | hq
      · exact N _ (.tail _ (.head _))
      · exact N _ (.tail _ (.tail _ (.tail _ hq)))
theorem perm6 {h₀ h : Heap} {L : Addr} {a b c d e f : Addr × Obj} (N : News h₀ L h [a, b, c, d, e, f]) : News h₀ L h [b, f, c, d, e] := fun q hq => by
  simp only [List.mem_cons, List.not_mem_nil, or_false] at hq
  refine N q ?_
  simp only [List.mem_cons, List.not_mem_nil, or_false]
  rcases hq with rfl | rfl | rfl | rfl | rfl <;> simp
theorem perm7 {h₀ h : Heap} {L : Addr} {x a b c d e f : Addr × Obj} {tl : Led} (N : News h₀ L h (x :: a :: b :: c :: d :: e :: f :: tl)) : News h₀ L h (a :: b :: c :: d :: e :: f :: x :: tl) := fun q hq => by
  refine N q ?_
  simp only [List.mem_cons] at hq ⊢
  rcases hq with h | h | h | h | h | h | h | h
  · exact .inr (.inl h)
  · exact .inr (.inr (.inl h))
  · exact .inr (.inr (.inr (.inl h)))
  · exact .inr (.inr (.inr (.inr (.inl h))))
  · exact .inr (.inr (.inr (.inr (.inr (.inl h)))))
  · exact .inr (.inr (.inr (.inr (.inr (.inr (.inl h))))))
  · exact .inl h
  · exact .inr (.inr (.inr (.inr (.inr (.inr (.inr h))))))
theorem drop3 {h₀ h : Heap} {L : Addr} {a b c : Addr × Obj} {r : Led} (N : News h₀ L h (a :: b :: c :: r)) : News h₀ L h (a :: b :: r) := fun q hq => by
  rcases List.mem_cons.mp hq with rfl | hq
  · exact N _ (.head _)
  · rcases List.mem_cons.mp hq with rfl | hq
    · exact N _ (.tail _ (.head _))
    · exact N _ (.tail _ (.tail _ (.tail _ hq)))
theorem rot3 {h₀ h : Heap} {L : Addr} {a b c : Addr × Obj} {r : Led} (N : News h₀ L h (a :: b :: c :: r)) : News h₀ L h (b :: c :: a :: r) := fun q hq => by
  rcases List.mem_cons.mp hq with rfl | hq
  · exact N _ (.tail _ (.head _))
  · rcases List.mem_cons.mp hq with rfl | hq
    · exact N _ (.tail _ (.tail _ (.head _)))
    · rcases List.mem_cons.mp hq with rfl | hq
      · exact N _ (.head _)
      · exact N _ (.tail _ (.tail _ (.tail _ hq)))
end PartLw

section PartSA
theorem cleanSA : True := by
  w_top off
  trivial
local macro_rules | `(tactic| walk_at "exec For Name Call cons nil") => `(tactic| refine hold ?_)
local macro_rules | `(tactic| walk_at "exec For Tuple Call cons nil") => `(tactic| refine hold ?_)
local macro_rules | `(tactic| walk_at "exec While Compare cons nil") => `(tactic| refine hold ?_)
local macro_rules | `(tactic| walk_at "exec While BoolOp cons nil") => `(tactic| refine hold ?_)
local macro_rules | `(tactic| walk_at "pyIter ref") => `(tactic| refine hold ?_)
local macro_rules | `(tactic| walk_at "call type:enumerate") => `(tactic| refine hold ?_)
local macro_rules | `(tactic| walk_at "TPost") => `(tactic| dsimp only [TPost])
local macro_rules | `(tactic| walk_at "WPost") => `(tactic| dsimp only [WPost])
local macro_rules | `(tactic| walk_at "mine:mem") => `(tactic| first | assumption | exact List.Mem.head _ | (refine' List.Mem.tail _ ?_; walk_at "mine:mem"))
local macro_rules | `(tactic| walk_at "subscriptTail Name Name ref int") => `(tactic| (k_dflt (refine' ksa_sub ?k1 ?k2 ?k3 ?k4 ?k5 ?k6 ?_ ?k7; (case k1 => k_asm); (case k2 => walk_at "mine:mem"); (case k3 => with_reducible assumption); (case k4 => omega); (case k5 => omega); (case k6 => omega); (case k7 => with_unfolding_all rfl)); intro _))
local macro_rules | `(tactic| walk_at "subscriptTail Name BinOp ref int") => `(tactic| (k_dflt (refine' ksa_sub ?k1 ?k2 ?k3 ?k4 ?k5 ?k6 ?_ ?k7; (case k1 => k_asm); (case k2 => walk_at "mine:mem"); (case k3 => with_reducible assumption); (case k4 => omega); (case k5 => omega); (case k6 => omega); (case k7 => with_unfolding_all rfl)); intro _))
local macro_rules | `(tactic| walk_at "call builtin:len") => `(tactic| ((with_reducible show wpAny _ _ (call (Value.builtin "len") [Value.ref _]) _ _ _); k_dflt (refine' kst_len ?k1 ?k2 ?k3 ?k4 ?_; (case k1 => k_asm); (case k2 => walk_at "mine:mem"); (case k3 => exact IntsAre.length (by assumption)); (case k4 => omega))))
local macro_rules | `(tactic| k_all) => `(tactic| assumption)
local macro_rules | `(tactic| walk_at "call ref") => `(tactic| refine hold ?_)
local macro_rules | `(tactic| walk_at "execs cons") => `(tactic| refine hold ?_)

theorem seg_a (w : World) (mean : ExcName → Option Value) (mg mb : Map) {h₀ : Heap} {L fa : Addr} {cd : Value} {s : Shared} {m : Map} {Q : Flow → Shared → Prop} {E : Value → Shared → Prop} {l : Addr} {vs : List Value} {ns : List Int} {oc : Obj}
    (B : Below callerA h₀ [] h₀) (X : (hd.heap_39 w.params).In h₀) (T : Top hd.view_39 (looseW hd.view_39 []) mean mg mb h₀) (F : Fr h₀ L s.heap m) (N : News h₀ L s.heap [(L + 1, oc)]) (hm : m (Str.ofString "script") = some (.ref l)) (hl : h₀.IsList l vs.toArray) (hv : IntsAre vs ns) (hoc : oc.data = .cell none)
    (hn : ns.length ≤ 63) (hE : PassesOwn (model PySem.Challenge.rw_tg0001_01.row.prog w) (callerA.deeper (envOfC "law" lawScope L fa cd)) (envOfC "law" lawScope L fa cd) E)
    (k : ∀ (D C : Addr) (po co : Obj) (p n : Nat) (t1 t2 : Tok) h tk m', (p = 2 ∨ p = 3 ∨ p = 5) → n < 27 → Pool L D C 2 po co oc → Knows m' [(Str.ofString "pool", .ref D), (Str.ofString "p", .int p t1), (Str.ofString "n", .int n t2)] → Fr h₀ L h m' → News h₀ L h [(D, po), (C, co), (L + 1, oc)] →
      wpAny (model PySem.Challenge.rw_tg0001_01.row.prog w) (callerA.deeper (envOfC "law" lawScope L fa cd)) (execs (lawBody.drop 3) (envOfC "law" lawScope L fa cd)) Q E { s with heap := h, toks := tk }) :
    wpAny (model PySem.Challenge.rw_tg0001_01.row.prog w) (callerA.deeper (envOfC "law" lawScope L fa cd)) (execs lawBody (envOfC "law" lawScope L fa cd)) Q E s := by
  obtain ⟨b, hb⟩ : ∃ b, b = lawBody := ⟨_, rfl⟩
  obtain ⟨sc, hsc⟩ : ∃ sc, sc = lawScope := ⟨_, rfl⟩
  rw [← hb]
  rw [← hsc] at hE k ⊢
  dsimp only [lawScope, lawBody, lawOf, PySem.Challenge.rw_tg0001_01, PySem.Challenge.pw_tg0001_01, OpenLaw.row, List.drop] at hb hsc
  subst hb hsc
  have F1 := know F hm
  clear F
  refine wpAny_execs_cons ?_
  k_steps
  refine Hold.out (wpAny_execs_cons ?_)
  k_steps
  refine Hold.out ?_
  rename Fr _ _ _ _ => F2
  rename News _ _ _ _ => N2
  rename IntsAre _ (List.map _ _) => hI
  have hz : (List.map (fun k' => k') (List.take 4 ns)).length ≤ 4 := by simp only [List.length_map, List.length_take]; omega
  refine' Con.use (con_draw w mean mg mb _ _ _ _ _ _ _ 0 3 hI hz ?g2 ?g3 ?g4 ?g5 ?g6 _ _) B F2 X (rot3 N2) T rfl ?g7 ?g8 ?_
  · decide
  · decide
  · decide
  · refine neN ?_; omega
  · k_all
  · k_room
  · decide
  rintro r9 news9 h9 tk9 ⟨x, t1, t2, hx, rfl, rfl⟩ F9 N9
  clear F2 N2
  k_steps
  refine Hold.out (wpAny_execs_cons ?_)
  k_steps
  refine Hold.out ?_
  rename Fr _ _ _ _ => F2
  rename News _ _ _ _ => N2
  obtain ⟨pp, hpp, hpe⟩ : ∃ pp : Nat, (pp = 2 ∨ pp = 3 ∨ pp = 5) ∧ ([2, 3, 5] : List Int).getD (x : Int).toNat 0 = (pp : Int) := by
    have h3 : x = 0 ∨ x = 1 ∨ x = 2 := by omega
    rcases h3 with rfl | rfl | rfl
    · exact ⟨2, by omega, rfl⟩
    · exact ⟨3, by omega, rfl⟩
    · exact ⟨5, by omega, rfl⟩
  simp only [hpe] at F2
  refine' Con.use (con_draw w mean mg mb _ _ _ _ _ _ _ 1 27 hI hz ?r2 ?r3 ?r4 ?r5 ?r6 _ _) B F2 X N2 T rfl ?r7 ?r8 ?_
  · decide
  · decide
  · decide
  · refine neN ?_; omega
  · k_all
  · k_room
  · decide
  rintro r9 news9 h9 tk9 ⟨n, t3, t4, hn2, rfl, rfl⟩ F9 N9
  clear F2 N2
  k_steps
  refine Hold.out ?_
  rename Fr _ _ _ _ => F2
  rename News _ _ _ _ => N2
  refine k _ _ _ _ pp n _ _ _ _ _ hpp hn2 ⟨⟨_, _, rfl⟩, ⟨_, _, _, rfl, hI, hz⟩, ⟨_, hoc⟩, ?_, ?_, ?_⟩ (.cons rfl (.cons rfl (.cons rfl .nil))) F2 (drop3 (drop3 N2))
  all_goals (refine neN ?_; omega)
end PartSA

section PartSB
theorem cleanSB : True := by
  w_top off
  trivial
local macro_rules | `(tactic| walk_at "exec For Name Call cons nil") => `(tactic| refine hold ?_)
local macro_rules | `(tactic| walk_at "exec For Tuple Call cons nil") => `(tactic| refine hold ?_)
local macro_rules | `(tactic| walk_at "exec While Compare cons nil") => `(tactic| refine hold ?_)
local macro_rules | `(tactic| walk_at "exec While BoolOp cons nil") => `(tactic| refine hold ?_)
local macro_rules | `(tactic| walk_at "pyIter ref") => `(tactic| refine hold ?_)
local macro_rules | `(tactic| walk_at "call type:enumerate") => `(tactic| refine hold ?_)
local macro_rules | `(tactic| walk_at "TPost") => `(tactic| dsimp only [TPost])
local macro_rules | `(tactic| walk_at "WPost") => `(tactic| dsimp only [WPost])
local macro_rules | `(tactic| walk_at "mine:mem") => `(tactic| first | assumption | exact List.Mem.head _ | (refine' List.Mem.tail _ ?_; walk_at "mine:mem"))
local macro_rules | `(tactic| walk_at "subscriptTail Name Name ref int") => `(tactic| (k_dflt (refine' ksa_sub ?k1 ?k2 ?k3 ?k4 ?k5 ?k6 ?_ ?k7; (case k1 => k_asm); (case k2 => walk_at "mine:mem"); (case k3 => with_reducible assumption); (case k4 => omega); (case k5 => omega); (case k6 => omega); (case k7 => with_unfolding_all rfl)); intro _))
local macro_rules | `(tactic| walk_at "subscriptTail Name BinOp ref int") => `(tactic| (k_dflt (refine' ksa_sub ?k1 ?k2 ?k3 ?k4 ?k5 ?k6 ?_ ?k7; (case k1 => k_asm); (case k2 => walk_at "mine:mem"); (case k3 => with_reducible assumption); (case k4 => omega); (case k5 => omega); (case k6 => omega); (case k7 => with_unfolding_all rfl)); intro _))
local macro_rules | `(tactic| walk_at "call builtin:len") => `(tactic| ((with_reducible show wpAny _ _ (call (Value.builtin "len") [Value.ref _]) _ _ _); k_dflt (refine' kst_len ?k1 ?k2 ?k3 ?k4 ?_; (case k1 => k_asm); (case k2 => walk_at "mine:mem"); (case k3 => exact IntsAre.length (by assumption)); (case k4 => omega))))
local macro_rules | `(tactic| k_all) => `(tactic| assumption)
local macro_rules | `(tactic| walk_at "call ref") => `(tactic| refine hold ?_)
local macro_rules | `(tactic| walk_at "execs cons") => `(tactic| refine hold ?_)
def bigL (p pl : Nat) : List Int := [1] ++ List.replicate (p ^ pl - 1) 0 ++ [1]
def prodIn (p pl : Nat) (f : List Int) (j : Nat) : List Int := (List.range j).foldl (fun f _ => mmulL p f (bigL p pl)) f
def prodOut (p : Nat) (fs : List Int) (i : Nat) : List Int := (List.range i).foldl (fun f pl => prodIn p pl f (fs.getD pl 0).toNat) [1]
def prodL (p n : Nat) : List Int := prodOut p (figs p n) (figs p n).length
theorem prodIn_succ (p pl : Nat) (f : List Int) (j : Nat) : prodIn p pl f (j + 1) = mmulL p (prodIn p pl f j) (bigL p pl) := by
  simp [prodIn, List.range_succ]
theorem prodOut_succ (p : Nat) (fs : List Int) (i : Nat) : prodOut p fs (i + 1) = prodIn p i (prodOut p fs i) (fs.getD i 0).toNat := by
  simp [prodOut, List.range_succ]
def okInts (f : List Int) : Bool := decide (1 ≤ f.length) && decide (f.length ≤ 100) && f.all fun x => decide (0 ≤ x) && decide (x < 1000)
def okProd (p n : Nat) : Bool := decide ((figs p n).length ≤ 6) && (List.range (figs p n).length).all fun pl => decide (p ^ pl ≤ 26) && decide (0 ≤ (figs p n).getD pl 0) && decide ((figs p n).getD pl 0 < 5) && (List.range ((figs p n).getD pl 0).toNat).all fun j => okInts (prodIn p pl (prodOut p (figs p n) pl) j)
def prodInF (p pl : Nat) (f : List Int) (j : Nat) : List Int := (List.range j).foldl (fun f _ => mmulF p f (bigL p pl)) f
theorem prodIn_fast : prodIn = prodInF := by funext p pl f j; rw [prodIn, prodInF, mmul_fast]
def prodOutF (p : Nat) (fs : List Int) (i : Nat) : List Int := (List.range i).foldl (fun f pl => prodInF p pl f (fs.getD pl 0).toNat) [1]
theorem prodOut_fast : prodOut = prodOutF := by funext p fs i; rw [prodOut, prodOutF, prodIn_fast]
def prodF (p n : Nat) : List Int := prodOutF p (figs p n) (figs p n).length
theorem prod_fast : prodL = prodF := by funext p n; rw [prodL, prodF, prodOut_fast]
def okProdF (p n : Nat) : Bool := decide ((figs p n).length ≤ 6) && (List.range (figs p n).length).all fun pl => decide (p ^ pl ≤ 26) && decide (0 ≤ (figs p n).getD pl 0) && decide ((figs p n).getD pl 0 < 5) && (List.range ((figs p n).getD pl 0).toNat).all fun j => okInts (prodInF p pl (prodOutF p (figs p n) pl) j)
theorem okProd_fast : okProd = okProdF := by funext p n; rw [okProd, okProdF, prodIn_fast, prodOut_fast]
theorem okProd_all : ([2, 3, 5] : List Nat).all (fun p => (List.range 27).all fun n => okProdF p n) = true := by decide +kernel
def okLucas (p n : Nat) : Bool := decide (trimL ((binRow n).map fun x => Int.fmod x p) = prodF p n)
theorem lucasA : (List.range 27).all (okLucas 2) = true := by decide +kernel
theorem lucasB : (List.range 27).all (okLucas 3) = true := by decide +kernel
theorem lucasC : (List.range' 0 20).all (okLucas 5) = true := by decide +kernel
theorem lucasD : (List.range' 20 7).all (okLucas 5) = true := by decide +kernel
theorem lucas_at {p n : Nat} (hp : p = 2 ∨ p = 3 ∨ p = 5) (hn : n < 27) : trimL ((binRow n).map fun x => Int.fmod x p) = prodL p n := by
  have ha := lucasA
  have hb := lucasB
  have hc := lucasC
  have hd := lucasD
  rw [List.all_eq_true] at ha hb hc hd
  have h : okLucas p n = true := by
    rcases hp with rfl | rfl | rfl
    · exact ha n (List.mem_range.mpr hn)
    · exact hb n (List.mem_range.mpr hn)
    · rcases Nat.lt_or_ge n 20 with h | h
      · exact hc n (List.mem_range'_1.mpr (by omega))
      · exact hd n (List.mem_range'_1.mpr (by omega))
  rw [prod_fast]
  exact of_decide_eq_true h
theorem okProd_at {p n : Nat} (hp : p = 2 ∨ p = 3 ∨ p = 5) (hn : n < 27) : okProd p n = true := by
  rw [okProd_fast]
  have h := okProd_all
  rw [List.all_eq_true] at h
  have h1 := h p (by rcases hp with rfl | rfl | rfl <;> simp)
  rw [List.all_eq_true] at h1
  exact h1 n (List.mem_range.mpr hn)

theorem rep_flat (k : Nat) : (List.replicate k ([0] : List Int)).flatten = List.replicate k 0 := by
  induction k with
  | zero => rfl
  | succ k ih => rw [List.replicate_succ, List.replicate_succ, List.flatten_cons, ih]; rfl
theorem bigL_len (p pl : Nat) : (bigL p pl).length = p ^ pl - 1 + 2 := by simp [bigL]
theorem bigL_is {p pl q : Nat} (h : q = p ^ pl) : ([1] ++ (List.replicate ((q : Int) - 1).toNat ([0] : List Int)).flatten ++ [1]) = bigL p pl := by
  rw [rep_flat, bigL, ← h]
  rw [show ((q : Int) - 1).toNat = q - 1 by omega]
theorem pow_q {prog : Program} {w : World} {A : Around} {E : Value → Shared → Prop} {s : Shared} {a n q : Int} {t u : Tok} {Q : Value → Shared → Prop} (hq : a ^ n.toNat = q) (hn : 0 ≤ n) (hn2 : n ≤ 1000000) (ha : a.natAbs < 2 ^ 64) (h : Q (.int q s.toks) { s with toks := s.toks + 1 }) :
    wpAny (model prog w) A (binaryOp .Pow (.int a t) (.int n u)) Q E s := by
  subst hq
  exact pow_int_small hn hn2 ha h
local macro_rules | `(tactic| walk_at "binaryOp Pow int int") => `(tactic| (refine' pow_q ?q1 ?q2 ?q3 ?q4 ?_; (case q1 => assumption); (case q2 => omega); (case q3 => omega); (case q4 => omega)))
theorem seg_b (w : World) (mean : ExcName → Option Value) (mg mb : Map) {h₀ : Heap} {L fa : Addr} {cd : Value} {s : Shared} {m : Map} {Q : Flow → Shared → Prop} {E : Value → Shared → Prop} {D C : Addr} {po co oc : Obj} {p n : Nat} {t1 t2 : Tok}
    (B : Below callerA h₀ [] h₀) (X : (hd.heap_39 w.params).In h₀) (T : Top hd.view_39 (looseW hd.view_39 []) mean mg mb h₀) (F : Fr h₀ L s.heap m) (N : News h₀ L s.heap [(D, po), (C, co), (L + 1, oc)])
    (hm : Knows m [(Str.ofString "pool", .ref D), (Str.ofString "p", .int p t1), (Str.ofString "n", .int n t2)]) (hp : p = 2 ∨ p = 3 ∨ p = 5) (hn : n < 27)
    (hE : PassesOwn (model PySem.Challenge.rw_tg0001_01.row.prog w) (callerA.deeper (envOfC "law" lawScope L fa cd)) (envOfC "law" lawScope L fa cd) E)
    (k : ∀ (P R : Addr) (vp vr : List Value) (cp cr : Nat) (t1 t2 : Tok) h tk m', IntsAre vp (prodL p n) → IntsAre vr (binRow n) → @Ne Nat P D → @Ne Nat P (L + 1) → @Ne Nat R D → @Ne Nat R (L + 1) → Knows m' [(Str.ofString "pool", .ref D), (Str.ofString "p", .int p t1), (Str.ofString "n", .int n t2), (Str.ofString "row", .ref R), (Str.ofString "product", .ref P)] → Fr h₀ L h m' → News h₀ L h [(P, listOf vp.toArray cp), (R, listOf vr.toArray cr), (D, po), (C, co), (L + 1, oc)] →
      wpAny (model PySem.Challenge.rw_tg0001_01.row.prog w) (callerA.deeper (envOfC "law" lawScope L fa cd)) (execs (lawBody.drop 5) (envOfC "law" lawScope L fa cd)) Q E { s with heap := h, toks := tk }) :
    wpAny (model PySem.Challenge.rw_tg0001_01.row.prog w) (callerA.deeper (envOfC "law" lawScope L fa cd)) (execs (lawBody.drop 3) (envOfC "law" lawScope L fa cd)) Q E s := by
  obtain ⟨b, hb⟩ : ∃ b, b = lawBody.drop 3 := ⟨_, rfl⟩
  obtain ⟨sc, hsc⟩ : ∃ sc, sc = lawScope := ⟨_, rfl⟩
  rw [← hb]
  rw [← hsc] at hE k ⊢
  dsimp only [lawScope, lawBody, lawOf, PySem.Challenge.rw_tg0001_01, PySem.Challenge.pw_tg0001_01, OpenLaw.row, List.drop] at hb hsc
  subst hb hsc
  have F1 := knows F hm
  dsimp only [kstB] at F1
  clear F
  refine wpAny_execs_cons ?_
  k_steps
  refine Hold.out ?_
  refine' Con.use (con_binomial w mean mg mb _ n (by omega) _) B F1 X N T rfl ?g7 ?g8 ?_
  · k_room
  · decide
  rintro r9 news9 h9 tk9 ⟨R, vr, cr, rfl, hvr, rfl, hR⟩ F9 N9
  simp only [AllLt, and_true] at hR
  clear F1 N
  k_steps
  refine Hold.out (wpAny_execs_cons ?_)
  k_steps
  refine Hold.out ?_
  have hok := okProd_at hp hn
  simp only [okProd, Bool.and_eq_true, decide_eq_true_eq, List.all_eq_true, List.mem_range] at hok
  obtain ⟨hfl, hok⟩ := hok
  have hp2 : 2 ≤ p := by omega
  have hp5 : p ≤ 5 := by omega
  rename Fr _ _ _ _ => F1
  rename News _ _ _ _ => N1
  rename _ ∧ R < _ ∧ D < _ ∧ C < _ ∧ L + 1 < _ => hA1
  replace N1 := drop1 N1
  with_unfolding_all refine' For_turns F1 ?_
  k_steps
  refine Hold.out ?_
  rename Fr _ _ _ _ => F2
  refine' Con.use (con_figures w mean mg mb _ n p (by omega) hp2 (by omega) _ _) B F2 X N1 T rfl ?h7 ?h8 ?_
  · k_room
  · decide
  rintro r9 news9 h9 tk9 ⟨lf, vf, cf, rfl, hvf, rfl, hF⟩ F9 N9
  simp only [AllLt, and_true] at hF
  try clear F1
  try clear N1
  try clear F2
  k_steps
  refine Hold.out ?_
  rename Fr _ _ _ _ => F2
  rename News _ _ _ _ => N2
  with_unfolding_all refine' turns_enum (ax := lf) (vs := vf) (c := cf) (fun i m nx => ∃ (P : Addr) (vp : List Value) (cp : Nat) (t1 t2 : Tok), Knows m [(Str.ofString "pool", .ref D), (Str.ofString "p", .int p t1), (Str.ofString "n", .int n t2), (Str.ofString "row", .ref R), (Str.ofString "product", .ref P)] ∧ IntsAre vp (prodOut p (figs p n) i) ∧ nx = [(P, listOf vp.toArray cp), (lf, listOf vf.toArray cf), (R, listOf vr.toArray cr), (D, po), (C, co), (L + 1, oc)] ∧ @Ne Nat P D ∧ @Ne Nat P (L + 1)) (.tail _ (.head _)) F2 (swap1 N2) ?_ ?_ ?_ ?_
  · exact ⟨_, [Value.int 1 _], 0, _, _, .cons rfl (.cons rfl (.cons rfl (.cons rfl (.cons rfl .nil)))), IntsAre.cons _ _ .nil, rfl, by refine neN ?_; omega, by refine neN ?_; omega⟩
  · rintro i m nx ⟨P, vp, cp, _, _, _, _, rfl, _⟩
    exact .tail _ (.head _)
  · rintro i v T9 t I₁ I₂ o₁ o₂ m₁ nx h tk hvi hT ⟨P, vp, cp, t3, t4, e1, hvp, rfl, hPD, hPL⟩ hoff F3 N3 hI
    obtain ⟨hi, tx, rfl⟩ := ints_at hvf hvi
    obtain ⟨⟨⟨hpl, hf0⟩, hf5⟩, hoj⟩ := hok i hi
    obtain ⟨fg, hfg⟩ : ∃ fg : Nat, (figs p n).getD i 0 = fg := ⟨((figs p n).getD i 0).toNat, by omega⟩
    rw [hfg] at hT hf0 hf5 hoj
    rw [Int.toNat_natCast] at hoj
    obtain ⟨q, hq, hqp, hq1, hq2⟩ : ∃ q : Nat, (p : Int) ^ ((i : Int)).toNat = (q : Int) ∧ q = p ^ i ∧ 1 ≤ q ∧ q ≤ 26 := ⟨p ^ i, by rw [Int.toNat_natCast, Int.natCast_pow], rfl, Nat.pow_pos (by omega), hpl⟩
    have F4 := knows F3 e1
    dsimp only [kstB] at F4
    try clear F3
    try clear F2
    try clear N2
    k_steps
    refine Hold.out (wpAny_execs_cons ?_)
    k_steps
    refine Hold.out ?_
    rename Fr _ _ _ _ => F1
    with_unfolding_all refine' For_turns F1 ?_
    k_steps
    refine Hold.out ?_
    rename Fr _ _ _ _ => F2
    rename News _ _ _ _ => N2
    rename IsRange _ _ _ _ _ _ _ _ => R2
    have hP1 := (hoff _ (List.mem_cons_self ..)).1
    have hP2 := (hoff _ (List.mem_cons_self ..)).2
    have hoff' : ∀ q ∈ [(lf, listOf vf.toArray cf), (R, listOf vr.toArray cr), (D, po), (C, co), (L + 1, oc)], q.1 ≠ I₁ ∧ q.1 ≠ I₂ := fun q hq => hoff q (.tail _ hq)
    with_unfolding_all refine' turns_range (n := fg) (fun j m nx => ∃ (P : Addr) (vp : List Value) (cp : Nat) (t1 t2 t3 : Tok), Knows m [(Str.ofString "pool", .ref D), (Str.ofString "p", .int p t1), (Str.ofString "n", .int n t2), (Str.ofString "row", .ref R), (Str.ofString "product", .ref P), (Str.ofString "place", .int i t3)] ∧ IntsAre vp (prodIn p i (prodOut p (figs p n) i) j) ∧ nx = [(P, listOf vp.toArray cp), (I₁, o₁), (I₂, o₂), (lf, listOf vf.toArray cf), (R, listOf vr.toArray cr), (D, po), (C, co), (L + 1, oc)] ∧ @Ne Nat P D ∧ @Ne Nat P (L + 1) ∧ @Ne Nat P I₁ ∧ @Ne Nat P I₂) R2 ?_ ?_ F2 (tor3 N2) ?_ ?_ ?_
    · exact small_one (by omega) (by omega) (by omega) (by omega)
    · first | exact rangeSize_nat _ _ | rfl
    · exact ⟨_, _, _, _, _, _, .cons rfl (.cons rfl (.cons rfl (.cons rfl (.cons rfl (.cons rfl .nil))))), hvp, rfl, hPD, hPL, hP1, hP2⟩
    · rintro j t9 I o m₂ nx h' tk' hj ⟨P, vp, cp, t5, t6, t7, e2, hvp, rfl, hPD, hPL, hPI, hPJ⟩ hoff2 F5 N5
      have F6 := knows F5 e2
      dsimp only [kstB] at F6
      try clear F5
      try clear F2
      try clear N2
      k_steps
      refine Hold.out (wpAny_execs_cons ?_)
      k_steps
      refine Hold.out ?_
      have hoi := hoj j hj
      simp only [okInts, Bool.and_eq_true, decide_eq_true_eq, List.all_eq_true] at hoi
      obtain ⟨⟨ho1, ho2⟩, ho3⟩ := hoi
      rename Fr _ _ _ _ => F2
      rename News _ _ _ _ => N2
      rename IntsAre _ ([1] ++ _ ++ [1]) => hB
      rw [bigL_is hqp] at hB
      have hbl := bigL_len p i
      rw [← hqp] at hbl
      refine' Con.use (con_mmul w mean mg mb _ _ _ _ _ _ _ _ _ ?m1 ?m2 hvp hB ho1 ho2 ?m3 ?m4 ho3 p hp2 (by omega) _) B F2 X N2 T rfl ?m5 ?m6 ?_
      case m1 => walk_at "mine:mem"
      case m2 => walk_at "mine:mem"
      case m3 => omega
      case m4 => omega
      case m5 => k_room
      case m6 => decide
      rintro r9 news9 h9 tk9 ⟨P', v9, c9, rfl, hv9, rfl, hl9⟩ F9 N9
      simp only [AllLt, and_true] at hl9
      try clear F2
      try clear N2
      k_steps
      rename Fr _ _ _ _ => F9
      rename News _ _ _ _ => N9
      refine ⟨_, _, _, [(P', listOf v9.toArray c9), (I₁, o₁), (I₂, o₂), (lf, listOf vf.toArray cf), (R, listOf vr.toArray cr), (D, po), (C, co), (L + 1, oc)], rfl, F9, kst_newsOf N9 (by kst_inAny), off1 ?_, P', v9, c9, _, _, _, .cons rfl (.cons rfl (.cons rfl (.cons rfl (.cons rfl (.cons rfl .nil))))), ?_, rfl, ?_, ?_, ?_, ?_⟩
      · exact List.forall_mem_cons.mpr ⟨by refine neN ?_; omega, fun q hq => hoff2 q (.tail _ hq)⟩
      · rw [prodIn_succ]; exact hv9
      all_goals (refine neN ?_; omega)
    · rintro h' tk' m₂ nx ⟨P, vp, cp, t5, t6, t7, e2, hvp, rfl, hPD, hPL, hPI, hPJ⟩ F5 N5
      have F6 := knows F5 e2
      dsimp only [kstB] at F6
      try clear F5
      try clear F2
      try clear N2
      k_steps
      rename Fr _ _ _ _ => F9
      rename News _ _ _ _ => N9
      refine ⟨_, _, _, [(P, listOf vp.toArray cp), (lf, listOf vf.toArray cf), (R, listOf vr.toArray cr), (D, po), (C, co), (L + 1, oc)], rfl, F9, kst_newsOf N9 (by kst_inAny), off2 ?_, P, vp, cp, _, _, .cons rfl (.cons rfl (.cons rfl (.cons rfl (.cons rfl .nil)))), ?_, rfl, hPD, hPL⟩
      · exact List.forall_mem_cons.mpr ⟨⟨hPI, hPJ⟩, fun q hq => hoff q (.tail _ hq)⟩
      · rw [prodOut_succ, hfg, Int.toNat_natCast]; exact hvp
  · rintro h tk m₁ nx ⟨P, vp, cp, t3, t4, e1, hvp, rfl, hPD, hPL⟩ F3 N3
    rw [hvf.length] at hvp
    refine k P R vp vr cp cr _ _ _ _ _ hvp hvr hPD hPL ?_ ?_ e1 F3 (kst_newsOf N3 (by kst_inAny))
    all_goals (refine neN ?_; omega)
end PartSB

section PartSC
theorem cleanSC : True := by
  w_top off
  trivial
local macro_rules | `(tactic| walk_at "exec For Name Call cons nil") => `(tactic| refine hold ?_)
local macro_rules | `(tactic| walk_at "exec For Tuple Call cons nil") => `(tactic| refine hold ?_)
local macro_rules | `(tactic| walk_at "exec While Compare cons nil") => `(tactic| refine hold ?_)
local macro_rules | `(tactic| walk_at "exec While BoolOp cons nil") => `(tactic| refine hold ?_)
local macro_rules | `(tactic| walk_at "pyIter ref") => `(tactic| refine hold ?_)
local macro_rules | `(tactic| walk_at "call type:enumerate") => `(tactic| refine hold ?_)
local macro_rules | `(tactic| walk_at "TPost") => `(tactic| dsimp only [TPost])
local macro_rules | `(tactic| walk_at "WPost") => `(tactic| dsimp only [WPost])
local macro_rules | `(tactic| walk_at "mine:mem") => `(tactic| first | assumption | exact List.Mem.head _ | (refine' List.Mem.tail _ ?_; walk_at "mine:mem"))
local macro_rules | `(tactic| walk_at "subscriptTail Name Name ref int") => `(tactic| (k_dflt (refine' ksa_sub ?k1 ?k2 ?k3 ?k4 ?k5 ?k6 ?_ ?k7; (case k1 => k_asm); (case k2 => walk_at "mine:mem"); (case k3 => with_reducible assumption); (case k4 => omega); (case k5 => omega); (case k6 => omega); (case k7 => with_unfolding_all rfl)); intro _))
local macro_rules | `(tactic| walk_at "subscriptTail Name BinOp ref int") => `(tactic| (k_dflt (refine' ksa_sub ?k1 ?k2 ?k3 ?k4 ?k5 ?k6 ?_ ?k7; (case k1 => k_asm); (case k2 => walk_at "mine:mem"); (case k3 => with_reducible assumption); (case k4 => omega); (case k5 => omega); (case k6 => omega); (case k7 => with_unfolding_all rfl)); intro _))
local macro_rules | `(tactic| walk_at "call builtin:len") => `(tactic| ((with_reducible show wpAny _ _ (call (Value.builtin "len") [Value.ref _]) _ _ _); k_dflt (refine' kst_len ?k1 ?k2 ?k3 ?k4 ?_; (case k1 => k_asm); (case k2 => walk_at "mine:mem"); (case k3 => exact IntsAre.length (by assumption)); (case k4 => omega))))
local macro_rules | `(tactic| k_all) => `(tactic| assumption)
local macro_rules | `(tactic| walk_at "call ref") => `(tactic| refine hold ?_)
local macro_rules | `(tactic| walk_at "execs cons") => `(tactic| refine hold ?_)
theorem seg_c (w : World) (mean : ExcName → Option Value) (mg mb : Map) {h₀ : Heap} {L fa : Addr} {cd : Value} {s : Shared} {m : Map} {Q : Flow → Shared → Prop} {E : Value → Shared → Prop} {D C P R : Addr} {vp vr : List Value} {cp cr : Nat} {po co oc : Obj} {p n : Nat} {t1 t2 : Tok}
    (B : Below callerA h₀ [] h₀) (X : (hd.heap_39 w.params).In h₀) (T : Top hd.view_39 (looseW hd.view_39 []) mean mg mb h₀) (F : Fr h₀ L s.heap m) (N : News h₀ L s.heap [(P, listOf vp.toArray cp), (R, listOf vr.toArray cr), (D, po), (C, co), (L + 1, oc)])
    (hvp : IntsAre vp (prodL p n)) (hvr : IntsAre vr (binRow n))
    (hm : Knows m [(Str.ofString "pool", .ref D), (Str.ofString "p", .int p t1), (Str.ofString "n", .int n t2), (Str.ofString "row", .ref R), (Str.ofString "product", .ref P)]) (hp : p = 2 ∨ p = 3 ∨ p = 5) (hn : n < 27)
    (hE : PassesOwn (model PySem.Challenge.rw_tg0001_01.row.prog w) (callerA.deeper (envOfC "law" lawScope L fa cd)) (envOfC "law" lawScope L fa cd) E)
    (k : ∀ h tk m' t1 t2, Knows m' [(Str.ofString "pool", .ref D), (Str.ofString "p", .int p t1), (Str.ofString "n", .int n t2), (Str.ofString "row", .ref R), (Str.ofString "product", .ref P)] → Fr h₀ L h m' → News h₀ L h [(P, listOf vp.toArray cp), (R, listOf vr.toArray cr), (D, po), (C, co), (L + 1, oc)] →
      wpAny (model PySem.Challenge.rw_tg0001_01.row.prog w) (callerA.deeper (envOfC "law" lawScope L fa cd)) (execs (lawBody.drop 6) (envOfC "law" lawScope L fa cd)) Q E { s with heap := h, toks := tk }) :
    wpAny (model PySem.Challenge.rw_tg0001_01.row.prog w) (callerA.deeper (envOfC "law" lawScope L fa cd)) (execs (lawBody.drop 5) (envOfC "law" lawScope L fa cd)) Q E s := by
  obtain ⟨b, hb⟩ : ∃ b, b = lawBody.drop 5 := ⟨_, rfl⟩
  obtain ⟨sc, hsc⟩ : ∃ sc, sc = lawScope := ⟨_, rfl⟩
  rw [← hb]
  rw [← hsc] at hE k ⊢
  dsimp only [lawScope, lawBody, lawOf, PySem.Challenge.rw_tg0001_01, PySem.Challenge.pw_tg0001_01, OpenLaw.row, List.drop] at hb hsc
  subst hb hsc
  have hrl : (binRow n).length = n + 1 := binPre_len n n
  have F1 := knows F hm
  dsimp only [kstB] at F1
  clear F
  refine wpAny_execs_cons ?_
  k_steps
  refine Hold.out ?_
  refine' Con.use (con_mreduce w mean mg mb _ _ _ _ _ ?m1 hvr (by omega) p (by omega) (by omega) _) B F1 X N T rfl ?m2 ?m3 ?_
  case m1 => walk_at "mine:mem"
  case m2 => k_room
  case m3 => decide
  rintro r9 news9 h9 tk9 ⟨M, vm, cm, rfl, hvm, rfl, hM⟩ F9 N9
  simp only [AllLt, and_true] at hM
  rw [lucas_at hp hn] at hvm
  have hlm := hvm.length
  have hlp := hvp.length
  clear F1 N
  k_steps
  · exfalso; omega
  · refine Hold.out ?_
    exact k _ _ _ _ _ (.cons rfl (.cons rfl (.cons rfl (.cons rfl (.cons rfl .nil))))) F9 (drop1 N9)
end PartSC

section PartSD
theorem cleanSD : True := by
  w_top off
  trivial
local macro_rules | `(tactic| walk_at "mine:pad0") => `(tactic| skip)
local macro_rules | `(tactic| walk_at "exec For Name Call cons nil") => `(tactic| refine hold ?_)
local macro_rules | `(tactic| walk_at "exec For Tuple Call cons nil") => `(tactic| refine hold ?_)
local macro_rules | `(tactic| walk_at "exec While Compare cons nil") => `(tactic| refine hold ?_)
local macro_rules | `(tactic| walk_at "exec While BoolOp cons nil") => `(tactic| refine hold ?_)
local macro_rules | `(tactic| walk_at "pyIter ref") => `(tactic| refine hold ?_)
local macro_rules | `(tactic| walk_at "call type:enumerate") => `(tactic| refine hold ?_)
local macro_rules | `(tactic| walk_at "TPost") => `(tactic| dsimp only [TPost])
local macro_rules | `(tactic| walk_at "WPost") => `(tactic| dsimp only [WPost])
local macro_rules | `(tactic| walk_at "mine:mem") => `(tactic| first | assumption | exact List.Mem.head _ | (refine' List.Mem.tail _ ?_; walk_at "mine:mem"))
local macro_rules | `(tactic| walk_at "subscriptTail Name Name ref int") => `(tactic| (k_dflt (refine' ksa_sub ?k1 ?k2 ?k3 ?k4 ?k5 ?k6 ?_ ?k7; (case k1 => k_asm); (case k2 => walk_at "mine:mem"); (case k3 => with_reducible assumption); (case k4 => omega); (case k5 => omega); (case k6 => omega); (case k7 => with_unfolding_all rfl)); intro _))
local macro_rules | `(tactic| walk_at "subscriptTail Name BinOp ref int") => `(tactic| (k_dflt (refine' ksa_sub ?k1 ?k2 ?k3 ?k4 ?k5 ?k6 ?_ ?k7; (case k1 => k_asm); (case k2 => walk_at "mine:mem"); (case k3 => with_reducible assumption); (case k4 => omega); (case k5 => omega); (case k6 => omega); (case k7 => with_unfolding_all rfl)); intro _))
local macro_rules | `(tactic| walk_at "call builtin:len") => `(tactic| ((with_reducible show wpAny _ _ (call (Value.builtin "len") [Value.ref _]) _ _ _); k_dflt (refine' kst_len ?k1 ?k2 ?k3 ?k4 ?_; (case k1 => k_asm); (case k2 => walk_at "mine:mem"); (case k3 => exact IntsAre.length (by assumption)); (case k4 => omega))))
local macro_rules | `(tactic| k_all) => `(tactic| assumption)
local macro_rules | `(tactic| walk_at "call ref") => `(tactic| refine hold ?_)
local macro_rules | `(tactic| walk_at "execs cons") => `(tactic| refine hold ?_)
def lowAt (so : List Int) (j : Nat) : Int := if j < so.length then so.getD j 0 else 0
def dueStep (fs so : List Int) (d : Int) (j : Nat) : Int := d * (if lowAt so j ≤ fs.getD j 0 then (binRow (fs.getD j 0).toNat).getD (lowAt so j).toNat 0 else 0)
def dueOut (fs so : List Int) (j : Nat) : Int := (List.range j).foldl (dueStep fs so) 1
def dueL (p n k : Nat) : Int := dueOut (figs p n) (figs p k) (figs p n).length
theorem dueOut_succ (fs so : List Int) (j : Nat) : dueOut fs so (j + 1) = dueStep fs so (dueOut fs so j) j := by
  simp [dueOut, List.range_succ]
theorem due_all : ([2, 3, 5] : List Nat).all (fun p => (List.range 27).all fun n => decide ((List.range (n + 1)).map (fun k => Int.fmod (dueL p n k) p) = trimL ((binRow n).map fun x => Int.fmod x p))) = true := by decide +kernel
theorem due_at {p n : Nat} (hp : p = 2 ∨ p = 3 ∨ p = 5) (hn : n < 27) : (List.range (n + 1)).map (fun k => Int.fmod (dueL p n k) p) = prodL p n := by
  rw [← lucas_at hp hn]
  have h := due_all
  rw [List.all_eq_true] at h
  have h1 := h p (by rcases hp with rfl | rfl | rfl <;> simp)
  rw [List.all_eq_true] at h1
  exact of_decide_eq_true (h1 n (List.mem_range.mpr hn))
theorem due_get {p n : Nat} (hp : p = 2 ∨ p = 3 ∨ p = 5) (hn : n < 27) {k : Nat} (hk : k < n + 1) : (prodL p n).getD k 0 = Int.fmod (dueL p n k) p := by
  rw [← due_at hp hn, List.getD_eq_getElem?_getD, List.getElem?_map, List.getElem?_range hk]
  rfl
theorem due_len {p n : Nat} (hp : p = 2 ∨ p = 3 ∨ p = 5) (hn : n < 27) : (prodL p n).length = n + 1 := by
  rw [← due_at hp hn, List.length_map, List.length_range]
theorem row_all : (List.range 5).all (fun f => (binRow f).all fun x => decide (0 ≤ x) && decide (x < 1000)) = true := by decide +kernel
theorem row_at {f i : Nat} (hf : f < 5) (hi : i < f + 1) : 0 ≤ (binRow f).getD i 0 ∧ (binRow f).getD i 0 < 1000 := by
  have h := row_all
  rw [List.all_eq_true] at h
  have h1 := h f (List.mem_range.mpr hf)
  rw [List.all_eq_true] at h1
  have hl : (binRow f).length = f + 1 := binPre_len f f
  have h2 := h1 _ (getD_mem (ns := binRow f) (i := i) (by omega))
  simpa using h2

theorem seg_d (w : World) (mean : ExcName → Option Value) (mg mb : Map) {h₀ : Heap} {L fa : Addr} {cd : Value} {s : Shared} {m : Map} {Q : Flow → Shared → Prop} {E : Value → Shared → Prop} {D C P R : Addr} {vp vr : List Value} {cp cr : Nat} {po co oc : Obj} {p n : Nat} {t1 t2 : Tok}
    (B : Below callerA h₀ [] h₀) (X : (hd.heap_39 w.params).In h₀) (T : Top hd.view_39 (looseW hd.view_39 []) mean mg mb h₀) (F : Fr h₀ L s.heap m) (N : News h₀ L s.heap [(P, listOf vp.toArray cp), (R, listOf vr.toArray cr), (D, po), (C, co), (L + 1, oc)])
    (hvp : IntsAre vp (prodL p n))
    (hm : Knows m [(Str.ofString "pool", .ref D), (Str.ofString "p", .int p t1), (Str.ofString "n", .int n t2), (Str.ofString "row", .ref R), (Str.ofString "product", .ref P)]) (hp : p = 2 ∨ p = 3 ∨ p = 5) (hn : n < 27)
    (hE : PassesOwn (model PySem.Challenge.rw_tg0001_01.row.prog w) (callerA.deeper (envOfC "law" lawScope L fa cd)) (envOfC "law" lawScope L fa cd) E)
    (k : ∀ h tk m' t1 t2, Knows m' [(Str.ofString "pool", .ref D), (Str.ofString "p", .int p t1), (Str.ofString "n", .int n t2), (Str.ofString "row", .ref R), (Str.ofString "product", .ref P)] → Fr h₀ L h m' → News h₀ L h [(P, listOf vp.toArray cp), (R, listOf vr.toArray cr), (D, po), (C, co), (L + 1, oc)] →
      wpAny (model PySem.Challenge.rw_tg0001_01.row.prog w) (callerA.deeper (envOfC "law" lawScope L fa cd)) (execs (lawBody.drop 7) (envOfC "law" lawScope L fa cd)) Q E { s with heap := h, toks := tk }) :
    wpAny (model PySem.Challenge.rw_tg0001_01.row.prog w) (callerA.deeper (envOfC "law" lawScope L fa cd)) (execs (lawBody.drop 6) (envOfC "law" lawScope L fa cd)) Q E s := by
  obtain ⟨b, hb⟩ : ∃ b, b = lawBody.drop 6 := ⟨_, rfl⟩
  obtain ⟨sc, hsc⟩ : ∃ sc, sc = lawScope := ⟨_, rfl⟩
  rw [← hb]
  rw [← hsc] at hE k ⊢
  dsimp only [lawScope, lawBody, lawOf, PySem.Challenge.rw_tg0001_01, PySem.Challenge.pw_tg0001_01, OpenLaw.row, List.drop] at hb hsc
  subst hb hsc
  have F1 := knows F hm
  dsimp only [kstB] at F1
  clear F
  have hp2 : 2 ≤ p := by omega
  have hp5 : p ≤ 5 := by omega
  have hpl := due_len hp hn
  refine wpAny_execs_cons ?_
  k_steps
  refine Hold.out ?_
  with_unfolding_all refine' For_turns F1 ?_
  k_steps
  refine Hold.out ?_
  rename Fr _ _ _ _ => F2
  rename News _ _ _ _ => N2
  rename IsRange _ _ _ _ _ _ _ _ => R2
  with_unfolding_all refine' turns_range (n := n + 1) (fun i m nx => ∃ (t1 t2 : Tok), Knows m [(Str.ofString "pool", .ref D), (Str.ofString "p", .int p t1), (Str.ofString "n", .int n t2), (Str.ofString "row", .ref R), (Str.ofString "product", .ref P)] ∧ nx = [(P, listOf vp.toArray cp), (R, listOf vr.toArray cr), (D, po), (C, co), (L + 1, oc)]) R2 ?_ ?_ F2 N2 ?_ ?_ ?_
  · exact small_one (by omega) (by omega) (by omega) (by omega)
  · first | exact rangeSize_nat _ _ | rfl
  · exact ⟨_, _, .cons rfl (.cons rfl (.cons rfl (.cons rfl (.cons rfl .nil)))), rfl⟩
  · rintro i t9 I o m₂ nx h' tk' hi ⟨t3, t4, e1, rfl⟩ hoff F5 N5
    rw [Int.zero_add]
    have F6 := knows F5 e1
    dsimp only [kstB] at F6
    try clear F5
    try clear F2
    try clear N2
    k_steps
    refine Hold.out (wpAny_execs_cons ?_)
    k_steps
    refine Hold.out (wpAny_execs_cons ?_)
    k_steps
    refine Hold.out ?_
    rename Fr _ _ _ _ => F2
    rename News _ _ _ _ => N2
    refine' Con.use (con_figures w mean mg mb _ i p (by omega) hp2 (by omega) _ _) B F2 X N2 T rfl ?h1 ?h2 ?_
    case h1 => k_room
    case h2 => decide
    rintro r9 news9 h9 tk9 ⟨ls, vs, cs, rfl, hvs, rfl, hS⟩ F9 N9
    simp only [AllLt, and_true] at hS
    try clear F2
    try clear N2
    k_steps
    refine Hold.out (wpAny_execs_cons ?_)
    k_steps
    refine Hold.out ?_
    rename Fr _ _ _ _ => F1
    with_unfolding_all refine' For_turns F1 ?_
    k_steps
    refine Hold.out ?_
    rename Fr _ _ _ _ => F2
    rename News _ _ _ _ => N2
    refine' Con.use (con_figures w mean mg mb _ n p (by omega) hp2 (by omega) _ _) B F2 X N2 T rfl ?h3 ?h4 ?_
    case h3 => k_room
    case h4 => decide
    rintro r9 news9 h9 tk9 ⟨lf, vf, cf, rfl, hvf, rfl, hF⟩ F9 N9
    simp only [AllLt, and_true] at hF
    try clear F2
    try clear F1
    try clear N2
    k_steps
    refine Hold.out ?_
    rename Fr _ _ _ _ => F2
    rename News _ _ _ _ => N2
    have hokn := okProd_at hp hn
    simp only [okProd, Bool.and_eq_true, decide_eq_true_eq, List.all_eq_true, List.mem_range] at hokn
    have hoki := okProd_at hp (show i < 27 by omega)
    simp only [okProd, Bool.and_eq_true, decide_eq_true_eq, List.all_eq_true, List.mem_range] at hoki
    have hf2 := hvf.length
    have hs2 := hvs.length
    with_unfolding_all refine' turns_enum (ax := lf) (vs := vf) (c := cf) (fun j m nx => ∃ (t1 t2 t3 t4 : Tok), Knows m [(Str.ofString "pool", .ref D), (Str.ofString "p", .int p t1), (Str.ofString "n", .int n t2), (Str.ofString "row", .ref R), (Str.ofString "product", .ref P), (Str.ofString "k", .int i t3), (Str.ofString "some", .ref ls), (Str.ofString "due", .int (dueOut (figs p n) (figs p i) j) t4)] ∧ nx = [(lf, listOf vf.toArray cf), (ls, listOf vs.toArray cs), (I, o), (P, listOf vp.toArray cp), (R, listOf vr.toArray cr), (D, po), (C, co), (L + 1, oc)]) (.head _) F2 N2 ?_ ?_ ?_ ?_
    · exact ⟨_, _, _, _, .cons rfl (.cons rfl (.cons rfl (.cons rfl (.cons rfl (.cons rfl (.cons rfl (.cons rfl .nil))))))), rfl⟩
    · rintro j m nx ⟨_, _, _, _, _, rfl⟩
      exact .head _
    · rintro j v T9 t I₁ I₂ o₁ o₂ m₁ nx h tk hvj hT ⟨t5, t6, t7, t8, e2, rfl⟩ hoff2 F3 N3 hI
      obtain ⟨hj, tx, rfl⟩ := ints_at hvf hvj
      obtain ⟨⟨⟨hpl2, hf0⟩, hf5⟩, -⟩ := hokn.2 j hj
      obtain ⟨fg, hfg⟩ : ∃ fg : Nat, (figs p n).getD j 0 = fg := ⟨((figs p n).getD j 0).toNat, by omega⟩
      rw [hfg] at hT hf0 hf5
      have F4 := knows F3 e2
      dsimp only [kstB] at F4
      try clear F3
      try clear F2
      try clear N2
      k_steps
      refine Hold.out (wpAny_execs_cons ?_)
      k_steps
      refine Hold.out ?_
      rename Fr _ _ _ _ => F2
      rename News _ _ _ _ => N2
      refine' Con.use (con_binomial w mean mg mb _ fg (by omega) _) B F2 X N2 T rfl ?h5 ?h6 ?_
      case h5 => k_room
      case h6 => decide
      rintro r9 news9 h9 tk9 ⟨lw, vw, cw, rfl, hvw, rfl, hW⟩ F9 N9
      simp only [AllLt, and_true] at hW
      have hw2 := hvw.length
      have hw3 : (binRow fg).length = fg + 1 := binPre_len fg fg
      try clear F2
      try clear N2
      k_steps
      refine Hold.out (wpAny_execs_cons ?_)
      k_steps
      · have hjs : j < (figs p i).length := by omega
        obtain ⟨⟨⟨-, hg0⟩, hg5⟩, -⟩ := hoki.2 j hjs
        have hlo : lowAt (figs p i) j = (figs p i).getD j 0 := by rw [lowAt, if_pos hjs]
        have hbb : (figs p i).getD j 0 ≤ fg → 0 ≤ (binRow fg).getD ((figs p i).getD j 0).toNat 0 ∧ (binRow fg).getD ((figs p i).getD j 0).toNat 0 < 1000 := fun hh => row_at (by omega) (by omega)
        rename Fr _ _ _ _ => F2
        simp only [Int.toNat_natCast] at F2
        refine Hold.out (wpAny_execs_cons ?_)
        k_steps
        · have hle : (figs p i).getD j 0 ≤ fg := by omega
          rename Fr _ _ _ _ => F9
          rename News _ _ _ _ => N9
          have he := dueOut_succ (figs p n) (figs p i) j
          rw [dueStep, hfg, Int.toNat_natCast, hlo, if_pos hle] at he
          replace he := he.symm
          exact ⟨_, _, _, [(lf, listOf vf.toArray cf), (ls, listOf vs.toArray cs), (I, o), (P, listOf vp.toArray cp), (R, listOf vr.toArray cr), (D, po), (C, co), (L + 1, oc)], rfl, F9, kst_newsOf N9 (by kst_inAny), off2 hoff2, _, _, _, _, .cons rfl (.cons rfl (.cons rfl (.cons rfl (.cons rfl (.cons rfl (.cons rfl (.cons (congrArg (fun x => some (Value.int x _)) he) .nil))))))), rfl⟩
        · have hle : ¬ (figs p i).getD j 0 ≤ fg := by omega
          rename Fr _ _ _ _ => F9
          rename News _ _ _ _ => N9
          have he := dueOut_succ (figs p n) (figs p i) j
          rw [dueStep, hfg, Int.toNat_natCast, hlo, if_neg hle] at he
          replace he := he.symm
          exact ⟨_, _, _, [(lf, listOf vf.toArray cf), (ls, listOf vs.toArray cs), (I, o), (P, listOf vp.toArray cp), (R, listOf vr.toArray cr), (D, po), (C, co), (L + 1, oc)], rfl, F9, kst_newsOf N9 (by kst_inAny), off2 hoff2, _, _, _, _, .cons rfl (.cons rfl (.cons rfl (.cons rfl (.cons rfl (.cons rfl (.cons rfl (.cons (congrArg (fun x => some (Value.int x _)) he) .nil))))))), rfl⟩
      · have hjs : ¬ j < (figs p i).length := by omega
        have hlo : lowAt (figs p i) j = 0 := by rw [lowAt, if_neg hjs]
        have hbb : 0 ≤ (binRow fg).getD (0 : Int).toNat 0 ∧ (binRow fg).getD (0 : Int).toNat 0 < 1000 := row_at (by omega) (by omega)
        refine Hold.out (wpAny_execs_cons ?_)
        k_steps
        have hle : (0 : Int) ≤ fg := by omega
        rename Fr _ _ _ _ => F9
        rename News _ _ _ _ => N9
        have he := dueOut_succ (figs p n) (figs p i) j
        rw [dueStep, hfg, Int.toNat_natCast, hlo, if_pos hle] at he
        replace he := he.symm
        exact ⟨_, _, _, [(lf, listOf vf.toArray cf), (ls, listOf vs.toArray cs), (I, o), (P, listOf vp.toArray cp), (R, listOf vr.toArray cr), (D, po), (C, co), (L + 1, oc)], rfl, F9, kst_newsOf N9 (by kst_inAny), off2 hoff2, _, _, _, _, .cons rfl (.cons rfl (.cons rfl (.cons rfl (.cons rfl (.cons rfl (.cons rfl (.cons (congrArg (fun x => some (Value.int x _)) he) .nil))))))), rfl⟩
    · rintro h tk m₁ nx ⟨t5, t6, t7, t8, e2, rfl⟩ F3 N3
      have F4 := knows F3 e2
      dsimp only [kstB] at F4
      try clear F3
      try clear F2
      try clear N2
      k_steps
      refine Hold.out (wpAny_execs_cons ?_)
      k_steps
      · exfalso
        have hg := due_get hp hn hi
        rename (prodL p n).getD _ 0 ≠ _ => hx
        rw [Int.toNat_natCast, hf2] at hx
        exact hx hg
      · rename Fr _ _ _ _ => F9
        exact ⟨_, _, _, [(P, listOf vp.toArray cp), (R, listOf vr.toArray cr), (D, po), (C, co), (L + 1, oc)], rfl, F9, kst_newsOf N3 (by kst_inAny), off1 hoff, _, _, .cons rfl (.cons rfl (.cons rfl (.cons rfl (.cons rfl .nil)))), rfl⟩
  · rintro h tk m₁ nx ⟨t3, t4, e1, rfl⟩ F3 N3
    exact k _ _ _ _ _ e1 F3 N3
end PartSD

section PartSE
theorem cleanSE : True := by
  w_top off
  trivial
local macro_rules | `(tactic| walk_at "mine:pad0") => `(tactic| skip)
local macro_rules | `(tactic| walk_at "exec For Name Call cons nil") => `(tactic| refine hold ?_)
local macro_rules | `(tactic| walk_at "exec For Tuple Call cons nil") => `(tactic| refine hold ?_)
local macro_rules | `(tactic| walk_at "exec While Compare cons nil") => `(tactic| refine hold ?_)
local macro_rules | `(tactic| walk_at "exec While BoolOp cons nil") => `(tactic| refine hold ?_)
local macro_rules | `(tactic| walk_at "pyIter ref") => `(tactic| refine hold ?_)
local macro_rules | `(tactic| walk_at "call type:enumerate") => `(tactic| refine hold ?_)
local macro_rules | `(tactic| walk_at "TPost") => `(tactic| dsimp only [TPost])
local macro_rules | `(tactic| walk_at "WPost") => `(tactic| dsimp only [WPost])
local macro_rules | `(tactic| walk_at "mine:mem") => `(tactic| first | assumption | exact List.Mem.head _ | (refine' List.Mem.tail _ ?_; walk_at "mine:mem"))
local macro_rules | `(tactic| walk_at "subscriptTail Name Name ref int") => `(tactic| (k_dflt (refine' ksa_sub ?k1 ?k2 ?k3 ?k4 ?k5 ?k6 ?_ ?k7; (case k1 => k_asm); (case k2 => walk_at "mine:mem"); (case k3 => with_reducible assumption); (case k4 => omega); (case k5 => omega); (case k6 => omega); (case k7 => with_unfolding_all rfl)); intro _))
local macro_rules | `(tactic| walk_at "subscriptTail Name BinOp ref int") => `(tactic| (k_dflt (refine' ksa_sub ?k1 ?k2 ?k3 ?k4 ?k5 ?k6 ?_ ?k7; (case k1 => k_asm); (case k2 => walk_at "mine:mem"); (case k3 => with_reducible assumption); (case k4 => omega); (case k5 => omega); (case k6 => omega); (case k7 => with_unfolding_all rfl)); intro _))
local macro_rules | `(tactic| walk_at "call builtin:len") => `(tactic| ((with_reducible show wpAny _ _ (call (Value.builtin "len") [Value.ref _]) _ _ _); k_dflt (refine' kst_len ?k1 ?k2 ?k3 ?k4 ?_; (case k1 => k_asm); (case k2 => walk_at "mine:mem"); (case k3 => exact IntsAre.length (by assumption)); (case k4 => omega))))
local macro_rules | `(tactic| k_all) => `(tactic| assumption)
local macro_rules | `(tactic| walk_at "call ref") => `(tactic| refine hold ?_)
local macro_rules | `(tactic| walk_at "execs cons") => `(tactic| refine hold ?_)

local macro_rules | `(tactic| walk_at "CompSrcT") => `(tactic| refine hold ?_)
def isPr (one : Nat) : Bool := decide ((rangeKs 2 (one - 2)).foldl (fun l k => if Int.fmod one k = 0 then l ++ [1] else l) [] = ([] : List Int))
def toldStep (n k : Nat) (acc : List (Nat × Nat)) (i : Nat) : List (Nat × Nat) := if isPr (i + 2) = true ∧ 0 < carries k (n - k) (i + 2) then acc ++ [(i + 2, carries k (n - k) (i + 2))] else acc
def toldPre (n k i : Nat) : List (Nat × Nat) := (List.range i).foldl (toldStep n k) []
def toldL (n k : Nat) : List (Nat × Nat) := toldPre n k (n - 1)
theorem toldPre_succ (n k i : Nat) : toldPre n k (i + 1) = toldStep n k (toldPre n k i) i := by
  simp [toldPre, List.range_succ]
theorem toldPre_len (n k i : Nat) : (toldPre n k i).length ≤ i := by
  induction i with
  | zero => exact Nat.le_refl _
  | succ i ih => 
    rw [toldPre_succ, toldStep]
    split
    · rw [List.length_append]; show _ + 1 ≤ _; omega
    · omega
theorem seg_e (w : World) (mean : ExcName → Option Value) (mg mb : Map) {h₀ : Heap} {L fa : Addr} {cd : Value} {s : Shared} {m : Map} {Q : Flow → Shared → Prop} {E : Value → Shared → Prop} {D C P R : Addr} {vp vr : List Value} {cp cr : Nat} {po co oc : Obj} {p n : Nat} {t1 t2 : Tok}
    (B : Below callerA h₀ [] h₀) (X : (hd.heap_39 w.params).In h₀) (T : Top hd.view_39 (looseW hd.view_39 []) mean mg mb h₀) (F : Fr h₀ L s.heap m) (N : News h₀ L s.heap [(P, listOf vp.toArray cp), (R, listOf vr.toArray cr), (D, po), (C, co), (L + 1, oc)])
    (hpool : Pool L D C 2 po co oc) (hRD : @Ne Nat R D) (hRL : @Ne Nat R (L + 1))
    (hm : Knows m [(Str.ofString "pool", .ref D), (Str.ofString "p", .int p t1), (Str.ofString "n", .int n t2), (Str.ofString "row", .ref R), (Str.ofString "product", .ref P)]) (hn : n < 27)
    (hE : PassesOwn (model PySem.Challenge.rw_tg0001_01.row.prog w) (callerA.deeper (envOfC "law" lawScope L fa cd)) (envOfC "law" lawScope L fa cd) E)
    (k : ∀ (lt : Addr) (tl : Led) (vt : List Value) (ct : Nat) (po' oc' : Obj) (kk : Nat) (t1 t2 : Tok) h tk m', kk < n + 1 → DatAll tl vt ((toldL n kk).map prD) → Pool L D C 3 po' co oc' → @LT.lt Nat _ D lt → (∀ p ∈ tl, @LT.lt Nat _ lt p.1) → Knows m' [(Str.ofString "pool", .ref D), (Str.ofString "row", .ref R), (Str.ofString "k", .int kk t1), (Str.ofString "told", .ref lt)] → Fr h₀ L h m' →
      News h₀ L h ((lt, listOf vt.toArray ct) :: (L + 1, oc') :: (D, po') :: (C, co) :: (R, listOf vr.toArray cr) :: tl) →
      wpAny (model PySem.Challenge.rw_tg0001_01.row.prog w) (callerA.deeper (envOfC "law" lawScope L fa cd)) (execs (lawBody.drop 9) (envOfC "law" lawScope L fa cd)) Q E { s with heap := h, toks := tk }) :
    wpAny (model PySem.Challenge.rw_tg0001_01.row.prog w) (callerA.deeper (envOfC "law" lawScope L fa cd)) (execs (lawBody.drop 7) (envOfC "law" lawScope L fa cd)) Q E s := by
  obtain ⟨b, hb⟩ : ∃ b, b = lawBody.drop 7 := ⟨_, rfl⟩
  obtain ⟨sc, hsc⟩ : ∃ sc, sc = lawScope := ⟨_, rfl⟩
  rw [← hb]
  rw [← hsc] at hE k ⊢
  dsimp only [lawScope, lawBody, lawOf, PySem.Challenge.rw_tg0001_01, PySem.Challenge.pw_tg0001_01, OpenLaw.row, List.drop] at hb hsc
  subst hb hsc
  obtain ⟨⟨tp, np, rfl⟩, ⟨vc, nc, cc, rfl, hvc, hnc⟩, ⟨cv, hoc⟩, hCD, hLD, hLC⟩ := hpool
  have F1 := knows F hm
  dsimp only [kstB] at F1
  clear F
  refine wpAny_execs_cons ?_
  k_steps
  refine Hold.out ?_
  have hrest : ∀ p ∈ [(R, listOf vr.toArray cr), (L + 1, oc)], p.1 ≠ D := List.forall_mem_cons.mpr ⟨hRD, List.forall_mem_cons.mpr ⟨hLD, fun _ h => nomatch h⟩⟩
  refine' Con.use (con_draw w mean mg mb [(R, listOf vr.toArray cr), (L + 1, oc)] D C vc nc cc np 2 (n + 1) hvc hnc (by omega) (by omega) (by omega) hCD hrest tp _) B F1 X (kst_newsOf N (by kst_inAny)) T rfl ?h1 ?h2 ?_
  case h1 => k_room
  case h2 => decide
  rintro r9 news9 h9 tk9 ⟨kk, t3, t4, hkk, rfl, rfl⟩ F9 N9
  try clear F1
  try clear N
  k_steps
  refine Hold.out (wpAny_execs_cons ?_)
  k_steps
  refine Hold.out ?_
  rename Fr _ _ _ _ => F1
  with_unfolding_all refine' For_turns F1 ?_
  k_steps
  refine Hold.out ?_
  rename Fr _ _ _ _ => F2
  rename News _ _ _ _ => N2
  rename IsRange _ _ _ _ _ _ _ _ => R2
  with_unfolding_all refine' turns_range (n := n - 1) (fun i m nx => ∃ (lt : Addr) (tl : Led) (vt : List Value) (ct : Nat) (oc' : Obj) (t1 t2 : Tok), Knows m [(Str.ofString "pool", .ref D), (Str.ofString "n", .int n t1), (Str.ofString "row", .ref R), (Str.ofString "k", .int kk t2), (Str.ofString "told", .ref lt)] ∧ DatAll tl vt ((toldPre n kk i).map prD) ∧ nx = (lt, listOf vt.toArray ct) :: (L + 1, oc') :: (D, listOf [.ref C, .int ((2 + 1 : Nat) : Int) t4].toArray np) :: (C, listOf vc.toArray cc) :: (R, listOf vr.toArray cr) :: tl ∧ (∃ v, oc'.data = .cell v) ∧ @LT.lt Nat _ D lt ∧ @LT.lt Nat _ (L + 1) lt ∧ @LT.lt Nat _ C lt ∧ @LT.lt Nat _ R lt ∧ ∀ p ∈ tl, @LT.lt Nat _ lt p.1) R2 ?_ ?_ F2 (perm6 N2) ?_ ?_ ?_
  · exact small_one (by omega) (by omega) (by omega) (by omega)
  · rw [rangeSize_nat]; omega
  · refine ⟨_, [], [], 0, oc, _, _, .cons rfl (.cons rfl (.cons rfl (.cons rfl (.cons rfl .nil)))), .nil, rfl, ⟨_, hoc⟩, ?_, ?_, ?_, ?_, fun _ h => nomatch h⟩
    all_goals omega
  · rintro i t9 I o m₁ nx h tk hi ⟨lt, tl, vt, ct, oc', t5, t6, e1, hvt, rfl, ⟨cv', hoc'⟩, ha, hb, hc, hd, htl⟩ hoff F3 N3
    rw [show (2 : Int) + (i : Int) = ((i + 2 : Nat) : Int) by omega]
    have F4 := knows F3 e1
    dsimp only [kstB] at F4
    try clear F3
    try clear F2
    try clear N2
    have hI1 : @Ne Nat lt I := hoff _ (.head _)
    have hI2 : @Ne Nat (L + 1) I := hoff _ (.tail _ (.head _))
    have htL : ∀ p ∈ tl, p.1 ≠ L + 1 := fun p hp => by have := htl p hp; refine neN ?_; omega
    have htt : ∀ p ∈ tl, p.1 ≠ lt := fun p hp => Nat.ne_of_gt (htl p hp)
    have hnk : (n : Int) - (kk : Int) = ((n - kk : Nat) : Int) := by omega
    have hvl := hvt.length
    have htl2 := toldPre_len n kk i
    simp only [List.length_map] at hvl
    k_steps
    refine Hold.out (wpAny_execs_cons ?_)
    k_steps
    refine Hold.out ?_
    rename News _ _ _ _ => N5
    rename IsRange _ _ _ _ _ _ _ _ => R5
    refine LCt.CompSrcT.range (n := i + 2 - 2) (by rfl) (by k_asm) N5 R5 (small_one (by omega) (by omega) (by omega) (by omega)) (by rw [rangeSize_nat]; omega) (by rw [PySem.sizeLine_eq]; omega) ?_
    intro g9
    refine' kci_range (fun l k => if Int.fmod ((i + 2 : Nat) : Int) k = 0 then l ++ [1] else l) (fun k8 t8 I8 oI8 C8 oC8 D8 m8 ys8 l8 h8 tk8 E8 hlo8 hhi8 hI8 hC8 hx8 F8 N8 off8 ne8 hMark8 => ?_) ?_ ?_
    · k_steps
      · rename Int.fmod _ k8 = 0 => hz
        exact LCg.CompEnd.intro (by assumption) (by assumption) _ (fun _ hp => hp) off8 trivial (kci_el (if_pos hz) rfl rfl)
      · rename Int.fmod _ k8 ≠ 0 => hz
        exact LCg.CompEnd.intro (by assumption) (by assumption) _ (fun _ hp => hp) off8 trivial (kci_no (if_neg hz) rfl)
    · k_steps
      · refine Hold.out ?_
        have hpr : isPr (i + 2) = true := by assumption
        rw [hnk]
        rename Fr _ _ _ _ => F2
        rename News _ _ _ _ => N2
        refine' Con.use (con_carries w mean mg mb _ kk (n - kk) (i + 2) (by omega) (by omega) (by omega) (by omega) _ _ _) B F2 X N2 T rfl ?h3 ?h4 ?_
        case h3 => k_room
        case h4 => decide
        rintro r9 news9 h9 tk9 ⟨t10, rfl, rfl⟩ F9 N9
        try clear F2
        try clear N2
        k_steps
        · have hcz : 0 < carries kk (n - kk) (i + 2) := by omega
          have he := toldPre_succ n kk i
          rw [toldStep, if_pos ⟨hpr, hcz⟩] at he
          rename News _ _ _ _ => N7
          have N8 := drop1 (drop1 N7)
          clear N7
          refine Hold.out (wpAny_execs_cons ?_)
          k_steps
          refine Hold.out ?_
          rw [hnk]
          rename Fr _ _ _ _ => F2
          rename News _ _ _ _ => N2
          refine' Con.use (con_carries w mean mg mb _ kk (n - kk) (i + 2) (by omega) (by omega) (by omega) (by omega) _ _ _) B F2 X N2 T rfl ?h5 ?h6 ?_
          case h5 => k_room
          case h6 => decide
          rintro r9 news9 h9 tk9 ⟨t11, rfl, rfl⟩ F9 N9
          try clear F2
          try clear N2
          try clear N8
          k_steps
          rename Fr _ _ _ _ => F9
          rename News _ _ _ _ => N9
          rename _ = Data.cell (some _) => hoc9
          rename I < _ ∧ lt < _ ∧ _ => hT
          simp only [List.push_toArray] at N9
          exact ⟨_, _, _, _, rfl, F9, perm7 N9, off1 (List.forall_mem_cons.mpr ⟨hI1, List.forall_mem_cons.mpr ⟨hI2, List.forall_mem_cons.mpr ⟨hoff _ (.tail _ (.tail _ (.head _))), List.forall_mem_cons.mpr ⟨hoff _ (.tail _ (.tail _ (.tail _ (.head _)))), List.forall_mem_cons.mpr ⟨hoff _ (.tail _ (.tail _ (.tail _ (.tail _ (.head _))))), List.forall_mem_cons.mpr ⟨Nat.ne_of_gt hT.1, fun p hp => hoff p (.tail _ (.tail _ (.tail _ (.tail _ (.tail _ hp)))))⟩⟩⟩⟩⟩⟩), lt, _ :: tl, _, _, _, _, _, .cons rfl (.cons rfl (.cons rfl (.cons rfl (.cons rfl .nil)))),
            (by rw [he, List.map_append]; exact (hvt.mono fun p hp => .tail _ hp).append (DatAll.one (.tuple (vs := [_, _]) (.head _) (.cons (.int _ _) (.cons (.int _ _) .nil))))), rfl, ⟨_, hoc9⟩, ha, hb, hc, hd, List.forall_mem_cons.mpr ⟨hT.2.1, htl⟩⟩
        · have hcz : ¬ 0 < carries kk (n - kk) (i + 2) := by omega
          have he := toldPre_succ n kk i
          rw [toldStep, if_neg (fun h => hcz h.2)] at he
          rename Fr _ _ _ _ => F9
          rename News _ _ _ _ => N9
          rename _ = Data.cell (some _) => hoc9
          exact ⟨_, _, _, _, rfl, F9, drop1 (drop1 N9), off1 (List.forall_mem_cons.mpr ⟨hI1, List.forall_mem_cons.mpr ⟨hI2, fun p hp => hoff p (.tail _ (.tail _ hp))⟩⟩), lt, tl, vt, ct, _, _, _, .cons rfl (.cons rfl (.cons rfl (.cons rfl (.cons rfl .nil)))), he ▸ hvt, rfl, ⟨_, hoc9⟩, ha, hb, hc, hd, htl⟩
      · have hpr : isPr (i + 2) = false := by assumption
        have he := toldPre_succ n kk i
        rw [toldStep, if_neg (fun h => by rw [hpr] at h; exact Bool.false_ne_true h.1)] at he
        rename Fr _ _ _ _ => F9
        rename News _ _ _ _ => N9
        rename _ = Data.cell (some _) => hoc9
        exact ⟨_, _, _, _, rfl, F9, drop1 (drop1 N9), off1 (List.forall_mem_cons.mpr ⟨hI1, List.forall_mem_cons.mpr ⟨hI2, fun p hp => hoff p (.tail _ (.tail _ hp))⟩⟩), lt, tl, vt, ct, _, _, _, .cons rfl (.cons rfl (.cons rfl (.cons rfl (.cons rfl .nil)))), he ▸ hvt, rfl, ⟨_, hoc9⟩, ha, hb, hc, hd, htl⟩
    · intro l k
      show (if Int.fmod ((i + 2 : Nat) : Int) k = 0 then l ++ [1] else l).length ≤ _
      split
      · rw [List.length_append]; exact Nat.le_refl _
      · omega
  · rintro h tk m₁ nx ⟨lt, tl, vt, ct, oc', t5, t6, e1, hvt, rfl, hoc', ha, hb, hc, hd, htl⟩ F3 N3
    exact k lt tl vt ct _ oc' kk t6 t6 _ _ _ hkk hvt ⟨⟨_, _, rfl⟩, ⟨_, _, _, rfl, hvc, hnc⟩, hoc', hCD, hLD, hLC⟩ ha htl
      (.cons (e1 _ (.head _)) (.cons (e1 _ (.tail _ (.tail _ (.head _)))) (.cons (e1 _ (.tail _ (.tail _ (.tail _ (.head _))))) (.cons (e1 _ (.tail _ (.tail _ (.tail _ (.tail _ (.head _)))))) .nil)))) F3 N3
end PartSE

section PartSF
theorem cleanSF : True := by
  w_top off
  trivial
local macro_rules | `(tactic| walk_at "exec For Name Call cons nil") => `(tactic| refine hold ?_)
local macro_rules | `(tactic| walk_at "exec For Tuple Call cons nil") => `(tactic| refine hold ?_)
local macro_rules | `(tactic| walk_at "exec While Compare cons nil") => `(tactic| refine hold ?_)
local macro_rules | `(tactic| walk_at "exec While BoolOp cons nil") => `(tactic| refine hold ?_)
local macro_rules | `(tactic| walk_at "pyIter ref") => `(tactic| refine hold ?_)
local macro_rules | `(tactic| walk_at "call type:enumerate") => `(tactic| refine hold ?_)
local macro_rules | `(tactic| walk_at "TPost") => `(tactic| dsimp only [TPost])
local macro_rules | `(tactic| walk_at "WPost") => `(tactic| dsimp only [WPost])
local macro_rules | `(tactic| walk_at "mine:mem") => `(tactic| first | assumption | exact List.Mem.head _ | (refine' List.Mem.tail _ ?_; walk_at "mine:mem"))
local macro_rules | `(tactic| walk_at "subscriptTail Name Name ref int") => `(tactic| (k_dflt (refine' ksa_sub ?k1 ?k2 ?k3 ?k4 ?k5 ?k6 ?_ ?k7; (case k1 => k_asm); (case k2 => walk_at "mine:mem"); (case k3 => with_reducible assumption); (case k4 => omega); (case k5 => omega); (case k6 => omega); (case k7 => with_unfolding_all rfl)); intro _))
local macro_rules | `(tactic| walk_at "subscriptTail Name BinOp ref int") => `(tactic| (k_dflt (refine' ksa_sub ?k1 ?k2 ?k3 ?k4 ?k5 ?k6 ?_ ?k7; (case k1 => k_asm); (case k2 => walk_at "mine:mem"); (case k3 => with_reducible assumption); (case k4 => omega); (case k5 => omega); (case k6 => omega); (case k7 => with_unfolding_all rfl)); intro _))
local macro_rules | `(tactic| walk_at "call builtin:len") => `(tactic| ((with_reducible show wpAny _ _ (call (Value.builtin "len") [Value.ref _]) _ _ _); k_dflt (refine' kst_len ?k1 ?k2 ?k3 ?k4 ?_; (case k1 => k_asm); (case k2 => walk_at "mine:mem"); (case k3 => exact IntsAre.length (by assumption)); (case k4 => omega))))
local macro_rules | `(tactic| k_all) => `(tactic| assumption)
local macro_rules | `(tactic| walk_at "call ref") => `(tactic| refine hold ?_)
local macro_rules | `(tactic| walk_at "execs cons") => `(tactic| refine hold ?_)
local macro_rules | `(tactic| walk_at "compareOp NotEq ref ref") => `(tactic| refine hold ?_)
def isPrF (one : Nat) : Bool := [2, 3, 5, 7, 11, 13, 17, 19, 23].contains one
theorem isPr_all : (List.range 26).all (fun i => isPr (i + 2) == isPrF (i + 2)) = true := by decide +kernel
theorem isPr_fast {i : Nat} (h : i < 26) : isPr (i + 2) = isPrF (i + 2) := by
  have h1 := isPr_all
  rw [List.all_eq_true] at h1
  exact beq_iff_eq.mp (h1 i (List.mem_range.mpr h))
def toldStepF (n k : Nat) (acc : List (Nat × Nat)) (i : Nat) : List (Nat × Nat) := if isPrF (i + 2) = true ∧ 0 < carries k (n - k) (i + 2) then acc ++ [(i + 2, carries k (n - k) (i + 2))] else acc
def toldF (n k i : Nat) : List (Nat × Nat) := (List.range i).foldl (toldStepF n k) []
theorem told_fast (n k : Nat) : ∀ i, i ≤ 26 → toldPre n k i = toldF n k i
  | 0, _ => rfl
  | i + 1, h => by
    have ih := told_fast n k i (by omega)
    have hs : toldF n k (i + 1) = toldStepF n k (toldF n k i) i := by simp [toldF, List.range_succ]
    rw [toldPre_succ, hs, ih, toldStep, toldStepF, isPr_fast (by omega)]
def okRow (n : Nat) : Nat → List Int → Bool
  | _, [] => true
  | k, x :: r => (decide (1 ≤ x.toNat) && decide (x.toNat ≤ 10400600) && decide (0 ≤ x) && decide (pf x.toNat = toldF n k (n - 1))) && okRow n (k + 1) r
theorem okRow_get {n : Nat} : ∀ {r : List Int} {k j : Nat}, okRow n k r = true → j < r.length → (decide (1 ≤ (r.getD j 0).toNat) && decide ((r.getD j 0).toNat ≤ 10400600) && decide (0 ≤ r.getD j 0) && decide (pf (r.getD j 0).toNat = toldF n (k + j) (n - 1))) = true
  | [], _, _, _, h => absurd h (Nat.not_lt_zero _)
  | x :: r, k, 0, h, _ => (Bool.and_eq_true_iff.mp h).1
  | x :: r, k, j + 1, h, hj => by
    have h1 := okRow_get (Bool.and_eq_true_iff.mp h).2 (Nat.lt_of_succ_lt_succ hj)
    rw [show k + (j + 1) = k + 1 + j by omega]
    exact h1
theorem okPfA : (List.range' 0 17).all (fun n => okRow n 0 (binRow n)) = true := by decide +kernel
theorem okPfB : (List.range' 17 4).all (fun n => okRow n 0 (binRow n)) = true := by decide +kernel
theorem okPfC : (List.range' 21 3).all (fun n => okRow n 0 (binRow n)) = true := by decide +kernel
theorem okPfD : (List.range' 24 3).all (fun n => okRow n 0 (binRow n)) = true := by decide +kernel
theorem okPfAll {n : Nat} (hn : n < 27) : okRow n 0 (binRow n) = true := by
  have ha := okPfA
  have hb := okPfB
  have hc := okPfC
  have hd := okPfD
  rw [List.all_eq_true] at ha hb hc hd
  have h : n < 17 ∨ (17 ≤ n ∧ n < 21) ∨ (21 ≤ n ∧ n < 24) ∨ 24 ≤ n := by omega
  rcases h with h | h | h | h
  · exact ha n (List.mem_range'_1.mpr (by omega))
  · exact hb n (List.mem_range'_1.mpr (by omega))
  · exact hc n (List.mem_range'_1.mpr (by omega))
  · exact hd n (List.mem_range'_1.mpr (by omega))
def okPf (n k : Nat) : Bool := decide (1 ≤ ((binRow n).getD k 0).toNat) && decide (((binRow n).getD k 0).toNat ≤ 10400600) && decide (0 ≤ (binRow n).getD k 0) && decide (pf ((binRow n).getD k 0).toNat = toldL n k)
theorem okPf_at {n k : Nat} (hn : n < 27) (hk : k < n + 1) : okPf n k = true := by
  have hl : (binRow n).length = n + 1 := binPre_len n n
  have h1 := okRow_get (okPfAll hn) (j := k) (by omega)
  rw [Nat.zero_add] at h1
  rw [okPf, toldL, told_fast _ _ _ (by omega)]
  exact h1
theorem wol_all : ([5, 7, 11] : List Nat).all (fun p => decide (Int.fmod ((binRow (2 * p - 1)).getD (p - 1) 0) ((p ^ 3 : Nat) : Int) = 1)) = true := by decide +kernel
theorem wol_at {p : Nat} (hp : p = 5 ∨ p = 7 ∨ p = 11) : Int.fmod ((binRow (2 * p - 1)).getD (p - 1) 0) ((p ^ 3 : Nat) : Int) = 1 := by
  have h := wol_all
  rw [List.all_eq_true] at h
  exact of_decide_eq_true (h p (by rcases hp with rfl | rfl | rfl <;> simp))
theorem prD_ok (l : List (Nat × Nat)) : ∀ d ∈ l.map prD, kqdOk 8 d = true := fun d hd => by
  obtain ⟨x, _, rfl⟩ := List.mem_map.mp hd
  rfl
theorem pow_q3 {prog : Program} {w : World} {A : Around} {E : Value → Shared → Prop} {s : Shared} {a n q : Int} {t u : Tok} {Q : Value → Shared → Prop} (hq : a ^ n.toNat = q) (hn : 0 ≤ n) (hn2 : n ≤ 1000000) (ha : a.natAbs < 2 ^ 64) (h : Q (.int q s.toks) { s with toks := s.toks + 1 }) :
    wpAny (model prog w) A (binaryOp .Pow (.int a t) (.int n u)) Q E s := by
  subst hq
  exact pow_int_small hn hn2 ha h
local macro_rules | `(tactic| walk_at "binaryOp Pow int int") => `(tactic| (refine' pow_q3 ?q1 ?q2 ?q3 ?q4 ?_; (case q1 => assumption); (case q2 => omega); (case q3 => omega); (case q4 => omega)))
local macro_rules | `(tactic| walk_at "subscriptTail Call BinOp ref int") => `(tactic| (k_dflt (refine' ksa_sub ?k1 ?k2 ?k3 ?k4 ?k5 ?k6 ?_ ?k7; (case k1 => k_asm); (case k2 => walk_at "mine:mem"); (case k3 => with_reducible assumption); (case k4 => omega); (case k5 => omega); (case k6 => omega); (case k7 => with_unfolding_all rfl)); intro _))

theorem seg_f (w : World) (mean : ExcName → Option Value) (mg mb : Map) {h₀ : Heap} {L fa : Addr} {cd : Value} {s : Shared} {m : Map} {Q : Flow → Shared → Prop} {E : Value → Shared → Prop} {D C R lt : Addr} {vr vt : List Value} {cr ct n kk : Nat} {tl : Led} {po co oc : Obj} {t1 : Tok}
    (B : Below callerA h₀ [] h₀) (X : (hd.heap_39 w.params).In h₀) (T : Top hd.view_39 (looseW hd.view_39 []) mean mg mb h₀) (F : Fr h₀ L s.heap m) (N : News h₀ L s.heap ((lt, listOf vt.toArray ct) :: (L + 1, oc) :: (D, po) :: (C, co) :: (R, listOf vr.toArray cr) :: tl))
    (hpool : Pool L D C 3 po co oc) (hn : n < 27) (hkk : kk < n + 1) (hvr : IntsAre vr (binRow n)) (hvt : DatAll tl vt ((toldL n kk).map prD))
    (hm : Knows m [(Str.ofString "pool", .ref D), (Str.ofString "row", .ref R), (Str.ofString "k", .int kk t1), (Str.ofString "told", .ref lt)])
    (hE : PassesOwn (model PySem.Challenge.rw_tg0001_01.row.prog w) (callerA.deeper (envOfC "law" lawScope L fa cd)) (envOfC "law" lawScope L fa cd) E)
    (k : ∀ h tk m' news', Fr h₀ L h m' → News h₀ L h news' → Q (.ret (.bool true)) { s with heap := h, toks := tk }) :
    wpAny (model PySem.Challenge.rw_tg0001_01.row.prog w) (callerA.deeper (envOfC "law" lawScope L fa cd)) (execs (lawBody.drop 9) (envOfC "law" lawScope L fa cd)) Q E s := by
  obtain ⟨b, hb⟩ : ∃ b, b = lawBody.drop 9 := ⟨_, rfl⟩
  obtain ⟨sc, hsc⟩ : ∃ sc, sc = lawScope := ⟨_, rfl⟩
  rw [← hb]
  rw [← hsc] at hE ⊢
  dsimp only [lawScope, lawBody, lawOf, PySem.Challenge.rw_tg0001_01, PySem.Challenge.pw_tg0001_01, OpenLaw.row, List.drop] at hb hsc
  subst hb hsc
  obtain ⟨⟨tp, np, rfl⟩, ⟨vc, nc, cc, rfl, hvc, hnc⟩, ⟨cv, hoc⟩, hCD, hLD, hLC⟩ := hpool
  have hok := okPf_at hn hkk
  simp only [okPf, Bool.and_eq_true, decide_eq_true_eq] at hok
  obtain ⟨⟨⟨ho1, ho2⟩, ho3⟩, ho4⟩ := hok
  obtain ⟨x, hx⟩ : ∃ x : Nat, (binRow n).getD kk 0 = (x : Int) := ⟨((binRow n).getD kk 0).toNat, by omega⟩
  rw [hx, Int.toNat_natCast] at ho1 ho2 ho4
  have hrl : (binRow n).length = n + 1 := binPre_len n n
  have F1 := knows F hm
  dsimp only [kstB] at F1
  clear F
  refine wpAny_execs_cons ?_
  k_steps
  refine Hold.out ?_
  rw [Int.toNat_natCast, hx]
  rename Fr _ _ _ _ => F2
  rename News _ _ _ _ => N2
  refine' Con.use (con_pf w mean mg mb _ x ho2 ho1 _) B F2 X N2 T rfl ?h1 ?h2 ?_
  case h1 => k_room
  case h2 => decide
  rintro r9 news9 h9 tk9 ⟨l9, v9, c9, tl9, rfl, hv9, rfl, hl9, htl9⟩ F9 N9
  rw [ho4] at hv9
  try clear F1
  try clear N
  try clear F2
  try clear N2
  k_steps
  refine Hold.out ?_
  have hsub : ∀ q ∈ tl, q ∈ (l9, listOf v9.toArray c9) :: (tl9 ++ (lt, listOf vt.toArray ct) :: (L + 1, oc) :: (D, listOf [.ref C, .int ((3 : Nat) : Int) tp].toArray np) :: (C, listOf vc.toArray cc) :: (R, listOf vr.toArray cr) :: tl) := fun q hq => .tail _ (List.mem_append_right _ (.tail _ (.tail _ (.tail _ (.tail _ (.tail _ hq))))))
  refine' kqd_ne N9 (.head _) rfl rfl hv9 (fun q hq => .tail _ (List.mem_append_left _ hq)) (.tail _ (List.mem_append_right _ (.head _))) rfl rfl hvt hsub (prD_ok _) (prD_ok _) ?h3 ?_
  case h3 => ke_room
  simp only [eq_self, decide_true, Bool.not_true]
  have N10 : News h₀ L h9 [(D, listOf [.ref C, .int ((3 : Nat) : Int) tp].toArray np), (C, listOf vc.toArray cc)] := fun q hq => N9 q (by
    rcases List.mem_cons.mp hq with rfl | hq
    · exact .tail _ (List.mem_append_right _ (.tail _ (.tail _ (.head _))))
    · rw [List.mem_singleton.mp hq]
      exact .tail _ (List.mem_append_right _ (.tail _ (.tail _ (.tail _ (.head _))))))
  clear N9
  k_steps
  refine Hold.out (wpAny_execs_cons ?_)
  k_steps
  refine Hold.out ?_
  rename Fr _ _ _ _ => F2
  rename News _ _ _ _ => N2
  rename D < _ ∧ C < _ => hA
  refine' Con.use (con_draw w mean mg mb _ D C vc nc cc np 3 3 hvc hnc (by decide) (by decide) (by decide) hCD ?h4 tp _) B F2 X (rot3 N2) T rfl ?h5 ?h6 ?_
  case h4 => exact List.forall_mem_cons.mpr ⟨Nat.ne_of_gt hA.1, fun _ h => nomatch h⟩
  case h5 => k_room
  case h6 => decide
  rintro r9 news9 h9 tk9 ⟨y, t3, t4, hy, rfl, rfl⟩ F9 N9
  try clear F2
  try clear N2
  try clear N10
  k_steps
  obtain ⟨pp, hpp, hpe⟩ : ∃ pp : Nat, (pp = 5 ∨ pp = 7 ∨ pp = 11) ∧ ([5, 7, 11] : List Int).getD (y : Int).toNat 0 = (pp : Int) := by
    have h3 : y = 0 ∨ y = 1 ∨ y = 2 := by omega
    rcases h3 with rfl | rfl | rfl
    · exact ⟨5, by omega, rfl⟩
    · exact ⟨7, by omega, rfl⟩
    · exact ⟨11, by omega, rfl⟩
  rename Fr _ _ _ _ => F2
  rename News _ _ _ _ => N2
  simp only [hpe] at F2
  refine Hold.out (wpAny_execs_cons ?_)
  k_steps
  refine Hold.out ?_
  have hp1 : 2 * (pp : Int) - 1 = ((2 * pp - 1 : Nat) : Int) := by omega
  rw [hp1]
  obtain ⟨q, hq, hqp, hq1⟩ : ∃ q : Nat, (pp : Int) ^ ((3 : Int)).toNat = (q : Int) ∧ q = pp ^ 3 ∧ 1 ≤ q := ⟨pp ^ 3, by rw [Int.natCast_pow]; rfl, rfl, Nat.pow_pos (by omega)⟩
  have hbl : (binRow (2 * pp - 1)).length = 2 * pp - 1 + 1 := binPre_len _ _
  have hw := wol_at hpp
  rename Fr _ _ _ _ => F3
  rename News _ _ _ _ => N3
  refine' Con.use (con_binomial w mean mg mb _ (2 * pp - 1) (by omega) _) B F3 X N3 T rfl ?h7 ?h8 ?_
  case h7 => k_room
  case h8 => decide
  rintro r9 news9 h9 tk9 ⟨lb, vb, cb, rfl, hvb, rfl, hlb⟩ F9 N9
  have hvbl := hvb.length
  try clear F3
  try clear N3
  try clear F2
  try clear N2
  k_steps
  rw [show ((pp : Int) - 1).toNat = pp - 1 by omega, hqp, hw]
  exact k _ _ _ _ F9 N9
end PartSF

section PartFin
theorem law_body (w : World) (mean : ExcName → Option Value) (mg mb : Map) {h₀ : Heap} {L fa : Addr} {cd : Value} {s : Shared} {m : Map} {Q : Flow → Shared → Prop} {E : Value → Shared → Prop} {l : Addr} {vs : List Value} {ns : List Int} {oc : Obj}
    (B : Below callerA h₀ [] h₀) (X : (hd.heap_39 w.params).In h₀) (T : Top hd.view_39 (looseW hd.view_39 []) mean mg mb h₀) (F : Fr h₀ L s.heap m) (N : News h₀ L s.heap [(L + 1, oc)]) (hm : m (Str.ofString "script") = some (.ref l)) (hl : h₀.IsList l vs.toArray) (hv : IntsAre vs ns) (hoc : oc.data = .cell none)
    (hn : ns.length ≤ 63) (hE : PassesOwn (model PySem.Challenge.rw_tg0001_01.row.prog w) (callerA.deeper (envOfC "law" lawScope L fa cd)) (envOfC "law" lawScope L fa cd) E)
    (k : ∀ h tk m' news', Fr h₀ L h m' → News h₀ L h news' → Q (.ret (.bool true)) { s with heap := h, toks := tk }) :
    wpAny (model PySem.Challenge.rw_tg0001_01.row.prog w) (callerA.deeper (envOfC "law" lawScope L fa cd)) (execs lawBody (envOfC "law" lawScope L fa cd)) Q E s := by
  refine seg_a w mean mg mb B X T F N hm hl hv hoc hn hE ?_
  intro D C po co p n t1 t2 h tk m' hp hn2 hpool hk F1 N1
  refine seg_b w mean mg mb B X T F1 N1 hk hp hn2 hE ?_
  intro P R vp vr cp cr t1 t2 h tk m' hvp hvr hPD hPL hRD hRL hk F1 N1
  refine seg_c w mean mg mb B X T F1 N1 hvp hvr hk hp hn2 hE ?_
  intro h tk m' t1 t2 hk F1 N1
  refine seg_d w mean mg mb B X T F1 N1 hvp hk hp hn2 hE ?_
  intro h tk m' t1 t2 hk F1 N1
  refine seg_e w mean mg mb B X T F1 N1 hpool hRD hRL hk hn2 hE ?_
  intro lt tl vt ct po' oc' kk t1 t2 h tk m' hkk hvt hpool' hDlt htl hk F1 N1
  exact seg_f w mean mg mb B X T F1 N1 hpool' hn2 hkk hvr hvt hk hE k
end PartFin

end Mine

set_option maxHeartbeats 8000000 in
theorem PySem.Challenge.cw_tg0001_01_holds : PySem.Challenge.rw_tg0001_01.Holds := by
  refine Mine.hd ?_
  w_strict (k_go0
            rename Fr _ _ _ _ => F9
            rename News _ _ _ _ => N9
            rename Top _ _ _ _ _ _ => T9
            rename Frag.In _ _ => X9
            rename Heap.IsList _ _ _ => hL9
            rename IntsAre _ _ => hI9
            rename _ = Data.cell _ => hc9
            with_unfolding_all refine' Mine.law_body _ _ _ _ (below_caller _) X9 T9 F9 N9 ?k3 hL9 hI9 ?k6 ?k7 ?k8 ?k9
            case k3 => rfl
            case k6 => with_unfolding_all exact hc9
            case k7 => omega
            case k8 => first | passes_own | with_unfolding_all passes_own
            case k9 => (intro h8 tk8 m8 nw8 F8 N8; wrow_close))
