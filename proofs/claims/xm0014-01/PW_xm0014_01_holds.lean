import PyProof.Rows.All
import Wide.All
import OpenK.AllK
import Wide.FinOn
import PySem.Challenge.RW_xm0014_01
set_option Elab.async false
set_option compiler.extract_closed false
section
open PySem PySem.W PyProof.Rows
set_option maxRecDepth 100000
set_option maxHeartbeats 8000000
namespace Mine
open_top hd for PySem.Challenge.rw_xm0014_01
end Mine
end
section
open PySem PySem.W PyProof.Rows PySem.Calls
namespace Mine
/-- a text by its signs' numbers -/
def S (l : List Nat) : Str := ⟨l.toArray⟩
theorem S_len (l : List Nat) : (S l).length = l.length := by simp [S, Str.length]
theorem S_app (l k : List Nat) : S l ++ S k = S (l ++ k) := by
  apply PySem.Str.ext'
  simp [S, PySem.Str.cps_append]
theorem S_inj {l k : List Nat} (h : S l = S k) : l = k := by
  have := congrArg (fun s => s.cps.toList) h
  simpa [S] using this
theorem S_cps (l : List Nat) : (S l).cps.toList = l := rfl
theorem slice_ss (l : List Nat) {i j : Int} (h0 : 0 ≤ i) (h1 : i ≤ j) (h2 : j ≤ l.length) : Txt.slice (S l) (some i) (some j) = S ((l.drop i.toNat).take (j - i).toNat) :=
  eq_of_beq (slice_closes (x := S l) ⟨h0, h1, by rw [S_cps]; exact h2⟩)
theorem slice_ns (l : List Nat) {j : Int} (h0 : 0 ≤ j) (h2 : j ≤ l.length) : Txt.slice (S l) none (some j) = S (l.take j.toNat) := by
  have := eq_of_beq (slice_closes_to (x := S l) (j := j) ⟨h0, by rw [S_cps]; exact h2⟩)
  rw [this, S_cps]
  simp [S]
theorem slice_sn (l : List Nat) {i : Int} (h0 : 0 ≤ i) (h2 : i ≤ l.length) : Txt.slice (S l) (some i) none = S (l.drop i.toNat) := by
  have := eq_of_beq (slice_closes_from (x := S l) (i := i) ⟨h0, by rw [S_cps]; exact h2⟩)
  rw [this, S_cps, List.take_of_length_le (by rw [List.length_drop]; omega)]
  rfl
end Mine
end
section
open PySem PySem.W PyProof.Rows PySem.Calls
set_option maxRecDepth 100000
namespace Mine

/-- a goal laid by: the walk has no line for it -/
def Hold (P : Prop) : Prop := P
theorem Hold.mk {P : Prop} (h : P) : Hold P := h
theorem Hold.by {P : Prop} (h : Hold P) : P := h

section
variable {prog : Program} {w : World} {A : Around} {E : Value → Shared → Prop} {s : Shared} {env : Env} {h₀ : Heap} {x : Str} {body : List Stmt} {Q : Flow → Shared → Prop}

/-- what a turn must leave: the iterator and the list as they were -/
def TurnEnds (h₀ : Heap) (L : Addr) (J : (Str → Option Value) → List (Addr × Obj) → Prop) (it li : Addr × Obj) (s₁ s₂ : Shared) : Prop :=
  ∃ h' tk m' nx, s₂ = { s₁ with heap := h', toks := tk } ∧ Fr h₀ L h' m' ∧ News h₀ L h' (it :: li :: nx) ∧ (∀ p ∈ nx, p.1 ≠ it.1) ∧ J m' nx
def TurnTo (h₀ : Heap) (L : Addr) (J : (Str → Option Value) → List (Addr × Obj) → Prop) (it li : Addr × Obj) (s₁ : Shared) (Q : Flow → Shared → Prop) (f : Flow) (s₂ : Shared) : Prop :=
  match f with
  | .ret v => Q (.ret v) s₂
  | .brk => Q .next s₂
  | _ => TurnEnds h₀ L J it li s₁ s₂

theorem for_led {l : Addr} {vs : List Value} {nn : Nat} {m₀ : Str → Option Value} {news : List (Addr × Obj)} (J : Nat → (Str → Option Value) → List (Addr × Obj) → Prop)
    (hh : A.handled = none) (hl : (l, listOf vs.toArray nn) ∈ news) (F : Fr h₀ env.locals s.heap m₀) (N : News h₀ env.locals s.heap news) (hj : J 0 m₀ news)
    (turn : ∀ i v m₁ nx I o h tk, vs[i]? = some v → J i m₁ nx → (∀ p ∈ nx, p.1 ≠ I) → l ≠ I → Fr h₀ env.locals h (fun y => if y = x then some v else m₁ y) → News h₀ env.locals h ((I, o) :: (l, listOf vs.toArray nn) :: nx) →
      wpAny (model prog w) A (execs body env) (TurnTo h₀ env.locals (J (i + 1)) (I, o) (l, listOf vs.toArray nn) { s with heap := h, toks := tk } Q) E { s with heap := h, toks := tk })
    (done : ∀ m₁ nx h tk, J vs.length m₁ nx → Fr h₀ env.locals h m₁ → News h₀ env.locals h ((l, listOf vs.toArray nn) :: nx) → Q .next { s with heap := h, toks := tk }) :
    wpAny (model prog w) A (pyIter (.ref l)) (fun it s₂ => LoopAtV prog w A h₀ env x body Q E it s₂) E s := by
  have hls : s.heap.IsList l vs.toArray := N.isList hl
  have hlo : s.heap.get? l = some (listOf vs.toArray nn) := N.get hl
  have hI : l ≠ s.heap.objs.size := Nat.ne_of_lt (Heap.lt_size hlo)
  have hnI : ∀ p ∈ news, p.1 ≠ s.heap.objs.size := fun p hp => Nat.ne_of_lt (Heap.lt_size (N p hp).1)
  have hI0 : h₀.get? s.heap.objs.size = none := by
    cases hq : h₀.get? s.heap.objs.size with
    | none => rfl
    | some o => exact absurd (Heap.lt_size (F.keep _ _ hq)) (Nat.lt_irrefl _)
  have hl0 : h₀.get? l = none := N.fresh hl
  have hLl : l ≠ env.locals := (N _ hl).2.1
  refine wpAny_pyIter_list hls ?_
  have W := Walks.list (prog := prog) (w := w) hh s.heap.objs.size l hI vs.toArray
  rw [show vs.toArray.size = vs.length from List.size_toArray] at W
  refine ⟨_, _, _, vs.length, _, _, m₀, (l, listOf vs.toArray nn) :: news,
    (fun i m nx => ∃ r, nx = (l, listOf vs.toArray nn) :: r ∧ J i m r), rfl, W, ?_, ?_, ?_,
    ⟨⟨_, Heap.get?_push_size _ rfl, rfl, rfl⟩, hls.at fun o e => Heap.get?_push_of_some _ e⟩, F.push _, ?_, ⟨news, rfl, hj⟩, ?_, ?_⟩
  · intro hm
    rcases List.mem_cons.mp hm with e | e
    · exact absurd F.ns.lt (e ▸ Nat.lt_irrefl _)
    · exact hLl (List.mem_singleton.mp e).symm
  · intro b hb
    rw [List.mem_singleton.mp hb]
    exact hI0
  · intro p hp
    rw [List.mem_singleton]
    rcases List.mem_cons.mp hp with rfl | hp
    · exact hI
    · exact hnI p hp
  · intro p hp
    have : p ∈ news := (List.mem_cons.mp hp).elim (fun e => e ▸ hl) id
    exact ⟨Heap.get?_push_of_some _ (N p this).1, (N p this).2⟩
  · rintro i v m₁ news₁ s₁ own ⟨hh', tk', rfl⟩ _ hP ⟨nx, rfl, hJ⟩ hoff hsub hget hall hst F₁ N₁
    obtain ⟨⟨oI, hoI, _⟩, _⟩ := hst
    have hmI : (s.heap.objs.size, oI) ∈ own := hall _ (by simp) hI0 _ hoI
    have hlI : hh'.get? l = some (listOf vs.toArray nn) := (N₁ (l, listOf vs.toArray nn) (by simp)).1
    have N₂ : News h₀ env.locals hh' ((s.heap.objs.size, oI) :: (l, listOf vs.toArray nn) :: nx) := fun p hp => by
      rcases List.mem_cons.mp hp with rfl | hp
      · exact N₁ _ (List.mem_append_left _ hmI)
      · exact N₁ p (List.mem_append_right _ hp)
    refine wpAny_mono (turn i v m₁ nx s.heap.objs.size oI hh' tk' (by simpa using hP) hJ (fun p hp e => hoff p (List.mem_cons_of_mem _ hp) (by simp [e])) hI F₁ N₂) (fun f s₂ p => ?_) fun _ _ e => e
    have fin : TurnEnds h₀ env.locals (J (i + 1)) (s.heap.objs.size, oI) (l, listOf vs.toArray nn) { s with heap := hh', toks := tk' } s₂ →
        LoopStepU h₀ env.locals [s.heap.objs.size] own (fun m n' => ∃ r, n' = (l, listOf vs.toArray nn) :: r ∧ J (i + 1) m r) { s with heap := hh', toks := tk' } .next s₂ := by
      rintro ⟨h', tk, m', nx', rfl, F', N', hne, hJ'⟩
      refine ⟨rfl, h', tk, m', (l, listOf vs.toArray nn) :: nx', rfl, F', fun p hp => ?_, fun p hp => ?_, nx', rfl, hJ'⟩
      · rcases List.mem_append.mp hp with hp | hp
        · have h1 := hget p hp
          have h2 := hsub p hp
          rcases List.mem_cons.mp h2 with e | e
          · have : p = (s.heap.objs.size, oI) := Prod.ext e (by rw [e] at h1; exact (Option.some.inj (hoI.symm.trans h1)).symm)
            rw [this]; exact N' _ (by simp)
          · have e := List.mem_singleton.mp e
            have : p = (l, listOf vs.toArray nn) := Prod.ext e (by rw [e] at h1; exact (Option.some.inj (hlI.symm.trans h1)).symm)
            rw [this]; exact N' _ (by simp)
        · exact N' p (List.mem_cons_of_mem _ hp)
      · rw [List.mem_singleton]
        rcases List.mem_cons.mp hp with rfl | hp
        · exact hI
        · exact hne p hp
    cases f with
    | ret v => exact .ret p
    | brk => exact .brk p
    | next => exact .next (fin p)
    | cont => exact .cont (fin p)
  · rintro h' tk m' news' F' N' _ ⟨nx, rfl, hJ⟩
    exact done m' nx h' tk hJ F' N'
end
end Mine
namespace Mine
/-- the frame's map with the named values laid over it -/
def ksB (rest : Str → Option Value) : List (Str × Option Value) → Str → Option Value
  | [] => rest
  | p :: r => fun z => if z = p.1 then p.2 else ksB rest r z
theorem ksB_eq {m₁ rest : Str → Option Value} {z : Str} : ∀ {ps : List (Str × Option Value)}, (∀ p ∈ ps, m₁ p.1 = p.2) → ((∀ p ∈ ps, z ≠ p.1) → m₁ z = rest z) → ksB rest ps z = m₁ z
  | [], _, h => (h fun _ hp => nomatch hp).symm
  | p :: r, h1, h2 => by
    show (if z = p.1 then p.2 else ksB rest r z) = m₁ z
    by_cases e : z = p.1
    · rw [if_pos e, e, h1 p (List.mem_cons_self ..)]
    · rw [if_neg e]
      refine ksB_eq (fun q hq => h1 q (List.mem_cons_of_mem _ hq)) fun hr => h2 fun q hq => ?_
      rcases List.mem_cons.mp hq with rfl | hq
      · exact e
      · exact hr q hq

/-- the names of a loop: what they hold, and that the others stand -/
def Holds (x : Str) (m₀ : Str → Option Value) (ps : List (Str × Option Value)) (m : Str → Option Value) : Prop :=
  (∀ p ∈ ps, m p.1 = p.2) ∧ ∀ z, z ≠ x → (∀ p ∈ ps, z ≠ p.1) → m z = m₀ z
theorem Holds.ks {x : Str} {m₀ : Str → Option Value} {ps : List (Str × Option Value)} {m : Str → Option Value} (h : Holds x m₀ ps m) {z : Str} (hz : z ≠ x) : ksB m₀ ps z = m z := ksB_eq h.1 (h.2 z hz)
theorem Holds.nil {x : Str} {m₀ m : Str → Option Value} (h : ∀ z, z ≠ x → m z = m₀ z) : Holds x m₀ [] m := ⟨fun _ hp => (nomatch hp), fun z hz _ => h z hz⟩
theorem Holds.cons {x y : Str} {v : Option Value} {m₀ m : Str → Option Value} {ps : List (Str × Option Value)} (hy : m y = v) (h : Holds x (fun z => if z = y then v else m₀ z) ps m) : Holds x m₀ ((y, v) :: ps) m :=
  ⟨fun p hp => (List.mem_cons.mp hp).elim (fun e => e ▸ hy) (h.1 p), fun z hz hps => by
    have := h.2 z hz fun p hp => hps p (List.mem_cons_of_mem _ hp)
    have hy' : z ≠ y := hps (y, v) (List.mem_cons_self ..)
    dsimp only at this
    rwa [if_neg hy'] at this⟩

section
variable {prog : Program} {w : World} {A : Around} {E : Value → Shared → Prop} {s : Shared} {env : Env} {h₀ : Heap} {x : Str} {body : List Stmt} {Q : Flow → Shared → Prop}
theorem for_ledS {σ : Type} (ps : σ → List (Str × Option Value)) (P : Nat → σ → List (Addr × Obj) → Prop) (c₀ : σ) {l : Addr} {vs : List Value} {nn : Nat} {m₀ : Str → Option Value} {news : List (Addr × Obj)}
    (hh : A.handled = none) (hl : (l, listOf vs.toArray nn) ∈ news) (F : Fr h₀ env.locals s.heap m₀) (N : News h₀ env.locals s.heap news) (hk : ∀ p ∈ ps c₀, m₀ p.1 = p.2) (hp : P 0 c₀ news)
    (turn : ∀ i v c nx I o h tk, vs[i]? = some v → P i c nx → (∀ p ∈ nx, p.1 ≠ I) → l ≠ I → Fr h₀ env.locals h (fun y => if y = x then some v else ksB m₀ (ps c) y) → News h₀ env.locals h ((I, o) :: (l, listOf vs.toArray nn) :: nx) →
      wpAny (model prog w) A (execs body env) (TurnTo h₀ env.locals (fun m nx' => ∃ c', Holds x m₀ (ps c') m ∧ P (i + 1) c' nx') (I, o) (l, listOf vs.toArray nn) { s with heap := h, toks := tk } Q) E { s with heap := h, toks := tk })
    (done : ∀ c (u : Str → Option Value) nx h tk, P vs.length c nx → Fr h₀ env.locals h (fun y => if y = x then u y else ksB m₀ (ps c) y) → News h₀ env.locals h ((l, listOf vs.toArray nn) :: nx) → Q .next { s with heap := h, toks := tk }) :
    wpAny (model prog w) A (pyIter (.ref l)) (fun it s₂ => LoopAtV prog w A h₀ env x body Q E it s₂) E s := by
  refine for_led (fun i m nx => ∃ c, Holds x m₀ (ps c) m ∧ P i c nx) hh hl F N ⟨c₀, ⟨hk, fun _ _ _ => rfl⟩, hp⟩ ?_ ?_
  · rintro i v m₁ nx I o h tk hv ⟨c, hc, hP⟩ hn hI F₁ N₁
    have e : (fun y => if y = x then some v else m₁ y) = fun y => if y = x then some v else ksB m₀ (ps c) y := by
      funext y
      by_cases hy : y = x
      · simp [hy]
      · simp only [if_neg hy]; exact (hc.ks hy).symm
    exact turn i v c nx I o h tk hv hP hn hI (e ▸ F₁) N₁
  · rintro m₁ nx h tk ⟨c, hc, hP⟩ F₁ N₁
    have e : m₁ = fun y => if y = x then m₁ y else ksB m₀ (ps c) y := by
      funext y
      by_cases hy : y = x
      · simp [hy]
      · simp only [if_neg hy]; exact (hc.ks hy).symm
    rw [e] at F₁
    exact done c m₁ nx h tk hP F₁ N₁
end
end Mine
namespace Mine
section
variable {prog : Program} {w : World} {A : Around} {E : Value → Shared → Prop} {s : Shared} {env : Env} {h₀ : Heap} {L : Addr} {Q : Flow → Shared → Prop}
def WhEnd (h₀ : Heap) (L : Addr) (y : Str) (P : Int → Prop) (m₀ : Str → Option Value) (news : List (Addr × Obj)) (a : Int) (s s₃ : Shared) : Prop :=
  ∃ h' tk m' a' t', s₃ = { s with heap := h', toks := tk } ∧ Fr h₀ L h' m' ∧ News h₀ L h' news ∧ m' y = some (.int a' t') ∧ (∀ z, z ≠ y → m' z = m₀ z) ∧ a'.toNat < a.toNat ∧ P a'
def WhTo (h₀ : Heap) (L : Addr) (y : Str) (P : Int → Prop) (m₀ : Str → Option Value) (news : List (Addr × Obj)) (a : Int) (s : Shared) (Q : Flow → Shared → Prop) (f : Flow) (s₃ : Shared) : Prop :=
  match f with
  | .ret v => Q (.ret v) s₃
  | .brk => Q .next s₃
  | _ => WhEnd h₀ L y P m₀ news a s s₃
theorem while_one (y : Str) (P : Int → Prop) {a₀ : Int} {t₀ : Tok} {test : Expr} {body : List Stmt} {pos : Pos} {m₀ : Str → Option Value} {news : List (Addr × Obj)}
    (F : Fr h₀ L s.heap m₀) (N : News h₀ L s.heap news) (hy : m₀ y = some (.int a₀ t₀)) (hp : P a₀)
    (turn : ∀ a t h tk, P a → Fr h₀ L h (fun z => if z = y then some (.int a t) else m₀ z) → News h₀ L h news →
      wpAny (model prog w) A (isTrue test env (eval test env)) (fun b s₂ => if b = true then wpAny (model prog w) A (execs body env) (WhTo h₀ L y P m₀ news a s Q) E s₂ else Q .next s₂) E { s with heap := h, toks := tk })
    (hE : PassesOwn (model prog w) A env E := by passes_own) :
    wpAny (model prog w) A (exec (.While test body [] pos) env) Q E s := by
  refine While_inv2 (fun n m nx => nx = news ∧ ∃ a t, m y = some (.int a t) ∧ (∀ z, z ≠ y → m z = m₀ z) ∧ P a ∧ n = a.toNat) F N ⟨rfl, a₀, t₀, hy, fun _ _ => rfl, hp, rfl⟩ ?_ hE
  rintro n m₁ nx h tk F₁ N₁ ⟨rfl, a, t, hm, ho, hP, rfl⟩
  have e : m₁ = fun z => if z = y then some (.int a t) else m₀ z := by
    funext z
    by_cases hz : z = y
    · simp [hz, hm]
    · simp only [if_neg hz]; exact ho z hz
  rw [e] at F₁
  refine wpAny_mono (turn a t h tk hP F₁ N₁) (fun b s₂ p => ?_) fun _ _ x => x
  cases b with
  | false => simpa using p
  | true =>
    simp only [if_true] at p ⊢
    refine wpAny_mono p (fun f s₃ q => ?_) fun _ _ x => x
    cases f with
    | ret v => exact q
    | brk => exact q
    | next =>
      obtain ⟨h', tk', m', a', t', rfl, F', N', hm', ho', hlt, hP'⟩ := q
      exact ⟨h', tk', m', nx, a'.toNat, rfl, F', N', hlt, rfl, a', t', hm', ho', hP', rfl⟩
    | cont =>
      obtain ⟨h', tk', m', a', t', rfl, F', N', hm', ho', hlt, hP'⟩ := q
      exact ⟨h', tk', m', nx, a'.toNat, rfl, F', N', hlt, rfl, a', t', hm', ho', hP', rfl⟩
end

section
variable {prog : Program} {w : World} {A : Around} {E : Value → Shared → Prop} {s : Shared} {h₀ : Heap} {L : Addr} {news : List (Addr × Obj)} {m : Str → Option Value}
theorem item_str {value slice : PySem.Expr} {l : Addr} {vs : List Value} {rs : List (List Nat)} {nn : Nat} {k : Int} {u : Tok} {Q : Value → Shared → Prop} (N : News h₀ L s.heap news) (hm : (l, listOf vs.toArray nn) ∈ news) (hv : StrsAre vs (rs.map S)) (h0 : 0 ≤ k) (hk : k < rs.length) (hhi : k < 2 ^ 63)
    (h : ∀ r t, rs[k.toNat]? = some r → Q (.str (S r) t) s)
    (hs : subscripted slice false (.ref l) (.int k u) = operate [.ref l, .int k u] (getItem (.ref l) (.int k u)) := by with_unfolding_all rfl) :
    wpAny (model prog w) A (subscriptTail value slice (.ref l) (.int k u)) Q E s := by
  have hlt : k.toNat < rs.length := by omega
  obtain ⟨t, ht⟩ := hv.at (j := k.toNat) (y := S rs[k.toNat]) (by simp [hlt])
  exact item_litK (N.isList hm) h0 hhi ht (h _ t (by simp [hlt])) hs
end
end Mine
end
section
open PySem PySem.W PyProof.Rows PySem.Calls
namespace Mine
/-- the last signs of the rows -/
def lastsOf (rs : List (List Nat)) : List Nat := (rs.map fun r => r.drop (r.length - 1)).flatten
theorem lastsOf_len : ∀ {rs : List (List Nat)}, (∀ r ∈ rs, 1 ≤ r.length) → (lastsOf rs).length = rs.length
  | [], _ => rfl
  | r :: rs, h => by
    have h1 := h r (List.mem_cons_self ..)
    have := lastsOf_len (rs := rs) fun r hr => h r (List.mem_cons_of_mem _ hr)
    simp only [lastsOf, List.map_cons, List.flatten_cons, List.length_append, List.length_drop, List.length_cons] at this ⊢
    omega
theorem lastsOf_snoc (rs : List (List Nat)) (r : List Nat) : lastsOf (rs ++ [r]) = lastsOf rs ++ r.drop (r.length - 1) := by
  simp [lastsOf]
theorem take_snoc {α : Type} {l : List α} {i : Nat} {a : α} (h : l[i]? = some a) : l.take (i + 1) = l.take i ++ [a] := by
  rw [List.take_add_one, h]; rfl
theorem strs_at {vs : List Value} {rs : List (List Nat)} (h : StrsAre vs (rs.map S)) {i : Nat} {v : Value} (hv : vs[i]? = some v) : ∃ r t, v = .str (S r) t ∧ rs[i]? = some r := by
  obtain ⟨y, t, e, hy⟩ := h.item i v hv
  rw [List.getElem?_map] at hy
  cases hr : rs[i]? with
  | none => rw [hr] at hy; cases hy
  | some r =>
    rw [hr] at hy
    exact ⟨r, t, by rw [e, ← Option.some.inj hy], rfl⟩
theorem strs_len {vs : List Value} {rs : List (List Nat)} (h : StrsAre vs (rs.map S)) : vs.length = rs.length := by
  have := h.length
  simpa using this
end Mine
end
section
open PySem PySem.W PyProof.Rows PySem.Calls
set_option maxRecDepth 100000
namespace Mine
theorem pick_to {vs : List Value} {k : Int} (h0 : 0 ≤ k) : slicePick vs.toArray none (some k) none = (vs.take k.toNat).toArray := by
  obtain ⟨n, rfl⟩ := Int.eq_ofNat_of_zero_le h0
  rw [slicePick_upto' vs.toArray n]
  rfl
theorem pick_from {vs : List Value} {k : Int} (h0 : 0 ≤ k) : slicePick vs.toArray (some k) none none = (vs.drop k.toNat).toArray := by
  obtain ⟨n, rfl⟩ := Int.eq_ofNat_of_zero_le h0
  rw [slicePick_from' vs.toArray n]
  rfl
section
variable {prog : Program} {w : World} {A : Around} {E : Value → Shared → Prop} {s : Shared} {h₀ : Heap} {L : Addr} {news : List (Addr × Obj)} {m : Str → Option Value}
theorem slice_to {value slice : PySem.Expr} {l : Addr} {vs : List Value} {nn : Nat} {k : Int} {u : Tok} {Q : Value → Shared → Prop} (F : Fr h₀ L s.heap m) (N : News h₀ L s.heap news) (hm : (l, listOf vs.toArray nn) ∈ news) (h0 : 0 ≤ k) (hk : k ≤ vs.length) (hz : vs.length ≤ 1000)
    (h : ∀ l' h', Fr h₀ L h' m → News h₀ L h' ((l', listOf (vs.take k.toNat).toArray 0) :: news) → (∀ p ∈ news, p.1 < l') → Q (.ref l') { s with heap := h' })
    (hs : subscripted slice false (.ref l) (.ref s.heap.objs.size) = operate [.ref s.heap.objs.size, .ref l] (getItem (.ref l) (.ref s.heap.objs.size)) := by with_unfolding_all rfl)
    (ht : ∀ r, letTemporaryGo value (.ref l) r = pure () := by intro _; with_unfolding_all rfl) :
    wpAny (model prog w) A (subscriptTail value slice (.ref l) (.ref s.heap.objs.size)) Q E { s with heap := s.heap.push { cls := .type "slice", data := .fields #[.none, .int k u, .none] } } := by
  refine slice_list F N (N.isList hm) .none (.int k u) (fun h' F' N' => h _ h' F' ?_ fun p hp => Nat.lt_succ_of_lt (Heap.lt_size (N p hp).1)) hs ht (by rw [List.size_toArray, sizeLine_eq]; omega)
  rw [pick_to h0] at N'
  exact N'
theorem slice_from {value slice : PySem.Expr} {l : Addr} {vs : List Value} {nn : Nat} {k : Int} {u : Tok} {Q : Value → Shared → Prop} (F : Fr h₀ L s.heap m) (N : News h₀ L s.heap news) (hm : (l, listOf vs.toArray nn) ∈ news) (h0 : 0 ≤ k) (hk : k ≤ vs.length) (hz : vs.length ≤ 1000)
    (h : ∀ l' h', Fr h₀ L h' m → News h₀ L h' ((l', listOf (vs.drop k.toNat).toArray 0) :: news) → (∀ p ∈ news, p.1 < l') → Q (.ref l') { s with heap := h' })
    (hs : subscripted slice false (.ref l) (.ref s.heap.objs.size) = operate [.ref s.heap.objs.size, .ref l] (getItem (.ref l) (.ref s.heap.objs.size)) := by with_unfolding_all rfl)
    (ht : ∀ r, letTemporaryGo value (.ref l) r = pure () := by intro _; with_unfolding_all rfl) :
    wpAny (model prog w) A (subscriptTail value slice (.ref l) (.ref s.heap.objs.size)) Q E { s with heap := s.heap.push { cls := .type "slice", data := .fields #[.int k u, .none, .none] } } := by
  refine slice_list F N (N.isList hm) (.int k u) .none (fun h' F' N' => h _ h' F' ?_ fun p hp => Nat.lt_succ_of_lt (Heap.lt_size (N p hp).1)) hs ht (by rw [List.size_toArray, sizeLine_eq]; omega)
  rw [pick_from h0] at N'
  exact N'
theorem add_led {l b : Addr} {vs ws : List Value} {nn n' : Nat} {Q : Value → Shared → Prop} (F : Fr h₀ L s.heap m) (N : News h₀ L s.heap news) (hm : (l, listOf vs.toArray nn) ∈ news) (hb : (b, listOf ws.toArray n') ∈ news) (hz : vs.length + ws.length ≤ 1000)
    (h : ∀ l' h', Fr h₀ L h' m → News h₀ L h' ((l', listOf (vs ++ ws).toArray 0) :: news) → (∀ p ∈ news, p.1 < l') → Q (.ref l') { s with heap := h' }) :
    wpAny (model prog w) A (binaryOp .Add (.ref l) (.ref b)) Q E s :=
  add_lists (hsz := by rw [sizeLine_eq]; omega) F N (N.isList hm) (N.isList hb) fun h' F' N' => h _ h' F' N' fun p hp => Heap.lt_size (N p hp).1
end
end Mine
namespace Mine
/-- a fresh list of texts at the ledger's head -/
def OutList (news : List (Addr × Obj)) (rs : List (List Nat)) (v : Value) (n : List (Addr × Obj)) : Prop :=
  ∃ lr us k, v = .ref lr ∧ n = (lr, listOf us.toArray k) :: news ∧ StrsAre us (rs.map S) ∧ ∀ p ∈ news, p.1 ≠ lr
/-- in order, the same texts -/
def InOrder (ts rs : List (List Nat)) : Prop := rs.Perm ts ∧ rs.Pairwise (fun a b => ¬ b < a)
theorem InOrder.nil : InOrder [] [] := ⟨.nil, .nil⟩
theorem lt_asymm' {a b : List Nat} (h : a < b) : ¬ b < a := fun h' => List.lt_irrefl a (List.lt_trans h h')
theorem not_lt_trans {a b c : List Nat} (h : ¬ b < a) (h' : ¬ c < b) : ¬ c < a := by
  rw [List.not_lt] at *
  exact List.le_trans h h'
theorem InOrder.ins {ts rs : List (List Nat)} (h : InOrder ts rs) (t : List Nat) {a : Nat} (_ha : a ≤ rs.length) (h1 : ∀ (j : Nat) (r : List Nat), a ≤ j → rs[j]? = some r → t < r) (h2 : a = 0 ∨ ∃ r, rs[a - 1]? = some r ∧ ¬ t < r) :
    InOrder (ts ++ [t]) (rs.take a ++ [t] ++ rs.drop a) := by
  obtain ⟨hp, hs⟩ := h
  refine ⟨?_, ?_⟩
  · have e : (rs.take a ++ [t] ++ rs.drop a).Perm (rs ++ [t]) := by
      have h3 : (rs.take a ++ [t] ++ rs.drop a).Perm (rs.take a ++ rs.drop a ++ [t]) := by
        rw [List.append_assoc, List.append_assoc]
        exact List.Perm.append_left _ (List.perm_append_comm)
      rwa [List.take_append_drop] at h3
    exact e.trans (hp.append_right _)
  · have hs' := hs
    rw [← List.take_append_drop a rs, List.pairwise_append] at hs'
    obtain ⟨s1, s2, s3⟩ := hs'
    rw [List.append_assoc, List.pairwise_append]
    refine ⟨s1, ?_, ?_⟩
    · rw [List.singleton_append, List.pairwise_cons]
      refine ⟨fun r hr => ?_, s2⟩
      obtain ⟨j, hj⟩ := List.mem_iff_getElem?.mp hr
      rw [List.getElem?_drop] at hj
      exact lt_asymm' (h1 _ r (Nat.le_add_right _ _) hj)
    · intro x hx y hy
      rw [List.singleton_append, List.mem_cons] at hy
      rcases hy with rfl | hy
      · rcases h2 with rfl | ⟨r, hr, hlt⟩
        · simp at hx
        · obtain ⟨j, hj⟩ := List.mem_iff_getElem?.mp hx
          rw [List.getElem?_take] at hj
          split at hj
          · rename_i hja
            by_cases e : j = a - 1
            · rw [e, hr] at hj; cases hj; exact hlt
            · have h5 := (List.pairwise_iff_getElem.mp hs) j (a - 1) (List.getElem?_eq_some_iff.mp hj).1 (List.getElem?_eq_some_iff.mp hr).1 (by omega)
              rw [(List.getElem?_eq_some_iff.mp hj).2, (List.getElem?_eq_some_iff.mp hr).2] at h5
              exact not_lt_trans h5 hlt
          · cases hj
      · exact s3 x hx y hy
theorem order_neg {x y : List Nat} : b2i (decide (y < x)) - b2i (decide (x < y)) < 0 ↔ x < y := by
  by_cases h1 : x < y
  · have h2 := lt_asymm' h1
    simp [h1, h2, b2i]
  · by_cases h2 : y < x <;> simp [h1, h2, b2i]
end Mine
namespace Mine
theorem all_ne {l : List (Addr × Obj)} {a d : Addr} (h : ∀ p ∈ l, p.1 < a) (hd : @LE.le Nat _ a d) : ∀ p ∈ l, p.1 ≠ d := fun p hp => Nat.ne_of_lt (Nat.lt_of_lt_of_le (h p hp) hd)
end Mine
namespace Mine
section
open LCg
variable {prog : Program} {w : World} {A : Around} {s : Shared} {h₀ : Heap} {L : Addr} {m : Str → Option Value} {env : Env} {elt : Expr} {x : Str} {scope : Scope} {cl : List (Str × Addr)}
  {Sx : List (Addr × Obj) → Prop} {P : Nat → Value → Prop} {Fin : List Value → List (Addr × Obj) → Prop} {n : Nat} {news : List (Addr × Obj)}
/-- a comprehension by what holds of its list and of the ledger -/
theorem comp_inv (J : Nat → List Value → List (Addr × Obj) → Prop) (hj : J 0 [] news)
    (turn : ∀ i ys nx v I oI C oC D m₂ h tk (E' : Value → Shared → Prop), i < n → J i ys nx → P i v → NsObj oC m₂ → m₂ x = some v → Fr h₀ L h m → News h₀ L h ((I, oI) :: (C, oC) :: (D, lst ys) :: nx) → Off3 I C D nx → ((@Ne Nat I C) ∧ (@Ne Nat I D) ∧ (@Ne Nat C D)) →
      wpAny (model prog w) A (eval elt (compEnvC scope cl C env)) (CompEnd h₀ L m { s with heap := h, toks := tk } I oI C oC D (lst ys) Sx (fun y nx' => J (i + 1) (ys ++ [y]) nx')) E' { s with heap := h, toks := tk })
    (done : ∀ ys nx, J n ys nx → Fin ys nx) : CompRest prog w A h₀ L m env elt x scope cl s Sx P Fin n 0 [] news := by
  have go : ∀ k i ys nx, i + k = n → J i ys nx → CompRest prog w A h₀ L m env elt x scope cl s Sx P Fin k i ys nx := by
    intro k
    induction k with
    | zero =>
      intro i ys nx e hJ
      have e' : i = n := by omega
      exact CompRest.zero (done ys nx (e' ▸ hJ))
    | succ k ih =>
      intro i ys nx e hJ
      refine CompRest.succ fun v I oI C oC D m₂ h tk E' hP hC hx F N off ne => ?_
      refine wpAny_mono (turn i ys nx v I oI C oC D m₂ h tk E' (by omega) hJ hP hC hx F N off ne) (fun y s₂ hq => ?_) fun _ _ z => z
      obtain ⟨h', tk', nx', e2, F', N', off', hS, hJ'⟩ := hq
      exact ⟨h', tk', nx', e2, F', N', off', hS, ih (i + 1) _ _ (by omega) hJ'⟩
  exact go n 0 [] news (by omega) hj
end
/-- the i-th turn of a text -/
def rot (x : List Nat) (i : Nat) : List Nat := ((x ++ x).drop i).take x.length
def turns (x : List Nat) : List (List Nat) := (List.range x.length).map (rot x)
theorem strs_snoc {vs : List Value} {ss : List Str} {y : Str} {t : Tok} (h : StrsAre vs ss) : StrsAre (vs ++ [.str y t]) (ss ++ [y]) := StrsAre.append' h (.cons y t .nil)
end Mine
namespace Mine
theorem off1_mem {D : Addr} : ∀ {l : List (Addr × Obj)}, LCg.Off1 D l → ∀ p ∈ l, p.1 ≠ D
  | [], _, _, h => nomatch h
  | _ :: _, x, p, h => by
    rcases List.mem_cons.mp h with rfl | h
    · exact x.1
    · exact off1_mem x.2 p h
theorem news_skip {h₀ h : Heap} {L : Addr} {a : Addr × Obj} {l r : List (Addr × Obj)} (N : News h₀ L h (a :: (l ++ r))) : News h₀ L h (a :: r) := fun p hp => N p (by
  rcases List.mem_cons.mp hp with rfl | hp
  · exact List.mem_cons_self ..
  · exact List.mem_cons_of_mem _ (List.mem_append_right _ hp))
end Mine
end
section
open PySem PySem.W PyProof.Rows PySem.Calls PySem.Spec
set_option maxRecDepth 100000
namespace Mine
open LCg LCt
section
variable {prog : Program} {w : World} {A : Around} {E : Value → Shared → Prop} {s : Shared} {h₀ : Heap} {L : Addr} {m : Str → Option Value} {env : Env}

/-- a comprehension over a text, with a test -/
def StrSrcT (prog : Program) (w : World) (A : Around) (h₀ : Heap) (L : Addr) (m : Str → Option Value) (env : Env) (ct elt : Expr) (x : Str) (scope : Scope) (cl : List (Str × Addr)) (Fin : Shared → List Value → List (Addr × Obj) → Prop) (xv : Value) (s₁ : Shared) : Prop :=
  ∃ tx t news, xv = .str tx t ∧ A.handled = none ∧ Fr h₀ L s₁.heap m ∧ News h₀ L s₁.heap news ∧ tx.cps.size ≤ sizeLine ∧
    ∀ s₂ : Shared, (∃ h, s₂ = { s₁ with heap := h }) → CompRestT prog w A h₀ L m env ct elt x scope cl s₂ (fun _ => True) (SignAt tx) (Fin s₂) tx.cps.size 0 [] news
def StrSrcU (prog : Program) (w : World) (A : Around) (h₀ : Heap) (L : Addr) (m : Str → Option Value) (env : Env) (elt : Expr) (x : Str) (scope : Scope) (cl : List (Str × Addr)) (Fin : Shared → List Value → List (Addr × Obj) → Prop) (xv : Value) (s₁ : Shared) : Prop :=
  ∃ tx t news, xv = .str tx t ∧ A.handled = none ∧ Fr h₀ L s₁.heap m ∧ News h₀ L s₁.heap news ∧ tx.cps.size ≤ sizeLine ∧
    ∀ s₂ : Shared, (∃ h, s₂ = { s₁ with heap := h }) → CompRest prog w A h₀ L m env elt x scope cl s₂ (fun _ => True) (SignAt tx) (Fin s₂) tx.cps.size 0 [] news

theorem striter_st {I : Addr} {nm : String} {tx : Str} {t : Tok} : ∀ i (h h' : Heap) (o : Obj) (nw : List (Addr × Obj)), h.IsStrIter I nm tx t i → h.get? I = some o → h'.get? I = some o → (∀ b o, h₀.get? b = some o → h'.get? b = some o) → News h₀ L h' nw → True → h'.IsStrIter I nm tx t i :=
  fun i h h' o nw st e e' _ _ _ => by
    obtain ⟨o', q, r⟩ := st
    refine ⟨o', ?_, r⟩
    rw [e', ← e]; exact q

theorem ListComp_strT {ct elt iter : Expr} {x : Str} {px : Pos} {scope : Scope} {cl : List (Str × Addr)} {pos : Pos} {Q : Value → Shared → Prop} (F₀ : Fr h₀ L s.heap m)
    (hclos : closureFor scope env = pure cl) (hcell : ∀ y ∈ scope.names, y.2 ≠ .cell) (hkind : scope.kind = .function)
    (hnames : ∀ y ∈ scope.names, y.2 = .local → scope.names.lookup y.1 = some .local) (hx : scope.names.lookup x = some .local)
    (h : wpAny (model prog w) A (eval iter env) (StrSrcT prog w A h₀ L m env ct elt x scope cl (fun s₂ => FinE h₀ L m s₂ Q)) E s)
    (hs : ∀ x, foldedSetIterable iter env x = pure x := by intro _; rfl) :
    wpAny (model prog w) A (eval (.ListComp elt [⟨.Name x px, iter, [ct], 0⟩] scope pos) env) Q E s := by
  rw [eval_ListComp]
  refine wpAny_comprehension_free (use := none) rfl hs hclos hkind hnames (wpAny_mono h (fun xv s₁ h₁ => ?_) fun _ _ e => e)
  obtain ⟨tx, t, news, rfl, hh, F, N, hsz, R⟩ := h₁
  cases ha : tx.cps.all (· < 128)
  · refine wpAny_pyIter_wide ha ?_
    refine block_T (Walks.strWide hh _ tx t) hsz (fun i h st => by obtain ⟨o, e, _⟩ := st; exact ⟨o, e⟩) striter_st hcell hkind hx ⟨_, Heap.get?_push_size _ rfl, rfl, rfl⟩ (fun b hb => ?_)
      (F.keeps fun _ _ e => Heap.get?_push_of_some _ e) (N.grown fun _ _ e => Heap.get?_push_of_some _ e) (Nat.ne_of_lt F.ns.lt) (next_is_new F) (fun p hp => Nat.ne_of_lt (Heap.lt_size (N p hp).1)) trivial (R _ ⟨_, rfl⟩) ?_
    · rw [List.mem_singleton.mp hb]
      show s₁.heap.objs.size < (s₁.heap.push _).objs.size
      rw [Heap.size_push]; exact Nat.lt_succ_self _
    · intro D C h tk m' ys news' F' N' o1 hn hC₀ hD₀ hCL hDL hCD offC fin
      refine ⟨m', hn, fun h'' hs'' => fin D h'' tk (F'.change hs'' hCL hC₀) (fun p hp => ?_) o1⟩
      refine ⟨hs''.extBut _ _ ?_ (N' p hp).1, (N' p hp).2⟩
      rcases List.mem_cons.mp hp with rfl | hp
      · exact Ne.symm hCD
      · exact offC p hp
  · refine wpAny_pyIter_ascii ha ?_
    refine block_T (Walks.strAscii hh _ tx t) hsz (fun i h st => by obtain ⟨o, e, _⟩ := st; exact ⟨o, e⟩) striter_st hcell hkind hx ⟨_, Heap.get?_push_size _ rfl, rfl, rfl⟩ (fun b hb => ?_)
      (F.keeps fun _ _ e => Heap.get?_push_of_some _ e) (N.grown fun _ _ e => Heap.get?_push_of_some _ e) (Nat.ne_of_lt F.ns.lt) (next_is_new F) (fun p hp => Nat.ne_of_lt (Heap.lt_size (N p hp).1)) trivial (R _ ⟨_, rfl⟩) ?_
    · rw [List.mem_singleton.mp hb]
      show s₁.heap.objs.size < (s₁.heap.push _).objs.size
      rw [Heap.size_push]; exact Nat.lt_succ_self _
    · intro D C h tk m' ys news' F' N' o1 hn hC₀ hD₀ hCL hDL hCD offC fin
      refine ⟨m', hn, fun h'' hs'' => fin D h'' tk (F'.change hs'' hCL hC₀) (fun p hp => ?_) o1⟩
      refine ⟨hs''.extBut _ _ ?_ (N' p hp).1, (N' p hp).2⟩
      rcases List.mem_cons.mp hp with rfl | hp
      · exact Ne.symm hCD
      · exact offC p hp

theorem ListComp_strU {elt iter : Expr} {x : Str} {px : Pos} {scope : Scope} {cl : List (Str × Addr)} {pos : Pos} {Q : Value → Shared → Prop} (F₀ : Fr h₀ L s.heap m)
    (hclos : closureFor scope env = pure cl) (hcell : ∀ y ∈ scope.names, y.2 ≠ .cell) (hkind : scope.kind = .function)
    (hnames : ∀ y ∈ scope.names, y.2 = .local → scope.names.lookup y.1 = some .local) (hx : scope.names.lookup x = some .local)
    (h : wpAny (model prog w) A (eval iter env) (StrSrcU prog w A h₀ L m env elt x scope cl (fun s₂ => FinE h₀ L m s₂ Q)) E s)
    (hs : ∀ x, foldedSetIterable iter env x = pure x := by intro _; rfl) :
    wpAny (model prog w) A (eval (.ListComp elt [⟨.Name x px, iter, [], 0⟩] scope pos) env) Q E s := by
  rw [eval_ListComp]
  refine wpAny_comprehension_free (use := none) rfl hs hclos hkind hnames (wpAny_mono h (fun xv s₁ h₁ => ?_) fun _ _ e => e)
  obtain ⟨tx, t, news, rfl, hh, F, N, hsz, R⟩ := h₁
  cases ha : tx.cps.all (· < 128)
  · refine wpAny_pyIter_wide ha ?_
    refine block_U (Walks.strWide hh _ tx t) hsz (fun i h st => by obtain ⟨o, e, _⟩ := st; exact ⟨o, e⟩) striter_st hcell hkind hx ⟨_, Heap.get?_push_size _ rfl, rfl, rfl⟩ (fun b hb => ?_)
      (F.keeps fun _ _ e => Heap.get?_push_of_some _ e) (N.grown fun _ _ e => Heap.get?_push_of_some _ e) (Nat.ne_of_lt F.ns.lt) (next_is_new F) (fun p hp => Nat.ne_of_lt (Heap.lt_size (N p hp).1)) trivial (R _ ⟨_, rfl⟩) ?_
    · rw [List.mem_singleton.mp hb]
      show s₁.heap.objs.size < (s₁.heap.push _).objs.size
      rw [Heap.size_push]; exact Nat.lt_succ_self _
    · intro D C h tk m' ys news' F' N' o1 hn hC₀ hD₀ hCL hDL hCD offC fin
      refine ⟨m', hn, fun h'' hs'' => fin D h'' tk (F'.change hs'' hCL hC₀) (fun p hp => ?_) o1⟩
      refine ⟨hs''.extBut _ _ ?_ (N' p hp).1, (N' p hp).2⟩
      rcases List.mem_cons.mp hp with rfl | hp
      · exact Ne.symm hCD
      · exact offC p hp
  · refine wpAny_pyIter_ascii ha ?_
    refine block_U (Walks.strAscii hh _ tx t) hsz (fun i h st => by obtain ⟨o, e, _⟩ := st; exact ⟨o, e⟩) striter_st hcell hkind hx ⟨_, Heap.get?_push_size _ rfl, rfl, rfl⟩ (fun b hb => ?_)
      (F.keeps fun _ _ e => Heap.get?_push_of_some _ e) (N.grown fun _ _ e => Heap.get?_push_of_some _ e) (Nat.ne_of_lt F.ns.lt) (next_is_new F) (fun p hp => Nat.ne_of_lt (Heap.lt_size (N p hp).1)) trivial (R _ ⟨_, rfl⟩) ?_
    · rw [List.mem_singleton.mp hb]
      show s₁.heap.objs.size < (s₁.heap.push _).objs.size
      rw [Heap.size_push]; exact Nat.lt_succ_self _
    · intro D C h tk m' ys news' F' N' o1 hn hC₀ hD₀ hCL hDL hCD offC fin
      refine ⟨m', hn, fun h'' hs'' => fin D h'' tk (F'.change hs'' hCL hC₀) (fun p hp => ?_) o1⟩
      refine ⟨hs''.extBut _ _ ?_ (N' p hp).1, (N' p hp).2⟩
      rcases List.mem_cons.mp hp with rfl | hp
      · exact Ne.symm hCD
      · exact offC p hp
end
section
variable {prog : Program} {w : World} {A : Around} {s : Shared} {h₀ : Heap} {L : Addr} {m : Str → Option Value} {env : Env} {ct elt : Expr} {x : Str} {scope : Scope} {cl : List (Str × Addr)}
  {Sx : List (Addr × Obj) → Prop} {P : Nat → Value → Prop} {Fin : List Value → List (Addr × Obj) → Prop} {n : Nat} {news : List (Addr × Obj)}
theorem comp_invT (J : Nat → List Value → List (Addr × Obj) → Prop) (hj : J 0 [] news)
    (turn : ∀ i ys nx v I oI C oC D m₂ h tk (E' : Value → Shared → Prop), i < n → J i ys nx → P i v → NsObj oC m₂ → m₂ x = some v → Fr h₀ L h m → News h₀ L h ((I, oI) :: (C, oC) :: (D, lst ys) :: nx) → Off3 I C D nx → ((@Ne Nat I C) ∧ (@Ne Nat I D) ∧ (@Ne Nat C D)) →
      wpAny (model prog w) A (isTrue ct (compEnvC scope cl C env) (eval ct (compEnvC scope cl C env))) (fun ok s' => if ok = true then
        wpAny (model prog w) A (eval elt (compEnvC scope cl C env)) (CompEnd h₀ L m { s with heap := h, toks := tk } I oI C oC D (lst ys) Sx (fun y nx' => J (i + 1) (ys ++ [y]) nx')) E' s'
        else CompEnd h₀ L m { s with heap := h, toks := tk } I oI C oC D (lst ys) Sx (fun _ nx' => J (i + 1) ys nx') Value.none s') E' { s with heap := h, toks := tk })
    (done : ∀ ys nx, J n ys nx → Fin ys nx) : CompRestT prog w A h₀ L m env ct elt x scope cl s Sx P Fin n 0 [] news := by
  have go : ∀ k i ys nx, i + k = n → J i ys nx → CompRestT prog w A h₀ L m env ct elt x scope cl s Sx P Fin k i ys nx := by
    intro k
    induction k with
    | zero =>
      intro i ys nx e hJ
      have e' : i = n := by omega
      exact CompRestT.zero (done ys nx (e' ▸ hJ))
    | succ k ih =>
      intro i ys nx e hJ
      refine CompRestT.succ fun v I oI C oC D m₂ h tk E' hP hC hx F N off ne => ?_
      refine wpAny_mono (turn i ys nx v I oI C oC D m₂ h tk E' (by omega) hJ hP hC hx F N off ne) (fun ok s₂ hq => ?_) fun _ _ z => z
      cases ok with
      | true =>
        simp only [if_true] at hq ⊢
        refine wpAny_mono hq (fun y s₃ hq => ?_) fun _ _ z => z
        obtain ⟨h', tk', nx', e2, F', N', off', hS, hJ'⟩ := hq
        exact ⟨h', tk', nx', e2, F', N', off', hS, ih (i + 1) _ _ (by omega) hJ'⟩
      | false =>
        simp only [Bool.false_eq_true, if_false] at hq ⊢
        obtain ⟨h', tk', nx', e2, F', N', off', hS, hJ'⟩ := hq
        exact ⟨h', tk', nx', e2, F', N', off', hS, ih (i + 1) _ _ (by omega) hJ'⟩
  exact go n 0 [] news (by omega) hj
end
end Mine
namespace Mine
/-- the place of the turn that the k-th last sign begins -/
def begun (l : List Nat) (k : Nat) : Nat := (l.countP fun c => decide (c < l.getD k 0)) + ((l.take k).countP fun c => decide (c = l.getD k 0))
theorem S_get {l : List Nat} {i c : Nat} (h : (S l).cps[i]? = some c) : l[i]? = some c := by simpa [S] using h
theorem one_lt {c d : Nat} : (({ cps := #[c] } : Str).cps.toList < (S [d]).cps.toList) ↔ c < d := by
  show ([c] < [d]) ↔ c < d
  rw [List.cons_lt_cons_iff]
  simp
theorem S_item {l : List Nat} {k : Int} {d : Nat} (h0 : 0 ≤ k) (h : l[k.toNat]? = some d) : Txt.item (S l) k = S [d] := item_meets h0 (by simpa [S] using h)
theorem countP_snoc {l : List Nat} {i c : Nat} (p : Nat → Bool) (h : l[i]? = some c) : (l.take (i + 1)).countP p = (l.take i).countP p + if p c then 1 else 0 := by
  rw [take_snoc h, List.countP_append, List.countP_singleton]
end Mine
namespace Mine
theorem one_eq {c d : Nat} : (({ cps := #[c] } : Str) == S [d]) = decide (c = d) := by
  by_cases h : c = d
  · subst h; simp [S]
  · have : ({ cps := #[c] } : Str) ≠ S [d] := fun e => h (by have := congrArg (fun s : Str => s.cps.toList) e; simpa [S] using this)
    simp [h, this]
end Mine
namespace Mine
theorem ret_fmod {Q : Value → Shared → Prop} {x below : Int} {t : Tok} {s : Shared} (hb : 0 < below) (h : ∀ r : Nat, (r : Int) < below → Q (.int r t) s) : Q (.int (x.fmod below) t) s := by
  have h1 := Int.fmod_nonneg_of_pos x hb
  have h2 := Int.fmod_lt_of_pos x hb
  have h3 := h (x.fmod below).toNat (by omega)
  rwa [Int.toNat_of_nonneg h1] at h3
end Mine
end
section
open PySem PySem.W PyProof.Rows PyProof.V PySem.Calls PySem.Spec PySem.SeqAt
set_option maxRecDepth 100000
namespace Mine
section
variable {prog : Program} {w : World} {A : Around} {E : Value → Shared → Prop} {s : Shared} {h₀ : Heap} {L : Addr} {news : List (Addr × Obj)} {m : Str → Option Value}

theorem any_S {rs : List (List Nat)} {x : List Nat} (hx : x ∈ rs) : (rs.map S).any (· == S x) = true := by
  rw [List.any_eq_true]
  exact ⟨S x, List.mem_map_of_mem hx, by simp⟩
theorem notin_led {l : Addr} {vs : List Value} {rs : List (List Nat)} {x : List Nat} {nn : Nat} {t : Tok} {Q : Value → Shared → Prop} (N : News h₀ L s.heap news) (hm : (l, listOf vs.toArray nn) ∈ news) (hv : StrsAre vs (rs.map S)) (hx : x ∈ rs)
    (h : Q (.bool false) s) : wpAny (model prog w) A (compareOp .NotIn (.str (S x) t) (.ref l)) Q E s :=
  notin_list_strs (N.isList hm) hv (by rw [any_S hx]; exact h)

theorem isStrOf_at {x : List Nat} {rs : List (List Nat)} {vs : List Value} (hv : StrsAre vs (rs.map S)) {j : Nat} (hj : j < vs.length) (hr : j < rs.length) : isStrOf (S x) vs[j] = decide (rs[j] = x) := by
  obtain ⟨r, t, e, er⟩ := strs_at hv (i := j) (v := vs[j]) (by simp)
  rw [e]
  have : rs[j] = r := by
    have := List.getElem?_eq_getElem hr
    rw [er] at this
    exact (Option.some.inj this).symm
  rw [this]
  show (S r == S x) = _
  by_cases h : r = x
  · subst h; simp
  · have h2 : S r ≠ S x := fun e => h (S_inj e)
    simp [h, h2]
theorem index_led {l : Addr} {vs : List Value} {rs : List (List Nat)} {x : List Nat} {nn : Nat} {t : Tok} {Q : Value → Shared → Prop} (N : News h₀ L s.heap news) (hm : (l, listOf vs.toArray nn) ∈ news) (hv : StrsAre vs (rs.map S)) (hx : x ∈ rs) (hz : rs.length ≤ 1000)
    (h : Q (.int (rs.idxOf x : Nat) s.toks) { s with toks := s.toks + 1 }) : wpAny (model prog w) A (call (.builtin "list.index") [.ref l, .str (S x) t]) Q E s := by
  have ho := N.get hm
  have hlen := strs_len hv
  have hj : rs.idxOf x < rs.length := List.idxOf_lt_length_iff.mpr hx
  refine call_meets PySem.F.slot_list_index ⟨_, ho, rfl⟩ PySem.F.entry_list_index (PySem.F.args_list_index_2 _ _)
    (list_indexAt l vs.toArray nn none #[] (.str (S x) t) (isStrOf (S x)) (rs.idxOf x) (by simpa [hlen] using hj) (by omega) ?_ ?_) ⟨ho, fun y hy => (eq_isStrOf (S x) t hv y (by simpa using hy)).at _ _, h⟩
  · show isStrOf (S x) vs[rs.idxOf x] = true
    rw [isStrOf_at hv (by omega) hj]
    simpa using List.getElem_idxOf hj
  · intro j hjs hlt
    show isStrOf (S x) vs[j] = false
    have hj2 : j < rs.length := by have : j < vs.length := by simpa using hjs
                                   omega
    rw [isStrOf_at hv (by simpa using hjs) hj2]
    have := List.not_of_lt_findIdx (p := (· == x)) (xs := rs) (i := j) hlt
    simpa using this

theorem join_led {l : Addr} {vs : List Value} {cs : List (List Nat)} {nn : Nat} {t : Tok} {Q : Value → Shared → Prop} (N : News h₀ L s.heap news) (hm : (l, listOf vs.toArray nn) ∈ news) (hv : StrsAre vs (cs.map S)) (hz : cs.flatten.length ≤ 1000)
    (h : ∀ t' k, Q (.str (S cs.flatten) t') { s with toks := k }) : wpAny (model prog w) A (call (.builtin "str.join") [.str (Str.ofString "") t, .ref l]) Q E s := by
  have e0 : (Str.ofString "").length = 0 := by decide
  have es : ((cs.map S).map (·.length)).sum = cs.flatten.length := by
    rw [List.length_flatten, List.map_map]
    exact congrArg List.sum (List.map_congr_left fun c _ => S_len c)
  refine join_list (N.isList hm) hv (by rw [e0, es]; omega) fun t' k => ?_
  have ej : Txt.join (Str.ofString "") (cs.map S) = S cs.flatten := by
    unfold Txt.join
    rw [StrLaws.glued_eq_join]
    have go : ∀ l : List (List Nat), Str.join (Str.ofString "") (l.map S) = S l.flatten := by
      intro l
      induction l with
      | nil => rfl
      | cons c r ih =>
        cases r with
        | nil => simp [Str.join]
        | cons d r =>
          have ih' : Str.join (Str.ofString "") (S d :: List.map S r) = S (d :: r).flatten := ih
          show S c ++ Str.ofString "" ++ Str.join (Str.ofString "") (S d :: List.map S r) = _
          rw [ih']
          have e1 : S c ++ Str.ofString "" = S c := by
            show S c ++ S [] = S c
            rw [S_app, List.append_nil]
          rw [e1, S_app]
          rfl
    exact go cs
  rw [ej]
  exact h t' k

theorem reads_strs {h : Heap} : ∀ {vs : List Value} {ss : List Str}, StrsAre vs ss → ReadsAll h vs (ss.map PyData.str) []
  | _, _, .nil => .nil
  | _, _, .cons k t r => by
    have := ReadsAll.cons (Reads.str (h := h) k t) (reads_strs (h := h) r)
    simpa using this
theorem reads_strl {h : Heap} {a : Addr} {vs : List Value} {ss : List Str} (hl : h.IsList a vs.toArray) (hi : StrsAre vs ss) : Reads h (.ref a) (.list (ss.map PyData.str)) [a] := by
  obtain ⟨o, ho, hc, n, hd⟩ := hl
  exact Reads.list ho hc hd (by simpa using reads_strs hi)
theorem canLay_strs : ∀ ss : List Str, (∀ y ∈ ss, PyData.strOk y = true) → PyData.canLayAll0 (ss.map PyData.str) = true
  | [], _ => by simp [PyData.canLayAll0]
  | n :: r, h => by simp [PyData.canLayAll0, PyData.canLay0, h n (List.mem_cons_self ..), canLay_strs r fun y hy => h y (List.mem_cons_of_mem _ hy)]
theorem depth_strs : ∀ ss : List Str, PyData.depthAll (ss.map PyData.str) ≤ 1
  | [] => by simp [PyData.depthAll]
  | n :: r => by
    have := depth_strs r
    simp only [List.map_cons, PyData.depthAll, PyData.depth]
    omega
theorem shaped_strs (ss : List Str) (ho : ∀ y ∈ ss, PyData.strOk y = true) : shaped (.list (ss.map PyData.str)) = true := by
  have h1 := depth_strs ss
  have h2 : PyData.depth (.list (ss.map PyData.str)) ≤ 64 := by simp only [PyData.depth]; omega
  show (PyData.canLay0 (.list (ss.map PyData.str)) && decide (PyData.depth (.list (ss.map PyData.str)) ≤ 64)) = true
  rw [Bool.and_eq_true]
  exact ⟨by simp only [PyData.canLay0]; exact canLay_strs ss ho, decide_eq_true h2⟩
theorem noMix_strs : ∀ ss ts : List Str, noMixAll (ss.map PyData.str) (ts.map PyData.str) = true
  | [], [] => by simp [noMixAll]
  | [], _ :: _ => by simp [noMixAll]
  | _ :: _, [] => by simp [noMixAll]
  | _ :: r, _ :: q => by simp [noMixAll, noMix, noMix_strs r q]
theorem same_strs : ∀ ss ts : List Str, PySem.Spec.sameAll (ss.map PyData.str) (ts.map PyData.str) = decide (ss = ts)
  | [], [] => by simp [PySem.Spec.sameAll]
  | [], _ :: _ => by simp [PySem.Spec.sameAll]
  | _ :: _, [] => by simp [PySem.Spec.sameAll]
  | n :: r, k :: q => by
    simp only [List.map_cons, PySem.Spec.sameAll, PySem.Spec.same, same_strs r q]
    by_cases h : n = k <;> simp [h]
theorem ne_strs {a b : Addr} {vs us : List Value} {ss ts : List Str} {na nb : Nat} {Q : Value → Shared → Prop} (N : News h₀ L s.heap news) (ha : (a, listOf vs.toArray na) ∈ news) (hb : (b, listOf us.toArray nb) ∈ news) (hi : StrsAre vs ss) (hi' : StrsAre us ts) (hu : A.units + 64 < cLine) (ho : ∀ y ∈ ss, PyData.strOk y = true) (ho' : ∀ y ∈ ts, PyData.strOk y = true)
    (h : Q (.bool (!decide (ss = ts))) s) : wpAny (model prog w) A (compareOp .NotEq (.ref a) (.ref b)) Q E s :=
  ne_dataH_same (reads_strl (N.isList ha) hi) (reads_strl (N.isList hb) hi') (shaped_strs ss ho) (shaped_strs ts ho') hu (by simp only [noMix]; exact noMix_strs ss ts) (by simp only [PySem.Spec.same]; rw [same_strs]; exact h)

theorem signs_strs {x : List Nat} : ∀ {n : Nat} {l : List Nat} {vs : List Value}, (∀ j, x[n + j]? = l[j]?) → vs.length = l.length → (∀ j v, vs[j]? = some v → SignAt (S x) (n + j) v) → StrsAre vs (l.map fun c => S [c])
  | _, [], [], _, _, _ => .nil
  | _, [], _ :: _, _, h, _ => by simp at h
  | _, _ :: _, [], _, h, _ => by simp at h
  | n, c :: l, v :: vs, h1, h2, h3 => by
    obtain ⟨c', u, hc, rfl⟩ := h3 0 v (by simp)
    have e1 := h1 0
    have e2 : x[n + 0]? = some c' := S_get hc
    rw [e2] at e1
    simp only [List.getElem?_cons_zero, Option.some.injEq] at e1
    subst e1
    refine .cons _ _ (signs_strs (x := x) (n := n + 1) (fun j => ?_) (by simpa using h2) fun j v hv => ?_)
    · have := h1 (j + 1)
      rw [List.getElem?_cons_succ] at this
      rw [← this]; congr 1; omega
    · have := h3 (j + 1) v (by simpa using hv)
      rwa [show n + (j + 1) = n + 1 + j by omega] at this

theorem sorted_text {x : List Nat} {t : Tok} {Q : Value → Shared → Prop} (hh : A.handled = none) (F : Fr h₀ L s.heap m) (N : News h₀ L s.heap news) (hx : x.length < 64)
    (h : ∀ l' h' tk' vs' ss' e, Fr h₀ L h' m → News h₀ L h' ((l', listOf (vs' : List Value).toArray e) :: news) → (∀ p ∈ news, p.1 ≠ l') → StrsAre vs' ss' → ss'.Perm (x.map fun c => S [c]) → sortedS ss' = true → Q (.ref l') { s with heap := h', toks := tk' }) :
    wpAny (model prog w) A (call (.builtin "sorted") [.str (S x) t]) Q E s := by
  refine Calls.call_function_entry kind_sorted plain_sorted entry_sorted (args_sorted1 _) ?_
  unfold Builtin.«sorted»
  refine wpAny_bind (m := checkCount "sorted" 1 1 _) (wpAny_pure ?_)
  refine wpAny_bind (?_ : wpAny (model prog w) A.in1 (collect (.str (S x) t)) _ _ _)
  refine wpAny_collect_str (A := A.in1) hh (S x) t (fun s' acc hk hg hd ho hacc => ?_) (hn := by rw [sizeLine_eq]; show x.length ≤ _; omega)
  have hs' : s' = { s with heap := s'.heap, toks := s'.toks } := by
    obtain ⟨a, b, c, d, e⟩ := s'
    simp only at hg hd ho
    subst hg hd ho
    rfl
  have hsz : acc.toList.length = x.length := by
    have := hacc.1
    rw [Array.length_toList, this]
    rfl
  have hS : StrsAre acc.toList (x.map fun c => S [c]) := signs_strs (x := x) (n := 0) (fun j => by rw [Nat.zero_add]) hsz fun j v hv => by
    rw [Nat.zero_add]
    exact hacc.2 j v (by simpa using hv)
  generalize hH : s'.heap = H at hk
  rw [hs', hH]
  refine wpAny_bind (wpAny_newList ?_ (by rw [sizeLine_eq]; omega))
  have hoL : (H.push (seqObj "list" acc.toList.toArray 0)).get? H.objs.size = some (seqObj "list" acc.toList.toArray 0) := Heap.get?_push_size _ rfl
  show wpAny _ _ _ _ _ { s with heap := H.push (seqObj "list" acc.toList.toArray 0), toks := s'.toks }
  refine wpAny_bind (wpAny_holding (wpAny_call_entry slot_list_sort ⟨_, hoL, rfl⟩ entry_list_sort (list_sort_treeK PyProof.Rows.strKind_oneLt hoL hS.keysOf (fun v₁ v₂ rest e => keyKind_strs (by rw [← e]; exact hS)) (by rw [hsz]; exact hx) fun st' a1 a2 => ⟨_, rfl, ?_⟩) (args_list_sort _)))
  obtain ⟨ss', b1, b2, b3⟩ := sorted_out_str hS a1 a2
  obtain ⟨e, he⟩ := sortedHeap_at (out := (arrOf st').map (·.2)) hoL
  have hkeep : ∀ b o, s.heap.get? b = some o → (sortedHeap (H.push (seqObj "list" acc.toList.toArray 0)) H.objs.size acc.toList ((arrOf st').map (·.2))).get? b = some o := fun b o hb => by
    have h1 := hk b o hb
    have hlt := Heap.lt_size h1
    rw [sortedHeap_old (Nat.ne_of_lt hlt) (by rw [size_push']; exact Nat.lt_succ_of_lt hlt), Heap.get?_push_ne _ _ _ (Nat.ne_of_lt hlt)]
    exact h1
  have hnone : H.get? H.objs.size = none := Heap.get?_none_of_le (Nat.le_refl _)
  have hoff : ∀ b o, s.heap.get? b = some o → b ≠ H.objs.size := fun b o hb e => by
    have := hk b o hb
    rw [e, hnone] at this
    cases this
  have N' : News h₀ L (sortedHeap (H.push (seqObj "list" acc.toList.toArray 0)) H.objs.size acc.toList ((arrOf st').map (·.2))) ((H.objs.size, listOf (((arrOf st').map (·.2)).toList).toArray e) :: news) := by
    intro p hp
    rcases List.mem_cons.mp hp with rfl | hp
    · refine ⟨he, ?_, ?_⟩
      · obtain ⟨oL, _, _, hL, _⟩ := F.ns
        exact (hoff _ _ hL).symm
      · cases hq : h₀.get? H.objs.size with
        | none => rfl
        | some o' => exact absurd rfl (hoff _ _ (F.keep _ _ hq))
    · exact ⟨hkeep _ _ (N p hp).1, (N p hp).2⟩
  exact wpAny_pure ⟨_, rfl, h _ _ _ ((arrOf st').map (·.2)).toList ss' e (F.kept hkeep) N' (fun p hp => hoff _ _ (N p hp).1) b1 b2 b3⟩
end
end Mine

namespace Mine
theorem S_ok {l : List Nat} (h : ∀ c ∈ l, c < 128) : PyData.strOk (S l) = true := by
  unfold PyData.strOk
  rw [← Array.all_toList, List.all_eq_true]
  intro c hc
  have := h c hc
  exact decide_eq_true (by omega)
end Mine
end
section
open PySem PySem.W PyProof.Rows PySem.Calls
namespace Mine
theorem open5 {h₀ h : Heap} {L : Addr} {a1 a2 a3 a4 a5 : Addr} {o1 o2 o3 o4 o5 : Obj} (_N : News h₀ L h [(a1, o1), (a2, o2), (a3, o3), (a4, o4), (a5, o5)]) :
    ∃ (b1 b2 b3 b4 b5 : Addr) (p4 p5 : Obj), b1 = a1 ∧ b2 = a2 ∧ b3 = a3 ∧ b4 = a4 ∧ b5 = a5 ∧ p4 = o4 ∧ p5 = o5 := ⟨_, _, _, _, _, _, _, rfl, rfl, rfl, rfl, rfl, rfl, rfl⟩
theorem openI {vs : List Value} {ns : List Int} (_h : IntsAre vs ns) : ∃ vs' ns', vs' = vs ∧ ns' = ns := ⟨_, _, rfl, rfl⟩
section
variable {α : Type} {a b c d e f x : α} {l : List α}
theorem i0 : x ∈ x :: l := List.mem_cons_self ..
theorem i1 : x ∈ a :: x :: l := List.mem_cons_of_mem _ i0
theorem i2 : x ∈ a :: b :: x :: l := List.mem_cons_of_mem _ i1
theorem i3 : x ∈ a :: b :: c :: x :: l := List.mem_cons_of_mem _ i2
theorem i4 : x ∈ a :: b :: c :: d :: x :: l := List.mem_cons_of_mem _ i3
theorem i5 : x ∈ a :: b :: c :: d :: e :: x :: l := List.mem_cons_of_mem _ i4
theorem mem1 (ha : a ∈ l) : ∀ y ∈ [a], y ∈ l := fun _ hy => List.mem_singleton.mp hy ▸ ha
theorem mem2 (ha : a ∈ l) (hb : b ∈ l) : ∀ y ∈ [a, b], y ∈ l := List.forall_mem_cons.mpr ⟨ha, mem1 hb⟩
theorem mem3 (ha : a ∈ l) (hb : b ∈ l) (hc : c ∈ l) : ∀ y ∈ [a, b, c], y ∈ l := List.forall_mem_cons.mpr ⟨ha, mem2 hb hc⟩
theorem mem4 (ha : a ∈ l) (hb : b ∈ l) (hc : c ∈ l) (hd : d ∈ l) : ∀ y ∈ [a, b, c, d], y ∈ l := List.forall_mem_cons.mpr ⟨ha, mem3 hb hc hd⟩
theorem mem5 (ha : a ∈ l) (hb : b ∈ l) (hc : c ∈ l) (hd : d ∈ l) (he : e ∈ l) : ∀ y ∈ [a, b, c, d, e], y ∈ l := List.forall_mem_cons.mpr ⟨ha, mem4 hb hc hd he⟩
theorem mem6 (ha : a ∈ l) (hb : b ∈ l) (hc : c ∈ l) (hd : d ∈ l) (he : e ∈ l) (hf : f ∈ l) : ∀ y ∈ [a, b, c, d, e, f], y ∈ l := List.forall_mem_cons.mpr ⟨ha, mem5 hb hc hd he hf⟩
end
end Mine
namespace Mine
section
variable {prog : Program} {w : World} {A : Around} {E : Value → Shared → Prop} {s : Shared} {value slice : PySem.Expr} {t u : Tok} {Q : Value → Shared → Prop}
theorem abn_item : ∀ r, r < 3 → ∃ c, c < 128 ∧ Txt.item (Str.ofString "ABN") ((r : Nat) : Int) = S [c]
  | 0, _ => ⟨65, by decide, by decide⟩
  | 1, _ => ⟨66, by decide, by decide⟩
  | 2, _ => ⟨78, by decide, by decide⟩
  | _ + 3, h => absurd h (by omega)
theorem item_abn {r : Nat} (hr : ((r : Nat) : Int) < 3) (h : ∀ c, c < 128 → Q (.str (S [c]) s.toks) { s with toks := s.toks + 1 })
    (hs : subscripted slice false (.str (Str.ofString "ABN") t) (.int r u) = operate [.str (Str.ofString "ABN") t, .int r u] (getItem (.str (Str.ofString "ABN") t) (.int r u)) := by with_unfolding_all rfl)
    (ht : ∀ r, letTemporaryGo value (.str (Str.ofString "ABN") t) r = pure () := by intro _; with_unfolding_all rfl) :
    wpAny (model prog w) A (subscriptTail value slice (.str (Str.ofString "ABN") t) (.int r u)) Q E s := by
  obtain ⟨c, hc, e⟩ := abn_item r (by omega)
  have hl : (Str.ofString "ABN").length = 3 := by decide
  refine KXi.item hl (by omega) (by omega) (by decide) (fun _ => ?_) hs ht
  rw [e]
  exact h c hc
end
theorem openTail {h₀ h : Heap} {L : Addr} {a b : Addr × Obj} {r : List (Addr × Obj)} (_N : News h₀ L h (a :: b :: r)) : ∃ KK : List (Addr × Obj), KK = r := ⟨_, rfl⟩
end Mine
namespace Mine
section
variable {α : Type} {a b c d e f g x : α} {l : List α}
theorem i6 : x ∈ a :: b :: c :: d :: e :: f :: x :: l := List.mem_cons_of_mem _ i5
theorem i7 : x ∈ a :: b :: c :: d :: e :: f :: g :: x :: l := List.mem_cons_of_mem _ i6
theorem mem7 (ha : a ∈ l) (hb : b ∈ l) (hc : c ∈ l) (hd : d ∈ l) (he : e ∈ l) (hf : f ∈ l) (hg : g ∈ l) : ∀ y ∈ [a, b, c, d, e, f, g], y ∈ l := List.forall_mem_cons.mpr ⟨ha, mem6 hb hc hd he hf hg⟩
theorem mem8 (hx : x ∈ l) (ha : a ∈ l) (hb : b ∈ l) (hc : c ∈ l) (hd : d ∈ l) (he : e ∈ l) (hf : f ∈ l) (hg : g ∈ l) : ∀ y ∈ [x, a, b, c, d, e, f, g], y ∈ l := List.forall_mem_cons.mpr ⟨hx, mem7 ha hb hc hd he hf hg⟩
end
end Mine
namespace Mine
section
variable {prog : Program} {w : World} {A : Around} {E : Value → Shared → Prop} {s : Shared} {env : Env} {h₀ : Heap} {x : Str} {body : List Stmt} {Q : Flow → Shared → Prop}

def TurnEndsR (h₀ : Heap) (L : Addr) (J : (Str → Option Value) → List (Addr × Obj) → Prop) (it : Addr × Obj) (s₁ s₂ : Shared) : Prop :=
  ∃ h' tk m' nx, s₂ = { s₁ with heap := h', toks := tk } ∧ Fr h₀ L h' m' ∧ News h₀ L h' (it :: nx) ∧ (∀ p ∈ nx, p.1 ≠ it.1) ∧ J m' nx
def TurnToR (h₀ : Heap) (L : Addr) (J : (Str → Option Value) → List (Addr × Obj) → Prop) (it : Addr × Obj) (s₁ : Shared) (Q : Flow → Shared → Prop) (f : Flow) (s₂ : Shared) : Prop :=
  match f with
  | .ret v => Q (.ret v) s₂
  | .brk => Q .next s₂
  | _ => TurnEndsR h₀ L J it s₁ s₂

/-- a frame's map, by any name -/
theorem openF {h₀ h : Heap} {L : Addr} {m : Str → Option Value} (F : Fr h₀ L h m) : ∃ m', Fr h₀ L h m' := ⟨m, F⟩

/-- a frame's map, by some names alone -/
theorem openFs {h₀ h : Heap} {L : Addr} {m : Str → Option Value} (ps : List (Str × Option Value)) (F : Fr h₀ L h m) (hk : ∀ p ∈ ps, m p.1 = p.2) : ∃ m', Fr h₀ L h (fun y => ksB m' ps y) :=
  ⟨m, by rw [show (fun y => ksB m ps y) = m from funext fun y => ksB_eq hk fun _ => rfl]; exact F⟩

/-- a loop over range(n) by what some names hold; of the others nothing is kept -/
theorem for_rangeN {σ : Type} (ps : σ → List (Str × Option Value)) (P : Nat → σ → List (Addr × Obj) → Prop) (c₀ : σ) {r : Addr} {b₀ : Int} {t₀ u₀ v₀ : Tok} {n : Nat} {m₀ : Str → Option Value} {news : List (Addr × Obj)}
    (hh : A.handled = none) (hr : IsRange s.heap r 0 b₀ 1 t₀ u₀ v₀) (hsmall : Builtin.Range.small 0 b₀ 1 = true) (hn : Builtin.Range.rangeSize 0 b₀ 1 = (n : Int)) (F : Fr h₀ env.locals s.heap m₀) (N : News h₀ env.locals s.heap news)
    (hk : ∀ p ∈ ps c₀, m₀ p.1 = p.2) (hp : P 0 c₀ news)
    (turn : ∀ i c nx I o h tk u m₁, i < n → P i c nx → (∀ p ∈ nx, p.1 ≠ I) → Fr h₀ env.locals h (fun y => if y = x then some (.int ((i : Nat) : Int) u) else ksB m₁ (ps c) y) → News h₀ env.locals h ((I, o) :: nx) →
      wpAny (model prog w) A (execs body env) (TurnToR h₀ env.locals (fun m nx' => ∃ c', (∀ p ∈ ps c', m p.1 = p.2) ∧ P (i + 1) c' nx') (I, o) { s with heap := h, toks := tk } Q) E { s with heap := h, toks := tk })
    (done : ∀ c m₁ nx h tk, P n c nx → Fr h₀ env.locals h (fun y => ksB m₁ (ps c) y) → News h₀ env.locals h nx → Q .next { s with heap := h, toks := tk }) :
    wpAny (model prog w) A (pyIter (.ref r)) (fun it s₂ => LoopAtV prog w A h₀ env x body Q E it s₂) E s := by
  refine wpAny_pyIter_range hr hsmall ?_
  have W := LCg.range_walks (prog := prog) (w := w) (A := A) (I := s.heap.objs.size) hh 0 n
  have hI0 : h₀.get? s.heap.objs.size = none := next_is_new F
  have hnI : ∀ p ∈ news, p.1 ≠ s.heap.objs.size := fun p hp => Nat.ne_of_lt (Heap.lt_size (N p hp).1)
  refine ⟨_, _, _, n, _, _, m₀, news, (fun i m nx => ∃ c, (∀ p ∈ ps c, m p.1 = p.2) ∧ P i c nx), rfl, W, ?_, ?_, ?_,
    (by show IsRangeIter _ _ _ _ _; rw [hn]; simpa using Heap.get?_push_size _ rfl), F.push _, (fun p hp => ⟨Heap.get?_push_of_some _ (N p hp).1, (N p hp).2⟩), ⟨c₀, hk, hp⟩, ?_, ?_⟩
  · intro hm
    exact absurd F.ns.lt ((List.mem_singleton.mp hm) ▸ Nat.lt_irrefl _)
  · intro b hb
    rw [List.mem_singleton.mp hb]
    exact hI0
  · intro p hp
    rw [List.mem_singleton]
    exact hnI p hp
  · rintro i v m₁ nx s₁ own ⟨hh', tk', rfl⟩ hi ⟨u, rfl⟩ ⟨c, hc, hP⟩ hoff hsub hget hall hst F₁ N₁
    obtain ⟨oI, hst'⟩ : ∃ o, hh'.get? s.heap.objs.size = some o := ⟨_, hst⟩
    have hmI : (s.heap.objs.size, oI) ∈ own := hall _ (by simp) hI0 _ hst'
    have N₂ : News h₀ env.locals hh' ((s.heap.objs.size, oI) :: nx) := fun p hp => by
      rcases List.mem_cons.mp hp with rfl | hp
      · exact N₁ _ (List.mem_append_left _ hmI)
      · exact N₁ p (List.mem_append_right _ hp)
    have e : (fun y => if y = x then some (Value.int (0 + (i : Int)) u) else m₁ y) = fun y => if y = x then some (.int ((i : Nat) : Int) u) else ksB m₁ (ps c) y := by
      funext y
      rw [ksB_eq hc fun _ => rfl, Int.zero_add]
    refine wpAny_mono (turn i c nx s.heap.objs.size oI hh' tk' u m₁ hi hP (fun p hp e => hoff p hp (by simp [e])) (e ▸ F₁) N₂) (fun f s₂ p => ?_) fun _ _ e => e
    have fin : TurnEndsR h₀ env.locals (fun m nx' => ∃ c', (∀ p ∈ ps c', m p.1 = p.2) ∧ P (i + 1) c' nx') (s.heap.objs.size, oI) { s with heap := hh', toks := tk' } s₂ →
        LoopStepU h₀ env.locals [s.heap.objs.size] own (fun m n' => ∃ c, (∀ p ∈ ps c, m p.1 = p.2) ∧ P (i + 1) c n') { s with heap := hh', toks := tk' } .next s₂ := by
      rintro ⟨h', tk, m', nx', rfl, F', N', hne, hJ'⟩
      refine ⟨rfl, h', tk, m', nx', rfl, F', fun p hp => ?_, fun p hp => ?_, hJ'⟩
      · rcases List.mem_append.mp hp with hp | hp
        · have h1 := hget p hp
          have h2 := List.mem_singleton.mp (hsub p hp)
          have : p = (s.heap.objs.size, oI) := Prod.ext h2 (by rw [h2] at h1; exact (Option.some.inj (hst'.symm.trans h1)).symm)
          rw [this]; exact N' _ (by simp)
        · exact N' p (List.mem_cons_of_mem _ hp)
      · rw [List.mem_singleton]
        exact hne p hp
    cases f with
    | ret v => exact .ret p
    | brk => exact .brk p
    | next => exact .next (fin p)
    | cont => exact .cont (fin p)
  · rintro h' tk m' news' F' N' _ ⟨c, hc, hP⟩
    have e : m' = fun y => ksB m' (ps c) y := funext fun y => (ksB_eq hc fun _ => rfl).symm
    rw [e] at F'
    exact done c m' news' h' tk hP F' N'
end
end Mine
end
section
open PySem PySem.W PyProof.Rows PySem.Calls
namespace Mine
section
variable {x r : List Nat} {rs : List (List Nat)}
theorem turns_len (x : List Nat) : (turns x).length = x.length := by simp [turns]
theorem rot_len {x : List Nat} {i : Nat} (h : i ≤ x.length) : (rot x i).length = x.length := by
  simp only [rot, List.length_take, List.length_drop, List.length_append]; omega
theorem rot_eq {x : List Nat} {i : Nat} (h : i ≤ x.length) : rot x i = x.drop i ++ x.take i := by
  unfold rot
  rw [List.drop_append_of_le_length h, List.take_append, List.take_of_length_le (by simp only [List.length_drop]; omega)]
  congr 2
  simp only [List.length_drop]; omega
theorem in_len (h : InOrder (turns x) rs) : rs.length = x.length := h.1.length_eq.trans (turns_len x)
theorem in_mem (h : InOrder (turns x) rs) : r ∈ rs ↔ ∃ i, i < x.length ∧ rot x i = r := by
  rw [h.1.mem_iff]
  simp [turns]
theorem in_row (h : InOrder (turns x) rs) : ∀ r ∈ rs, r.length = x.length := fun r hr => by
  obtain ⟨i, hi, rfl⟩ := (in_mem h).mp hr
  exact rot_len (Nat.le_of_lt hi)
theorem in_self (h : InOrder (turns x) rs) (hx : 1 ≤ x.length) : x ∈ rs := (in_mem h).mpr ⟨0, hx, by rw [rot_eq (Nat.zero_le _)]; simp⟩
theorem in_codes (h : InOrder (turns x) rs) (hc : ∀ c ∈ x, c < 128) : ∀ r ∈ rs, ∀ c ∈ r, c < 128 := fun r hr c hcr => by
  obtain ⟨i, hi, rfl⟩ := (in_mem h).mp hr
  rw [rot_eq (Nat.le_of_lt hi)] at hcr
  rcases List.mem_append.mp hcr with hcr | hcr
  · exact hc c (List.mem_of_mem_drop hcr)
  · exact hc c (List.mem_of_mem_take hcr)
/-- the last sign set ahead -/
def sh (r : List Nat) : List Nat := r.drop (r.length - 1) ++ r.take (r.length - 1)
/-- the text turned right by `i` signs -/
def rr (x : List Nat) (i : Nat) : List Nat := x.drop (x.length - i) ++ x.take (x.length - i)
theorem rr_zero (x : List Nat) : rr x 0 = x := by simp [rr]
theorem rr_all (x : List Nat) : rr x x.length = x := by simp [rr]
theorem rr_len (x : List Nat) (i : Nat) : (rr x i).length = x.length := by simp only [rr, List.length_append, List.length_drop, List.length_take]; omega
theorem drop_succ' {x : List Nat} {i : Nat} (h : i < x.length) : x.drop (x.length - (i + 1)) = [x[x.length - (i + 1)]] ++ x.drop (x.length - i) := by
  rw [List.drop_eq_getElem_cons (by omega)]
  have e : x.length - (i + 1) + 1 = x.length - i := by omega
  rw [e]; rfl
theorem rr_split {x : List Nat} {i : Nat} (h : i < x.length) : rr x i = (x.drop (x.length - i) ++ x.take (x.length - (i + 1))) ++ [x[x.length - (i + 1)]] := by
  have e : x.length - i = x.length - (i + 1) + 1 := by omega
  rw [rr, List.append_assoc]
  congr 1
  rw [e, List.take_succ_eq_append_getElem (by omega)]
theorem rr_succ {x : List Nat} {i : Nat} (h : i < x.length) : rr x (i + 1) = sh (rr x i) := by
  have hl := rr_len x i
  have hs := rr_split h
  rw [sh, hl]
  have e : x.length - 1 = (x.drop (x.length - i) ++ x.take (x.length - (i + 1))).length := by simp; omega
  rw [hs, e, List.drop_left, List.take_left, rr, drop_succ' h]
  simp
theorem rr_last {x : List Nat} {i : Nat} (h : i < x.length) : (rr x i).drop ((rr x i).length - 1) ++ x.drop (x.length - i) = x.drop (x.length - (i + 1)) := by
  have hl := rr_len x i
  have hs := rr_split h
  rw [hl]
  have e : x.length - 1 = (x.drop (x.length - i) ++ x.take (x.length - (i + 1))).length := by simp; omega
  rw [hs, e, List.drop_left, drop_succ' h]
end
end Mine
namespace Mine
section
variable {α : Type} {a b c d e f g k x : α} {l : List α}
theorem i8 : x ∈ a :: b :: c :: d :: e :: f :: g :: k :: x :: l := List.mem_cons_of_mem _ (List.mem_cons_of_mem _ (List.mem_cons_of_mem _ (List.mem_cons_of_mem _ (List.mem_cons_of_mem _ (List.mem_cons_of_mem _ (List.mem_cons_of_mem _ (List.mem_cons_of_mem _ (List.mem_cons_self ..))))))))
end
end Mine
namespace Mine
theorem at_idx {rs : List (List Nat)} {r : List Nat} (h : r ∈ rs) : rs[rs.idxOf r]? = some r := by
  rw [List.getElem?_eq_getElem (List.idxOf_lt_length_iff.mpr h), List.getElem_idxOf]
theorem at_idx' {rs : List (List Nat)} {r r' : List Nat} (h : r ∈ rs) (h' : rs[((rs.idxOf r : Nat) : Int).toNat]? = some r') : r' = r := by
  rw [Int.toNat_natCast, at_idx h] at h'
  exact (Option.some.inj h').symm
end Mine
namespace Mine
theorem News.dr {h₀ h : Heap} {L : Addr} {l r : List (Addr × Obj)} (N : News h₀ L h (l ++ r)) : News h₀ L h r := fun p hp => N p (List.mem_append_right _ hp)
end Mine
namespace Mine
theorem turns_at {x r : List Nat} {k : Nat} (h : (turns x)[k]? = some r) : r = rot x k ∧ k < x.length := by
  obtain ⟨hk, e⟩ := List.getElem?_eq_some_iff.mp h
  refine ⟨?_, by rwa [turns_len] at hk⟩
  rw [← e]
  simp [turns]
theorem two_S (c : Nat) : ({ cps := #[c] } : Str) ++ ({ cps := #[c] } : Str) = S [c, c] := S_app [c] [c]
theorem pairs_len (l : List Nat) : ((l.map fun c => [c, c]).flatten).length = 2 * l.length := by
  induction l with
  | nil => rfl
  | cons c r ih => simp only [List.map_cons, List.flatten_cons, List.length_append, ih, List.length_cons, List.length_nil]; omega
end Mine
namespace Mine
theorem num1 {r0 a b : Nat} (h1 : a = 4 + r0) (h2 : b = a) : ((4 : Int) + (r0 : Int) - 1).toNat = b - 1 := by omega
theorem num2 {l : List Nat} {k : Nat} (h : l.length ≤ 255) : (l.drop k).length + (l.take k).length ≤ 255 := by
  rw [List.length_drop, List.length_take]; omega
theorem num3 {l x : List Nat} {k m : Nat} (h : l.length ≤ 100) (h' : x.length ≤ 100) : (l.drop k).length + (x.drop m).length ≤ 255 := by
  rw [List.length_drop, List.length_drop]; omega
theorem num4 {a : Nat} : ((a : Int) + 1 - 1).toNat = a := by omega
end Mine
end
section
open PySem PySem.W PyProof.Rows PySem.Calls
namespace Mine
theorem tri {a b : List Nat} (h1 : ¬ a < b) (h2 : ¬ b < a) : a = b := List.le_antisymm (List.not_lt.mp h2) (List.not_lt.mp h1)
theorem up_same {l₁ l₂ : List (List Nat)} (h : l₁.Perm l₂) (h1 : l₁.Pairwise fun a b => ¬ b < a) (h2 : l₂.Pairwise fun a b => ¬ b < a) : l₁ = l₂ :=
  List.Perm.eq_of_pairwise (le := fun a b => ¬ b < a) (fun _ _ _ _ h3 h4 => tri h4 h3) h1 h2 h
theorem app_lt : ∀ {a b : List Nat}, a.length = b.length → ∀ {u v : List Nat}, (a ++ u < b ++ v ↔ a < b ∨ (a = b ∧ u < v))
  | [], [], _, u, v => by simp
  | [], _ :: _, h, _, _ => by simp at h
  | _ :: _, [], h, _, _ => by simp at h
  | x :: a, y :: b, h, u, v => by
    have h' : a.length = b.length := by simpa using h
    simp only [List.cons_append]
    rw [List.cons_lt_cons_iff, List.cons_lt_cons_iff, app_lt h', List.cons.injEq]
    constructor
    · rintro (h1 | ⟨h1, h2 | ⟨h2, h3⟩⟩)
      · exact .inl (.inl h1)
      · exact .inl (.inr ⟨h1, h2⟩)
      · exact .inr ⟨⟨h1, h2⟩, h3⟩
    · rintro ((h1 | ⟨h1, h2⟩) | ⟨⟨h1, h2⟩, h3⟩)
      · exact .inl h1
      · exact .inr ⟨h1, .inl h2⟩
      · exact .inr ⟨h1, .inr ⟨h2, h3⟩⟩
/-- in an ordered list, those below a member stand ahead of it -/
theorem below_ahead {r : List Nat} (p : List Nat → Bool) : ∀ {rs : List (List Nat)}, rs.Pairwise (fun a b => ¬ b < a) → r ∈ rs →
    rs.countP (fun q => p q && decide (q < r)) = (rs.take (rs.idxOf r)).countP p
  | [], _, h => by simp at h
  | a :: t, hs, h => by
    obtain ⟨h1, h2⟩ := List.pairwise_cons.mp hs
    by_cases e : a = r
    · subst e
      rw [List.idxOf_cons_self]
      simp only [List.take_zero, List.countP_nil]
      refine List.countP_eq_zero.mpr fun q hq => ?_
      rcases List.mem_cons.mp hq with rfl | hq
      · simp [List.lt_irrefl]
      · simp [h1 q hq]
    · have hr : r ∈ t := (List.mem_cons.mp h).resolve_left fun x => e x.symm
      have har : a < r := by
        refine Decidable.byContradiction fun hn => e (tri hn (h1 r hr))
      rw [List.idxOf_cons, show (a == r) = false by simpa using e, cond_false, List.take_succ_cons, List.countP_cons, List.countP_cons, below_ahead p h2 hr]
      simp [har]
theorem idx_count {r : List Nat} {rs : List (List Nat)} (hs : rs.Pairwise (fun a b => ¬ b < a)) (h : r ∈ rs) : rs.idxOf r = rs.countP fun q => decide (q < r) := by
  have := below_ahead (fun _ => true) hs h
  simp only [Bool.true_and] at this
  rw [this, List.countP_true, List.length_take]
  have := List.idxOf_lt_length_iff.mpr h
  omega
/-- the last sign -/
def la (r : List Nat) : Nat := r[r.length - 1]?.getD 0
theorem drop_la {r : List Nat} (h : 1 ≤ r.length) : r.drop (r.length - 1) = [la r] := by
  have h1 : r.length - 1 < r.length := by omega
  rw [List.drop_eq_getElem_cons h1, la, List.getElem?_eq_getElem h1, List.drop_of_length_le (by omega)]
  rfl
theorem split_la {r : List Nat} (h : 1 ≤ r.length) : r = r.take (r.length - 1) ++ [la r] := by
  rw [← drop_la h, List.take_append_drop]
theorem sh_la {r : List Nat} (h : 1 ≤ r.length) : sh r = la r :: r.take (r.length - 1) := by
  rw [sh, drop_la h]; rfl
theorem lasts_map : ∀ {rs : List (List Nat)}, (∀ r ∈ rs, 1 ≤ r.length) → lastsOf rs = rs.map la
  | [], _ => rfl
  | r :: rs, h => by
    have := lasts_map (rs := rs) fun x hx => h x (List.mem_cons_of_mem _ hx)
    rw [lastsOf] at this ⊢
    rw [List.map_cons, List.flatten_cons, this, drop_la (h r (List.mem_cons_self ..))]
    rfl
theorem sh_lt {q r : List Nat} (hq : 1 ≤ q.length) (hl : q.length = r.length) : sh q < sh r ↔ la q < la r ∨ (la q = la r ∧ q < r) := by
  have hr : 1 ≤ r.length := by omega
  rw [sh_la hq, sh_la hr, List.cons_lt_cons_iff]
  refine or_congr Iff.rfl (and_congr_right fun e => ?_)
  have hi : (q.take (q.length - 1)).length = (r.take (r.length - 1)).length := by simp only [List.length_take]; omega
  have := app_lt hi (u := [la q]) (v := [la r])
  rw [← split_la hq, ← split_la hr, e] at this
  rw [this]
  constructor
  · exact .inl
  · rintro (h | ⟨_, h⟩)
    · exact h
    · exact absurd h (List.lt_irrefl _)
theorem rot_rr {x : List Nat} {i : Nat} (h : i ≤ x.length) : rot x i = rr x (x.length - i) := by
  rw [rot_eq h, rr, show x.length - (x.length - i) = i by omega]
theorem sh_rot {x : List Nat} {i : Nat} (h : i + 1 ≤ x.length) : sh (rot x (i + 1)) = rot x i := by
  rw [rot_rr h, rot_rr (by omega), ← rr_succ (by omega), show x.length - (i + 1) + 1 = x.length - i by omega]
theorem sh_rot0 {x : List Nat} (h : 1 ≤ x.length) : sh (rot x 0) = rot x (x.length - 1) := by
  rw [rot_rr (by omega), rot_rr (by omega), Nat.sub_zero, rr_all, show x.length - (x.length - 1) = 0 + 1 by omega, rr_succ (by omega), rr_zero]
theorem turns_sh (x : List Nat) : ((turns x).map sh).Perm (turns x) := by
  unfold turns
  cases hn : x.length with
  | zero => exact .refl _
  | succ m =>
    have e1 : (List.range (m + 1)).map (rot x) = (List.range m).map (rot x) ++ [rot x m] := by rw [List.range_succ, List.map_append]; rfl
    have e2 : ((List.range (m + 1)).map (rot x)).map sh = rot x m :: (List.range m).map (rot x) := by
      rw [List.range_succ_eq_map, List.map_cons, List.map_cons, sh_rot0 (by omega), hn, List.map_map, List.map_map]
      congr 1
      refine List.map_congr_left fun i hi => ?_
      exact sh_rot (by have := List.mem_range.mp hi; omega)
    rw [e2, e1]
    exact (List.perm_append_singleton _ _).symm
section
variable {x r : List Nat} {rs rs' : List (List Nat)}
theorem rs_sh (h : InOrder (turns x) rs) : (rs.map sh).Perm rs := (h.1.map sh).trans ((turns_sh x).trans h.1.symm)
theorem step_mem (h : InOrder (turns x) rs) (hr : r ∈ rs) : sh r ∈ rs := (rs_sh h).subset (List.mem_map_of_mem hr)
theorem row_pos (h : InOrder (turns x) rs) (hr : r ∈ rs) : 1 ≤ r.length := by
  obtain ⟨i, hi, rfl⟩ := (in_mem h).mp hr
  rw [rot_len (Nat.le_of_lt hi)]
  omega
theorem lasts_get (h : InOrder (turns x) rs) (hr : r ∈ rs) : (lastsOf rs)[rs.idxOf r]? = some (la r) := by
  rw [lasts_map fun _ => row_pos h, List.getElem?_map, at_idx hr]
  rfl
theorem lasts_at (h : InOrder (turns x) rs) (hr : r ∈ rs) : ((lastsOf rs).drop (rs.idxOf r)).take 1 = r.drop (r.length - 1) := by
  have := lasts_get h hr
  obtain ⟨h1, h2⟩ := List.getElem?_eq_some_iff.mp this
  rw [List.drop_eq_getElem_cons h1, h2, drop_la (row_pos h hr)]
  rfl
theorem step_begun (h : InOrder (turns x) rs) (hr : r ∈ rs) : begun (lastsOf rs) (rs.idxOf r) = rs.idxOf (sh r) := by
  have hg : (lastsOf rs).getD (rs.idxOf r) 0 = la r := by rw [List.getD_eq_getElem?_getD, lasts_get h hr]; rfl
  rw [idx_count h.2 (step_mem h hr), begun, hg, ← (rs_sh h).countP_eq, List.countP_map, lasts_map fun _ => row_pos h, List.countP_map, ← List.map_take, List.countP_map,
    ← below_ahead (r := r) ((fun c => decide (c = la r)) ∘ la) h.2 hr]
  have key : ∀ l : List (List Nat), (∀ q ∈ l, q ∈ rs) → l.countP ((fun c => decide (c < la r)) ∘ la) + l.countP (fun q => ((fun c => decide (c = la r)) ∘ la) q && decide (q < r)) = l.countP ((fun q => decide (q < sh r)) ∘ sh) := by
    intro l
    induction l with
    | nil => intro _; rfl
    | cons q t ih =>
      intro hl
      have ih' := ih fun z hz => hl z (List.mem_cons_of_mem _ hz)
      have hq := hl q (List.mem_cons_self ..)
      have e := sh_lt (row_pos h hq) ((in_row h q hq).trans (in_row h r hr).symm)
      rw [List.countP_cons, List.countP_cons, List.countP_cons, ← ih']
      have : (if ((fun c => decide (c < la r)) ∘ la) q = true then 1 else 0) + (if (((fun c => decide (c = la r)) ∘ la) q && decide (q < r)) = true then 1 else 0) = if ((fun q => decide (q < sh r)) ∘ sh) q = true then 1 else 0 := by
        simp only [Function.comp, decide_eq_true_eq, Bool.and_eq_true]
        by_cases h1 : la q < la r
        · rw [if_pos h1, if_neg (by omega), if_pos (e.mpr (.inl h1))]
        · by_cases h2 : la q = la r ∧ q < r
          · rw [if_neg h1, if_pos h2, if_pos (e.mpr (.inr h2))]
          · rw [if_neg h1, if_neg h2, if_neg (fun x => (e.mp x).elim h1 h2)]
      omega
  exact key rs fun _ hq => hq
theorem take_one_lt : ∀ {a b : List Nat}, 1 ≤ a.length → a.length = b.length → ¬ b < a → ¬ b.take 1 < a.take 1
  | x :: a, y :: b, _, _, h => by
    simp only [List.take_succ_cons, List.take_zero]
    rw [List.cons_lt_cons_iff] at h ⊢
    rintro (h1 | ⟨_, h2⟩)
    · exact h (.inl h1)
    · exact absurd h2 (List.lt_irrefl _)
  | [], _, h, _, _ => by simp at h
  | _ :: _, [], _, h, _ => by simp at h
theorem ltCps_iff : ∀ {a b : List Nat}, PySem.Spec.ltCps a b = true ↔ a < b
  | [], [] => by simp [PySem.Spec.ltCps]
  | [], _ :: _ => by simp [PySem.Spec.ltCps]
  | _ :: _, [] => by simp [PySem.Spec.ltCps]
  | x :: a, y :: b => by
    rw [List.cons_lt_cons_iff, ← ltCps_iff (a := a) (b := b)]
    simp [PySem.Spec.ltCps]
/-- a text's numbers -/
def un (s : Str) : List Nat := s.cps.toList
theorem S_un (s : Str) : S (un s) = s := rfl
theorem rising_up : ∀ {ss : List Str} {p : Str}, risingS p ss = true → (p :: ss).Pairwise fun a b => ¬ un b < un a
  | [], p, _ => by simp
  | x :: r, p, h => by
    simp only [risingS, Bool.and_eq_true, Bool.not_eq_true'] at h
    have h1 : ¬ un x < un p := fun e => by have := ltCps_iff.mpr e; exact absurd (h.1.symm.trans this) (by decide)
    have h2 := rising_up h.2
    refine List.pairwise_cons.mpr ⟨fun y hy => ?_, h2⟩
    rcases List.mem_cons.mp hy with rfl | hy
    · exact h1
    · exact not_lt_trans h1 ((List.pairwise_cons.mp h2).1 y hy)
theorem sorted_up {ss : List Str} (h : sortedS ss = true) : ss.Pairwise fun a b => ¬ un b < un a := by
  cases ss with
  | nil => exact .nil
  | cons x r => exact rising_up h
theorem rot_head {x : List Nat} {i : Nat} (h : i < x.length) : (rot x i).take 1 = [x[i]] := by
  rw [rot_eq (Nat.le_of_lt h), List.drop_eq_getElem_cons h]; rfl
theorem turns_heads (x : List Nat) : (turns x).map (fun r => r.take 1) = x.map fun c => [c] := by
  refine List.ext_getElem (by rw [List.length_map, turns_len, List.length_map]) fun i h1 h2 => ?_
  have hi : i < x.length := by simpa using h2
  simp only [turns, List.getElem_map, List.getElem_range]
  exact rot_head hi
theorem heads_eq (h : InOrder (turns x) rs) {ss : List Str} (hp : ss.Perm (x.map fun c => S [c])) (hs : sortedS ss = true) : ((rs.map fun r => r.take 1).map S) = ss := by
  have e : ss = (ss.map un).map S := by
    rw [List.map_map]
    exact (List.map_id ss).symm
  rw [e]
  congr 1
  refine up_same ?_ ?_ ?_
  · refine ((h.1.map _).trans (.of_eq (turns_heads x))).trans ?_
    have := (hp.map un).symm
    rw [List.map_map] at this
    exact this
  · rw [List.pairwise_map]
    refine List.Pairwise.imp_of_mem ?_ h.2
    intro a b ha hb hab
    exact take_one_lt (row_pos h ha) ((in_row h a ha).trans (in_row h b hb).symm) hab
  · rw [List.pairwise_map]
    exact sorted_up hs
/-- the turns of the text turned right -/
theorem turns_of_sh {y : List Nat} (hy : 1 ≤ y.length) : (turns (sh y)).Perm (turns y) := by
  have hl : (sh y).length = y.length := by rw [sh_la hy]; simp only [List.length_cons, List.length_take]; omega
  obtain ⟨m, hm⟩ : ∃ m, y.length = m + 1 := ⟨y.length - 1, by omega⟩
  have hsh : sh y = rr y 1 := by rw [show (1 : Nat) = 0 + 1 from rfl, rr_succ (by omega), rr_zero]
  have e : ∀ i, i < m → rot (sh y) (i + 1) = rot y i := by
    intro i hi
    have h0 := split_la hy
    have hi0 : i ≤ (y.take (y.length - 1)).length := by simp only [List.length_take]; omega
    rw [rot_eq (by omega), rot_eq (by omega), sh_la hy]
    generalize y.take (y.length - 1) = z at h0 hi0
    generalize la y = c at h0
    subst h0
    rw [List.drop_append_of_le_length hi0, List.take_append_of_le_length hi0]
    simp
  have e0 : rot (sh y) 0 = rot y m := by
    rw [rot_eq (Nat.zero_le _), hsh, rot_rr (by omega), hm, show m + 1 - m = 1 by omega]
    simp
  have e1 : turns (sh y) = rot y m :: (List.range m).map (rot y) := by
    rw [turns, hl, hm, List.range_succ_eq_map, List.map_cons, e0, List.map_map]
    congr 1
    exact List.map_congr_left fun i hi => e i (List.mem_range.mp hi)
  have e2 : turns y = (List.range m).map (rot y) ++ [rot y m] := by rw [turns, hm, List.range_succ, List.map_append]; rfl
  rw [e1, e2]
  exact (List.perm_append_singleton _ _).symm
theorem turns_rot {x : List Nat} : ∀ {j : Nat}, j < x.length → (turns (rot x j)).Perm (turns x)
  | 0, _ => by rw [rot_eq (Nat.zero_le _)]; simp
  | j + 1, hj => by
    have h1 := turns_of_sh (y := rot x (j + 1)) (by rw [rot_len (Nat.le_of_lt hj)]; omega)
    rw [sh_rot (Nat.le_of_lt hj)] at h1
    exact h1.symm.trans (turns_rot (Nat.lt_of_succ_lt hj))
theorem lasts_rot {j : Nat} (h : InOrder (turns x) rs) (h' : InOrder (turns (rot x j)) rs') (hj : j < x.length) : lastsOf rs' = lastsOf rs := by
  rw [up_same ((h'.1.trans (turns_rot hj)).trans h.1.symm) h'.2 h.2]
/-- each row said twice, and twice in the list -/
def dbl (rs : List (List Nat)) : List (List Nat) := (rs.map fun r => [r ++ r, r ++ r]).flatten
theorem dbl_cons (r : List Nat) (rs : List (List Nat)) : dbl (r :: rs) = (r ++ r) :: (r ++ r) :: dbl rs := rfl
theorem dbl_perm : ∀ rs : List (List Nat), (dbl rs).Perm (rs.map (fun r => r ++ r) ++ rs.map fun r => r ++ r)
  | [] => .refl _
  | r :: rs => by
    rw [dbl_cons, List.map_cons, List.cons_append]
    refine .cons _ ?_
    exact (List.Perm.cons _ (dbl_perm rs)).trans List.perm_middle.symm
theorem dbl_mem {z : List Nat} : ∀ {rs : List (List Nat)}, z ∈ dbl rs → ∃ r ∈ rs, z = r ++ r
  | [], h => by simp [dbl] at h
  | a :: rs, h => by
    rw [dbl_cons] at h
    rcases List.mem_cons.mp h with rfl | h
    · exact ⟨a, List.mem_cons_self .., rfl⟩
    rcases List.mem_cons.mp h with rfl | h
    · exact ⟨a, List.mem_cons_self .., rfl⟩
    obtain ⟨r, hr, e⟩ := dbl_mem h
    exact ⟨r, List.mem_cons_of_mem _ hr, e⟩
theorem dbl_up {n : Nat} : ∀ {rs : List (List Nat)}, (∀ r ∈ rs, r.length = n) → rs.Pairwise (fun a b => ¬ b < a) → (dbl rs).Pairwise fun a b => ¬ b < a
  | [], _, _ => .nil
  | a :: rs, hl, h => by
    obtain ⟨h1, h2⟩ := List.pairwise_cons.mp h
    have ih := dbl_up (fun r hr => hl r (List.mem_cons_of_mem _ hr)) h2
    have key : ∀ z ∈ dbl rs, ¬ z < a ++ a := by
      intro z hz
      obtain ⟨r, hr, rfl⟩ := dbl_mem hz
      rw [app_lt ((hl r (List.mem_cons_of_mem _ hr)).trans (hl a (List.mem_cons_self ..)).symm)]
      rintro (h3 | ⟨_, h3⟩)
      · exact h1 r hr h3
      · exact h1 r hr h3
    rw [dbl_cons]
    refine List.pairwise_cons.mpr ⟨fun z hz => ?_, List.pairwise_cons.mpr ⟨key, ih⟩⟩
    rcases List.mem_cons.mp hz with rfl | hz
    · exact List.lt_irrefl _
    · exact key z hz
theorem rot_two {x : List Nat} {i : Nat} (h : i ≤ x.length) : rot (x ++ x) i = rot x i ++ rot x i := by
  rw [rot_eq (by rw [List.length_append]; omega), rot_eq h, List.drop_append_of_le_length h, List.take_append_of_le_length h]
  have := List.take_append_drop i x
  calc x.drop i ++ x ++ x.take i = x.drop i ++ (x.take i ++ x.drop i) ++ x.take i := by rw [this]
    _ = _ := by simp only [List.append_assoc]
theorem rot_two' {x : List Nat} {i : Nat} (h : i ≤ x.length) : rot (x ++ x) (x.length + i) = rot x i ++ rot x i := by
  rw [rot_eq (by rw [List.length_append]; omega), rot_eq h, List.drop_length_add_append, List.take_length_add_append]
  have := List.take_append_drop i x
  calc x.drop i ++ (x ++ x.take i) = x.drop i ++ ((x.take i ++ x.drop i) ++ x.take i) := by rw [this]
    _ = _ := by simp only [List.append_assoc]
theorem turns_two (x : List Nat) : turns (x ++ x) = (turns x).map (fun r => r ++ r) ++ (turns x).map fun r => r ++ r := by
  rw [turns, List.length_append, List.range_add, List.map_append, turns, List.map_map, List.map_map]
  congr 1
  · exact List.map_congr_left fun i hi => rot_two (Nat.le_of_lt (List.mem_range.mp hi))
  · exact List.map_congr_left fun i hi => rot_two' (Nat.le_of_lt (List.mem_range.mp hi))
theorem lasts_dbl : ∀ {rs : List (List Nat)}, (∀ r ∈ rs, 1 ≤ r.length) → lastsOf (dbl rs) = ((lastsOf rs).map fun c => [c, c]).flatten
  | [], _ => rfl
  | r :: rs, h => by
    have ih := lasts_dbl fun z hz => h z (List.mem_cons_of_mem _ hz)
    have h1 := h r (List.mem_cons_self ..)
    have e : (r ++ r).drop ((r ++ r).length - 1) = r.drop (r.length - 1) := by
      rw [List.length_append, show r.length + r.length - 1 = r.length + (r.length - 1) by omega, List.drop_length_add_append]
    rw [dbl_cons]
    simp only [lastsOf, List.map_cons, List.flatten_cons, e, drop_la h1] at ih ⊢
    rw [ih]
    simp
theorem lasts_twice (h : InOrder (turns x) rs) (h' : InOrder (turns (x ++ x)) rs') : lastsOf rs' = ((lastsOf rs).map fun c => [c, c]).flatten := by
  have e : rs' = dbl rs := by
    refine up_same ?_ h'.2 (dbl_up (in_row h) h.2)
    refine h'.1.trans (.trans ?_ (dbl_perm rs).symm)
    rw [turns_two]
    exact ((h.1.map _).append (h.1.map _)).symm
  rw [e, lasts_dbl fun _ => row_pos h]
theorem rr_mem (h : InOrder (turns x) rs) (hx : 1 ≤ x.length) : ∀ {i}, i ≤ x.length → rr x i ∈ rs
  | 0, _ => by rw [rr_zero]; exact in_self h hx
  | i + 1, hi => by rw [rr_succ hi]; exact step_mem h (rr_mem h hx (Nat.le_of_succ_le hi))
theorem heads_ok (h : InOrder (turns x) rs) (hc : ∀ c ∈ x, c < 128) : ∀ y ∈ (rs.map fun r => r.take 1).map S, PyData.strOk y = true := by
  intro y hy
  obtain ⟨z, hz, rfl⟩ := List.mem_map.mp hy
  obtain ⟨r, hr, rfl⟩ := List.mem_map.mp hz
  exact S_ok fun c hcr => in_codes h hc r hr c (List.mem_of_mem_take hcr)
end
end Mine
end
section
open PySem PySem.W PyProof.Rows PySem.Calls
set_option maxRecDepth 100000
set_option maxHeartbeats 8000000
namespace Mine

abbrev Led := List (Addr × Obj)


/-- what a call of the def at `f` with `vs` does, from a frame whose ledger is `news` -/
def Tel (w : World) (mean : ExcName → Option Value) (mg mb : Str → Option Value) (f : Addr) (vs : List Value) (dn un' : Nat) (news : Led) (Out : Value → Led → Prop) : Prop :=
  ∀ (dp un : Nat) (gd : Option (List Code)) (cn : Str) (cs : Scope) (a : Addr) (ccd : Value) (cl : List (Str × Addr)) (outer : List Env) (A₀ : Around) (base h₀ : Heap) (L : Addr) (m : Str → Option Value) (s : Shared) (Q E : Value → Shared → Prop),
    Below A₀ base outer h₀ → Fr h₀ L s.heap m → (hd.heap_39 w.params).In h₀ → News h₀ L s.heap news → Top hd.view_39 (looseW hd.view_39 [Str.ofString "BasicError"]) mean mg mb h₀ → cs.kind = .function →
    dp + dn < recursionLimit → un + un' < cLine →
    (∀ v h' tk' news', Fr h₀ L h' m → News h₀ L h' news' → Out v news' → Q v { s with heap := h', toks := tk' }) →
    wpAny (model PySem.Challenge.rw_xm0014_01.row.prog w) (ktrTop dp un gd cn cs L a ccd cl outer) (call (.ref f) vs) Q E s

end Mine
namespace Mine
theorem tel_use {w : World} {mean : ExcName → Option Value} {mg mb : Str → Option Value} {f : Addr} {vs : List Value} {dn un' : Nat} {news : Led} {Out : Value → Led → Prop}
    {dp un : Nat} {gd : Option (List Code)} {cn : Str} {cs : Scope} {a : Addr} {ccd : Value} {cl : List (Str × Addr)} {outer : List Env} {A₀ : Around} {base h₀ : Heap} {L : Addr} {m : Str → Option Value} {s : Shared} {Q E : Value → Shared → Prop}
    (C : Tel w mean mg mb f vs dn un' news Out)
    (B : Below A₀ base outer h₀) (F : Fr h₀ L s.heap m) (X : (hd.heap_39 w.params).In h₀) (N : News h₀ L s.heap news) (T : Top hd.view_39 (looseW hd.view_39 [Str.ofString "BasicError"]) mean mg mb h₀) (hk : cs.kind = .function)
    (hd' : dp + dn < recursionLimit) (hu : un + un' < cLine)
    (ret : ∀ v h' tk' news', Fr h₀ L h' m → News h₀ L h' news' → Out v news' → Q v { s with heap := h', toks := tk' }) :
    wpAny (model PySem.Challenge.rw_xm0014_01.row.prog w) (ktrTop dp un gd cn cs L a ccd cl outer) (call (.ref f) vs) Q E s :=
  C _ _ _ _ _ _ _ _ _ _ _ _ _ _ _ _ _ B F X N T hk hd' hu ret
end Mine
end
section
open PySem PySem.W PyProof.Rows PySem.Calls
set_option maxRecDepth 100000
set_option maxHeartbeats 8000000
namespace Mine
local macro_rules | `(tactic| walk_at "mine close") => `(tactic| exact hret _ _ _ _ (by k_asm) (by k_asm) ⟨rfl, rfl⟩)

theorem text_of_tel {w mean mg mb} {x : Str} {t : Tok} {news : Led} :
    Tel w mean mg mb 65 [.str x t] 1 8 news (fun v n => v = .str x t ∧ n = news) := by
  unfold Tel
  k_fill
  intro dp un gd cn cs a ccd cl outer A₀ base h₀ L m s Q E B F X N T hk hdp hun hret
  refine wpAny_call ?_
  k_dflt cell_enter
  k_steps
  all_goals exact hret _ _ _ _ (by k_asm) (by k_asm) ⟨rfl, rfl⟩

theorem checked_text_tel {w mean mg mb} {x : Str} {t : Tok} (hx : x.length ≤ 255) {news : Led} :
    Tel w mean mg mb 72 [.str x t] 1 8 news (fun v n => v = .str x t ∧ n = news) := by
  unfold Tel
  k_fill
  intro dp un gd cn cs a ccd cl outer A₀ base h₀ L m s Q E B F X N T hk hdp hun hret
  refine wpAny_call ?_
  k_dflt cell_enter
  k_steps
  all_goals exact hret _ _ _ _ (by k_asm) (by k_asm) ⟨rfl, rfl⟩

theorem size_told_tel {w mean mg mb} {n : Int} {t : Tok} (h0 : 0 ≤ n) (h1 : n ≤ 255) {news : Led} :
    Tel w mean mg mb 79 [.int n t] 1 8 news (fun v nn => v = .int n t ∧ nn = news) := by
  unfold Tel
  k_fill
  intro dp un gd cn cs a ccd cl outer A₀ base h₀ L m s Q E B F X N T hk hdp hun hret
  refine wpAny_call ?_
  k_dflt cell_enter
  k_steps
  all_goals exact hret _ _ _ _ (by k_asm) (by k_asm) ⟨rfl, rfl⟩
end Mine
end
section
open PySem PySem.W PyProof.Rows PySem.Calls
set_option maxRecDepth 100000
set_option maxHeartbeats 8000000
namespace Mine
theorem News.tl {h₀ h : Heap} {L : Addr} {x : Addr × Obj} {l : Led} (N : News h₀ L h (x :: l)) : News h₀ L h l := fun p hp => N p (List.mem_cons_of_mem _ hp)
section
variable {prog : Program} {w : World} {A : Around} {E : Value → Shared → Prop} {s : Shared} {h₀ : Heap} {L : Addr} {news : Led}
theorem item_led {value slice : PySem.Expr} {l : Addr} {vs : List Value} {nn : Nat} {k : Int} {u : Tok} {v : Value} {Q : Value → Shared → Prop} (N : News h₀ L s.heap news) (hm : (l, W.listOf vs.toArray nn) ∈ news) (h0 : 0 ≤ k) (hhi : k < 2 ^ 63) (hx : vs[k.toNat]? = some v) (h : Q v s)
    (hs : subscripted slice false (.ref l) (.int k u) = operate [.ref l, .int k u] (getItem (.ref l) (.int k u)) := by with_unfolding_all rfl) :
    wpAny (model prog w) A (subscriptTail value slice (.ref l) (.int k u)) Q E s :=
  item_litK (N.isList hm) h0 hhi hx h hs
theorem len_led {l : Addr} {vs : List Value} {nn : Nat} {Q : Value → Shared → Prop} (N : News h₀ L s.heap news) (hm : (l, W.listOf vs.toArray nn) ∈ news) (hf : (vs.length : Int) < 2 ^ 63)
    (h : Q (.int vs.length (s.toks + 1)) { s with toks := s.toks + 1 + 1 }) : wpAny (model prog w) A (call (.builtin "len") [.ref l]) Q E s :=
  PyProof.Rows.len_list (N.isList hm) (by simpa using hf) (by simpa using h)
end
local macro_rules | `(tactic| walk_at "mine mem") => `(tactic| first | assumption | exact List.mem_cons_of_mem _ (by assumption) | exact List.mem_cons_of_mem _ (List.mem_cons_of_mem _ (by assumption)) | exact List.mem_cons_of_mem _ (List.mem_cons_of_mem _ (List.mem_cons_of_mem _ (by assumption))) | k_mem)
local macro_rules | `(tactic| walk_at "mine news") => `(tactic| first | k_asm | exact News.tl (by k_asm) | exact News.tl (News.tl (by k_asm)) | exact News.tl (News.tl (News.tl (by k_asm))))
local macro_rules | `(tactic| walk_at "mine pre") => `(tactic| ((case k1 => k_asm); (case k2 => k_asm); (case k3 => k_asm); (case k4 => k_asm); (case k5 => k_asm); (case kK => first | exact rfl | assumption)))
local macro_rules | `(tactic| walk_at "mine telx") => `(tactic| ((case kd => ktr_room); (case ku => ktr_units); k_whole; intro v9 h9 tk9 news9 F9 N9 ho9; obtain ⟨⟨t9, hv9⟩, hn9⟩ := ho9; subst hv9; subst hn9; (try dsimp only); (try k_fold)))
local macro_rules | `(tactic| walk_at "mine hold") => `(tactic| refine Hold.by ?_)
section
theorem Tel.weaken {w : World} {mean : ExcName → Option Value} {mg mb : Str → Option Value} {f : Addr} {vs : List Value} {dn un' : Nat} {news news₁ : Led} {Out : Value → Led → Prop}
    (C : Tel w mean mg mb f vs dn un' news₁ Out) (hs : ∀ p ∈ news₁, p ∈ news) : Tel w mean mg mb f vs dn un' news Out := by
  unfold Tel at C ⊢
  intro dp un gd cn cs a ccd cl outer A₀ base h₀ L m s Q E B F X N T
  exact C dp un gd cn cs a ccd cl outer A₀ base h₀ L m s Q E B F X (fun p hp => N p (hs p hp)) T
local macro_rules | `(tactic| k_all) => `(tactic| assumption)
theorem law_chosen_tel {w mean mg mb} {b l9 : Addr} {vs : List Value} {ns : List Int} {spot : Int} {t : Tok} {e e9 : Nat} {below : Int} {u : Tok} {keep : Led} (hi : IntsAre vs ns) (hbl : @Ne Nat l9 b) (hk : ∀ p ∈ keep, p.1 ≠ b) (h0 : 0 ≤ spot) (h1 : spot ≤ 100) (hlen : ns.length ≤ 100) (hbe : 0 < below) (hb2 : below ≤ 100)   :
    Tel w mean mg mb 150 [.ref b, .int below u] 2 16 ((b, W.listOf [.ref l9, .int spot t].toArray e) :: (l9, W.listOf vs.toArray e9) :: keep) (fun v n => ∃ (r : Nat) (t t' : Tok), v = .int r t ∧ (r : Int) < below ∧ n = (b, W.listOf [.ref l9, .int (spot + 1) t'].toArray e) :: (l9, W.listOf vs.toArray e9) :: keep) := by
  unfold Tel
  k_fill
  intro dp un gd cn cs a ccd cl outer A₀ base h₀ L m s Q E B F X N T hk hdp hun hret
  refine wpAny_call ?_
  k_dflt cell_enter
  k_steps
  all_goals exact ret_fmod (Q := Q) hbe fun r hr => hret _ _ _ _ (by k_asm) (by k_asm) ⟨r, _, _, rfl, hr, rfl⟩
end
section
local macro_rules | `(tactic| walk_at "mine pad") => `(tactic| skip)
theorem world_tel {w mean mg mb} {news : Led} :
    Tel w mean mg mb 132 [] 6 60 news (fun v n => (∃ a, v = .ref a) ∧ n = news) := by
  unfold Tel
  k_fill
  intro dp un gd cn cs a ccd cl outer A₀ base h₀ L m s Q E B F X N T hk hdp hun hret
  k_dflt (refine' call_cls ?k1 ?k2 ?k3 ?k4 ?k5 ?k6 ?_; (case k1 => k_asm); (case k2 => k_asm); (case k3 => k_asm); (case k4 => k_is); (case k5 => k_is); (case k6 => k_is); k_whole; intro x' d' h' F' N' l1 l2; (try k_lt l1); (try k_lt2 l2); (try k_sweep))
  k_dflt (refine' code_def ?k1 ?k2 ?k3 ?k4 ?k5 ?kA ?kF ?kK ?k6 ?k7 ?k8 ?k9 ?kB ?_ ?c2 ?c3 ?c4 ?c5; (case kA => exact rfl); (case kF => exact rfl); (case kK => assumption); (case k1 => k_asm); (case k2 => k_asm); (case k3 => k_asm); (case k4 => k_asm); (case k5 => k_asm); (case k6 => k_is); (case k7 => k_is); (case k8 => ktr_room); (case k9 => first | exact BindsTo.of_eq rfl | exact binds_K (by k_in) rfl (by k_is) rfl rfl rfl); (case c5 => decide); (case kB => exact locs rfl); (case c2 => exact rfl); (case c3 => exact rfl); (case c4 => exact rfl); k_whole; intro g' L' h' FG' F' N' B' X' T'; (try dsimp only); (try k_lift B'); (try k_fold))
  k_steps
  rename News h₀ _ _ _ => N4
  exact hret _ _ _ _ (by k_asm) (fun p hp => N4 p (by simp only [List.mem_cons, hp, or_true])) ⟨⟨_, rfl⟩, rfl⟩
end
local macro_rules | `(tactic| walk_at "subscriptTail") => `(tactic| (k_here; (with_reducible show wpAny _ _ (subscriptTail _ _ (Value.ref _) (Value.int _ _)) _ _ _); k_dflt (refine' item_led ?k1 ?k2 ?k3 ?k4 ?k5 ?_ ?k6; (case k1 => k_asm); (case k2 => walk_at "mine mem"); (case k3 => decide); (case k4 => decide); (case k5 => rfl); (case k6 => with_unfolding_all rfl); k_whole)))
local macro_rules | `(tactic| walk_at "call builtin:len") => `(tactic| (k_here; (with_reducible show wpAny _ _ (call (Value.builtin "len") [Value.ref _]) _ _ _); k_dflt (refine' len_led ?k1 ?k2 ?k3 ?_; (case k1 => k_asm); (case k2 => walk_at "mine mem"); (case k3 => exact (by decide : ((3 : Nat) : Int) < 2 ^ 63)); k_whole; (try dsimp only [List.length_cons, List.length_nil]))))
local macro_rules | `(tactic| walk_at "subscriptTail Name Slice str ref") => `(tactic| (k_here; k_dflt (first
  | ((with_reducible show wpAny _ _ (subscriptTail _ (Expr.Slice none (some _) none _) _ _) _ _ _); (refine' slice_strN_ns_len (hsz := ?hsz) (s := ⟨_, _, _, _, _⟩) ?k1 ?k2 ?_); (case k1 => k_asm); (case k2 => k_asm); (case hsz => (rw [sizeLine_eq]; omega)); intro h9 t9 k9 F9 N9 hl9)
  | ((with_reducible show wpAny _ _ (subscriptTail _ (Expr.Slice (some _) none none _) _ _) _ _ _); (refine' slice_strN_sn_len (hsz := ?hsz) (s := ⟨_, _, _, _, _⟩) ?k1 ?k2 ?_); (case k1 => k_asm); (case k2 => k_asm); (case hsz => (rw [sizeLine_eq]; omega)); intro h9 t9 k9 F9 N9 hl9)
  | ((with_reducible show wpAny _ _ (subscriptTail _ (Expr.Slice (some _) (some _) none _) _ _) _ _ _); (refine' slice_strN_ss_len (hsz := ?hsz) (s := ⟨_, _, _, _, _⟩) ?k1 ?k2 ?_); (case k1 => k_asm); (case k2 => k_asm); (case hsz => (rw [sizeLine_eq]; omega)); intro h9 t9 k9 F9 N9 hl9))))
section
local macro_rules | `(tactic| walk_at "mine tel") => `(tactic| ((case k1 => k_asm); (case k2 => k_asm); (case k3 => k_asm); (case k4 => k_asm); (case k5 => k_asm); (case kK => first | exact rfl | assumption); (case kd => ktr_room); (case ku => ktr_units); k_whole; intro v9 h9 tk9 news9 F9 N9 ho9; obtain ⟨hv9, hn9⟩ := ho9; subst hv9; subst hn9; (try dsimp only); (try k_fold)))
local macro_rules | `(tactic| walk_at "call ref") => `(tactic| (k_here; k_dflt (refine' tel_use (text_of_tel) ?k1 ?k2 ?k3 ?k4 ?k5 ?kK ?kd ?ku ?_; walk_at "mine tel")))
local macro_rules | `(tactic| walk_at "call ref") => `(tactic| (k_here; k_dflt (refine' tel_use (checked_text_tel ?kp) ?k1 ?k2 ?k3 ?k4 ?k5 ?kK ?kd ?ku ?_; (case kp => (simp only [PySem.Str.length_append]; omega)); walk_at "mine tel")))
local macro_rules | `(tactic| walk_at "call ref") => `(tactic| (k_here; k_dflt (refine' tel_use (size_told_tel ?kp ?kq) ?k1 ?k2 ?k3 ?k4 ?k5 ?kK ?kd ?ku ?_; (case kp => omega); (case kq => omega); walk_at "mine tel")))
theorem place_told_tel {w mean mg mb} {n : Int} {t : Tok} (h0 : 1 ≤ n) (h1 : n ≤ 255) {news : Led}  :
    Tel w mean mg mb 86 [.int n t] 2 16 news (fun v nn => v = .int n t ∧ nn = news) := by
  unfold Tel
  k_fill
  intro dp un gd cn cs a ccd cl outer A₀ base h₀ L m s Q E B F X N T hk hdp hun hret
  refine wpAny_call ?_
  k_dflt cell_enter
  k_steps
  all_goals first | (exfalso; omega) | exact hret _ _ _ _ (by k_asm) (by walk_at "mine news") ⟨rfl, rfl⟩
local macro_rules | `(tactic| walk_at "call ref") => `(tactic| (k_here; k_dflt (refine' tel_use (place_told_tel ?kp ?kq) ?k1 ?k2 ?k3 ?k4 ?k5 ?kK ?kd ?ku ?_; (case kp => omega); (case kq => omega); walk_at "mine tel")))
theorem text_joined_tel {w mean mg mb} {x y : List Nat} {t u : Tok} (hx : x.length + y.length ≤ 255) {news : Led}  :
    Tel w mean mg mb 114 [.str (S x) t, .str (S y) u] 2 16 news (fun v nn => (∃ t, v = .str (S (x ++ y)) t) ∧ nn = news) := by
  have hS := S_len x
  have hS2 := S_len y
  unfold Tel
  k_fill
  intro dp un gd cn cs a ccd cl outer A₀ base h₀ L m s Q E B F X N T hk hdp hun hret
  refine wpAny_call ?_
  k_dflt cell_enter
  k_steps
  all_goals (rw [S_app]; exact hret _ _ _ _ (by k_asm) (by walk_at "mine news") ⟨⟨_, rfl⟩, rfl⟩)

theorem text_left_tel {w mean mg mb} {x : List Nat} {t : Tok} {n : Int} {u : Tok} {wv : Value} {la : Addr} (hx : x.length ≤ 255) (h0 : 0 ≤ n) (h1 : n ≤ x.length) {news : Led} (hm : (la, W.listOf [.str (S x) t, .int n u].toArray 0) ∈ news) :
    Tel w mean mg mb 93 [wv, .ref la] 2 16 news (fun v nn => (∃ t, v = .str (S (x.take n.toNat)) t) ∧ nn = news) := by
  have hS := S_len x
  unfold Tel
  k_fill
  intro dp un gd cn cs a ccd cl outer A₀ base h₀ L m s Q E B F X N T hk hdp hun hret
  refine wpAny_call ?_
  k_dflt cell_enter
  k_steps
  all_goals (rw [slice_ns _ h0 h1]; exact hret _ _ _ _ (by k_asm) (by walk_at "mine news") ⟨⟨_, rfl⟩, rfl⟩)

theorem text_right_tel {w mean mg mb} {x : List Nat} {t : Tok} {n : Int} {u : Tok} {wv : Value} {la : Addr} (hx : x.length ≤ 255) (h0 : 0 ≤ n) (h1 : n ≤ x.length) {news : Led} (hm : (la, W.listOf [.str (S x) t, .int n u].toArray 0) ∈ news) :
    Tel w mean mg mb 100 [wv, .ref la] 2 16 news (fun v nn => (∃ t, v = .str (S (x.drop (x.length - n.toNat))) t) ∧ nn = news) := by
  have hS := S_len x
  unfold Tel
  k_fill
  intro dp un gd cn cs a ccd cl outer A₀ base h₀ L m s Q E B F X N T hk hdp hun hret
  refine wpAny_call ?_
  k_dflt cell_enter
  k_steps
  all_goals (rw [if_neg (by omega), slice_sn _ (by omega) (by omega), hS, show ((x.length : Int) - n).toNat = x.length - n.toNat by omega]; exact hret _ _ _ _ (by k_asm) (by walk_at "mine news") ⟨⟨_, rfl⟩, rfl⟩)

theorem order_of_texts_tel {w mean mg mb} {x y : List Nat} {t u : Tok} {news : Led}  :
    Tel w mean mg mb 143 [.str (S x) t, .str (S y) u] 1 8 news (fun v nn => (∃ t, v = .int (b2i (decide (y < x)) - b2i (decide (x < y))) t) ∧ nn = news) := by
  unfold Tel
  k_fill
  intro dp un gd cn cs a ccd cl outer A₀ base h₀ L m s Q E B F X N T hk hdp hun hret
  refine wpAny_call ?_
  k_dflt cell_enter
  k_steps
  all_goals exact hret _ _ _ _ (by k_asm) (by k_asm) ⟨⟨_, rfl⟩, rfl⟩
theorem text_mid_tel {w mean mg mb} {x : List Nat} {t : Tok} {b : Int} {tb : Tok} {n : Int} {u : Tok} {wv : Value} {la : Addr} (hx : x.length ≤ 255) (hb0 : 1 ≤ b) (hb1 : b ≤ 255) (h0 : 0 ≤ n) (h1 : b - 1 + n ≤ x.length) {news : Led} (hm : (la, W.listOf [.str (S x) t, .int b tb, .int n u].toArray 0) ∈ news) :
    Tel w mean mg mb 107 [wv, .ref la] 3 24 news (fun v nn => (∃ t, v = .str (S ((x.drop (b - 1).toNat).take n.toNat)) t) ∧ nn = news) := by
  have hS := S_len x
  unfold Tel
  k_fill
  intro dp un gd cn cs a ccd cl outer A₀ base h₀ L m s Q E B F X N T hk hdp hun hret
  refine wpAny_call ?_
  k_dflt cell_enter
  k_steps
  all_goals first | (exfalso; omega) | (rw [slice_ss _ (by omega) (by omega) (by omega), show (b - 1 + n - (b - 1)).toNat = n.toNat by omega]; exact hret _ _ _ _ (by k_asm) (by walk_at "mine news") ⟨⟨_, rfl⟩, rfl⟩)
end
local macro_rules | `(tactic| walk_at "mine tel") => `(tactic| ((case kd => ktr_room); (case ku => ktr_units); k_whole; intro v9 h9 tk9 news9 F9 N9 ho9; obtain ⟨hv9, hn9⟩ := ho9; subst hv9; subst hn9; (try dsimp only); (try k_fold)))
section
local macro_rules | `(tactic| k_all) => `(tactic| (refine' all_ne (by assumption) ?_; (try dsimp only); omega))
local macro_rules | `(tactic| walk_at "CompSrc") => `(tactic| (k_here; refine Hold.by ?_))
local macro_rules | `(tactic| walk_at "call ref") => `(tactic| (k_here; k_dflt (refine' tel_use (text_joined_tel ?kp) ?k1 ?k2 ?k3 ?k4 ?k5 ?kK ?kd ?ku ?_; walk_at "mine pre"; (case kp => first | omega | (simp only [List.length_append, List.length_drop, List.length_take, List.length_cons, List.length_nil]; omega)); walk_at "mine telx")))
local macro_rules | `(tactic| walk_at "call ref") => `(tactic| (k_here; k_dflt (refine' tel_use (text_mid_tel ?ka ?kb ?kc ?ke ?kf ?kp) ?k1 ?k2 ?k3 ?k4 ?k5 ?kK ?kd ?ku ?_; walk_at "mine pre"; (case kp => walk_at "mine mem"); (case ka => first | omega | (simp only [List.length_append, List.length_drop, List.length_take, List.length_cons, List.length_nil]; omega)); (case kb => omega); (case kc => omega); (case ke => omega); (case kf => first | omega | (simp only [List.length_append]; omega)); walk_at "mine telx")))
theorem law_turns_tel {w mean mg mb} {x : List Nat} {t : Tok} {wv : Value} (hx1 : 1 ≤ x.length) (hx : x.length ≤ 100) {news : Led}  :
    Tel w mean mg mb 155 [wv, .str (S x) t] 5 40 news (fun v n => OutList news (turns x) v n) := by
  have hS := S_len x
  unfold Tel
  k_fill
  intro dp un gd cn cs a ccd cl outer A₀ base h₀ L m s Q E B F X N T hk hdp hun hret
  refine wpAny_call ?_
  k_dflt (refine' code_defC ?k1 ?k2 ?k3 ?k4 ?k5 ?kA ?kF ?kK ?k6 ?k7 ?k8 ?k9 ?kB ?kD ?_ ?c2 ?c3 ?c4; (case kA => exact rfl); (case kF => exact rfl); (case kK => assumption); (case k1 => k_asm); (case k2 => k_asm); (case k3 => k_asm); (case k4 => k_asm); (case k5 => k_asm); (case k6 => k_is); (case k7 => k_is); (case k8 => ktr_room); (case k9 => exact BindsTo.of_eq rfl); (case kB => exact rfl); (case kD => decide +kernel); (case c2 => exact rfl); (case c3 => exact rfl); (case c4 => exact rfl); k_whole; intro g' L' h' tk' cells' FG' F' N' Y' B' X' T' l1; (try k_lt l1); k_cells Y'; (try simp only [List.cons_append, List.nil_append] at N'); (try dsimp only); (try k_lift B'); (try k_fold))
  k_steps
  refine Hold.mk ?_
  rename Fr _ _ _ _ => F1
  rename News _ _ _ _ => N1
  rename IsRange _ _ _ _ _ _ _ _ => hr1
  refine LCg.CompSrc.range rfl F1 N1 hr1 (small_one (by omega) (by omega) (by omega) (by omega)) (rangeSize_nat _ _) (by rw [sizeLine_eq]; omega) ?_
  intro g1
  refine comp_inv (fun i ys nx => nx = _ ∧ StrsAre ys (((List.range i).map (rot x)).map S)) ⟨rfl, .nil⟩ ?_ ?_
  · rintro i ys nx v I oI C oC D m₂ h tk E' hi ⟨rfl, hys⟩ ⟨tv, rfl⟩ hC hx9 F2 N2 off ne
    clear F1 N1 F N
    k_steps
    rename Fr _ _ _ _ => F3
    rename News _ _ _ _ => N3
    refine LCg.CompEnd.intro F3 (News.tl N3) _ (fun p hp => hp) off trivial ⟨rfl, ?_⟩
    rw [List.range_succ, List.map_append, List.map_append]
    have e1 : ((0 : Int) + (i : Int) + 1 - 1).toNat = i := by omega
    have e2 : (((S x).length : Nat) : Int).toNat = x.length := by omega
    rw [e1, e2]
    exact strs_snoc hys
  · rintro ys nx ⟨rfl, hys⟩
    have e3 : (((S x).length : Int) - 0).toNat = x.length := by omega
    rw [e3] at hys
    k_steps
    rename _ ∧ _ ∧ _ ∧ LCg.Off1 _ _ => ho1
    rename News h₀ _ _ _ => N4
    exact hret _ _ _ _ (by k_asm) (news_skip (l := [_, _, _]) N4) ⟨_, ys, ys.length, rfl, rfl, hys, off1_mem ho1.2.2.2⟩
  
end
section
local macro_rules | `(tactic| k_all) => `(tactic| (refine' all_ne (by assumption) ?_; (try dsimp only); omega))
local macro_rules | `(tactic| walk_at "call builtin:len") => `(tactic| (k_here; (with_reducible show wpAny _ _ (call (Value.builtin "len") [Value.ref _]) _ _ _); k_dflt (refine' len_led ?k1 ?k2 ?k3 ?_; (case k1 => k_asm); (case k2 => walk_at "mine mem"); (case k3 => omega); k_whole)))
local macro_rules | `(tactic| walk_at "eval ListComp") => `(tactic| (k_here; k_dflt (refine ListComp_strT (F₀ := by k_asm) (by with_unfolding_all rfl) (by decide) (by rfl) (by decide) (by rfl) ?_)))
local macro_rules | `(tactic| walk_at "StrSrcT") => `(tactic| (refine Hold.by ?_))
local macro_rules | `(tactic| walk_at "mine pad") => `(tactic| skip)
theorem law_begun_by_tel {w mean mg mb} {x : List Nat} {t : Tok} {k : Int} {u : Tok} (h0 : 0 ≤ k) (hk : k < x.length) (hx : x.length ≤ 100) {news : Led}  :
    Tel w mean mg mb 174 [.str (S x) t, .int k u] 5 40 news (fun v n => (∃ t, v = .int (begun x k.toNat) t) ∧ n = news) := by
  have hS := S_len x
  unfold Tel
  k_fill
  intro dp un gd cn cs a ccd cl outer A₀ base h₀ L m s Q E B F X N T hk hdp hun hret
  refine wpAny_call ?_
  k_dflt (refine' code_defC ?k1 ?k2 ?k3 ?k4 ?k5 ?kA ?kF ?kK ?k6 ?k7 ?k8 ?k9 ?kB ?kD ?_ ?c2 ?c3 ?c4; (case kA => exact rfl); (case kF => exact rfl); (case kK => assumption); (case k1 => k_asm); (case k2 => k_asm); (case k3 => k_asm); (case k4 => k_asm); (case k5 => k_asm); (case k6 => k_is); (case k7 => k_is); (case k8 => ktr_room); (case k9 => exact BindsTo.of_eq rfl); (case kB => exact rfl); (case kD => decide +kernel); (case c2 => exact rfl); (case c3 => exact rfl); (case c4 => exact rfl); k_whole; intro g' L' h' tk' cells' FG' F' N' Y' B' X' T' l1; (try k_lt l1); k_cells Y'; (try simp only [List.cons_append, List.nil_append] at N'); (try dsimp only); (try k_lift B'); (try k_fold))
  have hk' : k.toNat < x.length := by omega
  obtain ⟨d, hd0⟩ : ∃ d, x[k.toNat]? = some d := ⟨_, List.getElem?_eq_getElem hk'⟩
  have hdg : x.getD k.toNat 0 = d := by rw [List.getD_eq_getElem?_getD, hd0]; rfl
  have hit := S_item h0 hd0
  have hbd := fun (i : Nat) (p : Nat → Bool) => Nat.le_trans (List.countP_le_length (p := p) (l := x.take i)) (List.length_take_le' ..)
  k_steps
  refine Hold.mk ?_
  rename Fr _ _ _ _ => F1
  rename News _ _ _ _ => N1
  refine ⟨_, _, _, rfl, rfl, F1, N1, by rw [sizeLine_eq]; show x.length ≤ _; omega, fun s₂ hs₂ => ?_⟩
  obtain ⟨g2, rfl⟩ := hs₂
  refine comp_invT (fun i ys nx => nx = _ ∧ ys.length = ((x.take i).countP fun c => decide (c < d))) ⟨rfl, rfl⟩ ?_ ?_
  · rintro i ys nx v I oI C oC D m₂ h tk E' hi ⟨rfl, hys⟩ hP hC hx9 F2 N2 off ne
    obtain ⟨c, u, hc, rfl⟩ := hP
    clear F1 N1 F N
    k_steps
    · rename _ < Array.toList _ => hlt
      rw [hit, one_lt] at hlt
      refine LCg.CompEnd.intro F2 N2 _ (fun p hp => hp) off trivial ⟨rfl, ?_⟩
      rw [countP_snoc _ (S_get hc), List.length_append, hys, decide_eq_true hlt]
      rfl
    · rename ¬ (_ < Array.toList _) => hlt
      rw [hit, one_lt] at hlt
      refine LCg.CompEnd.intro F2 N2 _ (fun p hp => hp) off trivial ⟨rfl, ?_⟩
      rw [countP_snoc _ (S_get hc), hys, decide_eq_false hlt]
      rfl
  · rintro ys nx ⟨rfl, hys⟩
    have hb1 := hbd (S x).cps.size fun c => decide (c < d)
    rw [← hys] at hb1
    k_steps
    rw [slice_ns x h0 (by omega)]
    clear F1 N1 N F
    rename Fr g' _ _ _ => F3
    rename News g' _ _ _ => N3
    refine Hold.mk ?_
    refine ⟨_, _, _, rfl, rfl, F3, N3, by rw [sizeLine_eq]; show (x.take k.toNat).length ≤ _; rw [List.length_take]; omega, fun s₂ hs₂ => ?_⟩
    obtain ⟨g3, rfl⟩ := hs₂
    refine comp_invT (fun i zs nx => nx = _ ∧ zs.length = (((x.take k.toNat).take i).countP fun c => decide (c = d))) ⟨rfl, rfl⟩ ?_ ?_
    · rintro i zs nx v I oI C oC D m₂ h tk E' hi ⟨rfl, hzs⟩ hP hC hx9 F2 N2 off ne
      obtain ⟨c, u, hc, rfl⟩ := hP
      clear F3 N3
      k_steps
      · rename (_ == Txt.item _ _) = true => he
        rw [hit, one_eq] at he
        refine LCg.CompEnd.intro F2 N2 _ (fun p hp => hp) off trivial ⟨rfl, ?_⟩
        rw [countP_snoc _ (S_get hc), List.length_append, hzs, he]
        rfl
      · rename (_ == Txt.item _ _) = false => he
        rw [hit, one_eq] at he
        refine LCg.CompEnd.intro F2 N2 _ (fun p hp => hp) off trivial ⟨rfl, ?_⟩
        rw [countP_snoc _ (S_get hc), hzs, he]
        rfl
    · rintro zs nx ⟨rfl, hzs⟩
      have hb2 : zs.length ≤ x.length := by
        rw [hzs]
        exact Nat.le_trans List.countP_le_length (Nat.le_trans (List.length_take_le' ..) (List.length_take_le' ..))
      clear F3 N3
      k_steps
      have e1 : x.take (S x).cps.size = x := List.take_of_length_le (Nat.le_of_eq (by simp [S]))
      have e2 : (x.take k.toNat).take (S (x.take k.toNat)).cps.size = x.take k.toNat := List.take_of_length_le (Nat.le_of_eq (by simp [S]))
      rw [e1] at hys
      rw [e2] at hzs
      rename News h₀ _ _ _ => N4
      have e3 : (ys.length : Int) + (zs.length : Int) = ((begun x k.toNat : Nat) : Int) := by
        unfold begun
        rw [hdg, hys, hzs]
        rfl
      exact hret _ _ _ _ (by k_asm) (News.tl (News.tl (News.tl N4))) ⟨⟨_, by rw [← e3]⟩, rfl⟩
  
end
local macro_rules | `(tactic| walk_at "exec For Name Name cons nil") => `(tactic| (k_here; (rename Fr _ _ _ _ => lF'); (with_unfolding_all refine' For_invVF lF' ?k1 ?k2 ?_; (case k1 => exact rfl); (case k2 => exact rfl); k_whole)))
local macro_rules | `(tactic| walk_at "exec For Name Call cons nil") => `(tactic| (k_here; (rename Fr _ _ _ _ => lF'); (with_unfolding_all refine' For_invVF lF' ?k1 ?k2 ?_; (case k1 => exact rfl); (case k2 => exact rfl); k_whole)))
local macro_rules | `(tactic| walk_at "pyIter ref") => `(tactic| ((with_reducible show wpAny _ _ (pyIter (Value.ref _)) (fun it s₂ => LoopAtV _ _ _ _ _ _ _ _ _ it s₂) _ _); refine Hold.by ?_))
section
local macro_rules | `(tactic| walk_at "call ref") => `(tactic| (k_here; k_dflt (refine' tel_use (text_of_tel) ?k1 ?k2 ?k3 ?k4 ?k5 ?kK ?kd ?ku ?_; walk_at "mine pre"; walk_at "mine tel")))
local macro_rules | `(tactic| walk_at "call ref") => `(tactic| (k_here; k_dflt (refine' tel_use (text_joined_tel ?kp) ?k1 ?k2 ?k3 ?k4 ?k5 ?kK ?kd ?ku ?_; walk_at "mine pre"; (case kp => first | omega | (simp only [List.length_append, List.length_drop, List.length_take, List.length_cons, List.length_nil]; omega)); walk_at "mine telx")))
local macro_rules | `(tactic| walk_at "call ref") => `(tactic| (k_here; k_dflt (refine' tel_use (text_right_tel ?ka ?kb ?kc ?kp) ?k1 ?k2 ?k3 ?k4 ?k5 ?kK ?kd ?ku ?_; walk_at "mine pre"; (case kp => walk_at "mine mem"); (case ka => omega); (case kb => omega); (case kc => omega); walk_at "mine telx")))
theorem law_lasts_tel {w mean mg mb} {rs : List (List Nat)} {lr : Addr} {vs : List Value} {nn : Nat} {wv : Value} (hv : StrsAre vs (rs.map S)) (h1 : ∀ r ∈ rs, 1 ≤ r.length ∧ r.length ≤ 255) (hl : rs.length ≤ 255) {news : Led} (hm : (lr, W.listOf vs.toArray nn) ∈ news) :
    Tel w mean mg mb 169 [wv, .ref lr] 4 32 news (fun v nn => (∃ t, v = .str (S (lastsOf rs)) t) ∧ nn = news) := by
  unfold Tel
  k_fill
  intro dp un gd cn cs a ccd cl outer A₀ base h₀ L m s Q E B F X N T hk hdp hun hret
  refine wpAny_call ?_
  k_dflt cell_enter
  k_steps
  rename Fr _ _ _ _ => F1
  rename News _ _ _ _ => N1
  refine Hold.mk ?_
  have hlen := fun i => lastsOf_len (rs := rs.take i) fun r hr => (h1 r (List.mem_of_mem_take hr)).1
  refine' for_ledS (σ := Str × Tok) (fun c => [(Str.ofString "found", some (.str c.1 c.2))]) (fun i c nx => c.1 = S (lastsOf (rs.take i)) ∧ nx = news) (Str.ofString "", _) rfl hm F1 N1 ?hk ⟨rfl, rfl⟩ ?turn ?done
  case hk =>
    intro p hp
    cases List.mem_singleton.mp hp
    exact rfl
  case turn =>
    rintro i v ⟨f, tf⟩ nx I o h tk hvi ⟨hf, hnx⟩ hn hI F2 N2
    dsimp only at hf
    subst hf hnx
    obtain ⟨r, tr, rfl, hr⟩ := strs_at hv hvi
    have hi : i < rs.length := (List.getElem?_eq_some_iff.mp hr).1
    have hr1 := (h1 r (List.mem_of_getElem? hr)).1
    have hr2 := (h1 r (List.mem_of_getElem? hr)).2
    have hli := hlen i
    rw [List.length_take] at hli
    clear F1 N1 N F
    k_steps
    rename Fr _ _ _ _ => F3
    rename News _ _ _ _ => N3
    refine' ⟨_, _, _, nx, rfl, F3, News.tl N3, hn, (_, _), Holds.cons rfl (Holds.nil ?h), ?e, rfl⟩
    case h =>
      intro z hz
      dsimp only [ksB]
      by_cases hf : z = Str.ofString "found"
      · simp only [if_pos hf]; rfl
      · simp only [if_neg hf, if_neg hz]
    case e =>
      dsimp only
      rw [take_snoc hr, lastsOf_snoc]
      rfl
  case done =>
    rintro ⟨f, tf⟩ u nx h tk ⟨hf, hnx⟩ F2 N2
    dsimp only at hf
    subst hf hnx
    k_steps
    rw [List.take_of_length_le (by rw [strs_len hv]; exact Nat.le_refl _)]
    exact hret _ _ _ _ (by k_asm) (by walk_at "mine news") ⟨⟨_, rfl⟩, rfl⟩
  
end
section
local macro_rules | `(tactic| walk_at "exec While BoolOp cons nil") => `(tactic| (k_here; refine Hold.by ?_))
local macro_rules | `(tactic| walk_at "exec While BoolOp") => `(tactic| (k_here; refine Hold.by ?_))
local macro_rules | `(tactic| walk_at "exec While") => `(tactic| (k_here; refine Hold.by ?_))
local macro_rules | `(tactic| walk_at "call builtin:len") => `(tactic| (k_here; (with_reducible show wpAny _ _ (call (Value.builtin "len") [Value.ref _]) _ _ _); k_dflt (refine' len_led ?k1 ?k2 ?k3 ?_; (case k1 => k_asm); (case k2 => walk_at "mine mem"); (case k3 => omega); k_whole)))
local macro_rules | `(tactic| walk_at "call ref") => `(tactic| (k_here; k_dflt (refine' tel_use (order_of_texts_tel) ?k1 ?k2 ?k3 ?k4 ?k5 ?kK ?kd ?ku ?_; walk_at "mine pre"; walk_at "mine telx")))
local macro_rules | `(tactic| walk_at "subscriptTail") => `(tactic| (k_here; (with_reducible show wpAny _ _ (subscriptTail _ _ (Value.ref _) (Value.int _ _)) _ _ _); k_dflt (refine' item_str ?k1 ?k2 ?k3 ?k4 ?k5 ?k6 ?_ ?k7; (case k1 => k_asm); (case k2 => walk_at "mine mem"); (case k3 => assumption); (case k4 => omega); (case k5 => omega); (case k6 => omega); (case k7 => with_unfolding_all rfl); k_whole); intro r9 t9 hr9))
local macro_rules | `(tactic| walk_at "subscriptTail Name Slice ref ref") => `(tactic| (k_here; k_dflt (first
  | ((with_reducible show wpAny _ _ (subscriptTail _ (Expr.Slice none (some _) none _) _ _) _ _ _); (refine' slice_to (s := ⟨_, _, _, _, _⟩) ?k1 ?k2 ?k3 ?k4 ?k5 ?k6 ?_ ?k7 ?k8); (case k1 => k_asm); (case k2 => k_asm); (case k3 => walk_at "mine mem"); (case k4 => omega); (case k5 => omega); (case k6 => omega); (case k7 => with_unfolding_all rfl); (case k8 => (intro _; with_unfolding_all rfl)); k_whole)
  | ((with_reducible show wpAny _ _ (subscriptTail _ (Expr.Slice (some _) none none _) _ _) _ _ _); (refine' slice_from (s := ⟨_, _, _, _, _⟩) ?k1 ?k2 ?k3 ?k4 ?k5 ?k6 ?_ ?k7 ?k8); (case k1 => k_asm); (case k2 => k_asm); (case k3 => walk_at "mine mem"); (case k4 => omega); (case k5 => omega); (case k6 => omega); (case k7 => with_unfolding_all rfl); (case k8 => (intro _; with_unfolding_all rfl)); k_whole)); intro l9 h9 F9 N9 l1; (try k_lt l1); (try k_sweep)))
local macro_rules | `(tactic| walk_at "binaryOp Add ref ref") => `(tactic| (k_here; k_dflt (refine' add_led ?k1 ?k2 ?k3 ?k4 ?k5 ?_; (case k1 => k_asm); (case k2 => k_asm); (case k3 => walk_at "mine mem"); (case k4 => walk_at "mine mem"); (case k5 => (simp only [List.length_append, List.length_take, List.length_drop, List.length_cons, List.length_nil]; omega)); k_whole); intro l9 h9 F9 N9 l1; (try k_lt l1); (try k_sweep)))
theorem law_in_order_tel {w mean mg mb} {ts : List (List Nat)} {lt : Addr} {vs : List Value} {nn : Nat} (hv : StrsAre vs (ts.map S)) (hl : ts.length ≤ 255) {news : Led} (hm : (lt, W.listOf vs.toArray nn) ∈ news) :
    Tel w mean mg mb 162 [.ref lt] 4 32 news (fun v n => ∃ rs, OutList news rs v n ∧ InOrder ts rs) := by
  unfold Tel
  k_fill
  intro dp un gd cn cs a ccd cl outer A₀ base h₀ L m s Q E B F X N T hk hdp hun hret
  refine wpAny_call ?_
  k_dflt cell_enter
  k_steps
  rename Fr _ _ _ _ => F1
  rename News _ _ _ _ => N1
  rename ∀ p ∈ news, p.1 < _ => hlt1
  refine Hold.mk ?_
  refine' for_ledS (σ := Addr × List Value × Nat × Option Value × List (List Nat)) (fun c => [(Str.ofString "found", some (.ref c.1)), (Str.ofString "at", c.2.2.2.1)])
    (fun i c nx => nx = (c.1, W.listOf c.2.1.toArray c.2.2.1) :: news ∧ StrsAre c.2.1 (c.2.2.2.2.map S) ∧ InOrder (ts.take i) c.2.2.2.2 ∧ ∀ p ∈ news, p.1 < c.1) (_, [], 0, _, []) rfl (List.mem_cons_of_mem _ hm) F1 N1 ?hk ⟨rfl, .nil, InOrder.nil, hlt1⟩ ?turn ?done
  case hk =>
    intro p hp
    rcases List.mem_cons.mp hp with rfl | hp
    · exact rfl
    · cases List.mem_singleton.mp hp
      exact rfl
  case turn =>
    rintro i v ⟨lf, us, k, atv, rs⟩ nx I o h tk hvi ⟨hnx, hus, hio, hlf⟩ hn hI F2 N2
    dsimp only at hnx hus hio hlf F2 N2
    subst hnx
    obtain ⟨r, tr, rfl, hr⟩ := strs_at hv hvi
    have hi : i < ts.length := (List.getElem?_eq_some_iff.mp hr).1
    have hrl : rs.length = i := by
      have := hio.1.length_eq
      rw [List.length_take] at this
      omega
    have hul := strs_len hus
    clear F1 N1 N F
    k_steps
    refine Hold.mk ?_
    rename Fr _ _ _ _ => F3
    rename News _ _ _ _ => N3
    refine while_one (Str.ofString "at") (fun a => 0 ≤ a ∧ a ≤ rs.length ∧ ∀ (j : Nat) (x : List Nat), a ≤ j → rs[j]? = some x → r < x) F3 N3 rfl ⟨by omega, by omega, fun j x hj hx => ?_⟩ ?_
    · have := (List.getElem?_eq_some_iff.mp hx).1
      omega
    · rintro a ta h2 tk2 ⟨ha0, ha1, ha2⟩ F4 N4
      clear F3 N3 F2 N2
      k_steps
      · rename Fr _ _ _ _ => F5
        rename News _ _ _ _ => N5
        rename rs[_]? = some _ => hr9
        rename b2i _ - b2i _ < 0 => ho
        refine' ⟨_, _, _, a - 1, _, rfl, F5, N5, rfl, ?same, by omega, by omega, by omega, ?all⟩
        case same =>
          intro z hz
          simp only [if_neg hz]
        case all =>
          intro j x hj hx
          by_cases e : a ≤ j
          · exact ha2 j x e hx
          · have e' : (a - 1).toNat = j := by omega
            rw [e', hx] at hr9
            rw [Option.some.inj hr9]
            exact order_neg.mp ho
      · rename rs[_]? = some _ => hr9
        rename ¬ (b2i _ - b2i _ < 0) => ho
        rename Fr _ _ _ _ => F5
        rename News _ _ _ _ => N5
        have hio' := hio.ins r (a := a.toNat) (by omega) (fun j x hj hx => ha2 j x (by omega) hx) (.inr ⟨_, by rw [show a.toNat - 1 = (a - 1).toNat by omega]; exact hr9, mt order_neg.mpr ho⟩)
        rw [← take_snoc hr] at hio'
        refine' ⟨_, _, _, _, rfl, F5, ?N, ?ne, (_, us.take a.toNat ++ [.str (S r) tr] ++ us.drop a.toNat, 0, _, rs.take a.toNat ++ [r] ++ rs.drop a.toNat), ⟨Holds.cons rfl (Holds.cons rfl (Holds.nil ?h)), rfl, ?st, hio', ?lt⟩⟩
        case N =>
          intro p hp
          refine N5 p ?_
          simp only [List.mem_cons] at hp ⊢
          rcases hp with h | h | h | h <;> simp only [h, true_or, or_true]
        case ne =>
          intro p hp
          rcases List.mem_cons.mp hp with rfl | hp
          · refine neN ?_; dsimp only; omega
          · exact hn p (List.mem_cons_of_mem _ hp)
        case h =>
          intro z hz
          dsimp only [ksB]
          by_cases hf : z = Str.ofString "found"
          · rw [hf]; rfl
          · by_cases ha : z = Str.ofString "at"
            · rw [ha]; rfl
            · simp only [if_neg hf, if_neg ha, if_neg hz]
        case st =>
          have := StrsAre.append' (StrsAre.append' (hus.take' a.toNat) (.cons (S r) tr .nil)) (hus.drop' a.toNat)
          simpa using this
        case lt =>
          intro p hp
          have := ltN (hlf p hp)
          refine ltN ?_
          dsimp only
          omega
      · rename Fr _ _ _ _ => F5
        rename News _ _ _ _ => N5
        have hio' := hio.ins r (a := a.toNat) (by omega) (fun j x hj hx => ha2 j x (by omega) hx) (.inl (by omega))
        rw [← take_snoc hr] at hio'
        refine' ⟨_, _, _, _, rfl, F5, ?N, ?ne, (_, us.take a.toNat ++ [.str (S r) tr] ++ us.drop a.toNat, 0, _, rs.take a.toNat ++ [r] ++ rs.drop a.toNat), ⟨Holds.cons rfl (Holds.cons rfl (Holds.nil ?h)), rfl, ?st, hio', ?lt⟩⟩
        case N =>
          intro p hp
          refine N5 p ?_
          simp only [List.mem_cons] at hp ⊢
          rcases hp with h | h | h | h <;> simp only [h, true_or, or_true]
        case ne =>
          intro p hp
          rcases List.mem_cons.mp hp with rfl | hp
          · refine neN ?_; dsimp only; omega
          · exact hn p (List.mem_cons_of_mem _ hp)
        case h =>
          intro z hz
          dsimp only [ksB]
          by_cases hf : z = Str.ofString "found"
          · rw [hf]; rfl
          · by_cases ha : z = Str.ofString "at"
            · rw [ha]; rfl
            · simp only [if_neg hf, if_neg ha, if_neg hz]
        case st =>
          have := StrsAre.append' (StrsAre.append' (hus.take' a.toNat) (.cons (S r) tr .nil)) (hus.drop' a.toNat)
          simpa using this
        case lt =>
          intro p hp
          have := ltN (hlf p hp)
          refine ltN ?_
          dsimp only
          omega
  case done =>
    rintro ⟨lf, us, k, atv, rs⟩ u nx h tk ⟨hnx, hus, hio, hlf⟩ F2 N2
    dsimp only at hnx hus hio hlf F2 N2
    subst hnx
    k_steps
    rw [List.take_of_length_le (by rw [strs_len hv]; exact Nat.le_refl _)] at hio
    exact hret _ _ _ _ (by k_asm) (by walk_at "mine news") ⟨rs, ⟨lf, us, k, rfl, rfl, hus, fun p hp => Nat.ne_of_lt (hlf p hp)⟩, hio⟩
  
end
section
section
variable {w : World} {mean : ExcName → Option Value} {mg mb : Str → Option Value} {f : Addr} {vs : List Value} {dn un' : Nat} {news : Led}
    {dp un : Nat} {gd : Option (List Code)} {cn : Str} {cs : Scope} {a : Addr} {ccd : Value} {cl : List (Str × Addr)} {outer : List Env} {A₀ : Around} {base h₀ : Heap} {L : Addr} {m : Str → Option Value} {s : Shared} {Q E : Value → Shared → Prop}
theorem use_txt {y z : List Nat} (C : Tel w mean mg mb f vs dn un' news (fun v nn => (∃ t, v = .str (S y) t) ∧ nn = news)) (e : y = z)
    (B : Below A₀ base outer h₀) (F : Fr h₀ L s.heap m) (X : (hd.heap_39 w.params).In h₀) (N : News h₀ L s.heap news) (T : Top hd.view_39 (looseW hd.view_39 [Str.ofString "BasicError"]) mean mg mb h₀) (hk : cs.kind = .function)
    (hd' : dp + dn < recursionLimit) (hu : un + un' < cLine) (ret : ∀ t h' tk', Fr h₀ L h' m → News h₀ L h' news → Q (.str (S z) t) { s with heap := h', toks := tk' }) :
    wpAny (model PySem.Challenge.rw_xm0014_01.row.prog w) (ktrTop dp un gd cn cs L a ccd cl outer) (call (.ref f) vs) Q E s :=
  tel_use C B F X N T hk hd' hu (by rintro v h' tk' n' F' N' ⟨⟨t, rfl⟩, rfl⟩; subst e; exact ret t h' tk' F' N')
theorem use_int {y z : Int} (C : Tel w mean mg mb f vs dn un' news (fun v nn => (∃ t, v = .int y t) ∧ nn = news)) (e : y = z)
    (B : Below A₀ base outer h₀) (F : Fr h₀ L s.heap m) (X : (hd.heap_39 w.params).In h₀) (N : News h₀ L s.heap news) (T : Top hd.view_39 (looseW hd.view_39 [Str.ofString "BasicError"]) mean mg mb h₀) (hk : cs.kind = .function)
    (hd' : dp + dn < recursionLimit) (hu : un + un' < cLine) (ret : ∀ t h' tk', Fr h₀ L h' m → News h₀ L h' news → Q (.int z t) { s with heap := h', toks := tk' }) :
    wpAny (model PySem.Challenge.rw_xm0014_01.row.prog w) (ktrTop dp un gd cn cs L a ccd cl outer) (call (.ref f) vs) Q E s :=
  tel_use C B F X N T hk hd' hu (by rintro v h' tk' n' F' N' ⟨⟨t, rfl⟩, rfl⟩; subst e; exact ret t h' tk' F' N')
theorem use_world (C : Tel w mean mg mb f vs dn un' news (fun v nn => (∃ b, v = .ref b) ∧ nn = news))
    (B : Below A₀ base outer h₀) (F : Fr h₀ L s.heap m) (X : (hd.heap_39 w.params).In h₀) (N : News h₀ L s.heap news) (T : Top hd.view_39 (looseW hd.view_39 [Str.ofString "BasicError"]) mean mg mb h₀) (hk : cs.kind = .function)
    (hd' : dp + dn < recursionLimit) (hu : un + un' < cLine) (ret : ∀ b h' tk', Fr h₀ L h' m → News h₀ L h' news → Q (.ref b) { s with heap := h', toks := tk' }) :
    wpAny (model PySem.Challenge.rw_xm0014_01.row.prog w) (ktrTop dp un gd cn cs L a ccd cl outer) (call (.ref f) vs) Q E s :=
  tel_use C B F X N T hk hd' hu (by rintro v h' tk' n' F' N' ⟨⟨b, rfl⟩, rfl⟩; exact ret b h' tk' F' N')
theorem use_list {rs : List (List Nat)} (C : Tel w mean mg mb f vs dn un' news (fun v nn => OutList news rs v nn))
    (B : Below A₀ base outer h₀) (F : Fr h₀ L s.heap m) (X : (hd.heap_39 w.params).In h₀) (N : News h₀ L s.heap news) (T : Top hd.view_39 (looseW hd.view_39 [Str.ofString "BasicError"]) mean mg mb h₀) (hk : cs.kind = .function)
    (hd' : dp + dn < recursionLimit) (hu : un + un' < cLine) (ret : ∀ lr us k h' tk', StrsAre us (rs.map S) → (∀ p ∈ news, p.1 ≠ lr) → Fr h₀ L h' m → News h₀ L h' ((lr, W.listOf us.toArray k) :: news) → Q (.ref lr) { s with heap := h', toks := tk' }) :
    wpAny (model PySem.Challenge.rw_xm0014_01.row.prog w) (ktrTop dp un gd cn cs L a ccd cl outer) (call (.ref f) vs) Q E s :=
  tel_use C B F X N T hk hd' hu (by rintro v h' tk' n' F' N' ⟨lr, us, k, rfl, rfl, h1, h2⟩; exact ret lr us k h' tk' h1 h2 F' N')
theorem use_order {ts : List (List Nat)} (C : Tel w mean mg mb f vs dn un' news (fun v nn => ∃ rs, OutList news rs v nn ∧ InOrder ts rs))
    (B : Below A₀ base outer h₀) (F : Fr h₀ L s.heap m) (X : (hd.heap_39 w.params).In h₀) (N : News h₀ L s.heap news) (T : Top hd.view_39 (looseW hd.view_39 [Str.ofString "BasicError"]) mean mg mb h₀) (hk : cs.kind = .function)
    (hd' : dp + dn < recursionLimit) (hu : un + un' < cLine) (ret : ∀ rs lr us k h' tk', StrsAre us (rs.map S) → InOrder ts rs → Fr h₀ L h' m → News h₀ L h' ((lr, W.listOf us.toArray k) :: news) → Q (.ref lr) { s with heap := h', toks := tk' }) :
    wpAny (model PySem.Challenge.rw_xm0014_01.row.prog w) (ktrTop dp un gd cn cs L a ccd cl outer) (call (.ref f) vs) Q E s :=
  tel_use C B F X N T hk hd' hu (by rintro v h' tk' n' F' N' ⟨rs, ⟨lr, us, k, rfl, rfl, h1, h2⟩, h3⟩; exact ret rs lr us k h' tk' h1 h3 F' N')
theorem use_chosen {below : Int} {G : Tok → Led} (C : Tel w mean mg mb f vs dn un' news (fun v nn => ∃ (r : Nat) (t t' : Tok), v = .int r t ∧ (r : Int) < below ∧ nn = G t'))
    (B : Below A₀ base outer h₀) (F : Fr h₀ L s.heap m) (X : (hd.heap_39 w.params).In h₀) (N : News h₀ L s.heap news) (T : Top hd.view_39 (looseW hd.view_39 [Str.ofString "BasicError"]) mean mg mb h₀) (hk : cs.kind = .function)
    (hd' : dp + dn < recursionLimit) (hu : un + un' < cLine) (ret : ∀ (r : Nat) t t' h' tk', (r : Int) < below → Fr h₀ L h' m → News h₀ L h' (G t') → Q (.int r t) { s with heap := h', toks := tk' }) :
    wpAny (model PySem.Challenge.rw_xm0014_01.row.prog w) (ktrTop dp un gd cn cs L a ccd cl outer) (call (.ref f) vs) Q E s :=
  tel_use C B F X N T hk hd' hu (by rintro v h' tk' n' F' N' ⟨r, t, t', rfl, h1, rfl⟩; exact ret r t t' h' tk' h1 F' N')
end
section
variable {prog : Program} {w : World} {A : Around} {E : Value → Shared → Prop} {s : Shared} {h₀ : Heap} {L : Addr} {news : Led}
theorem item_row {value slice : PySem.Expr} {l : Addr} {vs : List Value} {rs : List (List Nat)} {r : List Nat} {nn : Nat} {k : Int} {u : Tok} {Q : Value → Shared → Prop} (N : News h₀ L s.heap news) (hm : (l, W.listOf vs.toArray nn) ∈ news) (hv : StrsAre vs (rs.map S)) (h0 : 0 ≤ k) (hr : rs[k.toNat]? = some r) (hhi : k < 2 ^ 63)
    (h : ∀ t, Q (.str (S r) t) s)
    (hs : subscripted slice false (.ref l) (.int k u) = operate [.ref l, .int k u] (getItem (.ref l) (.int k u)) := by with_unfolding_all rfl) :
    wpAny (model prog w) A (subscriptTail value slice (.ref l) (.int k u)) Q E s :=
  item_str N hm hv h0 (by have := (List.getElem?_eq_some_iff.mp hr).1; omega) hhi (fun r' t e => by rw [hr] at e; exact Option.some.inj e ▸ h t) hs
theorem row_at {rs : List (List Nat)} {r : List Nat} (h : r ∈ rs) : rs[((rs.idxOf r : Nat) : Int).toNat]? = some r := by
  rw [Int.toNat_natCast]; exact at_idx h
theorem turns_get {x : List Nat} {k : Nat} (h : k < x.length) : (turns x)[((k : Nat) : Int).toNat]? = some (rot x k) := by
  rw [Int.toNat_natCast]; simp [turns, h]
theorem join_to {l : Addr} {vs : List Value} {cs : List (List Nat)} {z : List Nat} {nn : Nat} {t : Tok} {Q : Value → Shared → Prop} (N : News h₀ L s.heap news) (hm : (l, W.listOf vs.toArray nn) ∈ news) (hv : StrsAre vs (cs.map S)) (e : cs.flatten = z) (hz : z.length ≤ 1000)
    (h : ∀ t' k, Q (.str (S z) t') { s with toks := k }) : wpAny (model prog w) A (call (.builtin "str.join") [.str (Str.ofString "") t, .ref l]) Q E s := by
  subst e
  exact join_led N hm hv hz h
theorem same_strs2 {a b : Addr} {vs us : List Value} {ss ts : List Str} {na nb : Nat} {Q : Value → Shared → Prop} (N : News h₀ L s.heap news) (ha : (a, W.listOf vs.toArray na) ∈ news) (hb : (b, W.listOf us.toArray nb) ∈ news) (hi : StrsAre vs ss) (hi' : StrsAre us ts) (hu : A.units + 64 < cLine) (ho : ∀ y ∈ ss, PyData.strOk y = true) (e : ss = ts)
    (h : Q (.bool false) s) : wpAny (model prog w) A (compareOp .NotEq (.ref a) (.ref b)) Q E s :=
  ne_strs N ha hb hi hi' hu ho (e ▸ ho) (by rw [decide_eq_true e]; exact h)
theorem flat_one : ∀ cs : List Nat, (cs.map fun c => [c]).flatten = cs
  | [] => rfl
  | c :: r => by rw [List.map_cons, List.flatten_cons, flat_one r]; rfl
end
local macro_rules | `(tactic| walk_at "mine post") => `(tactic| ((case kd => ktr_room); (case ku => ktr_units); k_whole))
local macro_rules | `(tactic| walk_at "CompSrc") => `(tactic| (k_here; refine Hold.by ?_))
local macro_rules | `(tactic| walk_at "mine ne") => `(tactic| first | exact List.forall_mem_nil _ | (refine List.forall_mem_cons.mpr ⟨?_, ?_⟩; (focus (refine neN ?_; (try dsimp only); omega)); walk_at "mine ne"))
local macro_rules | `(tactic| walk_at "CompEnd") => `(tactic| refine Hold.by ?_)
local macro_rules | `(tactic| walk_at "call builtin:str.join") => `(tactic| refine Hold.by ?_)
local macro_rules | `(tactic| walk_at "call ref") => `(tactic| ((with_reducible show wpAny _ _ (call (Value.ref _) _) _ _ _); refine Hold.by ?_))
local macro_rules | `(tactic| walk_at "subscriptTail") => `(tactic| (k_here; (with_reducible show wpAny _ _ (subscriptTail _ _ (Value.str _ _) (Value.int _ _)) _ _ _); k_dflt (refine item_abn (by omega) ?_); intro c9 hc9))
local macro_rules | `(tactic| walk_at "compareOp NotIn str ref") => `(tactic| refine Hold.by ?_)
local macro_rules | `(tactic| walk_at "call builtin:sorted") => `(tactic| refine Hold.by ?_)
local macro_rules | `(tactic| walk_at "compareOp NotEq ref ref") => `(tactic| refine Hold.by ?_)
local macro_rules | `(tactic| walk_at "eval ListComp") => `(tactic| (k_here; (with_reducible show wpAny _ _ (eval (Expr.ListComp _ [⟨_, Expr.Name (Str.ofString "lasts") _, _, _⟩] _ _) _) _ _ _); k_dflt (refine ListComp_strU (F₀ := by k_asm) (by with_unfolding_all rfl) (by decide) (by rfl) (by decide) (by rfl) ?_)))
local macro_rules | `(tactic| walk_at "StrSrcU") => `(tactic| (refine Hold.by ?_))
local macro_rules | `(tactic| walk_at "call builtin:list.index") => `(tactic| refine Hold.by ?_)
local macro_rules | `(tactic| walk_at "subscriptTail") => `(tactic| ((with_reducible show wpAny _ _ (subscriptTail _ _ (Value.ref _) (Value.int _ _)) _ _ _); refine Hold.by ?_))
theorem law_main : PySem.Challenge.rw_xm0014_01.Holds := hd (by
  k_go0
  k_steps
  refine Hold.mk ?_
  refine' use_world world_tel ?k1 ?k2 ?k3 ?k4 ?k5 ?kK ?kd ?ku ?_
  case k1 => k_asm
  case k2 => k_asm
  case k3 => k_asm
  case k4 => k_asm
  case k5 => k_asm
  case kK => exact rfl
  case kd => ktr_room
  case ku => ktr_units
  intro wa h9 tk9 F9 N9
  k_steps
  rename Fr _ _ _ _ => F1
  rename News _ _ _ _ => N1
  rename IntsAre _ (List.take 9 _) => hI9
  rename (List.take 9 _).length = _ => hl9
  obtain ⟨d, b, l9, c2, c1, oc2, oc1, e1, e2, e3, e4, e5, e6, e7⟩ := open5 N1
  subst e1 e2 e3 e6 e7
  obtain ⟨vs9, ns9, e8, e9⟩ := openI hI9
  subst e8
  rw [← e9] at hl9 hI9
  have hn9 : ns9.length ≤ 100 := by rw [hl9]; exact Nat.le_trans (Nat.min_le_left ..) (by decide)
  clear hl9
  rename @LT.lt Nat _ l9 b ∧ _ => hlb
  refine Hold.mk ?_
  refine' use_chosen (Tel.weaken (law_chosen_tel (keep := [_, _]) hI9 ?hbl ?hk (Int.le_refl _) (by decide) hn9 (by decide) (by decide)) (mem4 i1 i2 i3 i4)) ?k1 F1 ?k3 N1 ?k5 ?kK ?kd ?ku ?_
  case hbl => exact Nat.ne_of_lt hlb.1
  case hk => exact List.forall_mem_cons.mpr ⟨Nat.ne_of_lt hlb.2.1, List.forall_mem_cons.mpr ⟨Nat.ne_of_lt hlb.2.2, List.forall_mem_nil _⟩⟩
  case k1 => k_asm
  case k3 => k_asm
  case k5 => k_asm
  case kK => exact rfl
  case kd => ktr_room
  case ku => ktr_units
  intro r0 t1 t2 h2 tk2 hr0 F2 N2
  obtain ⟨KK, eKK⟩ := openTail N2
  obtain ⟨m2, F2'⟩ := openF F2
  clear F1 N1 F2
  k_steps
  rename Fr _ _ _ _ => F3
  rename News _ _ _ _ => N3
  rename IsRange _ _ _ _ _ _ _ _ => hr3
  refine Hold.mk ?_
  have hsz : ((4 + (r0 : Int)) - 0).toNat = 4 + r0 := by omega
  refine LCg.CompSrc.range rfl F3 N3 hr3 (small_one (by omega) (by omega) (by omega) (by omega)) (rangeSize_nat _ _) (by rw [sizeLine_eq]; omega) ?_
  intro g1
  rw [hsz, ← eKK]
  clear hsz
  refine comp_inv (fun i ys nx => (∃ t, nx = (b, W.listOf [.ref l9, .int (1 + (i : Int)) t].toArray 0) :: (l9, W.listOf vs9.toArray 0) :: KK) ∧ ∃ cs : List Nat, StrsAre ys ((cs.map fun c => [c]).map S) ∧ cs.length = i ∧ ∀ c ∈ cs, c < 128) ⟨⟨_, rfl⟩, [], .nil, rfl, by simp⟩ ?_ ?_
  · rintro i ys nx v I oI C oC D m₂ h tk E' hi ⟨⟨t, rfl⟩, cs, hys, hcl, hc128⟩ ⟨tv, rfl⟩ hC hx9 F4 N4 off ne
    subst eKK
    clear F3 N3
    k_steps
    refine Hold.mk ?_
    have hob : (@Ne Nat b I) ∧ (@Ne Nat b C) ∧ (@Ne Nat b D) := off.1
    refine' use_chosen (Tel.weaken (law_chosen_tel (keep := [_, _, _, _, _]) hI9 ?hbl ?hk (by omega) (by omega) hn9 (by decide) (by decide)) (mem7 i3 i4 i0 i1 i2 i5 i6)) ?k1 F4 ?k3 N4 ?k5 ?kK ?kd ?ku ?_
    case hbl => exact Nat.ne_of_lt hlb.1
    case hk => exact List.forall_mem_cons.mpr ⟨hob.1.symm, List.forall_mem_cons.mpr ⟨hob.2.1.symm, List.forall_mem_cons.mpr ⟨hob.2.2.symm, List.forall_mem_cons.mpr ⟨Nat.ne_of_lt hlb.2.1, List.forall_mem_cons.mpr ⟨Nat.ne_of_lt hlb.2.2, List.forall_mem_nil _⟩⟩⟩⟩⟩
    case k1 => k_asm
    case k3 => k_asm
    case k5 => k_asm
    case kK => exact rfl
    case kd => ktr_room
    case ku => ktr_units
    intro r5 t5 t6 h5 tk5 hr5 F5 N5
    clear F4 N4
    k_steps
    refine Hold.mk ?_
    rename Nat => c5
    rename c5 < 128 => hc5
    have e5 : 1 + (i : Int) + 1 = 1 + ((i + 1 : Nat) : Int) := by omega
    rw [e5] at N5
    refine LCg.CompEnd.intro F5 N5 _ (mem7 i2 i3 i4 i0 i1 i5 i6) ?_ trivial ⟨⟨t6, rfl⟩, cs ++ [c5], ?_, ?_, ?_⟩
    · exact off
    · rw [List.map_append, List.map_append]
      exact strs_snoc hys
    · rw [List.length_append, hcl]; rfl
    · intro c hc
      rcases List.mem_append.mp hc with hc | hc
      · exact hc128 c hc
      · rw [List.mem_singleton.mp hc]; exact hc5
  · rintro ys nx ⟨⟨t, rfl⟩, cs, hys, hcl, hc128⟩
    subst eKK
    clear F3 N3
    k_steps
    rename News _ _ _ _ => N3
    refine Hold.mk ?_
    refine join_to N3 i0 hys (flat_one cs) (by omega) fun t7 k7 => ?_
    have N4 := News.tl N3
    clear N3 hys
    k_steps
    refine Hold.mk ?_
    refine' use_list (law_turns_tel (x := cs) (by omega) (by omega)) ?k1 ?k2 ?k3 ?k4 ?k5 ?kK ?kd ?ku ?_
    case k1 => k_asm
    case k2 => k_asm
    case k3 => k_asm
    case k4 => k_asm
    case k5 => k_asm
    case kK => exact rfl
    case kd => ktr_room
    case ku => ktr_units
    intro lT usT kT hT tkT hsT hneT FT NT
    k_steps
    have hc100 : cs.length ≤ 100 := by omega
    refine Hold.mk ?_
    refine' use_order (law_in_order_tel hsT (by rw [turns_len]; omega) i0) ?k1 ?k2 ?k3 ?k4 ?k5 ?kK ?kd ?ku ?_
    case k1 => k_asm
    case k2 => k_asm
    case k3 => k_asm
    case k4 => k_asm
    case k5 => k_asm
    case kK => exact rfl
    case kd => ktr_room
    case ku => ktr_units
    intro rs lR usR kR hR tkR hsR hio FR NR
    k_steps
    have hn1 : 1 ≤ cs.length := by omega
    have hself := in_self hio hn1
    have hrl := in_len hio
    have hrow := in_row hio
    have hpl : rs.idxOf cs < rs.length := List.idxOf_lt_length_iff.mpr hself
    have hll : (lastsOf rs).length = rs.length := lastsOf_len fun r hr => by rw [hrow r hr]; exact hn1
    rename News _ _ _ _ => N3
    refine Hold.mk ?_
    refine notin_led N3 i0 hsR hself ?_
    k_steps
    refine Hold.mk ?_
    refine' use_txt (law_lasts_tel hsR (fun r hr => by rw [hrow r hr]; omega) (by omega) i0) rfl ?k1 ?k2 ?k3 ?k4 ?k5 ?kK ?kd ?ku ?_
    case k1 => k_asm
    case k2 => k_asm
    case k3 => k_asm
    case k4 => k_asm
    case k5 => k_asm
    case kK => exact rfl
    case kd => ktr_room
    case ku => ktr_units
    intro tL hL tkL FL NL
    k_steps
    rename News _ _ _ _ => N3
    refine Hold.mk ?_
    refine index_led N3 i0 hsR hself (by omega) ?_
    k_steps
    rename News _ _ _ _ => N3
    rename Fr _ _ _ _ => F3
    rename IsRange _ _ _ _ _ _ _ _ => hr3
    refine Hold.mk ?_
    have hni : PySem.Builtin.Range.rangeSize 0 (4 + (r0 : Int)) 1 = ((cs.length : Nat) : Int) := by rw [rangeSize_nat]; omega
    have hk0 := List.idxOf_lt_length_iff.mpr hself
    refine' for_rangeN (σ := Tok × Tok × Nat)
      (fun c => [(Str.ofString "here", some (.int (rs.idxOf (rr cs c.2.2) : Nat) c.1)), (Str.ofString "back", some (.str (S (cs.drop (cs.length - c.2.2))) c.2.1)),
        (Str.ofString "text", some (.str (S cs) t7)), (Str.ofString "place", some (.int (rs.idxOf cs : Nat) tkL)), (Str.ofString "rows", some (.ref lR)), (Str.ofString "turns", some (.ref lT)),
        (Str.ofString "size", some (.int (4 + (r0 : Int)) tk2)), (Str.ofString "lasts", some (.str (S (lastsOf rs)) tL))])
      (fun i c nx => nx = [(lR, W.listOf usR.toArray kR), (lT, W.listOf usT.toArray kT), (b, _), (l9, _), (_, oc2), (_, oc1)] ∧ c.2.2 = i) (_, _, 0) rfl hr3 (small_one (by omega) (by omega) (by omega) (by omega)) hni F3 (fun p hp => N3 p (mem6 i2 i3 i4 i5 i6 i7 p hp)) ?hk ⟨rfl, rfl⟩ ?turn ?done
    case hk =>
      intro p hp
      dsimp only at hp
      rw [rr_zero, Nat.sub_zero, List.drop_length] at hp
      rcases List.mem_cons.mp hp with rfl | hp
      · exact rfl
      rcases List.mem_cons.mp hp with rfl | hp
      · exact rfl
      rcases List.mem_cons.mp hp with rfl | hp
      · exact rfl
      rcases List.mem_cons.mp hp with rfl | hp
      · exact rfl
      rcases List.mem_cons.mp hp with rfl | hp
      · exact rfl
      rcases List.mem_cons.mp hp with rfl | hp
      · exact rfl
      rcases List.mem_cons.mp hp with rfl | hp
      · exact rfl
      cases List.mem_singleton.mp hp
      exact rfl
    case turn =>
      rintro i ⟨t4, t5, j⟩ nx I o h tk u m₁ hi ⟨rfl, hj⟩ hn F4 N4
      dsimp only at hj F4 N4
      subst hj
      have hrm := rr_mem hio hn1 (Nat.le_of_lt hi)
      have hrl2 := List.idxOf_lt_length_iff.mpr hrm
      have hrm2 := rr_mem (i := j + 1) hio hn1 hi
      have hrl3 := List.idxOf_lt_length_iff.mpr hrm2
      have hjl := rr_len cs j
      have hj100 : (rr cs j).length ≤ 100 := by rw [hjl]; exact hc100
      clear hni
      clear F3 N3
      k_steps
      refine Hold.mk ?_
      refine' use_txt (z := (rr cs j).drop ((rr cs j).length - 1)) (text_mid_tel (x := lastsOf rs) ?ka ?kb ?kc ?kg ?kf ?kp) ?ke ?k1 ?k2 ?k3 ?k4 ?k5 ?kK ?kd ?ku ?_
      case k1 => k_asm
      case k2 => k_asm
      case k3 => k_asm
      case k4 => k_asm
      case k5 => k_asm
      case kK => exact rfl
      case kd => ktr_room
      case ku => ktr_units
      case kp => exact i0
      case ka => omega
      case kb => omega
      case kc => omega
      case kg => omega
      case kf => omega
      case ke => rw [num4, show (1 : Int).toNat = 1 from rfl, lasts_at hio hrm]
      intro tm h1 tk1 F1 N1
      k_steps
      refine Hold.mk ?_
      refine' use_int (z := ((rs.idxOf (rr cs (j + 1)) : Nat) : Int)) (law_begun_by_tel (x := lastsOf rs) ?ka ?kb ?kc) ?ke ?k1 ?k2 ?k3 ?k4 ?k5 ?kK ?kd ?ku ?_
      case k1 => k_asm
      case k2 => k_asm
      case k3 => k_asm
      case k4 => k_asm
      case k5 => k_asm
      case kK => exact rfl
      case kd => ktr_room
      case ku => ktr_units
      case ka => omega
      case kb => omega
      case kc => omega
      case ke => rw [Int.toNat_natCast, step_begun hio hrm, ← rr_succ hi]
      intro tb h1 tk1 F1 N1
      k_steps
      rename News _ _ _ _ => N3
      refine Hold.mk ?_
      refine' item_row N3 i3 hsR (by omega) (row_at hrm2) (by omega) (fun tr1 => ?_)
      k_steps
      refine Hold.mk ?_
      refine' item_row N3 i3 hsR (by omega) (row_at hrm) (by omega) (fun tr2 => ?_)
      k_steps
      refine Hold.mk ?_
      refine' use_txt (z := (rr cs j).take ((rr cs j).length - 1)) (text_left_tel (x := rr cs j) ?ka ?kb ?kc ?kp) ?ke ?k1 ?k2 ?k3 ?k4 ?k5 ?kK ?kd ?ku ?_
      case k1 => k_asm
      case k2 => k_asm
      case k3 => k_asm
      case k4 => k_asm
      case k5 => k_asm
      case kK => exact rfl
      case kd => ktr_room
      case ku => ktr_units
      case kp => exact i0
      case ka => omega
      case kb => omega
      case kc => omega
      case ke => rw [num1 hcl hjl]
      intro tl h1 tk1 F1 N1
      k_steps
      refine Hold.mk ?_
      refine' use_txt (z := rr cs (j + 1)) (text_joined_tel ?kp) ?ke ?k1 ?k2 ?k3 ?k4 ?k5 ?kK ?kd ?ku ?_
      case k1 => k_asm
      case k2 => k_asm
      case k3 => k_asm
      case k4 => k_asm
      case k5 => k_asm
      case kK => exact rfl
      case kd => ktr_room
      case ku => ktr_units
      case kp => exact num2 (by omega)
      case ke => exact (rr_succ hi).symm
      intro tj h1 tk1 F1 N1
      k_steps
      · rename (S _ != S _) = true => hbad
        simp at hbad
      refine Hold.mk ?_
      refine' use_txt (z := cs.drop (cs.length - (j + 1))) (text_joined_tel ?kp) ?ke ?k1 ?k2 ?k3 ?k4 ?k5 ?kK ?kd ?ku ?_
      case k1 => k_asm
      case k2 => k_asm
      case k3 => k_asm
      case k4 => k_asm
      case k5 => k_asm
      case kK => exact rfl
      case kd => ktr_room
      case ku => ktr_units
      case kp => exact num3 hj100 hc100
      case ke => exact rr_last hi
      intro tj h1 tk1 F1 N1
      k_steps
      rename News _ _ _ _ => N5
      rename Fr _ _ _ _ => F5
      exact ⟨_, _, _, _, rfl, F5, News.dr (l := [_, _, _, _]) N5, hn, (_, _, j + 1),
        List.forall_mem_cons.mpr ⟨rfl, List.forall_mem_cons.mpr ⟨rfl, List.forall_mem_cons.mpr ⟨rfl, List.forall_mem_cons.mpr ⟨rfl, List.forall_mem_cons.mpr ⟨rfl, List.forall_mem_cons.mpr ⟨rfl, List.forall_mem_cons.mpr ⟨rfl, List.forall_mem_cons.mpr ⟨rfl, List.forall_mem_nil _⟩⟩⟩⟩⟩⟩⟩⟩, rfl, rfl⟩
    case done =>
      rintro ⟨t4, t5, j⟩ m₁ nx h tk ⟨rfl, hj⟩ F4 N4
      dsimp only at hj F4 N4
      subst hj
      rw [rr_all, Nat.sub_self, List.drop_zero] at F4
      clear hni
      clear F3 N3
      k_steps
      rename Fr _ _ _ _ => F5
      rename News _ _ _ _ => N5
      refine Hold.mk ?_
      have hul := strs_len hsR
      refine LCg.CompSrc.ledger rfl F5 N5 i0 (by rw [sizeLine_eq, List.size_toArray]; omega) ?_
      intro g1
      refine comp_inv (fun i ys nx => nx = _ ∧ StrsAre ys (((rs.take i).map fun r => r.take 1).map S)) ⟨rfl, .nil⟩ ?_ ?_
      · rintro i ys nx v I oI C oC D m₂ h tk E' hi ⟨rfl, hys⟩ hv9 hC hx9 F6 N6 off ne
        rw [List.getElem?_toArray] at hv9
        obtain ⟨r, tr, rfl, hr⟩ := strs_at hsR hv9
        have hr1 := hrow r (List.mem_of_getElem? hr)
        clear F5 N5
        k_steps
        refine Hold.mk ?_
        refine' use_txt (z := r.take 1) (text_left_tel (x := r) ?ka ?kb ?kc ?kp) ?ke ?k1 ?k2 ?k3 ?k4 ?k5 ?kK ?kd ?ku ?_
        case k1 => k_asm
        case k2 => k_asm
        case k3 => k_asm
        case k4 => k_asm
        case k5 => k_asm
        case kK => exact rfl
        case kd => ktr_room
        case ku => ktr_units
        case kp => exact i0
        case ka => omega
        case kb => omega
        case kc => omega
        case ke => rfl
        intro tl h1 tk1 F1 N1
        k_steps
        refine Hold.mk ?_
        rename Fr _ _ _ _ => F7
        rename News _ _ _ _ => N7
        refine LCg.CompEnd.intro F7 (News.dr (l := [_]) N7) _ (fun p hp => hp) off (.inr ⟨_, i0, rfl, _, rfl⟩) ⟨rfl, ?_⟩
        rw [take_snoc hr, List.map_append, List.map_append]
        exact strs_snoc hys
      · rintro ys nx ⟨rfl, hys⟩
        rw [List.size_toArray, hul, List.take_length] at hys
        clear F5 N5
        k_steps
        rename Fr _ _ _ _ => F7
        rename News _ _ _ _ => N7
        refine Hold.mk ?_
        refine sorted_text rfl F7 N7 (by omega) ?_
        intro lS hS tkS usS ssS eS FS NS hneS hsS hpS hsrt
        have hss := heads_eq hio hpS hsrt
        k_steps
        refine Hold.mk ?_
        refine' same_strs2 NS i1 i0 hys hsS ?hu (heads_ok hio hc128) hss ?_
        case hu => ktr_units
        k_steps
        have hbT : @Ne Nat lT b := fun e => hneT (b, _) i0 e.symm
        refine Hold.mk ?_
        refine' use_chosen (Tel.weaken (law_chosen_tel (keep := [(lT, _), _, _]) hI9 ?hbl ?hk ?q0 ?q1 ?q2 ?q3 ?q4) (mem5 i4 i5 i3 i6 i7)) ?k1 ?k2 ?k3 ?k4 ?k5 ?kK ?kd ?ku ?_
        case k1 => k_asm
        case k2 => k_asm
        case k3 => k_asm
        case k4 => k_asm
        case k5 => k_asm
        case kK => exact rfl
        case kd => ktr_room
        case ku => ktr_units
        case hbl => exact Nat.ne_of_lt hlb.1
        case hk => exact List.forall_mem_cons.mpr ⟨hbT, List.forall_mem_cons.mpr ⟨Nat.ne_of_lt hlb.2.1, List.forall_mem_cons.mpr ⟨Nat.ne_of_lt hlb.2.2, List.forall_mem_nil _⟩⟩⟩
        case q0 => omega
        case q1 => omega
        case q2 => exact hn9
        case q3 => omega
        case q4 => omega
        intro r8 t8 t9 h8 tk8 hr8 F8 N8
        k_steps
        rename News _ _ _ _ => N9
        refine Hold.mk ?_
        have hq2 : r8 < cs.length := by omega
        refine' item_row N9 i2 hsT (by omega) (turns_get hq2) (by omega) (fun tr9 => ?_)
        have hrl9 := rot_len (Nat.le_of_lt hq2)
        rename Fr _ _ _ _ => F9
        have N10 := News.dr (l := [_, _, _]) N9
        obtain ⟨m3, F10⟩ := openFs [(Str.ofString "text", some (.str (S cs) t7)), (Str.ofString "lasts", some (.str (S (lastsOf rs)) tL))] F9 (List.forall_mem_cons.mpr ⟨by rfl, List.forall_mem_cons.mpr ⟨by rfl, List.forall_mem_nil _⟩⟩)
        clear N9 F9
        (try dsimp only)
        (try k_fold)
        k_steps
        refine Hold.mk ?_
        refine' use_list (law_turns_tel (x := rot cs r8) ?ka ?kb) ?k1 ?k2 ?k3 ?k4 ?k5 ?kK ?kd ?ku ?_
        case k1 => k_asm
        case k2 => k_asm
        case k3 => k_asm
        case k4 => k_asm
        case k5 => k_asm
        case kK => exact rfl
        case kd => ktr_room
        case ku => ktr_units
        case ka => omega
        case kb => omega
        intro lT2 usT2 kT2 hT tkT hsT2 hneT2 FT NT
        k_steps
        refine Hold.mk ?_
        refine' use_order (law_in_order_tel hsT2 (by rw [turns_len]; omega) i0) ?k1 ?k2 ?k3 ?k4 ?k5 ?kK ?kd ?ku ?_
        case k1 => k_asm
        case k2 => k_asm
        case k3 => k_asm
        case k4 => k_asm
        case k5 => k_asm
        case kK => exact rfl
        case kd => ktr_room
        case ku => ktr_units
        intro rs2 lR2 usR2 kR2 hR tkR hsR2 hio2 FR NR
        have hrow2 := in_row hio2
        have hrl2 := in_len hio2
        k_steps
        refine Hold.mk ?_
        refine' use_txt (z := lastsOf rs) (law_lasts_tel hsR2 (fun r hr => by rw [hrow2 r hr]; omega) (by omega) i0) ?ke ?k1 ?k2 ?k3 ?k4 ?k5 ?kK ?kd ?ku ?_
        case k1 => k_asm
        case k2 => k_asm
        case k3 => k_asm
        case k4 => k_asm
        case k5 => k_asm
        case kK => exact rfl
        case kd => ktr_room
        case ku => ktr_units
        case ke => exact lasts_rot hio hio2 hq2
        intro tL2 hL tkL2 FL NL
        k_steps
        have hdl : (cs ++ cs).length = cs.length + cs.length := List.length_append
        refine Hold.mk ?_
        refine' use_txt (text_joined_tel (x := cs) (y := cs) ?kp) rfl ?k1 ?k2 ?k3 ?k4 ?k5 ?kK ?kd ?ku ?_
        case k1 => k_asm
        case k2 => k_asm
        case k3 => k_asm
        case k4 => k_asm
        case k5 => k_asm
        case kK => exact rfl
        case kd => ktr_room
        case ku => ktr_units
        case kp => omega
        intro tj h1 tk1 F1 N1
        k_steps
        refine Hold.mk ?_
        refine' use_list (law_turns_tel (x := cs ++ cs) ?ka ?kb) ?k1 ?k2 ?k3 ?k4 ?k5 ?kK ?kd ?ku ?_
        case k1 => k_asm
        case k2 => k_asm
        case k3 => k_asm
        case k4 => k_asm
        case k5 => k_asm
        case kK => exact rfl
        case kd => ktr_room
        case ku => ktr_units
        case ka => omega
        case kb => omega
        intro lT3 usT3 kT3 hT3 tkT3 hsT3 hneT3 FT NT
        k_steps
        refine Hold.mk ?_
        refine' use_order (law_in_order_tel hsT3 (by rw [turns_len]; omega) i0) ?k1 ?k2 ?k3 ?k4 ?k5 ?kK ?kd ?ku ?_
        case k1 => k_asm
        case k2 => k_asm
        case k3 => k_asm
        case k4 => k_asm
        case k5 => k_asm
        case kK => exact rfl
        case kd => ktr_room
        case ku => ktr_units
        intro rs3 lR3 usR3 kR3 hR3 tkR3 hsR3 hio3 FR NR
        have hrow3 := in_row hio3
        have hrl3 := in_len hio3
        k_steps
        refine Hold.mk ?_
        refine' use_txt (z := ((lastsOf rs).map fun c => [c, c]).flatten) (law_lasts_tel hsR3 (fun r hr => by rw [hrow3 r hr]; omega) (by omega) i0) ?ke ?k1 ?k2 ?k3 ?k4 ?k5 ?kK ?kd ?ku ?_
        case k1 => k_asm
        case k2 => k_asm
        case k3 => k_asm
        case k4 => k_asm
        case k5 => k_asm
        case kK => exact rfl
        case kd => ktr_room
        case ku => ktr_units
        case ke => exact lasts_twice hio hio3
        intro tL3 hL3 tkL3 FL NL
        k_steps
        rename Fr _ _ _ _ => F9
        rename News _ _ _ _ => N9
        have hSl := S_len (lastsOf rs)
        refine Hold.mk ?_
        refine ⟨_, _, _, rfl, rfl, F9, N9, by rw [sizeLine_eq]; show (lastsOf rs).length ≤ _; omega, fun s₂ hs₂ => ?_⟩
        obtain ⟨g3, rfl⟩ := hs₂
        refine comp_inv (fun i zs nx => nx = _ ∧ StrsAre zs ((((lastsOf rs).take i).map fun c => [c, c]).map S)) ⟨rfl, .nil⟩ ?_ ?_
        · rintro i zs nx v I oI C oC D m₂ h tk E' hi ⟨rfl, hzs⟩ hP hC hx9 F6 N6 off ne
          obtain ⟨c, u, hc, rfl⟩ := hP
          k_steps
          refine Hold.mk ?_
          rename Fr _ _ _ _ => F7
          rename News _ _ _ _ => N7
          refine LCg.CompEnd.intro F7 N7 _ (fun p hp => hp) off trivial ⟨rfl, ?_⟩
          rw [take_snoc (S_get hc), List.map_append, List.map_append, two_S]
          exact strs_snoc hzs
        · rintro zs nx ⟨rfl, hzs⟩
          have e1 : (lastsOf rs).take (S (lastsOf rs)).cps.size = lastsOf rs := List.take_of_length_le (Nat.le_of_eq (by simp [S]))
          rw [e1] at hzs
          have hpl2 := pairs_len (lastsOf rs)
          k_steps
          rename News _ _ _ _ => N10
          refine Hold.mk ?_
          refine join_led N10 i0 hzs (by omega) fun t7 k7 => ?_
          k_steps)
end
end Mine
end
theorem PySem.Challenge.cw_xm0014_01_holds : PySem.Challenge.rw_xm0014_01.Holds := by
  exact Mine.law_main
