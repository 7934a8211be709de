import PyProof.Rows.All
import Wide.All
import OpenK.AllK
import Wide.FinOn
import PySem.Challenge.RW_pq0549_01
open PySem PySem.W PyProof.Rows
set_option Elab.async false
namespace Mine
set_option maxRecDepth 100000
set_option maxHeartbeats 8000000
section
-- Base0
open_top hd for PySem.Challenge.rw_pq0549_01
end
section
-- C0
theorem off_C0 : True := by w_top off; trivial
abbrev Led := List (Addr × Obj)
def Con (w : World) (dN uN : Nat) (f : Addr) (vs : List Value) (news : Led) (post : Value → Led → Prop) : Prop :=
  ∀ (p : Program) (loose : List Str) (mean : ExcName → Option Value) (mg mb : Str → Option Value) (dp un : Nat) (gd : Option (List Code)) (cn : Str) (cs : Scope) (a : Addr) (ccd : Value) (cl : List (Str × Addr)) (outer : List Env) (A₀ : Around) (base h₀ : Heap) (L : Addr) (m : Str → Option Value) (s : Shared)
    (Q E : Value → Shared → Prop),
    Below A₀ base outer h₀ → Fr h₀ L s.heap m → (hd.heap_39 w.params).In h₀ → News h₀ L s.heap news → Top p loose mean mg mb h₀ → cs.kind = .function → dp + dN < recursionLimit → un + uN < cLine →
    (∀ r news' h' tk', Fr h₀ L h' m → News h₀ L h' news' → post r news' → Q r { s with heap := h', toks := tk' }) →
    wpAny (model PySem.Challenge.rw_pq0549_01.row.prog w) (ktrTop dp un gd cn cs L a ccd cl outer) (call (.ref f) vs) Q E s

def IsL (nx : Led) (r : Addr) (ns : List Int) : Prop := ∃ vs n, (r, listOf vs.toArray n) ∈ nx ∧ IntsAre vs ns

def norm : List Int → List Int
  | [] => []
  | x :: r => if norm r = [] ∧ x = 0 then [] else x :: norm r

theorem norm_all0 : ∀ (ns : List Int), (∀ x ∈ ns, x = 0) → norm ns = []
  | [], _ => rfl
  | x :: r, h => by
    have h1 := norm_all0 r fun y hy => h y (.tail _ hy)
    have h2 := h x (.head _)
    simp [norm, h1, h2]
theorem norm_take : ∀ (ns : List Int) (k : Nat), k ≤ ns.length → (∀ j, k ≤ j → j < ns.length → ns.getD j 0 = 0) → (k = 0 ∨ ns.getD (k - 1) 0 ≠ 0) → norm ns = ns.take k
  | [], k, _, _, _ => by simp [norm]
  | x :: r, 0, _, h, _ => by
    rw [norm_all0]
    · simp
    · intro y hy
      obtain ⟨j, hj, rfl⟩ := List.mem_iff_getElem.mp hy
      have := h j (Nat.zero_le _) hj
      simpa [List.getD_eq_getElem?_getD, List.getElem?_eq_getElem hj] using this
  | x :: r, k + 1, hk, h, hn => by
    have hl : k ≤ r.length := by simpa using hk
    have ih := norm_take r k hl (fun j h1 h2 => by simpa using h (j + 1) (by omega) (by simpa using h2))
    have hn' : (x :: r).getD k 0 ≠ 0 := by
      rcases hn with hn | hn
      · omega
      · simpa using hn
    cases k with
    | zero =>
      have e := ih (.inl rfl)
      have hx : x ≠ 0 := by simpa using hn'
      simp [norm, hx, e]
    | succ k =>
      have e := ih (.inr (by simpa using hn'))
      have hne : r.take (k + 1) ≠ [] := by
        intro q
        have := congrArg List.length q
        simp at this
        rw [this] at hl
        simp at hl
      rw [norm, e]
      simp [hne]


structure Stop (P : Prop) : Prop where
  out : P

theorem lt_ne {d : Addr} {l : Led} (h : ∀ p ∈ l, p.1 < d) : ∀ p ∈ l, p.1 ≠ d := fun p hp => Nat.ne_of_lt (h p hp)
theorem allLt_lt {d : Addr} : ∀ {l : Led}, AllLt d l → ∀ p ∈ l, p.1 < d
  | [], _, _, hp => nomatch hp
  | q :: r, h, p, hp => by
    rcases List.mem_cons.mp hp with rfl | hp
    · exact h.1
    · exact allLt_lt h.2 p hp
theorem allLt_ne {d : Addr} {l : Led} (h : AllLt d l) : ∀ p ∈ l, p.1 ≠ d := lt_ne (allLt_lt h)

/-- the end of a loop's turn -/
def TE {σ : Type} (h₀ : Heap) (L : Addr) (io : Led) (I : Addr) (Ld : σ → Led) (ps : σ → List (Str × Value)) (P : σ → Prop) (s s₂ : Shared) : Prop :=
  ∃ c h' tk m', s₂ = { s with heap := h', toks := tk } ∧ Fr h₀ L h' m' ∧ News h₀ L h' (io ++ Ld c) ∧ (∀ p ∈ Ld c, p.1 ≠ I) ∧ (∀ p ∈ ps c, m' p.1 = some p.2) ∧ P c
def TP {σ : Type} (h₀ : Heap) (L : Addr) (io : Led) (I : Addr) (Ld : σ → Led) (ps : σ → List (Str × Value)) (P : σ → Prop) (s : Shared) (Q : Flow → Shared → Prop) (f : Flow) (s₂ : Shared) : Prop :=
  match f with
  | .ret v => Q (.ret v) s₂
  | .brk => Q .next s₂
  | _ => TE h₀ L io I Ld ps P s s₂

section
variable {prog : Program} {w : World} {A : Around} {E : Value → Shared → Prop} {s : Shared} {env : Env} {h₀ : Heap} {x : Str} {body : List Stmt} {Q : Flow → Shared → Prop} {σ : Type}

theorem kst_self {m : Str → Option Value} {ps : List (Str × Value)} (h : ∀ p ∈ ps, m p.1 = some p.2) : kstB m ps = m := by
  funext y
  exact kstB_eq h fun _ => rfl

theorem my_range {r : Addr} {a₀ b₀ st : Int} {t₀ u₀ v₀ : Tok} {n : Nat} {m₀ : Str → Option Value} (Ld : σ → Led) (ps : σ → List (Str × Value)) (P : Nat → σ → Prop) (c₀ : σ)
    (hh : A.handled = none) (hr : IsRange s.heap r a₀ b₀ st t₀ u₀ v₀) (hsmall : Builtin.Range.small a₀ b₀ st = true) (hn : Builtin.Range.rangeSize a₀ b₀ st = (n : Int))
    (F : Fr h₀ env.locals s.heap m₀) (N : News h₀ env.locals s.heap (Ld c₀)) (hps : ∀ p ∈ ps c₀, m₀ p.1 = some p.2) (hP : P 0 c₀)
    (turn : ∀ (i : Nat) k t c u h tk I o, k = a₀ + (i : Int) * st → i < n → P i c → (∀ p ∈ Ld c₀, p.1 < I) → (∀ p ∈ Ld c, p.1 ≠ I) →
      Fr h₀ env.locals h (fun y => if y = x then some (.int k t) else kstB u (ps c) y) → News h₀ env.locals h ((I, o) :: Ld c) →
      wpAny (model prog w) A (execs body env) (TP h₀ env.locals [(I, o)] I Ld ps (P (i + 1)) { s with heap := h, toks := tk } Q) E { s with heap := h, toks := tk })
    (done : ∀ c u h tk, P n c → Fr h₀ env.locals h (kstB u (ps c)) → News h₀ env.locals h (Ld c) → Q .next { s with heap := h, toks := tk }) :
    wpAny (model prog w) A (pyIter (.ref r)) (fun it s₂ => LoopAtV prog w A h₀ env x body Q E it s₂) E s := by
  refine wpAny_pyIter_range hr hsmall ?_
  have W : Walks prog w A s.heap.objs.size [s.heap.objs.size] [s.heap.objs.size] n (fun i v => ∃ t, v = .int (a₀ + i * st) t)
      (fun i h => IsRangeIter h s.heap.objs.size (a₀ + (i : Nat) * st) ((n : Int) - (i : Nat)) st) := Walks.range hh _ a₀ st n
  have hlt : ∀ p ∈ Ld c₀, p.1 < s.heap.objs.size := fun p hp => Heap.lt_size (N p hp).1
  refine ⟨_, _, _, n, _, _, m₀, Ld c₀, (fun i m nx => ∃ c, nx = Ld c ∧ (∀ p ∈ ps c, m p.1 = some p.2) ∧ P i c), rfl, W, ?_, ?_, ?_, ?_, F.push _, ?_, ⟨c₀, rfl, hps, hP⟩, ?_, ?_⟩
  · intro hm
    exact absurd F.ns.lt ((List.mem_singleton.mp hm) ▸ Nat.lt_irrefl _)
  · intro b hb
    rw [List.mem_singleton.mp hb]
    exact next_is_new F
  · intro p hp hI
    exact absurd (Heap.lt_size (N p hp).1) ((List.mem_singleton.mp hI) ▸ Nat.lt_irrefl _)
  · show IsRangeIter _ _ _ _ _
    rw [hn]
    simpa using Heap.get?_push_size _ rfl
  · exact fun p hp => ⟨Heap.get?_push_of_some _ (N p hp).1, (N p hp).2⟩
  · rintro i v m₁ nx s₁ own ⟨hh', tk', rfl⟩ hi ⟨t, rfl⟩ ⟨c, rfl, hps', hP'⟩ hoff hown _ hall hst F₁ N₁
    obtain ⟨oI, hoI⟩ : ∃ oI, hh'.get? s.heap.objs.size = some oI := ⟨_, hst⟩
    have hio : (s.heap.objs.size, oI) ∈ own := hall s.heap.objs.size (.head _) (next_is_new F) _ hoI
    have hone : ∀ p ∈ own, p = (s.heap.objs.size, oI) := own_one (I := s.heap.objs.size) hown (fun b hb => .inl (List.mem_singleton.mp hb)) hoI N₁
    have hoff' : ∀ p ∈ Ld c, p.1 ≠ s.heap.objs.size := fun p hp e => hoff p hp (List.mem_singleton.mpr e)
    rw [← kst_self hps'] at F₁
    refine wpAny_mono (turn i _ t c m₁ hh' tk' _ oI rfl hi hP' hlt hoff' F₁ (news_one hio N₁)) (fun f s₂ p => ?_) fun _ _ e => e
    have fin : TE h₀ env.locals [(s.heap.objs.size, oI)] s.heap.objs.size Ld ps (P (i + 1)) { s with heap := hh', toks := tk' } s₂ →
        LoopStepU h₀ env.locals [s.heap.objs.size] own (fun m nx => ∃ c, nx = Ld c ∧ (∀ p ∈ ps c, m p.1 = some p.2) ∧ P (i + 1) c) { s with heap := hh', toks := tk' } .next s₂ := by
      rintro ⟨c', h', tk, m', e, F', N', hoff2, hps2, hP2⟩
      refine ⟨rfl, h', tk, m', Ld c', e, F', fun p hp => ?_, fun p hp hq => hoff2 p hp (List.mem_singleton.mp hq), c', rfl, hps2, hP2⟩
      rcases List.mem_append.mp hp with h1 | h1
      · rw [hone p h1]; exact N' _ (.head _)
      · exact N' _ (List.mem_append_right _ h1)
    cases f with
    | ret v => exact .ret p
    | brk => exact .brk p
    | next => exact .next (fin p)
    | cont => exact .cont (fin p)
  · rintro h' tk m' nx F' N' _ ⟨c, rfl, hps', hP'⟩
    rw [← kst_self hps'] at F'
    exact done c m' h' tk hP' F' N'

theorem my_listD {l : Addr} {vs : List Value} {nn : Nat} {m₀ : Str → Option Value} (Ld : σ → Led) (ps : σ → List (Str × Value)) (P : Nat → σ → Prop) (c₀ : σ)
    (hh : A.handled = none) (hl : ∀ c, (l, listOf vs.toArray nn) ∈ Ld c)
    (F : Fr h₀ env.locals s.heap m₀) (N : News h₀ env.locals s.heap (Ld c₀)) (hps : ∀ p ∈ ps c₀, m₀ p.1 = some p.2) (hP : P 0 c₀)
    (turn : ∀ i v c u h tk I o, vs[i]? = some v → P i c → (∀ p ∈ Ld c₀, p.1 < I) → (∀ p ∈ Ld c, p.1 ≠ I) →
      Fr h₀ env.locals h (fun y => if y = x then some v else kstB u (ps c) y) → News h₀ env.locals h ((I, o) :: Ld c) →
      wpAny (model prog w) A (execs body env) (TP h₀ env.locals [(I, o)] I Ld ps (P (i + 1)) { s with heap := h, toks := tk } Q) E { s with heap := h, toks := tk })
    (done : ∀ c u h tk, P vs.length c → Fr h₀ env.locals h (kstB u (ps c)) → News h₀ env.locals h (Ld c) → Q .next { s with heap := h, toks := tk }) :
    wpAny (model prog w) A (pyIter (.ref l)) (fun it s₂ => LoopAtV prog w A h₀ env x body Q E it s₂) E s := by
  have hol : s.heap.get? l = some (listOf vs.toArray nn) := (N _ (hl c₀)).1
  have hls : s.heap.IsList l vs.toArray := ⟨_, hol, rfl, nn, rfl⟩
  have hne : l ≠ s.heap.objs.size := Nat.ne_of_lt (Heap.lt_size hol)
  refine wpAny_pyIter_list hls ?_
  have W := Walks.list (prog := prog) (w := w) hh s.heap.objs.size l hne vs.toArray
  have hlen : vs.toArray.size = vs.length := by simp
  rw [hlen] at W
  have hlt : ∀ p ∈ Ld c₀, p.1 < s.heap.objs.size := fun p hp => Heap.lt_size (N p hp).1
  refine ⟨_, _, _, vs.length, _, _, m₀, Ld c₀, (fun i m nx => ∃ c, nx = Ld c ∧ (∀ p ∈ ps c, m p.1 = some p.2) ∧ P i c), rfl, W, ?_, ?_, ?_, ⟨⟨_, Heap.get?_push_size _ rfl, rfl, rfl⟩, hls.at fun o e => Heap.get?_push_of_some _ e⟩, F.push _, ?_, ⟨c₀, rfl, hps, hP⟩, ?_, ?_⟩
  · intro hm
    rcases List.mem_cons.mp hm with e | hm
    · exact absurd F.ns.lt (e ▸ Nat.lt_irrefl _)
    · exact (N _ (hl c₀)).2.1 ((List.mem_singleton.mp hm).symm)
  · intro b hb
    rw [List.mem_singleton.mp hb]
    exact next_is_new F
  · intro p hp hI
    exact absurd (Heap.lt_size (N p hp).1) ((List.mem_singleton.mp hI) ▸ Nat.lt_irrefl _)
  · exact fun p hp => ⟨Heap.get?_push_of_some _ (N p hp).1, (N p hp).2⟩
  · rintro i v m₁ nx s₁ own ⟨hh', tk', rfl⟩ hi hv ⟨c, rfl, hps', hP'⟩ hoff hown hget hall hst F₁ N₁
    obtain ⟨⟨oI, hoI, hrI⟩, hls₁⟩ := hst
    have hio : (s.heap.objs.size, oI) ∈ own := hall s.heap.objs.size (.head _) (next_is_new F) _ hoI
    have hoff' : ∀ p ∈ Ld c, p.1 ≠ s.heap.objs.size := fun p hp e => hoff p hp (List.mem_singleton.mpr e)
    have hcase : ∀ p ∈ own, p = (s.heap.objs.size, oI) ∨ p = (l, listOf vs.toArray nn) := by
      intro p hp
      have hg := hget p hp
      rcases List.mem_cons.mp (hown p hp) with e | e
      · left
        rw [e, hoI] at hg
        exact Prod.ext e (Option.some.inj hg).symm
      · right
        have e := List.mem_singleton.mp e
        rw [e, (N₁ _ (List.mem_append_right _ (hl c))).1] at hg
        exact Prod.ext e (Option.some.inj hg).symm
    rw [← kst_self hps'] at F₁
    have hv' : vs[i]? = some v := by simpa using hv
    refine wpAny_mono (turn i v c m₁ hh' tk' _ oI hv' hP' hlt hoff' F₁ (news_one hio N₁)) (fun f s₂ p => ?_) fun _ _ e => e
    have fin : TE h₀ env.locals [(s.heap.objs.size, oI)] s.heap.objs.size Ld ps (P (i + 1)) { s with heap := hh', toks := tk' } s₂ →
        LoopStepU h₀ env.locals [s.heap.objs.size] own (fun m nx => ∃ c, nx = Ld c ∧ (∀ p ∈ ps c, m p.1 = some p.2) ∧ P (i + 1) c) { s with heap := hh', toks := tk' } .next s₂ := by
      rintro ⟨c', h', tk, m', e, F', N', hoff2, hps2, hP2⟩
      refine ⟨rfl, h', tk, m', Ld c', e, F', fun p hp => ?_, fun p hp hq => hoff2 p hp (List.mem_singleton.mp hq), c', rfl, hps2, hP2⟩
      rcases List.mem_append.mp hp with h1 | h1
      · rcases hcase p h1 with e | e
        · rw [e]; exact N' _ (.head _)
        · rw [e]; exact N' _ (List.mem_append_right _ (hl c'))
      · exact N' _ (List.mem_append_right _ h1)
    cases f with
    | ret v => exact .ret p
    | brk => exact .brk p
    | next => exact .next (fin p)
    | cont => exact .cont (fin p)
  · rintro h' tk m' nx F' N' _ ⟨c, rfl, hps', hP'⟩
    rw [← kst_self hps'] at F'
    exact done c m' h' tk hP' F' N'

/-- the end of a while's turn -/
def WE {σ : Type} (h₀ : Heap) (L : Addr) (Ld : σ → Led) (ps : σ → List (Str × Value)) (P : σ → Prop) (s s₂ : Shared) : Prop :=
  ∃ c h' tk m', s₂ = { s with heap := h', toks := tk } ∧ Fr h₀ L h' m' ∧ News h₀ L h' (Ld c) ∧ (∀ p ∈ ps c, m' p.1 = some p.2) ∧ P c
def WP {σ : Type} (h₀ : Heap) (L : Addr) (Ld : σ → Led) (ps : σ → List (Str × Value)) (P : σ → Prop) (s : Shared) (Q : Flow → Shared → Prop) (f : Flow) (s₂ : Shared) : Prop :=
  match f with
  | .ret v => Q (.ret v) s₂
  | .brk => Q .next s₂
  | _ => WE h₀ L Ld ps P s s₂
/-- what the test of a while leads to -/
def WT (b : Bool) (T F : Prop) : Prop := if b = true then T else F

theorem my_while {test : Expr} {pos : Pos} {L : Addr} {m₀ : Str → Option Value} (Ld : σ → Led) (ps : σ → List (Str × Value)) (P : σ → Prop) (μ : σ → Nat) (c₀ : σ)
    (F : Fr h₀ L s.heap m₀) (N : News h₀ L s.heap (Ld c₀)) (hps : ∀ p ∈ ps c₀, m₀ p.1 = some p.2) (hP : P c₀)
    (turn : ∀ c u h tk, P c → Fr h₀ L h (kstB u (ps c)) → News h₀ L h (Ld c) →
      wpAny (model prog w) A (isTrue test env (eval test env)) (fun b s₂ => WT b (wpAny (model prog w) A (execs body env) (WP h₀ L Ld ps (fun c' => P c' ∧ μ c' < μ c) s Q) E s₂) (Q .next s₂)) E { s with heap := h, toks := tk })
    (hE : PassesOwn (model prog w) A env E) :
    wpAny (model prog w) A (exec (.While test body [] pos) env) Q E s := by
  refine While_inv2 (fun n m nx => ∃ c : σ, nx = Ld c ∧ μ c = n ∧ (∀ p ∈ ps c, m p.1 = some p.2) ∧ P c) F N ⟨c₀, rfl, rfl, hps, hP⟩ ?_ hE
  rintro n m₁ nx h tk F₁ N₁ ⟨c, rfl, rfl, h1, h2⟩
  rw [← kst_self h1] at F₁
  refine wpAny_mono (turn c m₁ h tk h2 F₁ N₁) (fun b s₂ p => ?_) fun _ _ x => x
  cases b with
  | false => simpa [WT] using p
  | true =>
    simp only [WT, if_true] at p ⊢
    refine wpAny_mono p (fun f s₃ q => ?_) fun _ _ x => x
    cases f with
    | ret v => exact q
    | brk => exact q
    | next =>
      obtain ⟨c', h', tk', m', rfl, F', N', hk, hp, hm⟩ := q
      exact ⟨h', tk', m', Ld c', μ c', rfl, F', N', hm, c', rfl, rfl, hk, hp⟩
    | cont =>
      obtain ⟨c', h', tk', m', rfl, F', N', hk, hp, hm⟩ := q
      exact ⟨h', tk', m', Ld c', μ c', rfl, F', N', hm, c', rfl, rfl, hk, hp⟩
end

def val (B : Int) : List Int → Int
  | [] => 0
  | d :: r => d + B * val B r
def Dig (B : Int) (ns : List Int) : Prop := ∀ d ∈ ns, 0 ≤ d ∧ d < B
/-- no nought at the end -/
def Top0 (ns : List Int) : Prop := ∀ x, ns.getLast? = some x → x ≠ 0
def Good (B : Int) (ns : List Int) : Prop := Dig B ns ∧ Top0 ns

theorem val_append (B : Int) : ∀ as bs : List Int, val B (as ++ bs) = val B as + B ^ as.length * val B bs
  | [], bs => by simp [val]
  | a :: as, bs => by
    have ih := val_append B as bs
    simp only [List.cons_append, val, ih, List.length_cons]
    rw [Int.pow_succ, Int.mul_add, Int.mul_comm (B ^ as.length) B, Int.mul_assoc]
    omega
theorem val_snoc (B : Int) (as : List Int) (d : Int) : val B (as ++ [d]) = val B as + B ^ as.length * d := by
  rw [val_append]; simp [val]
theorem take_succ_getD (ns : List Int) (i : Nat) (h : i < ns.length) : ns.take (i + 1) = ns.take i ++ [ns.getD i 0] := by
  rw [List.take_add_one, List.getD_eq_getElem?_getD, List.getElem?_eq_getElem h]
  rfl
theorem val_take_succ (B : Int) (ns : List Int) (i : Nat) : val B (ns.take (i + 1)) = val B (ns.take i) + B ^ i * ns.getD i 0 := by
  by_cases h : i < ns.length
  · rw [take_succ_getD ns i h, val_snoc, List.length_take, Nat.min_eq_left (Nat.le_of_lt h)]
  · have h' : ns.length ≤ i := Nat.le_of_not_lt h
    rw [List.take_of_length_le (by omega), List.take_of_length_le h', List.getD_eq_getElem?_getD, List.getElem?_eq_none h']
    simp
theorem Dig.getD {B : Int} {ns : List Int} (h : Dig B ns) (hB : 0 < B) (i : Nat) : 0 ≤ ns.getD i 0 ∧ ns.getD i 0 < B := by
  by_cases hi : i < ns.length
  · rw [List.getD_eq_getElem?_getD, List.getElem?_eq_getElem hi]
    exact h _ (List.getElem_mem hi)
  · rw [List.getD_eq_getElem?_getD, List.getElem?_eq_none (by omega)]
    simp [hB]
theorem Dig.append {B : Int} {as bs : List Int} (h : Dig B as) (h' : Dig B bs) : Dig B (as ++ bs) := fun d hd => (List.mem_append.mp hd).elim (h d) (h' d)
theorem Dig.one {B d : Int} (h : 0 ≤ d ∧ d < B) : Dig B [d] := fun e he => by rw [List.mem_singleton.mp he]; exact h
theorem Dig.take {B : Int} {ns : List Int} (h : Dig B ns) (k : Nat) : Dig B (ns.take k) := fun d hd => h d (List.mem_of_mem_take hd)
theorem Dig.drop {B : Int} {ns : List Int} (h : Dig B ns) (k : Nat) : Dig B (ns.drop k) := fun d hd => h d (List.mem_of_mem_drop hd)

/-- between the turns of the adding loops -/
def AddG (B : Int) (as bs : List Int) (c : Int) (fs : List Int) : Prop := Dig B fs ∧ 0 ≤ c ∧ c ≤ 1 ∧ val B fs + B ^ fs.length * c = val B (as.take fs.length) + val B (bs.take fs.length)
theorem addG_nil {B : Int} {as bs : List Int} : AddG B as bs 0 [] := by
  refine ⟨(fun _ h => nomatch h), by omega, by omega, ?_⟩
  simp [val]
theorem addG_step {k : Nat} {as bs fs : List Int} {c x : Int} (h : AddG (2 ^ k) as bs c fs) (ha : Dig (2 ^ k) as) (hb : Dig (2 ^ k) bs) (hx : x = c + (as.getD fs.length 0 + bs.getD fs.length 0)) :
    AddG (2 ^ k) as bs (x.fdiv (2 ^ k)) (fs ++ [Builtin.bitAnd x (1 * 2 ^ k - 1)]) := by
  obtain ⟨h1, h2, h3, h4⟩ := h
  have hB : (0 : Int) < 2 ^ k := kbt_pos k
  have a1 := ha.getD hB fs.length
  have b1 := hb.getD hB fs.length
  rw [Int.one_mul, kbt_maskF]
  have hr := kbt_rest x k
  have hw := kbt_whole x k
  have hq0 : 0 ≤ x.fdiv (2 ^ k) := by
    rw [Int.fdiv_eq_ediv_of_nonneg _ (Int.le_of_lt hB)]
    exact Int.ediv_nonneg (by omega) (Int.le_of_lt hB)
  have hq1 : x.fdiv (2 ^ k) < 2 := by
    rw [Int.fdiv_eq_ediv_of_nonneg _ (Int.le_of_lt hB)]
    exact Int.ediv_lt_of_lt_mul hB (by omega)
  refine ⟨h1.append (Dig.one hr), hq0, by omega, ?_⟩
  rw [val_snoc, List.length_append, List.length_cons, List.length_nil, Nat.zero_add, val_take_succ, val_take_succ, Int.pow_succ]
  generalize (2 : Int) ^ k = B at *
  generalize B ^ fs.length = P at *
  generalize val B fs = V at *
  generalize val B (List.take fs.length as) = VA at *
  generalize val B (List.take fs.length bs) = VB at *
  generalize as.getD fs.length 0 = x1 at *
  generalize bs.getD fs.length 0 = x2 at *
  generalize x.fdiv B = q at *
  generalize x.fmod B = r at *
  have e : P * r + P * B * q = P * x := by rw [← hw, Int.mul_add, Int.mul_assoc, Int.mul_comm B q, Int.add_comm]
  have e2 : P * x = P * c + (P * x1 + P * x2) := by rw [hx, Int.mul_add, Int.mul_add]
  omega

theorem pow_pos' {B : Int} (hB : 0 < B) (n : Nat) : 0 < B ^ n := Int.pow_pos hB
theorem val_bound {B : Int} (hB : 0 < B) : ∀ ns : List Int, Dig B ns → 0 ≤ val B ns ∧ val B ns < B ^ ns.length
  | [], _ => by simp [val]
  | d :: r, h => by
    obtain ⟨h1, h2⟩ := val_bound hB r fun e he => h e (.tail _ he)
    have hd := h d (.head _)
    simp only [val, List.length_cons, Int.pow_succ]
    have e1 : 0 ≤ B * val B r := Int.mul_nonneg (Int.le_of_lt hB) h1
    have e2 : B * (val B r + 1) ≤ B * B ^ r.length := Int.mul_le_mul_of_nonneg_left (by omega) (Int.le_of_lt hB)
    rw [Int.mul_comm (B ^ r.length) B]
    rw [Int.mul_add, Int.mul_one] at e2
    omega
theorem top0_iff_snoc (ns : List Int) (d : Int) : Top0 (ns ++ [d]) ↔ d ≠ 0 := by
  unfold Top0
  simp
theorem top0_nil : Top0 [] := by simp [Top0]
theorem snoc_of_len {ns : List Int} {n : Nat} (h : ns.length = n + 1) : ∃ is d, ns = is ++ [d] ∧ is.length = n := by
  have hne : ns ≠ [] := by intro e; rw [e] at h; simp at h
  refine ⟨ns.dropLast, ns.getLast hne, (List.dropLast_concat_getLast hne).symm, ?_⟩
  rw [List.length_dropLast, h]; rfl
theorem top0_of_val {B : Int} (hB : 0 < B) {fs : List Int} (hd : Dig B fs) {n : Nat} (hl : fs.length = n + 1) (hv : B ^ n ≤ val B fs) : Top0 fs := by
  obtain ⟨is, d, rfl, hn⟩ := snoc_of_len hl
  rw [top0_iff_snoc]
  rintro rfl
  rw [val_snoc, Int.mul_zero, Int.add_zero, ← hn] at hv
  have := (val_bound hB is fun e he => hd e (List.mem_append_left _ he)).2
  omega
theorem val_of_top0 {B : Int} (hB : 0 < B) {fs : List Int} (hd : Dig B fs) (ht : Top0 fs) {n : Nat} (hl : fs.length = n + 1) : B ^ n ≤ val B fs := by
  obtain ⟨is, d, rfl, hn⟩ := snoc_of_len hl
  rw [top0_iff_snoc] at ht
  have h1 := hd d (List.mem_append_right _ (.head _))
  have h2 := (val_bound hB is fun e he => hd e (List.mem_append_left _ he)).1
  have h3 : B ^ is.length * 1 ≤ B ^ is.length * d := Int.mul_le_mul_of_nonneg_left (by omega) (Int.le_of_lt (pow_pos' hB _))
  rw [val_snoc, ← hn]
  omega
theorem addG_fin0 {k : Nat} {as bs fs : List Int} {c : Int} (h : AddG (2 ^ k) as bs c fs) (hl : fs.length = max as.length bs.length) (ha : Good (2 ^ k) as) (hb : Good (2 ^ k) bs) (hc : ¬ 0 < c) :
    Good (2 ^ k) fs ∧ val (2 ^ k) fs = val (2 ^ k) as + val (2 ^ k) bs := by
  obtain ⟨h1, h2, h3, h4⟩ := h
  have hB : (0 : Int) < 2 ^ k := kbt_pos k
  have c0 : c = 0 := by omega
  subst c0
  rw [Int.mul_zero, Int.add_zero, List.take_of_length_le (by omega), List.take_of_length_le (by omega)] at h4
  refine ⟨⟨h1, ?_⟩, h4⟩
  cases hn : fs.length with
  | zero => rw [List.length_eq_zero_iff.mp hn]; exact top0_nil
  | succ n =>
    refine top0_of_val hB h1 hn ?_
    rw [h4]
    have v1 := (val_bound hB as ha.1).1
    have v2 := (val_bound hB bs hb.1).1
    by_cases hle : bs.length ≤ as.length
    · have := val_of_top0 hB ha.1 ha.2 (n := n) (by omega)
      omega
    · have := val_of_top0 hB hb.1 hb.2 (n := n) (by omega)
      omega
theorem addG_fin1 {k : Nat} {as bs fs : List Int} {c : Int} (h2k : 2 ≤ (2 : Int) ^ k) (h : AddG (2 ^ k) as bs c fs) (hl : fs.length = max as.length bs.length) (hc : 0 < c) :
    Good (2 ^ k) (fs ++ [c]) ∧ val (2 ^ k) (fs ++ [c]) = val (2 ^ k) as + val (2 ^ k) bs := by
  obtain ⟨h1, h2, h3, h4⟩ := h
  rw [List.take_of_length_le (by omega), List.take_of_length_le (by omega)] at h4
  exact ⟨⟨h1.append (Dig.one ⟨h2, by omega⟩), (top0_iff_snoc _ _).mpr (by omega)⟩, by rw [val_snoc]; exact h4⟩
theorem two_le_pow {k : Int} (h : 2 ≤ k) : (4 : Int) ≤ 2 ^ k.toNat := by
  obtain ⟨n, rfl⟩ : ∃ n : Nat, k = n + 2 := ⟨(k - 2).toNat, by omega⟩
  have e : ((n : Int) + 2).toNat = n + 2 := by omega
  rw [e, Int.pow_succ, Int.pow_succ]
  have := kbt_pos n
  omega
theorem pow_le_512 {k : Int} (h : k ≤ 9) : (2 : Int) ^ k.toNat ≤ 512 := by
  have hk : k.toNat ≤ 9 := by omega
  have : (2 : Nat) ^ k.toNat ≤ 2 ^ 9 := Nat.pow_le_pow_right (by decide) hk
  have e : ((2 ^ k.toNat : Nat) : Int) = 2 ^ k.toNat := by rw [Int.natCast_pow]; rfl
  rw [← e]
  omega
/-- a new list of ints comes back -/
def NewInts (news : Led) (P : List Int → Prop) (v : Value) (nx : Led) : Prop := ∃ r vs n ms, v = .ref r ∧ nx = (r, listOf vs.toArray n) :: news ∧ (∀ p ∈ news, p.1 < r) ∧ IntsAre vs ms ∧ P ms

theorem Con.use {w : World} {dN uN : Nat} {f : Addr} {vs : List Value} {news : Led} {post : Value → Led → Prop} (C : Con w dN uN f vs news post)
    {p : Program} {loose : List Str} {mean : ExcName → Option Value} {mg mb : Str → Option Value} {dp un : Nat} {gd : Option (List Code)} {cn : Str} {cs : Scope} {a : Addr} {ccd : Value} {cl : List (Str × Addr)} {outer : List Env} {A₀ : Around} {base h₀ : Heap} {L : Addr} {m : Str → Option Value} {s : Shared}
    {Q E : Value → Shared → Prop} (B : Below A₀ base outer h₀) (F : Fr h₀ L s.heap m) (X : (hd.heap_39 w.params).In h₀) (N : News h₀ L s.heap news) (T : Top p loose mean mg mb h₀) (hk : cs.kind = .function) (hdp : dp + dN < recursionLimit) (hun : un + uN < cLine)
    (ret : ∀ r news' h' tk', Fr h₀ L h' m → News h₀ L h' news' → post r news' → Q r { s with heap := h', toks := tk' }) :
    wpAny (model PySem.Challenge.rw_pq0549_01.row.prog w) (ktrTop dp un gd cn cs L a ccd cl outer) (call (.ref f) vs) Q E s := C _ _ _ _ _ _ _ _ _ _ _ _ _ _ _ _ _ _ _ _ _ _ B F X N T hk hdp hun ret

section
variable {prog : Program} {w : World} {A : Around} {E : Value → Shared → Prop} {s : Shared} {h₀ : Heap} {L l : Addr} {m : Str → Option Value} {news : Led} {Q : Value → Shared → Prop}
theorem ints_replicate (t : Tok) (n : Nat) : IntsAre (List.replicate n (Value.int 0 t)) (List.replicate n 0) := by
  induction n with
  | zero => exact .nil
  | succ n ih => rw [List.replicate_succ, List.replicate_succ]; exact .cons _ _ ih
theorem mul_zeros {nn : Nat} {t u : Tok} {x : Int} (F : Fr h₀ L s.heap m) (N : News h₀ L s.heap news) (hm : (l, listOf #[Value.int 0 t] nn) ∈ news) (h0 : 0 ≤ x) (h1 : x < 10000)
    (h : ∀ D us h', Fr h₀ L h' m → News h₀ L h' ((D, listOf (List.toArray us) 0) :: news) → (∀ p ∈ news, p.1 < D) → IntsAre us (List.replicate x.toNat 0) → Q (.ref D) { s with heap := h' }) :
    wpAny (model prog w) A (binaryOp .Mult (.ref l) (.int x u)) Q E s := by
  have hl : s.heap.IsList l (List.toArray [Value.int 0 t]) := News.isList N hm
  refine KM.mul F N hl (.cons 0 t .nil) (by omega) (by omega) (by simp; omega) (fun D h' F' N' l1 i1 n1 s1 e1 e2 e3 => ?_)
  simp only [List.flatten_replicate_singleton] at N' i1
  exact h D _ h' F' N' l1 i1
end

theorem top0_append {as bs : List Int} (h : bs ≠ []) : Top0 (as ++ bs) ↔ Top0 bs := by
  cases hl : bs.length with
  | zero => exact absurd (List.length_eq_zero_iff.mp hl) h
  | succ n =>
    obtain ⟨is, d, rfl, _⟩ := snoc_of_len hl
    rw [← List.append_assoc, top0_iff_snoc, top0_iff_snoc]
theorem val_zeros (B : Int) (n : Nat) : val B (List.replicate n 0) = 0 := by
  induction n with
  | zero => rfl
  | succ n ih => rw [List.replicate_succ, val, ih]; simp
theorem Good.drop {B : Int} {ns : List Int} (h : Good B ns) (k : Nat) : Good B (ns.drop k) := by
  refine ⟨h.1.drop k, ?_⟩
  by_cases hk : ns.drop k = []
  · rw [hk]; exact top0_nil
  · have := h.2
    rw [← List.take_append_drop k ns, top0_append hk] at this
    exact this
theorem Good.pos {B : Int} {ns : List Int} (hB : 0 < B) (h : Good B ns) (hne : ns ≠ []) : 0 < val B ns := by
  cases hl : ns.length with
  | zero => exact absurd (List.length_eq_zero_iff.mp hl) hne
  | succ n =>
    have := val_of_top0 hB h.1 h.2 hl
    have := pow_pos' hB n
    omega
theorem val_split (B : Int) (ns : List Int) {k : Nat} (h : k ≤ ns.length) : val B ns = val B (ns.take k) + B ^ k * val B (ns.drop k) := by
  have := val_append B (ns.take k) (ns.drop k)
  rw [List.take_append_drop, List.length_take, Nat.min_eq_left h] at this
  exact this
theorem good_nil (B : Int) : Good B [] := ⟨(fun _ h => nomatch h), top0_nil⟩

theorem addAt_far {k : Nat} {as bs : List Int} {sp : Nat} (ha : Good (2 ^ k) as) (hb : Good (2 ^ k) bs) (hne : bs ≠ []) (hs : as.length ≤ sp) :
    Good (2 ^ k) (as ++ List.replicate (sp - as.length) 0 ++ bs) ∧ val (2 ^ k) (as ++ List.replicate (sp - as.length) 0 ++ bs) = val (2 ^ k) as + (2 ^ k) ^ sp * val (2 ^ k) bs := by
  have hB : (0 : Int) < 2 ^ k := kbt_pos k
  refine ⟨⟨(ha.1.append fun d hd => ?_).append hb.1, (top0_append hne).mpr hb.2⟩, ?_⟩
  · rw [(List.mem_replicate.mp hd).2]; omega
  · rw [val_append, val_append, val_zeros, Int.mul_zero, Int.add_zero, List.length_append, List.length_replicate, show as.length + (sp - as.length) = sp by omega]
theorem addAt_near {k : Nat} {as bs ms : List Int} {sp : Nat} (ha : Good (2 ^ k) as) (hb : Good (2 ^ k) bs) (hs : sp < as.length) (hm : Good (2 ^ k) ms) (hv : val (2 ^ k) ms = val (2 ^ k) (as.drop sp) + val (2 ^ k) bs) :
    Good (2 ^ k) (as.take sp ++ ms) ∧ val (2 ^ k) (as.take sp ++ ms) = val (2 ^ k) as + (2 ^ k) ^ sp * val (2 ^ k) bs := by
  have hB : (0 : Int) < 2 ^ k := kbt_pos k
  have h1 := (ha.drop sp).pos hB (by intro e; have := congrArg List.length e; simp at this; omega)
  have h2 := (val_bound hB bs hb.1).1
  have hne : ms ≠ [] := by
    rintro rfl
    simp only [val] at hv
    omega
  refine ⟨⟨(ha.1.take sp).append hm.1, (top0_append hne).mpr hm.2⟩, ?_⟩
  rw [val_append, List.length_take, Nat.min_eq_left (by omega), hv, val_split _ as (Nat.le_of_lt hs), Int.mul_add]
  omega

theorem ret_ints {h₀ : Heap} {L : Addr} {m : Str → Option Value} {s : Shared} {news nx : Led} {P : List Int → Prop} {Q : Value → Shared → Prop} {r : Addr} {vs : List Value} {n : Nat} {ms : List Int} {h' : Heap} {tk : Nat}
    (ret : ∀ r news' h' tk', Fr h₀ L h' m → News h₀ L h' news' → NewInts news P r news' → Q r { s with heap := h', toks := tk' })
    (kF : Fr h₀ L h' m) (kN : News h₀ L h' nx) (hr : (r, listOf vs.toArray n) ∈ nx) (hs : ∀ p ∈ news, p ∈ nx) (hlt : ∀ p ∈ news, p.1 < r) (hi : IntsAre vs ms) (hP : P ms) : Q (.ref r) { s with heap := h', toks := tk } :=
  ret _ _ _ _ kF (kst_newsOf kN (List.forall_mem_cons.mpr ⟨hr, hs⟩)) ⟨r, vs, n, ms, rfl, rfl, hlt, hi, hP⟩
end
section
local macro_rules | `(tactic| is_list) => `(tactic| exact News.isList (by k_asm) (by k_mem))
local macro_rules | `(tactic| k_mem) => `(tactic| first | assumption | exact List.mem_cons_self | (refine List.mem_cons_of_mem _ ?_; k_mem))
local macro_rules | `(tactic| k_all) => `(tactic| first | exact allLt_ne (by assumption) | exact lt_ne (by assumption) | assumption)
local macro_rules | `(tactic| walk_at "pyIter ref") => `(tactic| refine Stop.out ?_)
local macro_rules | `(tactic| walk_at "TP") => `(tactic| dsimp only [TP])
local macro_rules | `(tactic| walk_at "WP") => `(tactic| dsimp only [WP])
local macro_rules | `(tactic| walk_at "my all") => `(tactic| first | exact List.forall_mem_nil _ | (refine List.forall_mem_cons.mpr ⟨by with_unfolding_all rfl, ?_⟩; walk_at "my all"))
local macro_rules | `(tactic| size_fits) => `(tactic| ((simp only [List.size_toArray, List.length_append, List.length_cons, List.length_nil, PySem.sizeLine_eq]); omega))
local macro_rules | `(tactic| walk_at "call ref") => `(tactic| refine Stop.out ?_)
local macro_rules | `(tactic| walk_at "binaryOp Mult ref int") => `(tactic| (k_here; (with_reducible show wpAny _ _ (binaryOp Operator.Mult (Value.ref _) (Value.int _ _)) _ _ _); k_dflt (refine' mul_zeros ?F ?N ?m ?a ?b ?_; (case F => k_asm); (case N => k_asm); (case m => k_mem); (case a => omega); (case b => omega)); intro D' ws' h' F' N' l1 hI'; (try dsimp only); (try k_lt l1); (try k_sweep)))
local macro_rules | `(tactic| walk_at "binaryOp Add ref ref") => `(tactic| (k_here; (with_reducible show wpAny _ _ (binaryOp _ (Value.ref _) (Value.ref _)) _ _ _); k_dflt (refine' kmk_add_ints ?F ?N ?a ?b ?i ?j ?_ ?z; (case F => k_asm); (case N => k_asm); (case a => is_list); (case b => is_list); (case i => l_ints); (case j => l_ints); (case z => ((simp only [PySem.sizeLine_eq, List.length_append, List.length_replicate, List.length_take, List.length_drop, List.length_cons, List.length_nil]); omega))); intro D' ws' h' F' N' l1 hI'; (try dsimp only); (try k_lt l1); (try k_sweep)))
local macro_rules | `(tactic| walk_at "my size") => `(tactic| ((simp only [PySem.sizeLine_eq, List.length_append, List.length_replicate, List.length_take, List.length_drop, List.length_cons, List.length_nil, List.length_reverse]); omega))
local macro_rules | `(tactic| walk_at "subscriptTail Name Slice ref ref") => `(tactic| (k_here; (with_reducible show wpAny _ _ (subscriptTail _ (PySem.Expr.Slice _ _ none _) (Value.ref _) (Value.ref _)) _ _ _); k_dflt (refine' kmk_slice_ints ?F ?N ?l ?p ?q ?i ?m ?c ?_ ?s ?t ?z; (case F => k_asm); (case N => k_asm); (case l => is_list); (case p => kmk_part); (case q => kmk_part); (case i => l_ints); (case m => first | exact kmk_all (by l_ints) | exact kmk_from (by l_ints) (by omega) | exact kmk_upto (by l_ints) (by omega) | exact kmk_run (by l_ints) (by omega) (by omega)); (case c => kmk_len); (case s => with_unfolding_all rfl); (case t => kmk_pure); (case z => exact kmk_sz (by l_ints) (by walk_at "my size"))); intro D' ws' h' F' N' l1 hI' hC' hL'; (try simp only [Int.reduceNeg, Int.neg_neg, Int.reduceToNat] at hI' hC' hL'); (try dsimp only); (try k_lt l1); (try k_sweep)))
local macro_rules | `(tactic| walk_at "nothing") => `(tactic| skip)
-- CNormal
theorem off_CNormal : True := by w_top off; trivial
theorem normal_con (w : World) {l : Addr} {vs : List Value} {ns : List Int} {n : Nat} {news : Led} (hm : (l, listOf vs.toArray n) ∈ news) (hi : IntsAre vs ns) (hz : ns.length < 1000) :
    Con w 8 64 21 [.ref l] news (NewInts news fun ms => ms = norm ns) := by
  unfold Con
  k_fill
  intro p loose mean mg mb dp un gd cn cs a ccd cl outer A₀ base h₀ L m s Q E B F X N T hk hdp hun ret
  refine wpAny_noRaise ?_
  refine wpAny_call ?_
  k_dflt ktr_enter
  k_steps
  rename_i k t _ _ h1 h2 h3 h4 _ D ws _ _ _ l1 hI _ _ kF kN _ _
  have e : norm ns = ns.take k.toNat := by
    have hk0 : 0 ≤ k := by omega
    refine norm_take ns k.toNat (by omega) (fun j hj1 hj2 => ?_) ?_
    · have := h3 (j + 1) (by omega) (by omega)
      simpa [show (0 : Int) < (j : Int) + 1 by omega] using this
    · by_cases hz : k = 0
      · exact .inl (by omega)
      · right
        have : (0 : Int) < k := by omega
        simp [this] at h4
        rw [List.getD_eq_getElem?_getD]
        exact h4
  exact ret_ints ret kF kN (by k_mem) (fun p9 h9 => by k_mem) l1 hI e.symm
end
section
local macro_rules | `(tactic| is_list) => `(tactic| exact News.isList (by k_asm) (by k_mem))
local macro_rules | `(tactic| k_mem) => `(tactic| first | assumption | exact List.mem_cons_self | (refine List.mem_cons_of_mem _ ?_; k_mem))
local macro_rules | `(tactic| k_all) => `(tactic| first | exact allLt_ne (by assumption) | exact lt_ne (by assumption) | assumption)
local macro_rules | `(tactic| walk_at "pyIter ref") => `(tactic| refine Stop.out ?_)
local macro_rules | `(tactic| walk_at "TP") => `(tactic| dsimp only [TP])
local macro_rules | `(tactic| walk_at "WP") => `(tactic| dsimp only [WP])
local macro_rules | `(tactic| walk_at "my all") => `(tactic| first | exact List.forall_mem_nil _ | (refine List.forall_mem_cons.mpr ⟨by with_unfolding_all rfl, ?_⟩; walk_at "my all"))
local macro_rules | `(tactic| size_fits) => `(tactic| ((simp only [List.size_toArray, List.length_append, List.length_cons, List.length_nil, PySem.sizeLine_eq]); omega))
-- CAdd
theorem off_CAdd : True := by w_top off; trivial
structure AddS where
  c : Int
  t : Tok
  vs : List Value
  fs : List Int
  n : Nat
theorem rangeSize_zero (n : Nat) : Builtin.Range.rangeSize 0 (n : Int) 1 = (n : Int) := by
  unfold Builtin.Range.rangeSize
  simp only [show (1 : Int) > 0 by decide, if_true]
  split <;> omega
theorem rangeSize_sub {a b : Nat} (h : b ≤ a) : Builtin.Range.rangeSize (b : Int) (a : Int) 1 = ((a - b : Nat) : Int) := by
  unfold Builtin.Range.rangeSize
  simp only [show (1 : Int) > 0 by decide, if_true]
  split <;> omega
theorem hne_cons {I l : Addr} {o : Obj} {news : Led} (h : (l : Nat) ≠ I) (h' : ∀ p ∈ news, p.1 ≠ I) : ∀ p ∈ (l, o) :: news, p.1 ≠ I := List.forall_mem_cons.mpr ⟨h, h'⟩
theorem getD_off (ns : List Int) {i : Nat} (h : ns.length ≤ i) : ns.getD i 0 = 0 := by
  rw [List.getD_eq_getElem?_getD, List.getElem?_eq_none h]; rfl

theorem add_con_ge (w : World) {la lb : Addr} {va vb : List Value} {as bs : List Int} {na nb : Nat} {news : Led} {k : Int} {t : Tok} (hma : (la, listOf va.toArray na) ∈ news) (hmb : (lb, listOf vb.toArray nb) ∈ news) (hia : IntsAre va as) (hib : IntsAre vb bs)
  (hza : as.length < 100) (hzb : bs.length < 100) (hk : 2 ≤ k ∧ k ≤ 9) (hda : Good (2 ^ k.toNat) as) (hdb : Good (2 ^ k.toNat) bs) (hord : bs.length ≤ as.length) :
    Con w 8 64 28 [.ref la, .ref lb, .int k t] news (NewInts news fun ms => Good (2 ^ k.toNat) ms ∧ val (2 ^ k.toNat) ms = val (2 ^ k.toNat) as + val (2 ^ k.toNat) bs ∧ ms.length ≤ max as.length bs.length + 1) := by
  unfold Con
  k_fill
  intro p loose mean mg mb dp un gd cn cs a ccd cl outer A₀ base h₀ L m s Q E B F X N T hkk hdp hun ret
  refine wpAny_noRaise ?_
  refine wpAny_call ?_
  k_dflt ktr_enter
  k_steps
  rename_i tkA l' _ l1 D' _ _ _ _ _ _ _ _ _ _ _ _ _ rg F2 N2 _
  have hfr : ∀ p ∈ news, p.1 < l' := by first | exact l1 | exact allLt_lt l1.2
  clear l1
  refine Stop.mk ?_
  refine' my_range (σ := AddS) (n := bs.length) (fun c => (l', listOf c.vs.toArray c.n) :: news) (fun c => [(Str.ofString "found", .ref l'), (Str.ofString "carry", .int c.c c.t), (Str.ofString "mask", .int (1 * 2 ^ k.toNat - 1) (tkA + 1 + 1 + 1 + 1)), (Str.ofString "a", .ref la), (Str.ofString "b", .ref lb), (Str.ofString "w", .int k t)])
        (fun i c => IntsAre c.vs c.fs ∧ c.fs.length = i ∧ AddG (2 ^ k.toNat) as bs c.c c.fs) ⟨0, tkA, [], [], 0⟩ (by rfl) rg ?sm ?sz F2 ?n (by walk_at "my all") ?p0 ?turn ?done
  case sm => exact small_one (by omega) (by omega) (by omega) (by omega)
  case sz => exact rangeSize_zero _
  case n => exact kst_newsOf N2 (List.forall_mem_cons.mpr ⟨by k_mem, fun p9 h9 => by k_mem⟩)
  case p0 => exact ⟨.nil, rfl, addG_nil⟩
  case turn =>
    rintro i kk tt ⟨c, t, vs, fs, n⟩ u h tk I o hkk hi ⟨hI, hl, hG⟩ hlt hne F3 N3
    dsimp only at hI hl hG hlt hne F3 N3
    subst hkk
    obtain ⟨hI1, hI2⟩ := List.forall_mem_cons.mp hne
    replace hI1 := neN hI1
    have hIl := hI.length
    k_steps
    rename_i F5 N5
    simp only [List.push_toArray] at N5
    refine ⟨⟨_, _, vs ++ [_], fs ++ [_], n + 1⟩, _, _, _, rfl, F5, N5, hne_cons hI1 hI2, by walk_at "my all", IntsAre.append hI (.cons _ _ .nil), by rw [List.length_append, hl]; rfl, ?_⟩
    refine addG_step hG hda.1 hdb.1 ?_
    rw [hl, show (0 + (i : Int) * 1).toNat = i by omega]
  case done =>
    rintro ⟨c, t, vs, fs, n⟩ u h tk ⟨hI, hl, hG⟩ F3 N3
    dsimp only at hI hl hG F3 N3 ⊢
    k_steps
    rename_i rg F4 N4 _
    refine Stop.mk ?_
    refine' my_range (σ := AddS) (n := as.length - bs.length) (fun c => (l', listOf c.vs.toArray c.n) :: news) (fun c => [(Str.ofString "found", .ref l'), (Str.ofString "carry", .int c.c c.t), (Str.ofString "mask", .int (1 * 2 ^ k.toNat - 1) (tkA + 1 + 1 + 1 + 1)), (Str.ofString "a", .ref la), (Str.ofString "b", .ref lb), (Str.ofString "w", .int k _)])
        (fun i c => IntsAre c.vs c.fs ∧ c.fs.length = bs.length + i ∧ AddG (2 ^ k.toNat) as bs c.c c.fs) ⟨c, t, vs, fs, n⟩ (by rfl) rg ?sm ?sz F4 N4 (by walk_at "my all") ?p0 ?turn ?done
    case sm => exact small_one (by omega) (by omega) (by omega) (by omega)
    case sz => exact rangeSize_sub (by omega)
    case p0 => exact ⟨hI, hl, hG⟩
    case turn =>
      clear hI hl hG
      rintro i kk tt ⟨c, t, vs, fs, n⟩ u h tk I o hkk hi ⟨hI, hl, hG⟩ hlt hne F3 N3
      dsimp only at hI hl hG hlt hne F3 N3
      subst hkk
      obtain ⟨hI1, hI2⟩ := List.forall_mem_cons.mp hne
      replace hI1 := neN hI1
      have hIl := hI.length
      k_steps
      rename_i F5 N5
      simp only [List.push_toArray] at N5
      refine ⟨⟨_, _, vs ++ [_], fs ++ [_], n + 1⟩, _, _, _, rfl, F5, N5, hne_cons hI1 hI2, by walk_at "my all", IntsAre.append hI (.cons _ _ .nil), by rw [List.length_append, hl]; rfl, ?_⟩
      refine addG_step hG hda.1 hdb.1 ?_
      rw [hl, show ((bs.length : Int) + (i : Int) * 1).toNat = bs.length + i by omega, getD_off bs (Nat.le_add_right bs.length i)]
      omega
    case done =>
      clear hI hl hG
      rintro ⟨c, t, vs, fs, n⟩ u h tk ⟨hI, hl, hG⟩ F3 N3
      dsimp only at hI hl hG F3 N3 ⊢
      have hIl := hI.length
      k_steps
      · rename 0 < c => hc
        rename Fr h₀ L _ m => kF
        rename News h₀ L _ _ => kN
        simp only [List.push_toArray] at kN
        have hfin := addG_fin1 (Int.le_trans (by decide) (two_le_pow hk.1)) hG (by omega) hc
        exact ret _ _ _ _ kF kN ⟨l', vs ++ [_], n + 1, fs ++ [c], rfl, rfl, hfr, IntsAre.append hI (.cons _ _ .nil), hfin.1, hfin.2, by rw [List.length_append]; simp only [List.length_cons, List.length_nil]; omega⟩
      · rename ¬ 0 < c => hc
        rename Fr h₀ L _ m => kF
        rename News h₀ L _ _ => kN
        have hfin := addG_fin0 hG (by omega) hda hdb hc
        exact ret _ _ _ _ kF kN ⟨l', vs, n, fs, rfl, rfl, hfr, hI, hfin.1, hfin.2, by omega⟩

theorem add_con_lt (w : World) {la lb : Addr} {va vb : List Value} {as bs : List Int} {na nb : Nat} {news : Led} {k : Int} {t : Tok} (hma : (la, listOf va.toArray na) ∈ news) (hmb : (lb, listOf vb.toArray nb) ∈ news) (hia : IntsAre va as) (hib : IntsAre vb bs)
  (hza : as.length < 100) (hzb : bs.length < 100) (hk : 2 ≤ k ∧ k ≤ 9) (hda : Good (2 ^ k.toNat) as) (hdb : Good (2 ^ k.toNat) bs) (hord : as.length < bs.length) :
    Con w 8 64 28 [.ref la, .ref lb, .int k t] news (NewInts news fun ms => Good (2 ^ k.toNat) ms ∧ val (2 ^ k.toNat) ms = val (2 ^ k.toNat) as + val (2 ^ k.toNat) bs ∧ ms.length ≤ max as.length bs.length + 1) := by
  unfold Con
  k_fill
  intro p loose mean mg mb dp un gd cn cs a ccd cl outer A₀ base h₀ L m s Q E B F X N T hkk hdp hun ret
  refine wpAny_noRaise ?_
  refine wpAny_call ?_
  k_dflt ktr_enter
  k_steps
  rename_i tkA l' _ l1 D' _ _ _ _ _ _ _ _ _ _ _ _ _ rg F2 N2 _
  have hfr : ∀ p ∈ news, p.1 < l' := by first | exact l1 | exact allLt_lt l1.2
  clear l1
  refine Stop.mk ?_
  refine' my_range (σ := AddS) (n := as.length) (fun c => (l', listOf c.vs.toArray c.n) :: news) (fun c => [(Str.ofString "found", .ref l'), (Str.ofString "carry", .int c.c c.t), (Str.ofString "mask", .int (1 * 2 ^ k.toNat - 1) (tkA + 1 + 1 + 1 + 1)), (Str.ofString "a", .ref lb), (Str.ofString "b", .ref la), (Str.ofString "w", .int k t)])
        (fun i c => IntsAre c.vs c.fs ∧ c.fs.length = i ∧ AddG (2 ^ k.toNat) as bs c.c c.fs) ⟨0, tkA, [], [], 0⟩ (by rfl) rg ?sm ?sz F2 ?n (by walk_at "my all") ?p0 ?turn ?done
  case sm => exact small_one (by omega) (by omega) (by omega) (by omega)
  case sz => exact rangeSize_zero _
  case n => exact kst_newsOf N2 (List.forall_mem_cons.mpr ⟨by k_mem, fun p9 h9 => by k_mem⟩)
  case p0 => exact ⟨.nil, rfl, addG_nil⟩
  case turn =>
    rintro i kk tt ⟨c, t, vs, fs, n⟩ u h tk I o hkk hi ⟨hI, hl, hG⟩ hlt hne F3 N3
    dsimp only at hI hl hG hlt hne F3 N3
    subst hkk
    obtain ⟨hI1, hI2⟩ := List.forall_mem_cons.mp hne
    replace hI1 := neN hI1
    have hIl := hI.length
    k_steps
    rename_i F5 N5
    simp only [List.push_toArray] at N5
    refine ⟨⟨_, _, vs ++ [_], fs ++ [_], n + 1⟩, _, _, _, rfl, F5, N5, hne_cons hI1 hI2, by walk_at "my all", IntsAre.append hI (.cons _ _ .nil), by rw [List.length_append, hl]; rfl, ?_⟩
    refine addG_step hG hda.1 hdb.1 ?_
    rw [hl, show (0 + (i : Int) * 1).toNat = i by omega]
    omega
  case done =>
    rintro ⟨c, t, vs, fs, n⟩ u h tk ⟨hI, hl, hG⟩ F3 N3
    dsimp only at hI hl hG F3 N3 ⊢
    k_steps
    rename_i rg F4 N4 _
    refine Stop.mk ?_
    refine' my_range (σ := AddS) (n := bs.length - as.length) (fun c => (l', listOf c.vs.toArray c.n) :: news) (fun c => [(Str.ofString "found", .ref l'), (Str.ofString "carry", .int c.c c.t), (Str.ofString "mask", .int (1 * 2 ^ k.toNat - 1) (tkA + 1 + 1 + 1 + 1)), (Str.ofString "a", .ref lb), (Str.ofString "b", .ref la), (Str.ofString "w", .int k _)])
        (fun i c => IntsAre c.vs c.fs ∧ c.fs.length = as.length + i ∧ AddG (2 ^ k.toNat) as bs c.c c.fs) ⟨c, t, vs, fs, n⟩ (by rfl) rg ?sm ?sz F4 N4 (by walk_at "my all") ?p0 ?turn ?done
    case sm => exact small_one (by omega) (by omega) (by omega) (by omega)
    case sz => exact rangeSize_sub (by omega)
    case p0 => exact ⟨hI, hl, hG⟩
    case turn =>
      clear hI hl hG
      rintro i kk tt ⟨c, t, vs, fs, n⟩ u h tk I o hkk hi ⟨hI, hl, hG⟩ hlt hne F3 N3
      dsimp only at hI hl hG hlt hne F3 N3
      subst hkk
      obtain ⟨hI1, hI2⟩ := List.forall_mem_cons.mp hne
      replace hI1 := neN hI1
      have hIl := hI.length
      k_steps
      rename_i F5 N5
      simp only [List.push_toArray] at N5
      refine ⟨⟨_, _, vs ++ [_], fs ++ [_], n + 1⟩, _, _, _, rfl, F5, N5, hne_cons hI1 hI2, by walk_at "my all", IntsAre.append hI (.cons _ _ .nil), by rw [List.length_append, hl]; rfl, ?_⟩
      refine addG_step hG hda.1 hdb.1 ?_
      rw [hl, show ((as.length : Int) + (i : Int) * 1).toNat = as.length + i by omega, getD_off as (Nat.le_add_right as.length i)]
      omega
    case done =>
      clear hI hl hG
      rintro ⟨c, t, vs, fs, n⟩ u h tk ⟨hI, hl, hG⟩ F3 N3
      dsimp only at hI hl hG F3 N3 ⊢
      have hIl := hI.length
      k_steps
      · rename 0 < c => hc
        rename Fr h₀ L _ m => kF
        rename News h₀ L _ _ => kN
        simp only [List.push_toArray] at kN
        have hfin := addG_fin1 (Int.le_trans (by decide) (two_le_pow hk.1)) hG (by omega) hc
        exact ret _ _ _ _ kF kN ⟨l', vs ++ [_], n + 1, fs ++ [c], rfl, rfl, hfr, IntsAre.append hI (.cons _ _ .nil), hfin.1, hfin.2, by rw [List.length_append]; simp only [List.length_cons, List.length_nil]; omega⟩
      · rename ¬ 0 < c => hc
        rename Fr h₀ L _ m => kF
        rename News h₀ L _ _ => kN
        have hfin := addG_fin0 hG (by omega) hda hdb hc
        exact ret _ _ _ _ kF kN ⟨l', vs, n, fs, rfl, rfl, hfr, hI, hfin.1, hfin.2, by omega⟩

theorem add_con (w : World) {la lb : Addr} {va vb : List Value} {as bs : List Int} {na nb : Nat} {news : Led} {k : Int} {t : Tok} (hma : (la, listOf va.toArray na) ∈ news) (hmb : (lb, listOf vb.toArray nb) ∈ news) (hia : IntsAre va as) (hib : IntsAre vb bs)
  (hza : as.length < 100) (hzb : bs.length < 100) (hk : 2 ≤ k ∧ k ≤ 9) (hda : Good (2 ^ k.toNat) as) (hdb : Good (2 ^ k.toNat) bs) :
    Con w 8 64 28 [.ref la, .ref lb, .int k t] news (NewInts news fun ms => Good (2 ^ k.toNat) ms ∧ val (2 ^ k.toNat) ms = val (2 ^ k.toNat) as + val (2 ^ k.toNat) bs ∧ ms.length ≤ max as.length bs.length + 1) := by
  by_cases h : bs.length ≤ as.length
  · exact add_con_ge w hma hmb hia hib hza hzb hk hda hdb h
  · exact add_con_lt w hma hmb hia hib hza hzb hk hda hdb (by omega)
end
section
local macro_rules | `(tactic| is_list) => `(tactic| exact News.isList (by k_asm) (by k_mem))
local macro_rules | `(tactic| k_mem) => `(tactic| first | assumption | exact List.mem_cons_self | (refine List.mem_cons_of_mem _ ?_; k_mem))
local macro_rules | `(tactic| k_all) => `(tactic| first | exact allLt_ne (by assumption) | exact lt_ne (by assumption) | assumption)
local macro_rules | `(tactic| walk_at "pyIter ref") => `(tactic| refine Stop.out ?_)
local macro_rules | `(tactic| walk_at "TP") => `(tactic| dsimp only [TP])
local macro_rules | `(tactic| walk_at "WP") => `(tactic| dsimp only [WP])
local macro_rules | `(tactic| walk_at "my all") => `(tactic| first | exact List.forall_mem_nil _ | (refine List.forall_mem_cons.mpr ⟨by with_unfolding_all rfl, ?_⟩; walk_at "my all"))
local macro_rules | `(tactic| size_fits) => `(tactic| ((simp only [List.size_toArray, List.length_append, List.length_cons, List.length_nil, PySem.sizeLine_eq]); omega))
local macro_rules | `(tactic| walk_at "call ref") => `(tactic| refine Stop.out ?_)
local macro_rules | `(tactic| walk_at "binaryOp Mult ref int") => `(tactic| (k_here; (with_reducible show wpAny _ _ (binaryOp Operator.Mult (Value.ref _) (Value.int _ _)) _ _ _); k_dflt (refine' mul_zeros ?F ?N ?m ?a ?b ?_; (case F => k_asm); (case N => k_asm); (case m => k_mem); (case a => omega); (case b => omega)); intro D' ws' h' F' N' l1 hI'; (try dsimp only); (try k_lt l1); (try k_sweep)))
local macro_rules | `(tactic| walk_at "binaryOp Add ref ref") => `(tactic| (k_here; (with_reducible show wpAny _ _ (binaryOp _ (Value.ref _) (Value.ref _)) _ _ _); k_dflt (refine' kmk_add_ints ?F ?N ?a ?b ?i ?j ?_ ?z; (case F => k_asm); (case N => k_asm); (case a => is_list); (case b => is_list); (case i => l_ints); (case j => l_ints); (case z => ((simp only [PySem.sizeLine_eq, List.length_append, List.length_replicate, List.length_take, List.length_drop, List.length_cons, List.length_nil]); omega))); intro D' ws' h' F' N' l1 hI'; (try dsimp only); (try k_lt l1); (try k_sweep)))
local macro_rules | `(tactic| walk_at "my size") => `(tactic| ((simp only [PySem.sizeLine_eq, List.length_append, List.length_replicate, List.length_take, List.length_drop, List.length_cons, List.length_nil, List.length_reverse]); omega))
local macro_rules | `(tactic| walk_at "subscriptTail Name Slice ref ref") => `(tactic| (k_here; (with_reducible show wpAny _ _ (subscriptTail _ (PySem.Expr.Slice _ _ none _) (Value.ref _) (Value.ref _)) _ _ _); k_dflt (refine' kmk_slice_ints ?F ?N ?l ?p ?q ?i ?m ?c ?_ ?s ?t ?z; (case F => k_asm); (case N => k_asm); (case l => is_list); (case p => kmk_part); (case q => kmk_part); (case i => l_ints); (case m => first | exact kmk_all (by l_ints) | exact kmk_from (by l_ints) (by omega) | exact kmk_upto (by l_ints) (by omega) | exact kmk_run (by l_ints) (by omega) (by omega)); (case c => kmk_len); (case s => with_unfolding_all rfl); (case t => kmk_pure); (case z => exact kmk_sz (by l_ints) (by walk_at "my size"))); intro D' ws' h' F' N' l1 hI' hC' hL'; (try simp only [Int.reduceNeg, Int.neg_neg, Int.reduceToNat] at hI' hC' hL'); (try dsimp only); (try k_lt l1); (try k_sweep)))
-- CAddAt
theorem off_CAddAt : True := by w_top off; trivial
theorem add_at_con (w : World) {la lb : Addr} {va vb : List Value} {as bs : List Int} {na nb : Nat} {news : Led} {k sp : Int} {t ts : Tok} (hma : (la, listOf va.toArray na) ∈ news) (hmb : (lb, listOf vb.toArray nb) ∈ news) (hia : IntsAre va as) (hib : IntsAre vb bs)
  (hza : as.length < 100) (hzb : bs.length < 100) (hsp : 0 ≤ sp ∧ sp < 100) (hk : 2 ≤ k ∧ k ≤ 9) (hda : Good (2 ^ k.toNat) as) (hdb : Good (2 ^ k.toNat) bs) :
    Con w 16 128 35 [.ref la, .ref lb, .int sp ts, .int k t] news (NewInts news fun ms => Good (2 ^ k.toNat) ms ∧ val (2 ^ k.toNat) ms = val (2 ^ k.toNat) as + (2 ^ k.toNat) ^ sp.toNat * val (2 ^ k.toNat) bs ∧ ms.length ≤ max as.length (sp.toNat + bs.length) + 1) := by
  unfold Con
  k_fill
  intro p loose mean mg mb dp un gd cn cs a ccd cl outer A₀ base h₀ L m s Q E B F X N T hkk hdp hun ret
  refine wpAny_noRaise ?_
  refine wpAny_call ?_
  have hIa := hia.length
  have hIb := hib.length
  k_dflt ktr_enter
  k_steps
  · rename News _ _ _ ((_, listOf _ 0) :: news) => kN
    rename Fr h₀ L _ m => kF
    rename IntsAre _ as => hI
    rename (bs.length : Int) = 0 => hb0
    rename ∀ p ∈ news, p.1 < _ => hlt
    have hb : bs = [] := List.length_eq_zero_iff.mp (by omega)
    subst hb
    exact ret _ _ _ _ kF kN ⟨_, _, _, as, rfl, rfl, hlt, by assumption, hda, by simp [val], by omega⟩
  · rename Fr h₀ L _ m => kF
    rename News h₀ L _ _ => kN
    rename IntsAre _ (_ ++ bs) => hI
    rename (bs.length : Int) ≠ 0 => hb0
    rename (as.length : Int) ≤ sp => hle
    rename _ < _ ∧ _ < _ ∧ _ < _ ∧ AllLt _ news => hlt
    have e : (sp - (as.length : Int)).toNat = sp.toNat - as.length := by omega
    rw [e] at hI
    have hf := addAt_far hda hdb (by rintro rfl; simp at hb0) (show as.length ≤ sp.toNat by omega)
    exact ret_ints ret kF kN (by k_mem) (fun p9 h9 => by k_mem) (allLt_lt hlt.2.2.2) hI ⟨hf.1, hf.2, by simp only [List.length_append, List.length_replicate]; omega⟩
  · refine Stop.mk ?_
    rename (bs.length : Int) ≠ 0 => hb0
    rename ¬ (as.length : Int) ≤ sp => hle
    rename IntsAre _ (as.drop sp.toNat) => hI2
    rename IntsAre _ (as.take sp.toNat) => hI1
    rename ∀ p ∈ news, p.1 < _ => hlt1
    rename _ < _ ∧ AllLt _ news => hlt2
    rename Below _ _ _ _ => B2
    rename Fr _ _ _ _ => F2
    rename (hd.heap_39 w.params).In _ => X2
    rename News _ _ _ _ => N2
    rename Top _ _ _ _ _ _ => T2
    have hdl : (as.drop sp.toNat).length = as.length - sp.toNat := List.length_drop
    refine (add_con w (by k_mem) (by k_mem) hI2 hib (by omega) hzb hk (hda.drop _) hdb).use B2 F2 X2 N2 T2 rfl (by show dp + 1 + 8 < recursionLimit; omega) (by show un + 3 + 64 < cLine; omega) ?_
    rintro v nx h3 tk3 F3 N3 ⟨r, vs, n, ms, rfl, rfl, hlt3, hI3, hG, hv, hl3⟩
    have hI1l := hI1.length
    have hI3l := hI3.length
    k_steps
    rename Fr h₀ L _ m => kF
    rename News h₀ L _ _ => kN
    rename IntsAre _ (as.take sp.toNat ++ ms) => hI
    rename _ < _ ∧ _ < _ ∧ _ < _ ∧ AllLt _ news => hlt
    have hf := addAt_near hda hdb (show sp.toNat < as.length by omega) hG hv
    exact ret_ints ret kF kN (by k_mem) (fun p9 h9 => by k_mem) (allLt_lt hlt.2.2.2) hI ⟨hf.1, hf.2, by simp only [List.length_append, List.length_take]; omega⟩
end
section
local macro_rules | `(tactic| is_list) => `(tactic| exact News.isList (by k_asm) (by k_mem))
local macro_rules | `(tactic| k_mem) => `(tactic| first | assumption | exact List.mem_cons_self | (refine List.mem_cons_of_mem _ ?_; k_mem))
local macro_rules | `(tactic| k_all) => `(tactic| first | exact allLt_ne (by assumption) | exact lt_ne (by assumption) | assumption)
local macro_rules | `(tactic| walk_at "pyIter ref") => `(tactic| refine Stop.out ?_)
local macro_rules | `(tactic| walk_at "TP") => `(tactic| dsimp only [TP])
local macro_rules | `(tactic| walk_at "WP") => `(tactic| dsimp only [WP])
local macro_rules | `(tactic| walk_at "my all") => `(tactic| first | exact List.forall_mem_nil _ | (refine List.forall_mem_cons.mpr ⟨by with_unfolding_all rfl, ?_⟩; walk_at "my all"))
local macro_rules | `(tactic| size_fits) => `(tactic| ((simp only [List.size_toArray, List.length_append, List.length_cons, List.length_nil, PySem.sizeLine_eq]); omega))
local macro_rules | `(tactic| walk_at "call ref") => `(tactic| refine Stop.out ?_)
local macro_rules | `(tactic| walk_at "binaryOp Mult ref int") => `(tactic| (k_here; (with_reducible show wpAny _ _ (binaryOp Operator.Mult (Value.ref _) (Value.int _ _)) _ _ _); k_dflt (refine' mul_zeros ?F ?N ?m ?a ?b ?_; (case F => k_asm); (case N => k_asm); (case m => k_mem); (case a => omega); (case b => omega)); intro D' ws' h' F' N' l1 hI'; (try dsimp only); (try k_lt l1); (try k_sweep)))
local macro_rules | `(tactic| walk_at "binaryOp Add ref ref") => `(tactic| (k_here; (with_reducible show wpAny _ _ (binaryOp _ (Value.ref _) (Value.ref _)) _ _ _); k_dflt (refine' kmk_add_ints ?F ?N ?a ?b ?i ?j ?_ ?z; (case F => k_asm); (case N => k_asm); (case a => is_list); (case b => is_list); (case i => l_ints); (case j => l_ints); (case z => ((simp only [PySem.sizeLine_eq, List.length_append, List.length_replicate, List.length_take, List.length_drop, List.length_cons, List.length_nil]); omega))); intro D' ws' h' F' N' l1 hI'; (try dsimp only); (try k_lt l1); (try k_sweep)))
local macro_rules | `(tactic| walk_at "my size") => `(tactic| ((simp only [PySem.sizeLine_eq, List.length_append, List.length_replicate, List.length_take, List.length_drop, List.length_cons, List.length_nil, List.length_reverse]); omega))
local macro_rules | `(tactic| walk_at "subscriptTail Name Slice ref ref") => `(tactic| (k_here; (with_reducible show wpAny _ _ (subscriptTail _ (PySem.Expr.Slice _ _ none _) (Value.ref _) (Value.ref _)) _ _ _); k_dflt (refine' kmk_slice_ints ?F ?N ?l ?p ?q ?i ?m ?c ?_ ?s ?t ?z; (case F => k_asm); (case N => k_asm); (case l => is_list); (case p => kmk_part); (case q => kmk_part); (case i => l_ints); (case m => first | exact kmk_all (by l_ints) | exact kmk_from (by l_ints) (by omega) | exact kmk_upto (by l_ints) (by omega) | exact kmk_run (by l_ints) (by omega) (by omega)); (case c => kmk_len); (case s => with_unfolding_all rfl); (case t => kmk_pure); (case z => exact kmk_sz (by l_ints) (by walk_at "my size"))); intro D' ws' h' F' N' l1 hI' hC' hL'; (try simp only [Int.reduceNeg, Int.neg_neg, Int.reduceToNat] at hI' hC' hL'); (try dsimp only); (try k_lt l1); (try k_sweep)))
-- CPiece
theorem off_CPiece : True := by w_top off; trivial
theorem piece_con (w : World) {la : Addr} {va : List Value} {as : List Int} {na : Nat} {news : Led} {b e : Int} {tb te : Tok} (hma : (la, listOf va.toArray na) ∈ news) (hia : IntsAre va as)
  (hza : as.length < 100) (hb : 0 ≤ b) (he : 0 ≤ e) :
    Con w 16 128 42 [.ref la, .int b tb, .int e te] news (NewInts news fun ms => ms = norm ((as.drop b.toNat).take (min e.toNat as.length - b.toNat))) := by
  unfold Con
  k_fill
  intro p loose mean mg mb dp un gd cn cs a ccd cl outer A₀ base h₀ L m s Q E B F X N T hkk hdp hun ret
  refine wpAny_noRaise ?_
  refine wpAny_call ?_
  have hIa := hia.length
  k_dflt ktr_enter
  k_steps
  refine Stop.mk ?_
  rename IntsAre _ (_ : List Int) => hI2
  rename Below _ _ _ _ => B2
  rename Fr _ _ _ _ => F2
  rename (hd.heap_39 w.params).In _ => X2
  rename News _ _ _ _ => N2
  rename Top _ _ _ _ _ _ => T2
  rename ∀ p ∈ news, p.1 < _ => hlt
  refine (normal_con w (by k_mem) hI2 (by rw [List.length_take, List.length_drop]; omega)).use B2 F2 X2 N2 T2 rfl (by show dp + 1 + 8 < recursionLimit; omega) (by show un + 3 + 64 < cLine; omega) ?_
  rintro v nx h3 tk3 F3 N3 ⟨r, vs, n, ms, rfl, rfl, hlt3, hI3, hms⟩
  k_steps
  rename Fr h₀ L _ m => kF
  rename News h₀ L _ _ => kN
  exact ret_ints ret kF kN (by k_mem) (fun p9 h9 => by k_mem) (fun p9 h9 => hlt3 p9 (.tail _ h9)) hI3 hms
end
section
local macro_rules | `(tactic| is_list) => `(tactic| exact News.isList (by k_asm) (by k_mem))
local macro_rules | `(tactic| k_mem) => `(tactic| first | assumption | exact List.mem_cons_self | (refine List.mem_cons_of_mem _ ?_; k_mem))
local macro_rules | `(tactic| k_all) => `(tactic| first | exact allLt_ne (by assumption) | exact lt_ne (by assumption) | assumption)
local macro_rules | `(tactic| walk_at "pyIter ref") => `(tactic| refine Stop.out ?_)
local macro_rules | `(tactic| walk_at "TP") => `(tactic| dsimp only [TP])
local macro_rules | `(tactic| walk_at "WP") => `(tactic| dsimp only [WP])
local macro_rules | `(tactic| walk_at "my all") => `(tactic| first | exact List.forall_mem_nil _ | (refine List.forall_mem_cons.mpr ⟨by with_unfolding_all rfl, ?_⟩; walk_at "my all"))
local macro_rules | `(tactic| size_fits) => `(tactic| ((simp only [List.size_toArray, List.length_append, List.length_cons, List.length_nil, PySem.sizeLine_eq]); omega))
local macro_rules | `(tactic| walk_at "call ref") => `(tactic| refine Stop.out ?_)
local macro_rules | `(tactic| walk_at "binaryOp Mult ref int") => `(tactic| (k_here; (with_reducible show wpAny _ _ (binaryOp Operator.Mult (Value.ref _) (Value.int _ _)) _ _ _); k_dflt (refine' mul_zeros ?F ?N ?m ?a ?b ?_; (case F => k_asm); (case N => k_asm); (case m => k_mem); (case a => omega); (case b => omega)); intro D' ws' h' F' N' l1 hI'; (try dsimp only); (try k_lt l1); (try k_sweep)))
local macro_rules | `(tactic| walk_at "binaryOp Add ref ref") => `(tactic| (k_here; (with_reducible show wpAny _ _ (binaryOp _ (Value.ref _) (Value.ref _)) _ _ _); k_dflt (refine' kmk_add_ints ?F ?N ?a ?b ?i ?j ?_ ?z; (case F => k_asm); (case N => k_asm); (case a => is_list); (case b => is_list); (case i => l_ints); (case j => l_ints); (case z => ((simp only [PySem.sizeLine_eq, List.length_append, List.length_replicate, List.length_take, List.length_drop, List.length_cons, List.length_nil]); omega))); intro D' ws' h' F' N' l1 hI'; (try dsimp only); (try k_lt l1); (try k_sweep)))
local macro_rules | `(tactic| walk_at "my size") => `(tactic| ((simp only [PySem.sizeLine_eq, List.length_append, List.length_replicate, List.length_take, List.length_drop, List.length_cons, List.length_nil, List.length_reverse]); omega))
local macro_rules | `(tactic| walk_at "subscriptTail Name Slice ref ref") => `(tactic| (k_here; (with_reducible show wpAny _ _ (subscriptTail _ (PySem.Expr.Slice _ _ none _) (Value.ref _) (Value.ref _)) _ _ _); k_dflt (refine' kmk_slice_ints ?F ?N ?l ?p ?q ?i ?m ?c ?_ ?s ?t ?z; (case F => k_asm); (case N => k_asm); (case l => is_list); (case p => kmk_part); (case q => kmk_part); (case i => l_ints); (case m => first | exact kmk_all (by l_ints) | exact kmk_from (by l_ints) (by omega) | exact kmk_upto (by l_ints) (by omega) | exact kmk_run (by l_ints) (by omega) (by omega)); (case c => kmk_len); (case s => with_unfolding_all rfl); (case t => kmk_pure); (case z => exact kmk_sz (by l_ints) (by walk_at "my size"))); intro D' ws' h' F' N' l1 hI' hC' hL'; (try simp only [Int.reduceNeg, Int.neg_neg, Int.reduceToNat] at hI' hC' hL'); (try dsimp only); (try k_lt l1); (try k_sweep)))
local macro_rules | `(tactic| walk_at "my for") => `(tactic| (k_here; (rename Fr _ _ _ _ => lF'); (with_unfolding_all refine' For_invVF lF' ?k1 ?k2 ?_; (case k1 => exact rfl); (case k2 => exact rfl); k_whole)))
local macro_rules | `(tactic| walk_at "exec For Name Subscript cons nil") => `(tactic| walk_at "my for")
local macro_rules | `(tactic| walk_at "subscriptTail Name Slice ref ref") => `(tactic| (k_here; (with_reducible show wpAny _ _ (subscriptTail _ (PySem.Expr.Slice none none (some _) _) (Value.ref _) (Value.ref _)) _ _ _); k_dflt (refine' krv_ints ?F ?N ?l ?k ?i ?_ ?s ?t ?z; (case F => k_asm); (case N => k_asm); (case l => is_list); (case k => exact IsPart.int _ _); (case i => l_ints); (case s => with_unfolding_all rfl); (case t => kmk_pure); (case z => exact kmk_sz (by l_ints) (by walk_at "my size"))); intro D' ws' h' F' N' l1 hI' hC'; (try dsimp only); (try k_lt l1); (try k_sweep)))
local macro_rules | `(tactic| walk_at "my units") => `(tactic| ((dsimp only [Around.deeper, ktrTop]); omega))
local macro_rules | `(tactic| walk_at "compareOp NotEq ref ref") => `(tactic| (k_here; (with_reducible show wpAny _ _ (compareOp CmpOp.NotEq (Value.ref _) (Value.ref _)) _ _ _); k_dflt (refine' ke_ne_ints ?a ?b ?i ?j ?u ?_; (case a => is_list); (case b => is_list); (case i => l_ints); (case j => l_ints); (case u => walk_at "my units"))))
local macro_rules | `(tactic| walk_at "compareOp Eq ref ref") => `(tactic| (k_here; (with_reducible show wpAny _ _ (compareOp CmpOp.Eq (Value.ref _) (Value.ref _)) _ _ _); k_dflt (refine' ke_eq_ints ?a ?b ?i ?j ?u ?_; (case a => is_list); (case b => is_list); (case i => l_ints); (case j => l_ints); (case u => walk_at "my units"))))
local macro_rules | `(tactic| walk_at "exec While Compare cons nil") => `(tactic| refine Stop.out ?_)
local macro_rules | `(tactic| walk_at "WT") => `(tactic| dsimp only [WT])
local macro_rules | `(tactic| walk_at "exec While BoolOp cons nil") => `(tactic| refine Stop.out ?_)
local macro_rules | `(tactic| walk_at "exec Assign cons ListComp") => `(tactic| refine Stop.out ?_)
local macro_rules | `(tactic| walk_at "my enterC") => `(tactic| (refine' code_defC ?k1 ?k2 ?k3 ?k4 ?k5 ?kA ?kF ?kK ?k6 ?k7 ?k8 ?k9 ?kB ?kD ?_ ?c2 ?c3 ?c4; (case kA => exact rfl); (case kF => exact rfl); (case kK => assumption); (case k1 => k_asm); (case k2 => k_asm); (case k3 => k_asm); (case k4 => k_asm); (case k5 => k_asm); (case k6 => k_is); (case k7 => k_is); (case k8 => ktr_room); (case k9 => exact BindsTo.of_eq rfl); (case kB => exact rfl); (case kD => decide +kernel); (case c2 => exact rfl); (case c3 => exact rfl); (case c4 => exact rfl); k_whole; intro g' L' h' tk' cells' FG' F' N' Y' B' X' T' l1; (try k_lt l1); k_cells Y'; (try simp only [List.cons_append, List.nil_append] at N'); (try dsimp only); (try k_fold)))
local macro_rules | `(tactic| walk_at "my comp") => `(tactic| ((rename Fr _ _ _ _ => lF'); (with_unfolding_all refine' assign_comp lF' ?hsw ?hL ?hclos ?hcell ?hkind ?hnames ?hx ?hy ?hp ?_ ?hs); (case hsw => with_unfolding_all rfl); (case hL => with_unfolding_all rfl); (case hclos => with_unfolding_all rfl); (case hcell => decide); (case hkind => with_unfolding_all rfl); (case hnames => decide); (case hx => with_unfolding_all rfl); (case hy => with_unfolding_all rfl); (case hp => with_unfolding_all rfl); (case hs => intro _; with_unfolding_all rfl)))
local macro_rules | `(tactic| walk_at "callWith ref") => `(tactic| (k_here; k_dflt (refine' callWith_F ?k1 ?_; (case k1 => exact FnAt.of (by k_asm) (by k_mem)); k_whole)))
local macro_rules | `(tactic| walk_at "FnAt") => `(tactic| (k_dflt (exact FnAt.of (by k_asm) (by k_mem))))
local macro_rules | `(tactic| walk_at "exec FunctionDef") => `(tactic| refine Stop.out ?_)
local macro_rules | `(tactic| walk_at "my enterN") => `(tactic| (refine' code_nest ?k1 ?k2 ?k3 ?k4 ?k5 ?kA ?kF ?kK ?k6 ?k7 ?k8 ?k9 ?kB ?_ ?c2 ?c3 ?c4 ?c5; (case kA => exact rfl); (case kF => exact rfl); (case kK => assumption); (case k1 => k_asm); (case k2 => k_asm); (case k3 => k_asm); (case k4 => k_asm); (case k5 => k_asm); (case k6 => k_mem); (case k7 => exact codeRec_news (by k_asm) (by k_mem) (by assumption) (by assumption)); (case k8 => ktr_room); (case k9 => exact BindsTo.of_eq rfl); (case c5 => decide); (case kB => exact locs rfl); (case c2 => exact rfl); (case c3 => exact rfl); (case c4 => exact rfl); k_whole; intro g' L' h' FG' F' N' B' X' T'; (try dsimp only); (try k_fold)))
-- CWhole
theorem off_CWhole : True := by w_top off; trivial
theorem top0_getD {as : List Int} (h : Top0 as) (hne : as ≠ []) : as.getD (-1 + (as.length : Int)).toNat 0 ≠ 0 := by
  cases hl : as.length with
  | zero => exact absurd (List.length_eq_zero_iff.mp hl) hne
  | succ n =>
    obtain ⟨is, d, rfl, hn⟩ := snoc_of_len hl
    have e : (-1 + ((n + 1 : Nat) : Int)).toNat = is.length := by omega
    rw [e, List.getD_eq_getElem?_getD, List.getElem?_append_right (Nat.le_refl _)]
    simpa using (top0_iff_snoc _ _).mp h
theorem val_rev_step (B : Int) (as : List Int) (i : Nat) (x : Int) (h : as.reverse[i]? = some x) : val B (as.reverse.take (i + 1)).reverse = val B (as.reverse.take i).reverse * B + x := by
  rw [List.take_add_one, h]
  simp only [Option.toList_some, List.reverse_append, List.reverse_cons, List.reverse_nil, List.nil_append, List.singleton_append, val]
  rw [Int.mul_comm]
  omega
theorem whole_con (w : World) {la : Addr} {va : List Value} {as : List Int} {na : Nat} {news : Led} {k : Int} {t : Tok} (hma : (la, listOf va.toArray na) ∈ news) (hia : IntsAre va as)
  (hza : as.length < 100) (hk : 2 ≤ k ∧ k ≤ 9) (hda : Good (2 ^ k.toNat) as) :
    Con w 8 100 75 [.ref la, .int k t] news (fun v nx => ∃ t', v = .int (val (2 ^ k.toNat) as) t' ∧ nx = news) := by
  unfold Con
  k_fill
  intro p loose mean mg mb dp un gd cn cs a ccd cl outer A₀ base h₀ L m s Q E B F X N T hkk hdp hun ret
  refine wpAny_noRaise ?_
  refine wpAny_call ?_
  have hIa := hia.length
  k_dflt ktr_enter
  k_steps
  rename_i D ws _ F2 N2 l1 hI hC
  refine Stop.mk ?_
  refine' my_listD (σ := Int × Tok) (nn := 0) (fun _ => (D, listOf ws.toArray 0) :: news) (fun c => [(Str.ofString "found", .int c.1 c.2), (Str.ofString "limbs", .ref la), (Str.ofString "w", .int k t)])
    (fun i c => c.1 = val (2 ^ k.toNat) (as.reverse.take i).reverse) (0, _) (by rfl) (fun _ => List.mem_cons_self) F2 N2 (by walk_at "my all") (by simp [val]) ?turn ?done
  case turn =>
    rintro i v ⟨f, tf⟩ u h tk I o hv hP hlt hne F3 N3
    dsimp only [kstB] at hP F3
    have hil : i < as.reverse.length := by
      rw [← hI.length]
      exact (List.getElem?_eq_some_iff.mp hv).1
    obtain ⟨tx, hx⟩ := hI.get i as.reverse[i] (List.getElem?_eq_getElem hil)
    rw [hx] at hv
    cases hv
    have hd1 := hda.1 as.reverse[i] (List.mem_reverse.mp (List.getElem_mem hil))
    have hs := val_rev_step (2 ^ k.toNat) as i _ (List.getElem?_eq_getElem hil)
    generalize as.reverse[i] = x at hd1 hs F3 hx
    have hp1 := pow_le_512 hk.2
    have hp2 := two_le_pow hk.1
    k_steps
    rename_i F5 N5
    refine ⟨(_, _), _, _, _, rfl, F5, N5, hne, by walk_at "my all", ?_⟩
    show _ = _
    rw [hs, ← hP, Int.one_mul]
  case done =>
    rintro ⟨f, tf⟩ u h tk hP F3 N3
    dsimp only [kstB] at hP F3 ⊢
    rw [List.take_of_length_le (by rw [hI.length]; exact Nat.le_refl _), List.reverse_reverse] at hP
    by_cases he : as = []
    · k_steps
      rename Fr h₀ L _ m => kF
      rename News h₀ L _ _ => kN
      exact ret _ _ _ _ kF (kst_newsOf kN (fun p9 h9 => by k_mem)) ⟨_, by rw [hP], rfl⟩
    · have hpos := List.length_pos_iff.mpr he
      have hlast := top0_getD hda.2 he
      k_steps
      · rename as.getD _ 0 = 0 => h9
        exact absurd h9 hlast
      · rename Fr h₀ L _ m => kF
        rename News h₀ L _ _ => kN
        exact ret _ _ _ _ kF (kst_newsOf kN (fun p9 h9 => by k_mem)) ⟨_, by rw [hP], rfl⟩
end
section
local macro_rules | `(tactic| is_list) => `(tactic| exact News.isList (by k_asm) (by k_mem))
local macro_rules | `(tactic| k_mem) => `(tactic| first | assumption | exact List.mem_cons_self | (refine List.mem_cons_of_mem _ ?_; k_mem))
local macro_rules | `(tactic| k_all) => `(tactic| first | exact allLt_ne (by assumption) | exact lt_ne (by assumption) | assumption)
local macro_rules | `(tactic| walk_at "pyIter ref") => `(tactic| refine Stop.out ?_)
local macro_rules | `(tactic| walk_at "TP") => `(tactic| dsimp only [TP])
local macro_rules | `(tactic| walk_at "WP") => `(tactic| dsimp only [WP])
local macro_rules | `(tactic| walk_at "my all") => `(tactic| first | exact List.forall_mem_nil _ | (refine List.forall_mem_cons.mpr ⟨by with_unfolding_all rfl, ?_⟩; walk_at "my all"))
local macro_rules | `(tactic| size_fits) => `(tactic| ((simp only [List.size_toArray, List.length_append, List.length_cons, List.length_nil, PySem.sizeLine_eq]); omega))
local macro_rules | `(tactic| walk_at "call ref") => `(tactic| refine Stop.out ?_)
local macro_rules | `(tactic| walk_at "binaryOp Mult ref int") => `(tactic| (k_here; (with_reducible show wpAny _ _ (binaryOp Operator.Mult (Value.ref _) (Value.int _ _)) _ _ _); k_dflt (refine' mul_zeros ?F ?N ?m ?a ?b ?_; (case F => k_asm); (case N => k_asm); (case m => k_mem); (case a => omega); (case b => omega)); intro D' ws' h' F' N' l1 hI'; (try dsimp only); (try k_lt l1); (try k_sweep)))
local macro_rules | `(tactic| walk_at "binaryOp Add ref ref") => `(tactic| (k_here; (with_reducible show wpAny _ _ (binaryOp _ (Value.ref _) (Value.ref _)) _ _ _); k_dflt (refine' kmk_add_ints ?F ?N ?a ?b ?i ?j ?_ ?z; (case F => k_asm); (case N => k_asm); (case a => is_list); (case b => is_list); (case i => l_ints); (case j => l_ints); (case z => ((simp only [PySem.sizeLine_eq, List.length_append, List.length_replicate, List.length_take, List.length_drop, List.length_cons, List.length_nil]); omega))); intro D' ws' h' F' N' l1 hI'; (try dsimp only); (try k_lt l1); (try k_sweep)))
local macro_rules | `(tactic| walk_at "my size") => `(tactic| ((simp only [PySem.sizeLine_eq, List.length_append, List.length_replicate, List.length_take, List.length_drop, List.length_cons, List.length_nil, List.length_reverse]); omega))
local macro_rules | `(tactic| walk_at "subscriptTail Name Slice ref ref") => `(tactic| (k_here; (with_reducible show wpAny _ _ (subscriptTail _ (PySem.Expr.Slice _ _ none _) (Value.ref _) (Value.ref _)) _ _ _); k_dflt (refine' kmk_slice_ints ?F ?N ?l ?p ?q ?i ?m ?c ?_ ?s ?t ?z; (case F => k_asm); (case N => k_asm); (case l => is_list); (case p => kmk_part); (case q => kmk_part); (case i => l_ints); (case m => first | exact kmk_all (by l_ints) | exact kmk_from (by l_ints) (by omega) | exact kmk_upto (by l_ints) (by omega) | exact kmk_run (by l_ints) (by omega) (by omega)); (case c => kmk_len); (case s => with_unfolding_all rfl); (case t => kmk_pure); (case z => exact kmk_sz (by l_ints) (by walk_at "my size"))); intro D' ws' h' F' N' l1 hI' hC' hL'; (try simp only [Int.reduceNeg, Int.neg_neg, Int.reduceToNat] at hI' hC' hL'); (try dsimp only); (try k_lt l1); (try k_sweep)))
local macro_rules | `(tactic| walk_at "my for") => `(tactic| (k_here; (rename Fr _ _ _ _ => lF'); (with_unfolding_all refine' For_invVF lF' ?k1 ?k2 ?_; (case k1 => exact rfl); (case k2 => exact rfl); k_whole)))
local macro_rules | `(tactic| walk_at "exec For Name Subscript cons nil") => `(tactic| walk_at "my for")
local macro_rules | `(tactic| walk_at "subscriptTail Name Slice ref ref") => `(tactic| (k_here; (with_reducible show wpAny _ _ (subscriptTail _ (PySem.Expr.Slice none none (some _) _) (Value.ref _) (Value.ref _)) _ _ _); k_dflt (refine' krv_ints ?F ?N ?l ?k ?i ?_ ?s ?t ?z; (case F => k_asm); (case N => k_asm); (case l => is_list); (case k => exact IsPart.int _ _); (case i => l_ints); (case s => with_unfolding_all rfl); (case t => kmk_pure); (case z => exact kmk_sz (by l_ints) (by walk_at "my size"))); intro D' ws' h' F' N' l1 hI' hC'; (try dsimp only); (try k_lt l1); (try k_sweep)))
local macro_rules | `(tactic| walk_at "my units") => `(tactic| ((dsimp only [Around.deeper, ktrTop]); omega))
local macro_rules | `(tactic| walk_at "compareOp NotEq ref ref") => `(tactic| (k_here; (with_reducible show wpAny _ _ (compareOp CmpOp.NotEq (Value.ref _) (Value.ref _)) _ _ _); k_dflt (refine' ke_ne_ints ?a ?b ?i ?j ?u ?_; (case a => is_list); (case b => is_list); (case i => l_ints); (case j => l_ints); (case u => walk_at "my units"))))
local macro_rules | `(tactic| walk_at "compareOp Eq ref ref") => `(tactic| (k_here; (with_reducible show wpAny _ _ (compareOp CmpOp.Eq (Value.ref _) (Value.ref _)) _ _ _); k_dflt (refine' ke_eq_ints ?a ?b ?i ?j ?u ?_; (case a => is_list); (case b => is_list); (case i => l_ints); (case j => l_ints); (case u => walk_at "my units"))))
local macro_rules | `(tactic| walk_at "exec While Compare cons nil") => `(tactic| refine Stop.out ?_)
local macro_rules | `(tactic| walk_at "WT") => `(tactic| dsimp only [WT])
-- CTold
theorem off_CTold : True := by w_top off; trivial
structure ToldS where
  n : Int
  t : Tok
  vs : List Value
  fs : List Int
  c : Nat
def ToldG (B N n : Int) (fs : List Int) : Prop := Dig B fs ∧ 0 ≤ n ∧ val B fs + B ^ fs.length * n = N ∧ (n = 0 → Top0 fs) ∧ fs.length ≤ 200 ∧ n < 2 ^ (200 - fs.length)
theorem told_nil {B N : Int} (h : 0 ≤ N ∧ N < 2 ^ 200) : ToldG B N N [] := by
  refine ⟨(fun _ h => nomatch h), h.1, by simp [val], fun _ => top0_nil, by simp, by simpa using h.2⟩
theorem told_step {k : Int} {N n : Int} {fs : List Int} (hk : 2 ≤ k) (h : ToldG (2 ^ k.toNat) N n fs) (hp : 0 < n) :
    ToldG (2 ^ k.toNat) N (n.fdiv (2 ^ k.toNat)) (fs ++ [n.fmod (1 * 2 ^ k.toNat)]) ∧ (n.fdiv (2 ^ k.toNat)).toNat < n.toNat := by
  obtain ⟨h1, h2, h3, h4, h5, h6⟩ := h
  have hB : (0 : Int) < 2 ^ k.toNat := kbt_pos _
  have hB4 := two_le_pow hk
  rw [Int.one_mul]
  have hr := kbt_rest n k.toNat
  have hw := kbt_whole n k.toNat
  have hq0 : 0 ≤ n.fdiv (2 ^ k.toNat) := by
    rw [Int.fdiv_eq_ediv_of_nonneg _ (Int.le_of_lt hB)]
    exact Int.ediv_nonneg h2 (Int.le_of_lt hB)
  generalize n.fdiv (2 ^ k.toNat) = q at *
  generalize n.fmod (2 ^ k.toNat) = r at *
  have hq4 : q * 4 ≤ q * 2 ^ k.toNat := Int.mul_le_mul_of_nonneg_left hB4 hq0
  have hl : fs.length < 200 := by
    rcases Nat.lt_or_ge fs.length 200 with hl | hl
    · exact hl
    · rw [show 200 - fs.length = 0 by omega] at h6
      simp at h6
      omega
  have e : (2 : Int) ^ (200 - fs.length) = 2 ^ (200 - (fs.length + 1)) * 2 := by
    rw [← Int.pow_succ]
    congr 1
    omega
  refine ⟨⟨h1.append (Dig.one hr), hq0, ?_, ?_, by rw [List.length_append]; simp; omega, ?_⟩, by omega⟩
  · rw [val_snoc, List.length_append, List.length_cons, List.length_nil, Nat.zero_add, Int.pow_succ, ← h3, ← hw, Int.mul_add, Int.mul_assoc, Int.mul_comm q]
    omega
  · rintro rfl
    rw [top0_iff_snoc]
    omega
  · rw [List.length_append, List.length_cons, List.length_nil, Nat.zero_add]
    generalize (2 : Int) ^ (200 - (fs.length + 1)) = P at *
    omega
theorem told_con (w : World) {news : Led} {k n : Int} {t tn : Tok} (hn : 0 ≤ n ∧ n < 2 ^ 200) (hk : 2 ≤ k ∧ k ≤ 9) :
    Con w 8 100 82 [.int n tn, .int k t] news (NewInts news fun ms => Good (2 ^ k.toNat) ms ∧ val (2 ^ k.toNat) ms = n ∧ ms.length ≤ 200) := by
  unfold Con
  k_fill
  intro p loose mean mg mb dp un gd cn cs a ccd cl outer A₀ base h₀ L m s Q E B F X N T hkk hdp hun ret
  refine wpAny_noRaise ?_
  refine wpAny_call ?_
  k_dflt ktr_enter
  refine wpAny_noRaise ?_
  k_steps
  rename_i l' _ l1 _ F2 N2
  refine Stop.mk ?_
  refine' my_while (σ := ToldS) (fun c => (l', listOf c.vs.toArray c.c) :: news) (fun c => [(Str.ofString "found", .ref l'), (Str.ofString "number", .int c.n c.t), (Str.ofString "w", .int k t)])
    (fun c => IntsAre c.vs c.fs ∧ ToldG (2 ^ k.toNat) n c.n c.fs) (fun c => c.n.toNat) ⟨n, tn, [], [], 0⟩ F2 N2 (by walk_at "my all") ?p0 ?turn PassesOwn.never
  case p0 => exact ⟨.nil, told_nil hn⟩
  case turn =>
    rintro ⟨n', t', vs, fs, c⟩ u h tk ⟨hI, hG⟩ F3 N3
    dsimp only [kstB] at hI hG F3 N3 ⊢
    have hIl := hI.length
    have hlen := hG.2.2.2.2.1
    by_cases h0 : 0 < n'
    · k_steps
      rename_i F5 N5
      simp only [List.push_toArray] at N5
      have hst := told_step hk.1 hG h0
      exact ⟨⟨_, _, vs ++ [_], fs ++ [_], c + 1⟩, _, _, _, rfl, F5, N5, by walk_at "my all", ⟨IntsAre.append hI (.cons _ _ .nil), hst.1⟩, hst.2⟩
    · k_steps
      rename Fr h₀ L _ m => kF
      rename News h₀ L _ _ => kN
      obtain ⟨g1, g2, g3, g4, g5, g6⟩ := hG
      have e0 : n' = 0 := by omega
      subst e0
      rw [Int.mul_zero, Int.add_zero] at g3
      exact ret_ints ret kF kN (by k_mem) (fun p9 h9 => by k_mem) l1 hI ⟨⟨g1, g4 rfl⟩, g3, g5⟩
end
section
local macro_rules | `(tactic| is_list) => `(tactic| exact News.isList (by k_asm) (by k_mem))
local macro_rules | `(tactic| k_mem) => `(tactic| first | assumption | exact List.mem_cons_self | (refine List.mem_cons_of_mem _ ?_; k_mem))
local macro_rules | `(tactic| k_all) => `(tactic| first | exact allLt_ne (by assumption) | exact lt_ne (by assumption) | assumption)
local macro_rules | `(tactic| walk_at "pyIter ref") => `(tactic| refine Stop.out ?_)
local macro_rules | `(tactic| walk_at "TP") => `(tactic| dsimp only [TP])
local macro_rules | `(tactic| walk_at "WP") => `(tactic| dsimp only [WP])
local macro_rules | `(tactic| walk_at "my all") => `(tactic| first | exact List.forall_mem_nil _ | (refine List.forall_mem_cons.mpr ⟨by with_unfolding_all rfl, ?_⟩; walk_at "my all"))
local macro_rules | `(tactic| size_fits) => `(tactic| ((simp only [List.size_toArray, List.length_append, List.length_cons, List.length_nil, PySem.sizeLine_eq]); omega))
local macro_rules | `(tactic| walk_at "call ref") => `(tactic| refine Stop.out ?_)
local macro_rules | `(tactic| walk_at "binaryOp Mult ref int") => `(tactic| (k_here; (with_reducible show wpAny _ _ (binaryOp Operator.Mult (Value.ref _) (Value.int _ _)) _ _ _); k_dflt (refine' mul_zeros ?F ?N ?m ?a ?b ?_; (case F => k_asm); (case N => k_asm); (case m => k_mem); (case a => omega); (case b => omega)); intro D' ws' h' F' N' l1 hI'; (try dsimp only); (try k_lt l1); (try k_sweep)))
local macro_rules | `(tactic| walk_at "binaryOp Add ref ref") => `(tactic| (k_here; (with_reducible show wpAny _ _ (binaryOp _ (Value.ref _) (Value.ref _)) _ _ _); k_dflt (refine' kmk_add_ints ?F ?N ?a ?b ?i ?j ?_ ?z; (case F => k_asm); (case N => k_asm); (case a => is_list); (case b => is_list); (case i => l_ints); (case j => l_ints); (case z => ((simp only [PySem.sizeLine_eq, List.length_append, List.length_replicate, List.length_take, List.length_drop, List.length_cons, List.length_nil]); omega))); intro D' ws' h' F' N' l1 hI'; (try dsimp only); (try k_lt l1); (try k_sweep)))
local macro_rules | `(tactic| walk_at "my size") => `(tactic| ((simp only [PySem.sizeLine_eq, List.length_append, List.length_replicate, List.length_take, List.length_drop, List.length_cons, List.length_nil, List.length_reverse]); omega))
local macro_rules | `(tactic| walk_at "subscriptTail Name Slice ref ref") => `(tactic| (k_here; (with_reducible show wpAny _ _ (subscriptTail _ (PySem.Expr.Slice _ _ none _) (Value.ref _) (Value.ref _)) _ _ _); k_dflt (refine' kmk_slice_ints ?F ?N ?l ?p ?q ?i ?m ?c ?_ ?s ?t ?z; (case F => k_asm); (case N => k_asm); (case l => is_list); (case p => kmk_part); (case q => kmk_part); (case i => l_ints); (case m => first | exact kmk_all (by l_ints) | exact kmk_from (by l_ints) (by omega) | exact kmk_upto (by l_ints) (by omega) | exact kmk_run (by l_ints) (by omega) (by omega)); (case c => kmk_len); (case s => with_unfolding_all rfl); (case t => kmk_pure); (case z => exact kmk_sz (by l_ints) (by walk_at "my size"))); intro D' ws' h' F' N' l1 hI' hC' hL'; (try simp only [Int.reduceNeg, Int.neg_neg, Int.reduceToNat] at hI' hC' hL'); (try dsimp only); (try k_lt l1); (try k_sweep)))
local macro_rules | `(tactic| walk_at "my for") => `(tactic| (k_here; (rename Fr _ _ _ _ => lF'); (with_unfolding_all refine' For_invVF lF' ?k1 ?k2 ?_; (case k1 => exact rfl); (case k2 => exact rfl); k_whole)))
local macro_rules | `(tactic| walk_at "exec For Name Subscript cons nil") => `(tactic| walk_at "my for")
local macro_rules | `(tactic| walk_at "subscriptTail Name Slice ref ref") => `(tactic| (k_here; (with_reducible show wpAny _ _ (subscriptTail _ (PySem.Expr.Slice none none (some _) _) (Value.ref _) (Value.ref _)) _ _ _); k_dflt (refine' krv_ints ?F ?N ?l ?k ?i ?_ ?s ?t ?z; (case F => k_asm); (case N => k_asm); (case l => is_list); (case k => exact IsPart.int _ _); (case i => l_ints); (case s => with_unfolding_all rfl); (case t => kmk_pure); (case z => exact kmk_sz (by l_ints) (by walk_at "my size"))); intro D' ws' h' F' N' l1 hI' hC'; (try dsimp only); (try k_lt l1); (try k_sweep)))
local macro_rules | `(tactic| walk_at "my units") => `(tactic| ((dsimp only [Around.deeper, ktrTop]); omega))
local macro_rules | `(tactic| walk_at "compareOp NotEq ref ref") => `(tactic| (k_here; (with_reducible show wpAny _ _ (compareOp CmpOp.NotEq (Value.ref _) (Value.ref _)) _ _ _); k_dflt (refine' ke_ne_ints ?a ?b ?i ?j ?u ?_; (case a => is_list); (case b => is_list); (case i => l_ints); (case j => l_ints); (case u => walk_at "my units"))))
local macro_rules | `(tactic| walk_at "compareOp Eq ref ref") => `(tactic| (k_here; (with_reducible show wpAny _ _ (compareOp CmpOp.Eq (Value.ref _) (Value.ref _)) _ _ _); k_dflt (refine' ke_eq_ints ?a ?b ?i ?j ?u ?_; (case a => is_list); (case b => is_list); (case i => l_ints); (case j => l_ints); (case u => walk_at "my units"))))
local macro_rules | `(tactic| walk_at "exec While Compare cons nil") => `(tactic| refine Stop.out ?_)
local macro_rules | `(tactic| walk_at "WT") => `(tactic| dsimp only [WT])
-- CCut
theorem off_CCut : True := by w_top off; trivial
def StackIs (st sc : Addr) (c : Int) (news : Led) : Prop := ∃ tc n, (st, listOf #[Value.int c tc, Value.ref sc] n) ∈ news
theorem cut_con (w : World) {st sc : Addr} {vs : List Value} {ns : List Int} {nn n2 : Nat} {rest : Led} {c many : Int} {t tc : Tok} (hsc : (sc, listOf vs.toArray nn) ∈ rest) (hi : IntsAre vs ns) (hne : ∀ p ∈ rest, p.1 ≠ st)
  (hz : ns.length < 100) (hc : 0 ≤ c ∧ c < 1000) (hm : 1 ≤ many ∧ many ≤ 1000) (hd : ∀ d ∈ ns, 0 ≤ d) :
    Con w 8 100 63 [.ref st, .int many t] ((st, listOf #[Value.int c tc, Value.ref sc] n2) :: rest) (fun v nx => ∃ x t' tc' n2', v = .int x t' ∧ 0 ≤ x ∧ x < many ∧ nx = (st, listOf #[Value.int (c + 1) tc', Value.ref sc] n2') :: rest) := by
  unfold Con
  k_fill
  intro p loose mean mg mb dp un gd cn cs a ccd cl outer A₀ base h₀ L m s Q E B F X N T hkk hdp hun ret
  refine wpAny_noRaise ?_
  refine wpAny_call ?_
  have hIa := hi.length
  k_dflt ktr_enter
  refine wpAny_noRaise ?_
  k_steps
  all_goals (
    rename Fr h₀ L _ m => kF
    rename News h₀ L _ _ => kN
    dsimp only at kF kN
    exact ret _ _ _ _ kF kN ⟨_, _, _, _, rfl, Int.fmod_nonneg_of_pos _ (by omega), Int.fmod_lt_of_pos _ (by omega), rfl⟩)
end
section
local macro_rules | `(tactic| is_list) => `(tactic| exact News.isList (by k_asm) (by k_mem))
local macro_rules | `(tactic| k_mem) => `(tactic| first | assumption | exact List.mem_cons_self | (refine List.mem_cons_of_mem _ ?_; k_mem))
local macro_rules | `(tactic| k_all) => `(tactic| first | exact allLt_ne (by assumption) | exact lt_ne (by assumption) | assumption)
local macro_rules | `(tactic| walk_at "pyIter ref") => `(tactic| refine Stop.out ?_)
local macro_rules | `(tactic| walk_at "TP") => `(tactic| dsimp only [TP])
local macro_rules | `(tactic| walk_at "WP") => `(tactic| dsimp only [WP])
local macro_rules | `(tactic| walk_at "my all") => `(tactic| first | exact List.forall_mem_nil _ | (refine List.forall_mem_cons.mpr ⟨by with_unfolding_all rfl, ?_⟩; walk_at "my all"))
local macro_rules | `(tactic| size_fits) => `(tactic| ((simp only [List.size_toArray, List.length_append, List.length_cons, List.length_nil, PySem.sizeLine_eq]); omega))
local macro_rules | `(tactic| walk_at "call ref") => `(tactic| refine Stop.out ?_)
local macro_rules | `(tactic| walk_at "binaryOp Mult ref int") => `(tactic| (k_here; (with_reducible show wpAny _ _ (binaryOp Operator.Mult (Value.ref _) (Value.int _ _)) _ _ _); k_dflt (refine' mul_zeros ?F ?N ?m ?a ?b ?_; (case F => k_asm); (case N => k_asm); (case m => k_mem); (case a => omega); (case b => omega)); intro D' ws' h' F' N' l1 hI'; (try dsimp only); (try k_lt l1); (try k_sweep)))
local macro_rules | `(tactic| walk_at "binaryOp Add ref ref") => `(tactic| (k_here; (with_reducible show wpAny _ _ (binaryOp _ (Value.ref _) (Value.ref _)) _ _ _); k_dflt (refine' kmk_add_ints ?F ?N ?a ?b ?i ?j ?_ ?z; (case F => k_asm); (case N => k_asm); (case a => is_list); (case b => is_list); (case i => l_ints); (case j => l_ints); (case z => ((simp only [PySem.sizeLine_eq, List.length_append, List.length_replicate, List.length_take, List.length_drop, List.length_cons, List.length_nil]); omega))); intro D' ws' h' F' N' l1 hI'; (try dsimp only); (try k_lt l1); (try k_sweep)))
local macro_rules | `(tactic| walk_at "my size") => `(tactic| ((simp only [PySem.sizeLine_eq, List.length_append, List.length_replicate, List.length_take, List.length_drop, List.length_cons, List.length_nil, List.length_reverse]); omega))
local macro_rules | `(tactic| walk_at "subscriptTail Name Slice ref ref") => `(tactic| (k_here; (with_reducible show wpAny _ _ (subscriptTail _ (PySem.Expr.Slice _ _ none _) (Value.ref _) (Value.ref _)) _ _ _); k_dflt (refine' kmk_slice_ints ?F ?N ?l ?p ?q ?i ?m ?c ?_ ?s ?t ?z; (case F => k_asm); (case N => k_asm); (case l => is_list); (case p => kmk_part); (case q => kmk_part); (case i => l_ints); (case m => first | exact kmk_all (by l_ints) | exact kmk_from (by l_ints) (by omega) | exact kmk_upto (by l_ints) (by omega) | exact kmk_run (by l_ints) (by omega) (by omega)); (case c => kmk_len); (case s => with_unfolding_all rfl); (case t => kmk_pure); (case z => exact kmk_sz (by l_ints) (by walk_at "my size"))); intro D' ws' h' F' N' l1 hI' hC' hL'; (try simp only [Int.reduceNeg, Int.neg_neg, Int.reduceToNat] at hI' hC' hL'); (try dsimp only); (try k_lt l1); (try k_sweep)))
local macro_rules | `(tactic| walk_at "my for") => `(tactic| (k_here; (rename Fr _ _ _ _ => lF'); (with_unfolding_all refine' For_invVF lF' ?k1 ?k2 ?_; (case k1 => exact rfl); (case k2 => exact rfl); k_whole)))
local macro_rules | `(tactic| walk_at "exec For Name Subscript cons nil") => `(tactic| walk_at "my for")
local macro_rules | `(tactic| walk_at "subscriptTail Name Slice ref ref") => `(tactic| (k_here; (with_reducible show wpAny _ _ (subscriptTail _ (PySem.Expr.Slice none none (some _) _) (Value.ref _) (Value.ref _)) _ _ _); k_dflt (refine' krv_ints ?F ?N ?l ?k ?i ?_ ?s ?t ?z; (case F => k_asm); (case N => k_asm); (case l => is_list); (case k => exact IsPart.int _ _); (case i => l_ints); (case s => with_unfolding_all rfl); (case t => kmk_pure); (case z => exact kmk_sz (by l_ints) (by walk_at "my size"))); intro D' ws' h' F' N' l1 hI' hC'; (try dsimp only); (try k_lt l1); (try k_sweep)))
local macro_rules | `(tactic| walk_at "my units") => `(tactic| ((dsimp only [Around.deeper, ktrTop]); omega))
local macro_rules | `(tactic| walk_at "compareOp NotEq ref ref") => `(tactic| (k_here; (with_reducible show wpAny _ _ (compareOp CmpOp.NotEq (Value.ref _) (Value.ref _)) _ _ _); k_dflt (refine' ke_ne_ints ?a ?b ?i ?j ?u ?_; (case a => is_list); (case b => is_list); (case i => l_ints); (case j => l_ints); (case u => walk_at "my units"))))
local macro_rules | `(tactic| walk_at "compareOp Eq ref ref") => `(tactic| (k_here; (with_reducible show wpAny _ _ (compareOp CmpOp.Eq (Value.ref _) (Value.ref _)) _ _ _); k_dflt (refine' ke_eq_ints ?a ?b ?i ?j ?u ?_; (case a => is_list); (case b => is_list); (case i => l_ints); (case j => l_ints); (case u => walk_at "my units"))))
local macro_rules | `(tactic| walk_at "exec While Compare cons nil") => `(tactic| refine Stop.out ?_)
local macro_rules | `(tactic| walk_at "WT") => `(tactic| dsimp only [WT])
local macro_rules | `(tactic| walk_at "exec While BoolOp cons nil") => `(tactic| refine Stop.out ?_)
-- CPiecesFor
theorem off_CPiecesFor : True := by w_top off; trivial
/-- the turns that are left, from p on -/
def pfGo (n least : Int) : Nat → Int → Int
  | 0, p => p
  | f + 1, p => if least ≤ n ∧ n.fmod (2 * p) = 0 ∧ 4 * p * p ≤ n then pfGo n least f (2 * p) else p
structure PfS where
  p : Int
  t : Tok
  f : Nat
theorem pfGo_stop {n least q : Int} (h : ¬ (least ≤ n ∧ n.fmod (2 * q) = 0 ∧ 4 * q * q ≤ n)) : ∀ f, pfGo n least f q = q
  | 0 => rfl
  | f + 1 => by rw [pfGo, if_neg h]
theorem pf_con (w : World) {news : Led} {n least : Int} {t tl : Tok} (hn : 0 ≤ n ∧ n < 8000) (hl : 0 ≤ least ∧ least < 10000) :
    Con w 8 100 56 [.int n t, .int least tl] news (fun v nx => ∃ t', v = .int (pfGo n least 13 1) t' ∧ nx = news) := by
  unfold Con
  k_fill
  intro p loose mean mg mb dp un gd cn cs a ccd cl outer A₀ base h₀ L m s Q E B F X N T hkk hdp hun ret
  refine wpAny_noRaise ?_
  refine wpAny_call ?_
  k_dflt ktr_enter
  refine wpAny_noRaise ?_
  k_steps
  rename_i F2 N2
  refine Stop.mk ?_
  refine' my_while (σ := PfS) (fun _ => news) (fun c => [(Str.ofString "pieces", .int c.p c.t), (Str.ofString "n", .int n t), (Str.ofString "least", .int least tl)])
    (fun c => 1 ≤ c.p ∧ c.p * 2 ^ c.f = 2 ^ 13 ∧ pfGo n least c.f c.p = pfGo n least 13 1) (fun c => c.f) ⟨1, _, 13⟩ F2 N2 (by walk_at "my all") ?p0 ?turn PassesOwn.never
  case p0 => exact ⟨(by omega : (1 : Int) ≤ 1), (by rfl : (1 : Int) * 2 ^ 13 = 2 ^ 13), rfl⟩
  case turn =>
    rintro ⟨q, tq, f⟩ u h tk ⟨h1, h2, h3⟩ F3 N3
    dsimp only [kstB] at h1 h2 h3 F3 N3 ⊢
    have hq : q ≤ 8192 := by
      have hp : (1 : Int) ≤ 2 ^ f := by have := kbt_pos f; omega
      have := Int.mul_le_mul_of_nonneg_left hp (show 0 ≤ q by omega)
      omega
    have hq0 : 2 * q ≠ 0 := by omega
    have fin : ¬ (least ≤ n ∧ n.fmod (2 * q) = 0 ∧ 4 * q * q ≤ n) → q = pfGo n least 13 1 := fun hh => by rw [← h3, pfGo_stop hh]
    k_steps
    · rename_i F5 N5
      rename least ≤ n => hc1
      rename n.fmod (2 * q) = 0 => hc2
      rename 4 * q * q ≤ n => hc3
      cases f with
      | zero =>
        have : q = 8192 := by simpa using h2
        subst this
        omega
      | succ f =>
        refine ⟨⟨_, _, f⟩, _, _, _, rfl, F5, N5, by walk_at "my all", ⟨by show (1 : Int) ≤ 2 * q; omega, ?_, ?_⟩, Nat.lt_succ_self f⟩
        · show 2 * q * 2 ^ f = 2 ^ 13
          rw [← h2, Int.pow_succ, Int.mul_comm 2 q, Int.mul_assoc, Int.mul_comm 2]
        · show pfGo n least f (2 * q) = _
          rw [← h3, pfGo, if_pos ⟨hc1, hc2, hc3⟩]
    all_goals (
      rename Fr h₀ L _ m => kF
      rename News h₀ L _ _ => kN
      exact ret _ _ _ _ kF kN ⟨tq, by rw [← fin (by rintro ⟨x1, x2, x3⟩; first | contradiction | omega)], rfl⟩)
end
section
local macro_rules | `(tactic| is_list) => `(tactic| exact News.isList (by k_asm) (by k_mem))
local macro_rules | `(tactic| k_mem) => `(tactic| first | assumption | exact List.mem_cons_self | (refine List.mem_cons_of_mem _ ?_; k_mem))
local macro_rules | `(tactic| k_all) => `(tactic| first | exact allLt_ne (by assumption) | exact lt_ne (by assumption) | assumption)
local macro_rules | `(tactic| walk_at "pyIter ref") => `(tactic| refine Stop.out ?_)
local macro_rules | `(tactic| walk_at "TP") => `(tactic| dsimp only [TP])
local macro_rules | `(tactic| walk_at "WP") => `(tactic| dsimp only [WP])
local macro_rules | `(tactic| walk_at "my all") => `(tactic| first | exact List.forall_mem_nil _ | (refine List.forall_mem_cons.mpr ⟨by with_unfolding_all rfl, ?_⟩; walk_at "my all"))
local macro_rules | `(tactic| size_fits) => `(tactic| ((simp only [List.size_toArray, List.length_append, List.length_cons, List.length_nil, PySem.sizeLine_eq]); omega))
local macro_rules | `(tactic| walk_at "call ref") => `(tactic| refine Stop.out ?_)
local macro_rules | `(tactic| walk_at "binaryOp Mult ref int") => `(tactic| (k_here; (with_reducible show wpAny _ _ (binaryOp Operator.Mult (Value.ref _) (Value.int _ _)) _ _ _); k_dflt (refine' mul_zeros ?F ?N ?m ?a ?b ?_; (case F => k_asm); (case N => k_asm); (case m => k_mem); (case a => omega); (case b => omega)); intro D' ws' h' F' N' l1 hI'; (try dsimp only); (try k_lt l1); (try k_sweep)))
local macro_rules | `(tactic| walk_at "binaryOp Add ref ref") => `(tactic| (k_here; (with_reducible show wpAny _ _ (binaryOp _ (Value.ref _) (Value.ref _)) _ _ _); k_dflt (refine' kmk_add_ints ?F ?N ?a ?b ?i ?j ?_ ?z; (case F => k_asm); (case N => k_asm); (case a => is_list); (case b => is_list); (case i => l_ints); (case j => l_ints); (case z => ((simp only [PySem.sizeLine_eq, List.length_append, List.length_replicate, List.length_take, List.length_drop, List.length_cons, List.length_nil]); omega))); intro D' ws' h' F' N' l1 hI'; (try dsimp only); (try k_lt l1); (try k_sweep)))
local macro_rules | `(tactic| walk_at "my size") => `(tactic| ((simp only [PySem.sizeLine_eq, List.length_append, List.length_replicate, List.length_take, List.length_drop, List.length_cons, List.length_nil, List.length_reverse]); omega))
local macro_rules | `(tactic| walk_at "subscriptTail Name Slice ref ref") => `(tactic| (k_here; (with_reducible show wpAny _ _ (subscriptTail _ (PySem.Expr.Slice _ _ none _) (Value.ref _) (Value.ref _)) _ _ _); k_dflt (refine' kmk_slice_ints ?F ?N ?l ?p ?q ?i ?m ?c ?_ ?s ?t ?z; (case F => k_asm); (case N => k_asm); (case l => is_list); (case p => kmk_part); (case q => kmk_part); (case i => l_ints); (case m => first | exact kmk_all (by l_ints) | exact kmk_from (by l_ints) (by omega) | exact kmk_upto (by l_ints) (by omega) | exact kmk_run (by l_ints) (by omega) (by omega)); (case c => kmk_len); (case s => with_unfolding_all rfl); (case t => kmk_pure); (case z => exact kmk_sz (by l_ints) (by walk_at "my size"))); intro D' ws' h' F' N' l1 hI' hC' hL'; (try simp only [Int.reduceNeg, Int.neg_neg, Int.reduceToNat] at hI' hC' hL'); (try dsimp only); (try k_lt l1); (try k_sweep)))
local macro_rules | `(tactic| walk_at "my for") => `(tactic| (k_here; (rename Fr _ _ _ _ => lF'); (with_unfolding_all refine' For_invVF lF' ?k1 ?k2 ?_; (case k1 => exact rfl); (case k2 => exact rfl); k_whole)))
local macro_rules | `(tactic| walk_at "exec For Name Subscript cons nil") => `(tactic| walk_at "my for")
local macro_rules | `(tactic| walk_at "subscriptTail Name Slice ref ref") => `(tactic| (k_here; (with_reducible show wpAny _ _ (subscriptTail _ (PySem.Expr.Slice none none (some _) _) (Value.ref _) (Value.ref _)) _ _ _); k_dflt (refine' krv_ints ?F ?N ?l ?k ?i ?_ ?s ?t ?z; (case F => k_asm); (case N => k_asm); (case l => is_list); (case k => exact IsPart.int _ _); (case i => l_ints); (case s => with_unfolding_all rfl); (case t => kmk_pure); (case z => exact kmk_sz (by l_ints) (by walk_at "my size"))); intro D' ws' h' F' N' l1 hI' hC'; (try dsimp only); (try k_lt l1); (try k_sweep)))
local macro_rules | `(tactic| walk_at "my units") => `(tactic| ((dsimp only [Around.deeper, ktrTop]); omega))
local macro_rules | `(tactic| walk_at "compareOp NotEq ref ref") => `(tactic| (k_here; (with_reducible show wpAny _ _ (compareOp CmpOp.NotEq (Value.ref _) (Value.ref _)) _ _ _); k_dflt (refine' ke_ne_ints ?a ?b ?i ?j ?u ?_; (case a => is_list); (case b => is_list); (case i => l_ints); (case j => l_ints); (case u => walk_at "my units"))))
local macro_rules | `(tactic| walk_at "compareOp Eq ref ref") => `(tactic| (k_here; (with_reducible show wpAny _ _ (compareOp CmpOp.Eq (Value.ref _) (Value.ref _)) _ _ _); k_dflt (refine' ke_eq_ints ?a ?b ?i ?j ?u ?_; (case a => is_list); (case b => is_list); (case i => l_ints); (case j => l_ints); (case u => walk_at "my units"))))
local macro_rules | `(tactic| walk_at "exec While Compare cons nil") => `(tactic| refine Stop.out ?_)
local macro_rules | `(tactic| walk_at "WT") => `(tactic| dsimp only [WT])
local macro_rules | `(tactic| walk_at "exec While BoolOp cons nil") => `(tactic| refine Stop.out ?_)
-- CLawPieces
theorem off_CLawPieces : True := by w_top off; trivial
def lpGo (n least : Int) : Nat → Int
  | 0 => 1
  | i + 1 => if least ≤ n ∧ 0 < n ∧ n.fmod (2 ^ (i + 1)) = 0 ∧ 4 ^ (i + 1) ≤ n then 2 ^ (i + 1) else lpGo n least i
theorem lp_con (w : World) {news : Led} {n least : Int} {t tl : Tok} (hn : 0 ≤ n ∧ n < 8000) (hl : 0 ≤ least ∧ least < 10000) :
    Con w 8 100 96 [.int n t, .int least tl] news (fun v nx => ∃ t', v = .int (lpGo n least 8) t' ∧ nx = news) := by
  unfold Con
  k_fill
  intro p loose mean mg mb dp un gd cn cs a ccd cl outer A₀ base h₀ L m s Q E B F X N T hkk hdp hun ret
  refine wpAny_noRaise ?_
  refine wpAny_call ?_
  k_dflt ktr_enter
  refine wpAny_noRaise ?_
  k_steps
  rename_i rg F2 N2 _
  refine Stop.mk ?_
  refine' my_range (σ := Int × Tok) (n := 8) (fun c => news) (fun c => [(Str.ofString "found", .int c.1 c.2), (Str.ofString "n", .int n t), (Str.ofString "least", .int least tl)])
        (fun i c => c.1 = lpGo n least i) (1, _) (by rfl) rg (by rfl) (by rfl) F2 N2 (by walk_at "my all") rfl ?turn ?done
  case done =>
    rintro ⟨f, tf⟩ u h tk hP F3 N3
    dsimp only [kstB] at hP F3 ⊢
    k_steps
    rename Fr h₀ L _ m => kF
    rename News h₀ L _ _ => kN
    exact ret _ _ _ _ kF kN ⟨_, by rw [hP], rfl⟩
  case turn =>
    rintro i kk tt ⟨f, tf⟩ u h tk I o hkk hi hP hlt hne F3 N3
    dsimp only [kstB] at hP F3
    have hkk2 : 1 ≤ kk ∧ kk ≤ 8 := by omega
    have ek : kk.toNat = i + 1 := by omega
    have fin : ¬ (least ≤ n ∧ 0 < n ∧ n.fmod (2 ^ kk.toNat) = 0 ∧ 4 ^ kk.toNat ≤ n) → f = lpGo n least (i + 1) := fun hh => by rw [ek] at hh; rw [lpGo, if_neg hh, hP]
    k_steps
    · rename_i F5 N5
      rename least ≤ n => hc1
      rename 0 < n => hc2
      rename n.fmod _ = 0 => hc3
      rename _ ≤ n => hc4
      refine ⟨(2 ^ kk.toNat, _), _, _, _, rfl, F5, N5, hne, by walk_at "my all", ?_⟩
      show 2 ^ kk.toNat = lpGo n least (i + 1)
      rw [ek] at hc3 hc4 ⊢
      rw [lpGo, if_pos ⟨hc1, hc2, hc3, hc4⟩]
    all_goals exact ⟨(f, tf), _, _, _, rfl, F3, N3, hne, by walk_at "my all", fin (by rintro ⟨x1, x2, x3, x4⟩; first | contradiction | omega)⟩
end
section
local macro_rules | `(tactic| is_list) => `(tactic| exact News.isList (by k_asm) (by k_mem))
local macro_rules | `(tactic| k_mem) => `(tactic| first | assumption | exact List.mem_cons_self | (refine List.mem_cons_of_mem _ ?_; k_mem))
local macro_rules | `(tactic| k_all) => `(tactic| first | exact allLt_ne (by assumption) | exact lt_ne (by assumption) | assumption)
local macro_rules | `(tactic| walk_at "pyIter ref") => `(tactic| refine Stop.out ?_)
local macro_rules | `(tactic| walk_at "TP") => `(tactic| dsimp only [TP])
local macro_rules | `(tactic| walk_at "WP") => `(tactic| dsimp only [WP])
local macro_rules | `(tactic| walk_at "my all") => `(tactic| first | exact List.forall_mem_nil _ | (refine List.forall_mem_cons.mpr ⟨by with_unfolding_all rfl, ?_⟩; walk_at "my all"))
local macro_rules | `(tactic| size_fits) => `(tactic| ((simp only [List.size_toArray, List.length_append, List.length_cons, List.length_nil, PySem.sizeLine_eq]); omega))
local macro_rules | `(tactic| walk_at "call ref") => `(tactic| refine Stop.out ?_)
local macro_rules | `(tactic| walk_at "binaryOp Mult ref int") => `(tactic| (k_here; (with_reducible show wpAny _ _ (binaryOp Operator.Mult (Value.ref _) (Value.int _ _)) _ _ _); k_dflt (refine' mul_zeros ?F ?N ?m ?a ?b ?_; (case F => k_asm); (case N => k_asm); (case m => k_mem); (case a => omega); (case b => omega)); intro D' ws' h' F' N' l1 hI'; (try dsimp only); (try k_lt l1); (try k_sweep)))
local macro_rules | `(tactic| walk_at "binaryOp Add ref ref") => `(tactic| (k_here; (with_reducible show wpAny _ _ (binaryOp _ (Value.ref _) (Value.ref _)) _ _ _); k_dflt (refine' kmk_add_ints ?F ?N ?a ?b ?i ?j ?_ ?z; (case F => k_asm); (case N => k_asm); (case a => is_list); (case b => is_list); (case i => l_ints); (case j => l_ints); (case z => ((simp only [PySem.sizeLine_eq, List.length_append, List.length_replicate, List.length_take, List.length_drop, List.length_cons, List.length_nil]); omega))); intro D' ws' h' F' N' l1 hI'; (try dsimp only); (try k_lt l1); (try k_sweep)))
local macro_rules | `(tactic| walk_at "my size") => `(tactic| ((simp only [PySem.sizeLine_eq, List.length_append, List.length_replicate, List.length_take, List.length_drop, List.length_cons, List.length_nil, List.length_reverse]); omega))
local macro_rules | `(tactic| walk_at "subscriptTail Name Slice ref ref") => `(tactic| (k_here; (with_reducible show wpAny _ _ (subscriptTail _ (PySem.Expr.Slice _ _ none _) (Value.ref _) (Value.ref _)) _ _ _); k_dflt (refine' kmk_slice_ints ?F ?N ?l ?p ?q ?i ?m ?c ?_ ?s ?t ?z; (case F => k_asm); (case N => k_asm); (case l => is_list); (case p => kmk_part); (case q => kmk_part); (case i => l_ints); (case m => first | exact kmk_all (by l_ints) | exact kmk_from (by l_ints) (by omega) | exact kmk_upto (by l_ints) (by omega) | exact kmk_run (by l_ints) (by omega) (by omega)); (case c => kmk_len); (case s => with_unfolding_all rfl); (case t => kmk_pure); (case z => exact kmk_sz (by l_ints) (by walk_at "my size"))); intro D' ws' h' F' N' l1 hI' hC' hL'; (try simp only [Int.reduceNeg, Int.neg_neg, Int.reduceToNat] at hI' hC' hL'); (try dsimp only); (try k_lt l1); (try k_sweep)))
local macro_rules | `(tactic| walk_at "my for") => `(tactic| (k_here; (rename Fr _ _ _ _ => lF'); (with_unfolding_all refine' For_invVF lF' ?k1 ?k2 ?_; (case k1 => exact rfl); (case k2 => exact rfl); k_whole)))
local macro_rules | `(tactic| walk_at "exec For Name Subscript cons nil") => `(tactic| walk_at "my for")
local macro_rules | `(tactic| walk_at "subscriptTail Name Slice ref ref") => `(tactic| (k_here; (with_reducible show wpAny _ _ (subscriptTail _ (PySem.Expr.Slice none none (some _) _) (Value.ref _) (Value.ref _)) _ _ _); k_dflt (refine' krv_ints ?F ?N ?l ?k ?i ?_ ?s ?t ?z; (case F => k_asm); (case N => k_asm); (case l => is_list); (case k => exact IsPart.int _ _); (case i => l_ints); (case s => with_unfolding_all rfl); (case t => kmk_pure); (case z => exact kmk_sz (by l_ints) (by walk_at "my size"))); intro D' ws' h' F' N' l1 hI' hC'; (try dsimp only); (try k_lt l1); (try k_sweep)))
local macro_rules | `(tactic| walk_at "my units") => `(tactic| ((dsimp only [Around.deeper, ktrTop]); omega))
local macro_rules | `(tactic| walk_at "compareOp NotEq ref ref") => `(tactic| (k_here; (with_reducible show wpAny _ _ (compareOp CmpOp.NotEq (Value.ref _) (Value.ref _)) _ _ _); k_dflt (refine' ke_ne_ints ?a ?b ?i ?j ?u ?_; (case a => is_list); (case b => is_list); (case i => l_ints); (case j => l_ints); (case u => walk_at "my units"))))
local macro_rules | `(tactic| walk_at "compareOp Eq ref ref") => `(tactic| (k_here; (with_reducible show wpAny _ _ (compareOp CmpOp.Eq (Value.ref _) (Value.ref _)) _ _ _); k_dflt (refine' ke_eq_ints ?a ?b ?i ?j ?u ?_; (case a => is_list); (case b => is_list); (case i => l_ints); (case j => l_ints); (case u => walk_at "my units"))))
local macro_rules | `(tactic| walk_at "exec While Compare cons nil") => `(tactic| refine Stop.out ?_)
local macro_rules | `(tactic| walk_at "WT") => `(tactic| dsimp only [WT])
local macro_rules | `(tactic| walk_at "exec While BoolOp cons nil") => `(tactic| refine Stop.out ?_)
local macro_rules | `(tactic| walk_at "exec Assign cons ListComp") => `(tactic| refine Stop.out ?_)
local macro_rules | `(tactic| walk_at "my enterC") => `(tactic| (refine' code_defC ?k1 ?k2 ?k3 ?k4 ?k5 ?kA ?kF ?kK ?k6 ?k7 ?k8 ?k9 ?kB ?kD ?_ ?c2 ?c3 ?c4; (case kA => exact rfl); (case kF => exact rfl); (case kK => assumption); (case k1 => k_asm); (case k2 => k_asm); (case k3 => k_asm); (case k4 => k_asm); (case k5 => k_asm); (case k6 => k_is); (case k7 => k_is); (case k8 => ktr_room); (case k9 => exact BindsTo.of_eq rfl); (case kB => exact rfl); (case kD => decide +kernel); (case c2 => exact rfl); (case c3 => exact rfl); (case c4 => exact rfl); k_whole; intro g' L' h' tk' cells' FG' F' N' Y' B' X' T' l1; (try k_lt l1); k_cells Y'; (try simp only [List.cons_append, List.nil_append] at N'); (try dsimp only); (try k_fold)))
local macro_rules | `(tactic| walk_at "my comp") => `(tactic| ((rename Fr _ _ _ _ => lF'); (with_unfolding_all refine' assign_comp lF' ?hsw ?hL ?hclos ?hcell ?hkind ?hnames ?hx ?hy ?hp ?_ ?hs); (case hsw => with_unfolding_all rfl); (case hL => with_unfolding_all rfl); (case hclos => with_unfolding_all rfl); (case hcell => decide); (case hkind => with_unfolding_all rfl); (case hnames => decide); (case hx => with_unfolding_all rfl); (case hy => with_unfolding_all rfl); (case hp => with_unfolding_all rfl); (case hs => intro _; with_unfolding_all rfl)))
-- CComp
theorem off_CComp : True := by w_top off; trivial
section
variable {prog : Program} {w : World} {A : Around} {E : Value → Shared → Prop} {s : Shared} {env : Env} {h₀ : Heap} {L : Addr} {σ : Type}

theorem comp_loopJ {elt iter : Expr} {x : Str} {px : Pos} {scope : Scope} {pos : Pos} {I D : Addr} {fp : List Addr} {n : Nat} {Pv : Nat → Value → Prop} {St : Nat → Heap → Prop}
    {cenv : Env} {m mL : Str → Option Value} {R : Result → Shared → Prop} (W : Walks prog w A I fp [I] n Pv St) (hob : ∀ i h, St i h → ∃ o, h.get? I = some o)
    (hx : cenv.kindOf x = some .local) (hp : (cenv.scope.kind == .class || (cenv.scope.kind == .module && cenv.locals != cenv.globals)) = false)
    (Ld : σ → Led) (P : Nat → List Value → σ → Prop) (c₀ : σ) (hfpk : ∀ b ∈ fp, b = I ∨ ∃ o, ∀ i ys c, P i ys c → (b, o) ∈ Ld c)
    (hDC : D ≠ cenv.locals) (hDI : D ≠ I) (hCI : cenv.locals ≠ I) (hLC : L ≠ cenv.locals) (hLI : L ≠ I) (hLD : L ≠ D)
    (hoff : ∀ i ys c, P i ys c → ∀ p ∈ Ld c, p.1 ≠ D ∧ p.1 ≠ cenv.locals ∧ p.1 ≠ I) (fD : h₀.get? D = none) (fC : h₀.get? cenv.locals = none) (fI : h₀.get? I = none)
    (hst : St 0 s.heap) (hacc : s.heap.get? D = some (listOf ([] : List Value).toArray 0)) (hn : s.heap.Ns cenv.locals m) (F : Fr h₀ L s.heap mL) (N : News h₀ L s.heap (Ld c₀)) (hP : P 0 [] c₀)
    (helt : ∀ i v ys c h tk oI oC nD mC, i < n → Pv i v → P i ys c → Fr h₀ L h mL → News h₀ L h ((D, listOf (List.toArray ys) nD) :: (cenv.locals, oC) :: (I, oI) :: Ld c) → h.Ns cenv.locals mC → mC x = some v →
      wpAny (model prog w) A (eval elt cenv) (fun y s' => ∃ c' h' tk', s' = { s with heap := h', toks := tk' } ∧ Fr h₀ L h' mL ∧ News h₀ L h' ((D, listOf (List.toArray ys) nD) :: (cenv.locals, oC) :: (I, oI) :: Ld c') ∧ P (i + 1) (ys ++ [y]) c')
        (fun _ _ => False) { s with heap := h, toks := tk })
    (hR : ∀ h' tk m' ys nD c, P n ys c → ys.length = n → h'.Ns cenv.locals m' → Fr h₀ L h' mL → News h₀ L h' ((D, listOf (List.toArray ys) nD) :: Ld c) → R (.ok .next) { s with heap := h', toks := tk })
    (hsz : n ≤ sizeLine) :
    codeAny (model prog w) A (.compLoop (.ListComp elt [⟨.Name x px, iter, [], 0⟩] scope pos) 0 (.ref I) (.ref D) cenv) R s := by
  refine codeAny_compLoop_list
    (fun k s' => ∃ h' tk m' ys nD c, s' = { s with heap := h', toks := tk } ∧ St ys.length h' ∧ h'.get? D = some (listOf (List.toArray ys) nD) ∧ h'.Ns cenv.locals m' ∧ Fr h₀ L h' mL ∧ News h₀ L h' (Ld c) ∧ P ys.length ys c ∧ ys.length ≤ n ∧ k = n + 1 - ys.length) ?_ (n + 1)
    ⟨s.heap, s.toks, m, [], 0, c₀, rfl, hst, hacc, hn, F, N, hP, Nat.zero_le _, rfl⟩
  rintro k s' ⟨H, tk, m', ys, nD, c, rfl, hst', hacc', hn', F', N', hP', hi, rfl⟩
  have wr : ∀ b, b ≠ I → b ∉ [I] := fun b hb hm => hb (List.mem_singleton.mp hm)
  by_cases hlt : ys.length < n
  · refine W.item ys.length _ _ _ hlt hst' fun v h₁ tk₁ hPv hst₁ hk₁ => ?_
    dsimp only at hk₁
    refine wpAny_assign_Name (wpAny_storeName_local hx (hn'.at' fun o e => hk₁ _ o (wr _ hCI) e) (fun h₂ hn₂ hs₂ => ?_) hp)
    have up₂ : ∀ b o, b ≠ cenv.locals → b ≠ I → H.get? b = some o → h₂.get? b = some o := fun b o hbC hbI e => (hs₂.2 b hbC).trans (hk₁ b o (wr _ hbI) e)
    have hst₂ : St (ys.length + 1) h₂ := W.frame _ _ _ hst₁ fun b hb o e => (hs₂.2 b (fun q => by
      rcases hfpk b hb with rfl | ⟨o', ho'⟩
      · exact hCI q.symm
      · exact (hoff _ _ c hP' _ (ho' _ _ c hP')).2.1 q)).trans e
    have F₂ : Fr h₀ L h₂ mL := ⟨F'.ns.at' fun o e => up₂ _ o hLC hLI e, fun b o e => up₂ b o (fun q => by rw [q, fC] at e; cases e) (fun q => by rw [q, fI] at e; cases e) (F'.keep b o e), F'.above⟩
    obtain ⟨oI, hoI⟩ := hob _ _ hst₂
    obtain ⟨oC, hoC⟩ : ∃ oC, h₂.get? cenv.locals = some oC := let ⟨o, _, _, ho, _⟩ := hn₂; ⟨o, ho⟩
    have N₂ : News h₀ L h₂ ((D, listOf (List.toArray ys) nD) :: (cenv.locals, oC) :: (I, oI) :: Ld c) := by
      refine List.forall_mem_cons.mpr ⟨⟨up₂ _ _ hDC hDI hacc', hLD.symm, fD⟩, List.forall_mem_cons.mpr ⟨⟨hoC, hLC.symm, fC⟩, List.forall_mem_cons.mpr ⟨⟨hoI, hLI.symm, fI⟩, fun p hp => ?_⟩⟩⟩
      have q := hoff _ _ c hP' p hp
      exact ⟨up₂ _ _ q.2.1 q.2.2 (N' p hp).1, (N' p hp).2⟩
    refine wpAny_mono (helt ys.length v ys c h₂ _ oI oC nD _ hlt hPv hP' F₂ N₂ hn₂ (by simp)) (fun y s₄ h₄ => ?_) fun _ _ x => x.elim
    obtain ⟨c', h₃, tk₃, rfl, F₃, N₃, hP₃⟩ := h₄
    have hg : h₃.get? D = some (listOf (List.toArray ys) nD) := (N₃ _ (.head _)).1
    have hys : (List.toArray ys).size ≤ sizeLine := by rw [List.size_toArray]; exact Nat.le_trans hi hsz
    refine append_at (hsz := hys) hg fun h₅ hs₅ ho₅ => ?_
    refine ⟨n + 1 - (ys.length + 1), by omega, h₅, tk₃, (fun z => if z = x then some v else m' z), ys ++ [y], nD + 1, c', rfl, ?_, ?_, ?_, ?_, ?_, ?_, ?_, ?_⟩
    · rw [List.length_append, List.length_singleton]
      refine W.frame _ _ _ hst₂ fun b hb o e => ?_
      rcases hfpk b hb with rfl | ⟨o', ho'⟩
      · rw [hoI] at e
        cases e
        exact (hs₅.2 _ hDI.symm).trans (N₃ _ (.tail _ (.tail _ (.head _)))).1
      · have e' := (N₂ _ (.tail _ (.tail _ (.tail _ (ho' _ _ c hP'))))).1
        dsimp only at e'
        rw [e'] at e
        cases e
        exact (hs₅.2 _ (hoff _ _ c hP' _ (ho' _ _ c hP')).1).trans (N₃ _ (.tail _ (.tail _ (.tail _ (ho' _ _ c' hP₃))))).1
    · rw [ho₅, List.push_toArray]
    · refine (hn₂.at' fun o e => ?_)
      rw [hoC] at e
      cases e
      exact (hs₅.2 _ hDC.symm).trans (N₃ _ (.tail _ (.head _))).1
    · exact ⟨F₃.ns.sameBut hs₅ hLD, fun b o e => (hs₅.2 b fun q => by rw [q, fD] at e; cases e).trans (F₃.keep b o e), F₃.above⟩
    · exact fun p hp => ⟨(hs₅.2 _ (hoff _ _ c' hP₃ p hp).1).trans (N₃ p (.tail _ (.tail _ (.tail _ hp)))).1, (N₃ p (.tail _ (.tail _ (.tail _ hp)))).2⟩
    · rw [List.length_append, List.length_singleton]; exact hP₃
    · rw [List.length_append, List.length_singleton]; exact hlt
    · rw [List.length_append, List.length_singleton]
  · have hin : ys.length = n := by omega
    refine W.done _ _ _ (hin ▸ hst') fun h₁ tk₁ hk₁ => ?_
    dsimp only at hk₁
    refine hR h₁ tk₁ m' ys nD c (hin ▸ hP') hin (hn'.at' fun o e => hk₁ _ o (wr _ hCI) e) ⟨F'.ns.at' fun o e => hk₁ _ o (wr _ hLI) e, fun b o e => hk₁ b o (wr _ fun q => by rw [q, fI] at e; cases e) (F'.keep b o e), F'.above⟩ ?_
    exact List.forall_mem_cons.mpr ⟨⟨hk₁ _ _ (wr _ hDI) hacc', hLD.symm, fD⟩, fun p hp => ⟨hk₁ _ _ (wr _ (hoff _ _ c hP' p hp).2.2) (N' p hp).1, (N' p hp).2⟩⟩

/-- a comprehension's block over an iterator, its elements may change the ledger -/
def CompAt (prog : Program) (w : World) (A : Around) (h₀ : Heap) (L : Addr) (mL : Str → Option Value) (env : Env) (scope : Scope) (cl : List (Str × Addr)) (x : Str) (elt : Expr) (K : List Value → Led → Shared → Addr → Nat → Prop) (it : Value) (s₂ : Shared) : Prop :=
  ∃ (I : Addr) (fp : List Addr) (n : Nat) (Pv : Nat → Value → Prop) (St : Nat → Heap → Prop) (J : Nat → List Value → Led → Prop) (nx₀ : Led),
    it = .ref I ∧ Walks prog w A I fp [I] n Pv St ∧ (∀ i h, St i h → ∃ o, h.get? I = some o) ∧ (∀ b ∈ fp, b = I ∨ ∃ o, ∀ i ys nx, J i ys nx → (b, o) ∈ nx) ∧ (∀ i ys nx, J i ys nx → ∀ p ∈ nx, p.1 < I) ∧ L ≠ I ∧ h₀.get? I = none ∧
    I < s₂.heap.objs.size ∧ St 0 s₂.heap ∧ Fr h₀ L s₂.heap mL ∧ News h₀ L s₂.heap nx₀ ∧ J 0 [] nx₀ ∧ n ≤ sizeLine ∧
    (∀ i v ys nx h tk D C oI oC nD mC, i < n → Pv i v → J i ys nx → (∀ p ∈ nx, p.1 < D) → D < C → Fr h₀ L h mL → News h₀ L h ((D, listOf (List.toArray ys) nD) :: (C, oC) :: (I, oI) :: nx) → h.Ns C mC → mC x = some v →
      wpAny (model prog w) A (eval elt (compEnvC scope cl C env)) (fun y s' => ∃ nx' h' tk', s' = { s₂ with heap := h', toks := tk' } ∧ Fr h₀ L h' mL ∧ News h₀ L h' ((D, listOf (List.toArray ys) nD) :: (C, oC) :: (I, oI) :: nx') ∧ J (i + 1) (ys ++ [y]) nx')
        (fun _ _ => False) { s₂ with heap := h, toks := tk }) ∧
    (∀ ys nx D nD h tk, J n ys nx → ys.length = n → (∀ p ∈ nx, p.1 < D) → Fr h₀ L h mL → News h₀ L h ((D, listOf (List.toArray ys) nD) :: nx) → K ys nx { s₂ with heap := h, toks := tk } D nD)

theorem comp_blockJ {elt iter : Expr} {x : Str} {px : Pos} {scope : Scope} {cl : List (Str × Addr)} {pos : Pos} {mL : Str → Option Value} {K : List Value → Led → Shared → Addr → Nat → Prop} {it : Value} {RR : Value → Addr → Result → Shared → Prop}
    (hcell : ∀ y ∈ scope.names, y.2 ≠ .cell) (hkind : scope.kind = .function) (hx : scope.names.lookup x = some .local)
    (h : CompAt prog w A h₀ L mL env scope cl x elt K it s)
    (hRR : ∀ D C h' tk mC ys nD nx, K ys nx { s with heap := h', toks := tk } D nD → h'.Ns C mC → C ≠ D → C ≠ L → h₀.get? C = none → (∀ p ∈ nx, p.1 ≠ C) → (∀ p ∈ nx, p.1 < D) → L ≠ D → Fr h₀ L h' mL → News h₀ L h' ((D, listOf (List.toArray ys) nD) :: nx) →
      (∀ h'' tk'', Fr h₀ L h'' mL → News h₀ L h'' ((D, listOf (List.toArray ys) nD) :: nx) → K ys nx { s with heap := h'', toks := tk'' } D nD) → RR (.ref D) C (.ok .next) { s with heap := h', toks := tk }) :
    wpAny (model prog w) A (newList []) (fun acc s₃ => wpAny (model prog w) A (newFunctionEnv scope env.globals cl [] env.qual none .none (some env)) (fun cenv s₄ =>
      codeAny (model prog w) A (.compStart (.ListComp elt [⟨.Name x px, iter, [], 0⟩] scope pos) 0 it acc { cenv with scope := relabel scope env }) (RR acc cenv.locals) s₄) E s₃) E s := by
  obtain ⟨I, fp, n, Pv, St, J, nx₀, rfl, W, hob, hfpk, hJI, hLI, fI, hIs, hst, F, N, hJ, hsz, helt, hK⟩ := h
  refine wpAny_newObj_type (wpAny_newFunctionEnv hcell (by intro y hy; simp at hy) (fun h₁ hns₁ hsb₁ => ?_) hkind)
  dsimp only at hns₁ hsb₁ ⊢
  generalize hH2 : s.heap.push { cls := .type "list", dict := none, data := .seq ([] : List Value).toArray } = H2 at hns₁ hsb₁ ⊢
  have hC : H2.objs.size = s.heap.objs.size + 1 := by rw [← hH2, Heap.size_push]
  have hDC : s.heap.objs.size ≠ H2.objs.size := by rw [hC]; exact Nat.ne_of_lt (Nat.lt_succ_self _)
  have below : ∀ b, b < s.heap.objs.size → b ≠ H2.objs.size ∧ b ≠ s.heap.objs.size := fun b hb => ⟨by rw [hC]; exact Nat.ne_of_lt (Nat.lt_succ_of_lt hb), Nat.ne_of_lt hb⟩
  have old : ∀ b o, s.heap.get? b = some o → h₁.get? b = some o := fun b o e => hsb₁.extBut b o (below b (Heap.lt_size e)).1 (Heap.get?_push_of_some _ (hH2 ▸ Heap.get?_push_of_some _ e))
  have hacc : h₁.get? s.heap.objs.size = some (listOf ([] : List Value).toArray 0) := hsb₁.extBut _ _ hDC (Heap.get?_push_of_some _ (hH2 ▸ Heap.get?_push_size _ rfl))
  have hst₁ : St 0 h₁ := W.frame _ _ _ hst fun b _ o e => old b o e
  have hLs : L < s.heap.objs.size := F.ns.lt
  have fresh : ∀ a, s.heap.objs.size ≤ a → h₀.get? a = none := fun a ha => by
    cases e : h₀.get? a with
    | none => rfl
    | some o' => exact absurd (Heap.lt_size (F.keep _ _ e)) (Nat.not_lt.mpr ha)
  have hCs : s.heap.objs.size ≤ H2.objs.size := by rw [hC]; exact Nat.le_succ _
  have hlo : ∀ i ys nx, J i ys nx → ∀ p ∈ nx, p.1 < s.heap.objs.size := fun i ys nx hj p hp => Nat.lt_trans (hJI i ys nx hj p hp) hIs
  have loop : ∀ s₃ : Shared, s₃ = { s with heap := h₁, toks := s.toks + ([] : List (Str × Value)).length } →
      codeAny (model prog w) A (.compLoop (.ListComp elt [⟨.Name x px, iter, [], 0⟩] scope pos) 0 (.ref I) (.ref s.heap.objs.size) (compEnvC scope cl H2.objs.size env))
        (RR (.ref s.heap.objs.size) H2.objs.size) s₃ := by
    rintro s₃ rfl
    refine comp_loopJ (cenv := compEnvC scope cl H2.objs.size env) (h₀ := h₀) (L := L) (mL := mL) W hob (lookup_relabel_local hx) (by simp [compEnvC, relabel, hkind]) (σ := Led) (fun nx => nx) J nx₀ hfpk hDC (Nat.ne_of_gt hIs) ?_ ?_ hLI (Nat.ne_of_lt hLs) ?_ (fresh _ (Nat.le_refl _)) (fresh _ hCs) fI hst₁ hacc hns₁
      ⟨F.ns.at' fun o e => old _ o e, fun b o e => old b o (F.keep b o e), F.above⟩ (fun p hp => ⟨old _ _ (N p hp).1, (N p hp).2⟩) hJ ?_ ?_ hsz
    · exact Nat.ne_of_gt (Nat.lt_of_lt_of_le hIs hCs)
    · exact Nat.ne_of_lt (Nat.lt_of_lt_of_le hLs hCs)
    · intro i ys nx hj p hp
      exact ⟨Nat.ne_of_lt (hlo i ys nx hj p hp), Nat.ne_of_lt (Nat.lt_of_lt_of_le (hlo i ys nx hj p hp) hCs), Nat.ne_of_lt (hJI i ys nx hj p hp)⟩
    · intro i v ys nx h tk oI oC nD mC hi hv hj F' N' hn hm
      exact helt i v ys nx h tk _ _ oI oC nD mC hi hv hj (hlo i ys nx hj) (by show s.heap.objs.size < H2.objs.size; rw [hC]; exact Nat.lt_succ_self _) F' N' hn hm
    · intro h' tk m' ys nD nx hj hlen hn F' N'
      exact hRR _ _ h' tk m' ys nD nx (hK ys nx _ nD h' tk hj hlen (hlo n ys nx hj) F' N') hn hDC.symm (Nat.ne_of_gt (Nat.lt_of_lt_of_le hLs hCs)) (fresh _ hCs) (fun p hp => Nat.ne_of_lt (Nat.lt_of_lt_of_le (hlo n ys nx hj p hp) hCs)) (hlo n ys nx hj) (Nat.ne_of_lt hLs) F' N' fun h'' tk'' F'' N'' => hK ys nx _ nD h'' tk'' hj hlen (hlo n ys nx hj) F'' N''
  exact codeAny_compStart_list (loop _ rfl) (W.self 0 _ _ _ hst₁ (loop _ rfl))

theorem eval_comp {elt iter : Expr} {x : Str} {px : Pos} {scope : Scope} {cl : List (Str × Addr)} {pos : Pos} {Q : Value → Shared → Prop} {m₀ : Str → Option Value} (_F : Fr h₀ L s.heap m₀)
    (hclos : closureFor scope env = pure cl) (hcell : ∀ y ∈ scope.names, y.2 ≠ .cell) (hkind : scope.kind = .function)
    (hnames : ∀ y ∈ scope.names, y.2 = .local → scope.names.lookup y.1 = some .local) (hx : scope.names.lookup x = some .local)
    (h : wpAny (model prog w) A (eval iter env) (fun xv s₁ => wpAny (model prog w) A (pyIter xv) (fun it s₂ => ∃ mL, CompAt prog w A h₀ L mL env scope cl x elt (fun ys nx s' D nD => Q (.ref D) s') it s₂) E s₁) E s)
    (hs : ∀ x, foldedSetIterable iter env x = pure x) :
    wpAny (model prog w) A (eval (.ListComp elt [⟨.Name x px, iter, [], 0⟩] scope pos) env) Q E s := by
  rw [eval_ListComp]
  refine wpAny_comprehension_free (use := none) rfl hs hclos hkind hnames (wpAny_mono h (fun xv s₁ h₁ => wpAny_mono h₁ (fun it s₂ h₂ => ?_) fun _ _ e => e) fun _ _ e => e)
  obtain ⟨mL, h₂⟩ := h₂
  refine comp_blockJ (RR := fun acc C => compPost (model prog w) A E none Q acc C) hcell hkind hx h₂ ?_
  intro D C h' tk mC ys nD nx hK hn hCD hCL fC hnC hnD hLD F N hK'
  refine ⟨mC, hn, fun h'' hs'' => hK' h'' tk ?_ ?_⟩
  · exact ⟨F.ns.sameBut hs'' hCL.symm, fun b o e => (hs''.2 b fun q => by rw [q, fC] at e; cases e).trans (F.keep b o e), F.above⟩
  · refine List.forall_mem_cons.mpr ⟨⟨(hs''.2 _ hCD.symm).trans (N _ (.head _)).1, (N _ (.head _)).2⟩, fun p hp => ⟨(hs''.2 _ (hnC p hp)).trans (N p (.tail _ hp)).1, (N p (.tail _ hp)).2⟩⟩

theorem assign_comp {elt iter : Expr} {x y : Str} {px py : Pos} {scope : Scope} {cl : List (Str × Addr)} {pos spos : Pos} {Q : Flow → Shared → Prop} {m₀ : Str → Option Value} (_F : Fr h₀ L s.heap m₀)
    (hsw : swapsWith (.ListComp elt [⟨.Name x px, iter, [], 0⟩] scope pos) (some (.Name y py)) spos.line env = pure true) (hL : env.locals = L)
    (hclos : closureFor scope env = pure cl) (hcell : ∀ z ∈ scope.names, z.2 ≠ .cell) (hkind : scope.kind = .function)
    (hnames : ∀ z ∈ scope.names, z.2 = .local → scope.names.lookup z.1 = some .local) (hx : scope.names.lookup x = some .local)
    (hy : env.kindOf y = some .local) (hp : (env.scope.kind == .class || (env.scope.kind == .module && env.locals != env.globals)) = false)
    (h : wpAny (model prog w) A (eval iter env) (fun xv s₁ => wpAny (model prog w) A (pyIter xv) (fun it s₂ => ∃ mL, CompAt prog w A h₀ L mL env scope cl x elt
      (fun ys nx s' D nD => ∀ h' tk', Fr h₀ L h' (fun z => if z = y then some (.ref D) else mL z) → News h₀ L h' ((D, listOf (List.toArray ys) nD) :: nx) → Q .next { s' with heap := h', toks := tk' }) it s₂) E s₁) E s)
    (hs : ∀ x, foldedSetIterable iter env x = pure x) :
    wpAny (model prog w) A (exec (.Assign [.Name y py] (.ListComp elt [⟨.Name x px, iter, [], 0⟩] scope pos) spos) env) Q E s := by
  subst hL
  rw [exec_Assign_Name_used _ _ _ _ hsw]
  refine wpAny_bind (wpAny_standAt (wpAny_bind ?_))
  show wpAny _ A (do let _ ← comprehension (.ListComp elt [⟨.Name x px, iter, [], 0⟩] scope pos) scope env _ (newList []) false (eval iter env) (some (assign (.Name y py) env))) _ _ s
  refine wpAny_bind (wpAny_mono (wpAny_comprehension_free (use := some (assign (.Name y py) env)) (Q := fun _ s' => Q .next s') rfl hs hclos hkind hnames
    (wpAny_mono h (fun xv s₁ h₁ => wpAny_mono h₁ (fun it s₂ h₂ => ?_) fun _ _ e => e) fun _ _ e => e)) (fun _ s' hq => wpAny_pure (wpAny_pure hq)) fun _ _ e => e)
  obtain ⟨mL, h₂⟩ := h₂
  refine comp_blockJ (RR := fun acc C => compPost (model prog w) A E (some (assign (.Name y py) env)) (fun _ s' => Q .next s') acc C) hcell hkind hx h₂ ?_
  intro D C h' tk mC ys nD nx hK hnC hCD hCL fC hoC hnD hLD F N _
  show wpAny _ A (assign (.Name y py) env (.ref D)) _ _ _
  refine wpAny_assign_Name (wpAny_storeName_local hy F.ns (fun h₂ hn₂ hs₂ => ?_) hp)
  refine ⟨mC, hnC.sameBut hs₂ hCL, fun h₃ hs₃ => ?_⟩
  have F₂ := F.set hn₂ hs₂
  have N₂ := N.set hs₂
  refine hK h₃ _ ⟨F₂.ns.sameBut hs₃ hCL.symm, fun b o e => (hs₃.2 b fun q => by rw [q, fC] at e; cases e).trans (F₂.keep b o e), F₂.above⟩ ?_
  exact List.forall_mem_cons.mpr ⟨⟨(hs₃.2 _ hCD.symm).trans (N₂ _ (.head _)).1, (N₂ _ (.head _)).2⟩, fun p hp => ⟨(hs₃.2 _ (hoC p hp)).trans (N₂ p (.tail _ hp)).1, (N₂ p (.tail _ hp)).2⟩⟩

theorem comp_range {elt : Expr} {x : Str} {scope : Scope} {cl : List (Str × Addr)} {r : Addr} {a₀ b₀ st : Int} {t₀ u₀ v₀ : Tok} {n : Nat} {mL : Str → Option Value} {nx₀ : Led} {K : (Str → Option Value) → List Value → Led → Shared → Addr → Nat → Prop} (J : Nat → List Value → Led → Prop)
    (hh : A.handled = none) (hr : IsRange s.heap r a₀ b₀ st t₀ u₀ v₀) (hsmall : Builtin.Range.small a₀ b₀ st = true) (hn : Builtin.Range.rangeSize a₀ b₀ st = (n : Int)) (hsz : n ≤ sizeLine)
    (F : Fr h₀ L s.heap mL) (N : News h₀ L s.heap nx₀) (hJ : J 0 [] nx₀) (hadr : ∀ i ys nx, J i ys nx → nx.map (·.1) = nx₀.map (·.1))
    (helt : ∀ (i : Nat) k t ys nx h tk D C I oC oI nD mC, k = a₀ + (i : Int) * st → i < n → J i ys nx → (∀ p ∈ nx, p.1 < I) → (∀ p ∈ nx, p.1 < D) → (∀ p ∈ nx, p.1 < C) → Fr h₀ L h mL → News h₀ L h ((D, listOf (List.toArray ys) nD) :: (C, oC) :: (I, oI) :: nx) → h.Ns C mC → mC x = some (.int k t) →
      wpAny (model prog w) A (eval elt (compEnvC scope cl C env)) (fun y s' => ∃ nx' h' tk', s' = { s with heap := h', toks := tk' } ∧ Fr h₀ L h' mL ∧ News h₀ L h' ((D, listOf (List.toArray ys) nD) :: (C, oC) :: (I, oI) :: nx') ∧ J (i + 1) (ys ++ [y]) nx')
        (fun _ _ => False) { s with heap := h, toks := tk })
    (hK : ∀ ys nx D nD h tk, J n ys nx → ys.length = n → (∀ p ∈ nx, p.1 < D) → Fr h₀ L h mL → News h₀ L h ((D, listOf (List.toArray ys) nD) :: nx) → K mL ys nx { s with heap := h, toks := tk } D nD) :
    wpAny (model prog w) A (pyIter (.ref r)) (fun it s₂ => ∃ mL, CompAt prog w A h₀ L mL env scope cl x elt (K mL) it s₂) E s := by
  refine wpAny_pyIter_range hr hsmall ?_
  have W : Walks prog w A s.heap.objs.size [s.heap.objs.size] [s.heap.objs.size] n (fun i v => ∃ t, v = .int (a₀ + i * st) t)
      (fun i h => IsRangeIter h s.heap.objs.size (a₀ + (i : Nat) * st) ((n : Int) - (i : Nat)) st) := Walks.range hh _ a₀ st n
  have hlt : ∀ i ys nx, J i ys nx → ∀ p ∈ nx, p.1 < s.heap.objs.size := by
    intro i ys nx hj p hp
    have h1 : p.1 ∈ nx.map (·.1) := List.mem_map.mpr ⟨p, hp, rfl⟩
    rw [hadr i ys nx hj] at h1
    obtain ⟨q, hq, e⟩ := List.mem_map.mp h1
    rw [← e]
    exact Heap.lt_size (N q hq).1
  refine ⟨mL, s.heap.objs.size, _, n, _, _, J, nx₀, rfl, W, fun i h st => ⟨_, st⟩, fun b hb => .inl (List.mem_singleton.mp hb), hlt, Nat.ne_of_lt F.ns.lt, next_is_new F, ?_, ?_, F.push _, ?_, hJ, hsz, ?_, ?_⟩
  · show s.heap.objs.size < (s.heap.push _).objs.size
    rw [Heap.size_push]
    exact Nat.lt_succ_self _
  · show IsRangeIter _ _ _ _ _
    rw [hn]
    simpa using Heap.get?_push_size _ rfl
  · exact fun p hp => ⟨Heap.get?_push_of_some _ (N p hp).1, (N p hp).2⟩
  · rintro i v ys nx h tk D C oI oC nD mC hi ⟨t, rfl⟩ hj hD hDC F' N' hn' hm
    exact helt i _ t ys nx h tk D C _ oC oI nD mC rfl hi hj (hlt i ys nx hj) hD (fun p hp => Nat.lt_trans (hD p hp) hDC) F' N' hn' hm
  · exact hK

theorem nameCell {M : Model} {news : Led} {x : Str} {c : Addr} {o : Obj} {v : Value} {pos : Pos} {Q : Value → Shared → Prop} (N : News h₀ L s.heap news) (hc : env.cells.lookup x = some c) (hm : (c, o) ∈ news) (hd : o.data = .cell (some v)) (h : Q v s)
    (hk : env.scope.kind = .function) (hx : env.kindOf x = some .cell) (hb : (x == ("__debug__" : Str)) = false) :
    wpAny M A (eval (.Name x pos) env) Q E s := wpAny_Name (wpAny_loadName_cell hk hx hc ⟨o, N.get hm, hd⟩ h) hb
theorem nameBlock {M : Model} {x : Str} {v : Value} {pos : Pos} {mC : Str → Option Value} {Q : Value → Shared → Prop} (hn : s.heap.Ns env.locals mC) (hm : mC x = some v) (h : Q v s)
    (hk : env.scope.kind = .function) (hx : env.kindOf x = some .local) (hb : (x == ("__debug__" : Str)) = false) :
    wpAny M A (eval (.Name x pos) env) Q E s := wpAny_Name (wpAny_loadName_local hk hx hn hm h) hb
end
end
section
local macro_rules | `(tactic| is_list) => `(tactic| exact News.isList (by k_asm) (by k_mem))
local macro_rules | `(tactic| k_mem) => `(tactic| first | assumption | exact List.mem_cons_self | (refine List.mem_cons_of_mem _ ?_; k_mem))
local macro_rules | `(tactic| k_all) => `(tactic| first | exact allLt_ne (by assumption) | exact lt_ne (by assumption) | assumption)
local macro_rules | `(tactic| walk_at "pyIter ref") => `(tactic| refine Stop.out ?_)
local macro_rules | `(tactic| walk_at "TP") => `(tactic| dsimp only [TP])
local macro_rules | `(tactic| walk_at "WP") => `(tactic| dsimp only [WP])
local macro_rules | `(tactic| walk_at "my all") => `(tactic| first | exact List.forall_mem_nil _ | (refine List.forall_mem_cons.mpr ⟨by with_unfolding_all rfl, ?_⟩; walk_at "my all"))
local macro_rules | `(tactic| size_fits) => `(tactic| ((simp only [List.size_toArray, List.length_append, List.length_cons, List.length_nil, PySem.sizeLine_eq]); omega))
local macro_rules | `(tactic| walk_at "call ref") => `(tactic| refine Stop.out ?_)
local macro_rules | `(tactic| walk_at "binaryOp Mult ref int") => `(tactic| (k_here; (with_reducible show wpAny _ _ (binaryOp Operator.Mult (Value.ref _) (Value.int _ _)) _ _ _); k_dflt (refine' mul_zeros ?F ?N ?m ?a ?b ?_; (case F => k_asm); (case N => k_asm); (case m => k_mem); (case a => omega); (case b => omega)); intro D' ws' h' F' N' l1 hI'; (try dsimp only); (try k_lt l1); (try k_sweep)))
local macro_rules | `(tactic| walk_at "binaryOp Add ref ref") => `(tactic| (k_here; (with_reducible show wpAny _ _ (binaryOp _ (Value.ref _) (Value.ref _)) _ _ _); k_dflt (refine' kmk_add_ints ?F ?N ?a ?b ?i ?j ?_ ?z; (case F => k_asm); (case N => k_asm); (case a => is_list); (case b => is_list); (case i => l_ints); (case j => l_ints); (case z => ((simp only [PySem.sizeLine_eq, List.length_append, List.length_replicate, List.length_take, List.length_drop, List.length_cons, List.length_nil]); omega))); intro D' ws' h' F' N' l1 hI'; (try dsimp only); (try k_lt l1); (try k_sweep)))
local macro_rules | `(tactic| walk_at "my size") => `(tactic| ((simp only [PySem.sizeLine_eq, List.length_append, List.length_replicate, List.length_take, List.length_drop, List.length_cons, List.length_nil, List.length_reverse]); omega))
local macro_rules | `(tactic| walk_at "subscriptTail Name Slice ref ref") => `(tactic| (k_here; (with_reducible show wpAny _ _ (subscriptTail _ (PySem.Expr.Slice _ _ none _) (Value.ref _) (Value.ref _)) _ _ _); k_dflt (refine' kmk_slice_ints ?F ?N ?l ?p ?q ?i ?m ?c ?_ ?s ?t ?z; (case F => k_asm); (case N => k_asm); (case l => is_list); (case p => kmk_part); (case q => kmk_part); (case i => l_ints); (case m => first | exact kmk_all (by l_ints) | exact kmk_from (by l_ints) (by omega) | exact kmk_upto (by l_ints) (by omega) | exact kmk_run (by l_ints) (by omega) (by omega)); (case c => kmk_len); (case s => with_unfolding_all rfl); (case t => kmk_pure); (case z => exact kmk_sz (by l_ints) (by walk_at "my size"))); intro D' ws' h' F' N' l1 hI' hC' hL'; (try simp only [Int.reduceNeg, Int.neg_neg, Int.reduceToNat] at hI' hC' hL'); (try dsimp only); (try k_lt l1); (try k_sweep)))
local macro_rules | `(tactic| walk_at "my for") => `(tactic| (k_here; (rename Fr _ _ _ _ => lF'); (with_unfolding_all refine' For_invVF lF' ?k1 ?k2 ?_; (case k1 => exact rfl); (case k2 => exact rfl); k_whole)))
local macro_rules | `(tactic| walk_at "exec For Name Subscript cons nil") => `(tactic| walk_at "my for")
local macro_rules | `(tactic| walk_at "subscriptTail Name Slice ref ref") => `(tactic| (k_here; (with_reducible show wpAny _ _ (subscriptTail _ (PySem.Expr.Slice none none (some _) _) (Value.ref _) (Value.ref _)) _ _ _); k_dflt (refine' krv_ints ?F ?N ?l ?k ?i ?_ ?s ?t ?z; (case F => k_asm); (case N => k_asm); (case l => is_list); (case k => exact IsPart.int _ _); (case i => l_ints); (case s => with_unfolding_all rfl); (case t => kmk_pure); (case z => exact kmk_sz (by l_ints) (by walk_at "my size"))); intro D' ws' h' F' N' l1 hI' hC'; (try dsimp only); (try k_lt l1); (try k_sweep)))
local macro_rules | `(tactic| walk_at "my units") => `(tactic| ((dsimp only [Around.deeper, ktrTop]); omega))
local macro_rules | `(tactic| walk_at "compareOp NotEq ref ref") => `(tactic| (k_here; (with_reducible show wpAny _ _ (compareOp CmpOp.NotEq (Value.ref _) (Value.ref _)) _ _ _); k_dflt (refine' ke_ne_ints ?a ?b ?i ?j ?u ?_; (case a => is_list); (case b => is_list); (case i => l_ints); (case j => l_ints); (case u => walk_at "my units"))))
local macro_rules | `(tactic| walk_at "compareOp Eq ref ref") => `(tactic| (k_here; (with_reducible show wpAny _ _ (compareOp CmpOp.Eq (Value.ref _) (Value.ref _)) _ _ _); k_dflt (refine' ke_eq_ints ?a ?b ?i ?j ?u ?_; (case a => is_list); (case b => is_list); (case i => l_ints); (case j => l_ints); (case u => walk_at "my units"))))
local macro_rules | `(tactic| walk_at "exec While Compare cons nil") => `(tactic| refine Stop.out ?_)
local macro_rules | `(tactic| walk_at "WT") => `(tactic| dsimp only [WT])
local macro_rules | `(tactic| walk_at "exec While BoolOp cons nil") => `(tactic| refine Stop.out ?_)
local macro_rules | `(tactic| walk_at "exec Assign cons ListComp") => `(tactic| refine Stop.out ?_)
local macro_rules | `(tactic| walk_at "my enterC") => `(tactic| (refine' code_defC ?k1 ?k2 ?k3 ?k4 ?k5 ?kA ?kF ?kK ?k6 ?k7 ?k8 ?k9 ?kB ?kD ?_ ?c2 ?c3 ?c4; (case kA => exact rfl); (case kF => exact rfl); (case kK => assumption); (case k1 => k_asm); (case k2 => k_asm); (case k3 => k_asm); (case k4 => k_asm); (case k5 => k_asm); (case k6 => k_is); (case k7 => k_is); (case k8 => ktr_room); (case k9 => exact BindsTo.of_eq rfl); (case kB => exact rfl); (case kD => decide +kernel); (case c2 => exact rfl); (case c3 => exact rfl); (case c4 => exact rfl); k_whole; intro g' L' h' tk' cells' FG' F' N' Y' B' X' T' l1; (try k_lt l1); k_cells Y'; (try simp only [List.cons_append, List.nil_append] at N'); (try dsimp only); (try k_fold)))
local macro_rules | `(tactic| walk_at "my comp") => `(tactic| ((rename Fr _ _ _ _ => lF'); (with_unfolding_all refine' assign_comp lF' ?hsw ?hL ?hclos ?hcell ?hkind ?hnames ?hx ?hy ?hp ?_ ?hs); (case hsw => with_unfolding_all rfl); (case hL => with_unfolding_all rfl); (case hclos => with_unfolding_all rfl); (case hcell => decide); (case hkind => with_unfolding_all rfl); (case hnames => decide); (case hx => with_unfolding_all rfl); (case hy => with_unfolding_all rfl); (case hp => with_unfolding_all rfl); (case hs => intro _; with_unfolding_all rfl)))
-- CLimbs
theorem off_CLimbs : True := by w_top off; trivial
theorem limbs_con (w : World) {st sc : Addr} {vs : List Value} {ns : List Int} {nn n2 : Nat} {rest : Led} {c many k : Int} {tm tk9 tc : Tok} (hsc : (sc, listOf vs.toArray nn) ∈ rest) (hi : IntsAre vs ns) (hne : ∀ p ∈ rest, p.1 ≠ st)
  (hz : ns.length < 100) (hc : 0 ≤ c ∧ c < 500) (hm : 0 ≤ many ∧ many ≤ 7) (hk : 2 ≤ k ∧ k ≤ 9) (hd : ∀ d ∈ ns, 0 ≤ d) :
    Con w 16 160 68 [.ref st, .int many tm, .int k tk9] ((st, listOf #[Value.int c tc, Value.ref sc] n2) :: rest) (fun v nx => ∃ r vs' n' ms tc' n2', v = .ref r ∧ (∀ p ∈ rest, p.1 < r) ∧ st < r ∧ IntsAre vs' ms ∧ Good (2 ^ k.toNat) ms ∧ ms.length = many.toNat ∧ nx = (r, listOf vs'.toArray n') :: (st, listOf #[Value.int (c + many) tc', Value.ref sc] n2') :: rest) := by
  unfold Con
  k_fill
  intro p loose mean mg mb dp un gd cn cs a ccd cl outer A₀ base h₀ L m s Q E B F X N T hkk hdp hun ret
  refine wpAny_noRaise ?_
  refine wpAny_call ?_
  k_dflt (walk_at "my enterC")
  refine wpAny_noRaise ?_
  rename_i g' L' h1 tk1 FG' F1 B1 X1 T1 l1 o1 o2 d1 d2 N1
  replace d1 : o1.data = .cell (some (.int k tk9)) := d1
  replace d2 : o2.data = .cell (some (.ref st)) := d2
  have hrest : ∀ p ∈ rest, p.1 < L' := allLt_lt l1.2
  have hst := ltN l1.1
  clear l1
  k_steps
  refine Stop.mk ?_
  walk_at "my comp"
  k_steps
  rename_i rg F2 N2 _
  refine Stop.mk ?_
  refine' comp_range (n := many.toNat) (fun i ys nx => ∃ tc' n2' xs, nx = (L' + 1 + 1, o1) :: (L' + 1, o2) :: (st, listOf #[Value.int (c + (i : Int)) tc', Value.ref sc] n2') :: rest ∧ IntsAre ys xs ∧ xs.length = i ∧ Dig (2 ^ k.toNat) xs) (by rfl) rg ?sm ?sz ?ml F2 N2 ?j0 ?ad ?el ?fin
  case sm => exact small_one (by omega) (by omega) (by omega) (by omega)
  case sz => rw [show many = ((many.toNat : Nat) : Int) by omega]; exact rangeSize_zero _
  case ml => rw [PySem.sizeLine_eq]; omega
  case j0 => exact ⟨tc, n2, [], by simp, .nil, rfl, fun _ h => nomatch h⟩
  case ad => rintro i ys nx ⟨_, _, _, rfl, _⟩; rfl
  case el =>
    rintro i kk tt ys nx h tk D C I oC oI nD mC hkk hil ⟨tc', n2', xs, rfl, hI, hl, hdg⟩ hI1 hI2 hI3 F3 N3 hn hm
    have q1 : st < I := hI1 _ (.tail _ (.tail _ (.head _)))
    have q2 : st < D := hI2 _ (.tail _ (.tail _ (.head _)))
    have q3 : st < C := hI3 _ (.tail _ (.tail _ (.head _)))
    k_steps
    refine Stop.mk ?_
    have hp1 := pow_le_512 hk.2
    have hp2 := two_le_pow hk.1
    refine (cut_con w (st := st) (sc := sc) (tc := tc') (n2 := n2') (rest := (D, listOf (List.toArray ys) nD) :: (C, oC) :: (I, oI) :: (L' + 1 + 1, o1) :: (L' + 1, o2) :: rest) (c := c + (i : Int)) (by k_mem) hi ?_ hz (by omega) (by omega) hd).use B1 F3 X1 (kst_newsOf N3 ?_) T1 rfl (by show dp + 1 + 8 < recursionLimit; omega) (by show un + 3 + 100 < cLine; omega) ?_
    · refine List.forall_mem_cons.mpr ⟨Nat.ne_of_gt q2, List.forall_mem_cons.mpr ⟨Nat.ne_of_gt q3, List.forall_mem_cons.mpr ⟨Nat.ne_of_gt q1, List.forall_mem_cons.mpr ⟨Nat.ne_of_gt (Nat.lt_succ_of_lt (Nat.lt_succ_of_lt hst)), List.forall_mem_cons.mpr ⟨Nat.ne_of_gt (Nat.lt_succ_of_lt hst), hne⟩⟩⟩⟩⟩
    · intro p hp
      simp only [List.mem_cons] at hp ⊢
      grind
    rintro v nx h3 tk3 F4 N4 ⟨z, t', tc'', n2'', rfl, hz0, hz1, rfl⟩
    refine ⟨(L' + 1 + 1, o1) :: (L' + 1, o2) :: (st, listOf #[Value.int (c + ((i + 1 : Nat) : Int)) tc'', Value.ref sc] n2'') :: rest, h3, tk3, rfl, F4, kst_newsOf N4 ?_, tc'', n2'', xs ++ [z], rfl, IntsAre.append hI (.cons _ _ .nil), by rw [List.length_append, hl]; rfl, hdg.append (Dig.one ⟨hz0, by omega⟩)⟩
    rw [show c + ((i + 1 : Nat) : Int) = c + (i : Int) + 1 by omega]
    intro p hp
    simp only [List.mem_cons] at hp ⊢
    grind
  case fin =>
    rintro ys nx D nD h tk ⟨tc', n2', xs, rfl, hI, hl, hdg⟩ hyl hD F3 N3 h' tk' F4 N4
    have eml : c + (many.toNat : Int) = c + many := by omega
    rw [eml] at N4
    k_steps
    · rename Fr h₀ L _ m => kF
      rename News h₀ L _ _ => kN
      rename IntsAre _ (xs.take _ ++ [_]) => hI5
      rename _ < _ ∧ _ < _ ∧ _ < _ ∧ _ < _ ∧ _ < _ ∧ st < _ ∧ AllLt _ rest => hlt5
      rename 0 < many => hm0
      obtain ⟨_, _, _, _, _, hst5, hlt5⟩ := hlt5
      dsimp only at kF kN
      refine ret _ _ _ _ kF (kst_newsOf kN ?_) ⟨_, _, 0, _, tc', n2', rfl, allLt_lt hlt5, hst5, hI5, ⟨?_, ?_⟩, ?_, rfl⟩
      · exact List.forall_mem_cons.mpr ⟨by k_mem, List.forall_mem_cons.mpr ⟨by k_mem, fun p9 h9 => by k_mem⟩⟩
      · refine (hdg.take _).append (Dig.one ?_)
        have hB := two_le_pow hk.1
        have := hdg.getD (by omega) (many - 1).toNat
        split <;> omega
      · rw [top0_iff_snoc]
        split <;> omega
      · rw [List.length_append, List.length_take, hl]
        simp only [List.length_cons, List.length_nil]
        omega
    · rename Fr h₀ L _ m => kF
      rename News h₀ L _ _ => kN
      rename ¬ 0 < many => hm0
      rename _ < _ ∧ _ < _ ∧ _ < _ ∧ st < _ ∧ AllLt _ rest => hlt5
      obtain ⟨_, _, _, hst5, hlt5⟩ := hlt5
      dsimp only at kF kN
      refine ret _ _ _ _ kF (kst_newsOf kN ?_) ⟨_, [], 0, [], tc', n2', rfl, allLt_lt hlt5, hst5, .nil, good_nil _, by simp; omega, rfl⟩
      exact List.forall_mem_cons.mpr ⟨by k_mem, List.forall_mem_cons.mpr ⟨by k_mem, fun p9 h9 => by k_mem⟩⟩
end
section
local macro_rules | `(tactic| is_list) => `(tactic| exact News.isList (by k_asm) (by k_mem))
local macro_rules | `(tactic| k_mem) => `(tactic| first | assumption | exact List.mem_cons_self | (refine List.mem_cons_of_mem _ ?_; k_mem))
local macro_rules | `(tactic| k_all) => `(tactic| first | exact allLt_ne (by assumption) | exact lt_ne (by assumption) | assumption)
local macro_rules | `(tactic| walk_at "pyIter ref") => `(tactic| refine Stop.out ?_)
local macro_rules | `(tactic| walk_at "TP") => `(tactic| dsimp only [TP])
local macro_rules | `(tactic| walk_at "WP") => `(tactic| dsimp only [WP])
local macro_rules | `(tactic| walk_at "my all") => `(tactic| first | exact List.forall_mem_nil _ | (refine List.forall_mem_cons.mpr ⟨by with_unfolding_all rfl, ?_⟩; walk_at "my all"))
local macro_rules | `(tactic| size_fits) => `(tactic| ((simp only [List.size_toArray, List.length_append, List.length_cons, List.length_nil, PySem.sizeLine_eq]); omega))
local macro_rules | `(tactic| walk_at "call ref") => `(tactic| refine Stop.out ?_)
local macro_rules | `(tactic| walk_at "binaryOp Mult ref int") => `(tactic| (k_here; (with_reducible show wpAny _ _ (binaryOp Operator.Mult (Value.ref _) (Value.int _ _)) _ _ _); k_dflt (refine' mul_zeros ?F ?N ?m ?a ?b ?_; (case F => k_asm); (case N => k_asm); (case m => k_mem); (case a => omega); (case b => omega)); intro D' ws' h' F' N' l1 hI'; (try dsimp only); (try k_lt l1); (try k_sweep)))
local macro_rules | `(tactic| walk_at "binaryOp Add ref ref") => `(tactic| (k_here; (with_reducible show wpAny _ _ (binaryOp _ (Value.ref _) (Value.ref _)) _ _ _); k_dflt (refine' kmk_add_ints ?F ?N ?a ?b ?i ?j ?_ ?z; (case F => k_asm); (case N => k_asm); (case a => is_list); (case b => is_list); (case i => l_ints); (case j => l_ints); (case z => ((simp only [PySem.sizeLine_eq, List.length_append, List.length_replicate, List.length_take, List.length_drop, List.length_cons, List.length_nil]); omega))); intro D' ws' h' F' N' l1 hI'; (try dsimp only); (try k_lt l1); (try k_sweep)))
local macro_rules | `(tactic| walk_at "my size") => `(tactic| ((simp only [PySem.sizeLine_eq, List.length_append, List.length_replicate, List.length_take, List.length_drop, List.length_cons, List.length_nil, List.length_reverse]); omega))
local macro_rules | `(tactic| walk_at "subscriptTail Name Slice ref ref") => `(tactic| (k_here; (with_reducible show wpAny _ _ (subscriptTail _ (PySem.Expr.Slice _ _ none _) (Value.ref _) (Value.ref _)) _ _ _); k_dflt (refine' kmk_slice_ints ?F ?N ?l ?p ?q ?i ?m ?c ?_ ?s ?t ?z; (case F => k_asm); (case N => k_asm); (case l => is_list); (case p => kmk_part); (case q => kmk_part); (case i => l_ints); (case m => first | exact kmk_all (by l_ints) | exact kmk_from (by l_ints) (by omega) | exact kmk_upto (by l_ints) (by omega) | exact kmk_run (by l_ints) (by omega) (by omega)); (case c => kmk_len); (case s => with_unfolding_all rfl); (case t => kmk_pure); (case z => exact kmk_sz (by l_ints) (by walk_at "my size"))); intro D' ws' h' F' N' l1 hI' hC' hL'; (try simp only [Int.reduceNeg, Int.neg_neg, Int.reduceToNat] at hI' hC' hL'); (try dsimp only); (try k_lt l1); (try k_sweep)))
local macro_rules | `(tactic| walk_at "my for") => `(tactic| (k_here; (rename Fr _ _ _ _ => lF'); (with_unfolding_all refine' For_invVF lF' ?k1 ?k2 ?_; (case k1 => exact rfl); (case k2 => exact rfl); k_whole)))
local macro_rules | `(tactic| walk_at "exec For Name Subscript cons nil") => `(tactic| walk_at "my for")
local macro_rules | `(tactic| walk_at "subscriptTail Name Slice ref ref") => `(tactic| (k_here; (with_reducible show wpAny _ _ (subscriptTail _ (PySem.Expr.Slice none none (some _) _) (Value.ref _) (Value.ref _)) _ _ _); k_dflt (refine' krv_ints ?F ?N ?l ?k ?i ?_ ?s ?t ?z; (case F => k_asm); (case N => k_asm); (case l => is_list); (case k => exact IsPart.int _ _); (case i => l_ints); (case s => with_unfolding_all rfl); (case t => kmk_pure); (case z => exact kmk_sz (by l_ints) (by walk_at "my size"))); intro D' ws' h' F' N' l1 hI' hC'; (try dsimp only); (try k_lt l1); (try k_sweep)))
local macro_rules | `(tactic| walk_at "my units") => `(tactic| ((dsimp only [Around.deeper, ktrTop]); omega))
local macro_rules | `(tactic| walk_at "compareOp NotEq ref ref") => `(tactic| (k_here; (with_reducible show wpAny _ _ (compareOp CmpOp.NotEq (Value.ref _) (Value.ref _)) _ _ _); k_dflt (refine' ke_ne_ints ?a ?b ?i ?j ?u ?_; (case a => is_list); (case b => is_list); (case i => l_ints); (case j => l_ints); (case u => walk_at "my units"))))
local macro_rules | `(tactic| walk_at "compareOp Eq ref ref") => `(tactic| (k_here; (with_reducible show wpAny _ _ (compareOp CmpOp.Eq (Value.ref _) (Value.ref _)) _ _ _); k_dflt (refine' ke_eq_ints ?a ?b ?i ?j ?u ?_; (case a => is_list); (case b => is_list); (case i => l_ints); (case j => l_ints); (case u => walk_at "my units"))))
local macro_rules | `(tactic| walk_at "exec While Compare cons nil") => `(tactic| refine Stop.out ?_)
local macro_rules | `(tactic| walk_at "WT") => `(tactic| dsimp only [WT])
local macro_rules | `(tactic| walk_at "exec While BoolOp cons nil") => `(tactic| refine Stop.out ?_)
local macro_rules | `(tactic| walk_at "exec Assign cons ListComp") => `(tactic| refine Stop.out ?_)
local macro_rules | `(tactic| walk_at "my enterC") => `(tactic| (refine' code_defC ?k1 ?k2 ?k3 ?k4 ?k5 ?kA ?kF ?kK ?k6 ?k7 ?k8 ?k9 ?kB ?kD ?_ ?c2 ?c3 ?c4; (case kA => exact rfl); (case kF => exact rfl); (case kK => assumption); (case k1 => k_asm); (case k2 => k_asm); (case k3 => k_asm); (case k4 => k_asm); (case k5 => k_asm); (case k6 => k_is); (case k7 => k_is); (case k8 => ktr_room); (case k9 => exact BindsTo.of_eq rfl); (case kB => exact rfl); (case kD => decide +kernel); (case c2 => exact rfl); (case c3 => exact rfl); (case c4 => exact rfl); k_whole; intro g' L' h' tk' cells' FG' F' N' Y' B' X' T' l1; (try k_lt l1); k_cells Y'; (try simp only [List.cons_append, List.nil_append] at N'); (try dsimp only); (try k_fold)))
local macro_rules | `(tactic| walk_at "my comp") => `(tactic| ((rename Fr _ _ _ _ => lF'); (with_unfolding_all refine' assign_comp lF' ?hsw ?hL ?hclos ?hcell ?hkind ?hnames ?hx ?hy ?hp ?_ ?hs); (case hsw => with_unfolding_all rfl); (case hL => with_unfolding_all rfl); (case hclos => with_unfolding_all rfl); (case hcell => decide); (case hkind => with_unfolding_all rfl); (case hnames => decide); (case hx => with_unfolding_all rfl); (case hy => with_unfolding_all rfl); (case hp => with_unfolding_all rfl); (case hs => intro _; with_unfolding_all rfl)))
-- CMath
theorem off_CMath : True := by w_top off; trivial
theorem val_norm (B : Int) : ∀ ns : List Int, val B (norm ns) = val B ns
  | [] => rfl
  | x :: r => by
    have ih := val_norm B r
    rw [norm]
    split
    · rename_i h
      show 0 = x + B * val B r
      rw [← ih, h.1, h.2]
      simp [val]
    · rw [val, val, ih]
theorem norm_dig {B : Int} : ∀ {ns : List Int}, Dig B ns → Dig B (norm ns)
  | [], h => h
  | x :: r, h => by
    rw [norm]
    split
    · exact fun _ h => nomatch h
    · intro d hd
      rcases List.mem_cons.mp hd with rfl | hd
      · exact h _ (.head _)
      · exact norm_dig (fun e he => h e (.tail _ he)) d hd
theorem norm_top : ∀ ns : List Int, Top0 (norm ns)
  | [] => top0_nil
  | x :: r => by
    have ih := norm_top r
    rw [norm]
    split
    · exact top0_nil
    · rename_i h
      by_cases hr : norm r = []
      · rw [hr]
        have hx : x ≠ 0 := fun q => h ⟨hr, q⟩
        exact (top0_iff_snoc [] x).mpr hx
      · exact (top0_append (as := [x]) hr).mpr ih
theorem norm_len : ∀ ns : List Int, (norm ns).length ≤ ns.length
  | [] => Nat.le_refl _
  | x :: r => by
    have ih := norm_len r
    rw [norm]
    split
    · exact Nat.zero_le _
    · exact Nat.succ_le_succ ih
theorem norm_good {B : Int} {ns : List Int} (h : Dig B ns) : Good B (norm ns) := ⟨norm_dig h, norm_top ns⟩
/-- the i-th slice of l items -/
def slice (as : List Int) (l i : Nat) : List Int := (as.drop (i * l)).take l
theorem slice_take (as : List Int) (l i : Nat) : as.take ((i + 1) * l) = as.take (i * l) ++ slice as l i := by
  rw [slice, Nat.add_mul, Nat.one_mul, List.take_add]
theorem slice_min (as : List Int) (l i : Nat) : (as.drop (i * l)).take (min (i * l + l) as.length - i * l) = slice as l i := by
  rw [slice]
  by_cases h : i * l + l ≤ as.length
  · rw [Nat.min_eq_left h]
    congr 1
    omega
  · rw [Nat.min_eq_right (by omega), List.take_of_length_le (by rw [List.length_drop]; omega), List.take_of_length_le (by rw [List.length_drop]; omega)]
theorem slice_len (as : List Int) (l i : Nat) : (slice as l i).length ≤ l := by rw [slice, List.length_take]; omega
theorem val_slice (B : Int) (as : List Int) (l i : Nat) (h : i * l ≤ as.length) : val B (as.take ((i + 1) * l)) = val B (as.take (i * l)) + B ^ (i * l) * val B (slice as l i) := by
  rw [slice_take, val_append, List.length_take, Nat.min_eq_left h]
theorem pow63 {k : Int} (hk : k ≤ 9) {n : Nat} (hn : n ≤ 7) : ((2 : Int) ^ k.toNat) ^ n ≤ 2 ^ 63 := by
  have h1 : k.toNat * n ≤ 9 * 7 := Nat.mul_le_mul (by omega) hn
  have h2 : (2 : Nat) ^ (k.toNat * n) ≤ 2 ^ 63 := Nat.pow_le_pow_right (by decide) h1
  have e : ((2 ^ (k.toNat * n) : Nat) : Int) = ((2 : Int) ^ k.toNat) ^ n := by rw [Int.natCast_pow, Int.pow_mul]; rfl
  rw [← e]
  omega
theorem val_lt {k : Int} (hk : k ≤ 9) {ns : List Int} (hd : Dig (2 ^ k.toNat) ns) (hl : ns.length ≤ 7) : 0 ≤ val (2 ^ k.toNat) ns ∧ val (2 ^ k.toNat) ns < 2 ^ 63 := by
  have h1 := val_bound (kbt_pos k.toNat) ns hd
  have h2 := pow63 hk hl
  omega
theorem mul_lt {x y : Int} (hx : 0 ≤ x ∧ x < 2 ^ 63) (hy : 0 ≤ y ∧ y < 2 ^ 63) : 0 ≤ x * y ∧ x * y < 2 ^ 126 := by
  refine ⟨Int.mul_nonneg hx.1 hy.1, ?_⟩
  have h1 : x * y ≤ (2 ^ 63 - 1) * y := Int.mul_le_mul_of_nonneg_right (by omega) hy.1
  have h2 : ((2 : Int) ^ 63 - 1) * y ≤ (2 ^ 63 - 1) * (2 ^ 63 - 1) := Int.mul_le_mul_of_nonneg_left (by omega) (by decide)
  have h3 : ((2 : Int) ^ 63 - 1) * (2 ^ 63 - 1) < 2 ^ 126 := by decide
  omega
theorem good_len {k : Int} (hk : 2 ≤ k) {ms : List Int} (hg : Good (2 ^ k.toNat) ms) (hv : val (2 ^ k.toNat) ms < 2 ^ 126) : ms.length ≤ 63 := by
  rcases Nat.lt_or_ge 63 ms.length with h | h
  · exfalso
    obtain ⟨n, hn⟩ : ∃ n, ms.length = n + 1 := ⟨ms.length - 1, by omega⟩
    have h1 := val_of_top0 (kbt_pos k.toNat) hg.1 hg.2 hn
    have h2 : (2 : Nat) ^ (2 * 63) ≤ 2 ^ (k.toNat * n) := Nat.pow_le_pow_right (by decide) (Nat.mul_le_mul (by omega) (by omega))
    have e : ((2 ^ (k.toNat * n) : Nat) : Int) = ((2 : Int) ^ k.toNat) ^ n := by rw [Int.natCast_pow, Int.pow_mul]; rfl
    rw [← e] at h1
    have h3 : ((2 : Nat) ^ (2 * 63) : Int) ≤ ((2 ^ (k.toNat * n) : Nat) : Int) := by exact_mod_cast h2
    have h4 : ((2 : Nat) ^ (2 * 63) : Int) = 2 ^ 126 := by decide
    omega
  · exact h
theorem val_take_le {B : Int} (hB : 0 < B) {ns : List Int} (hd : Dig B ns) (k : Nat) : 0 ≤ val B (ns.take k) ∧ val B (ns.take k) ≤ val B ns := by
  refine ⟨(val_bound hB _ (hd.take k)).1, ?_⟩
  have e := val_append B (ns.take k) (ns.drop k)
  rw [List.take_append_drop] at e
  have h1 := (val_bound hB _ (hd.drop k)).1
  have h2 := Int.mul_nonneg (Int.le_of_lt (pow_pos' hB (ns.take k).length)) h1
  omega

def intsDat (ns : List Int) : Dat := .list (ns.map Dat.int)
/-- what each call of the given product is handed -/
def sliceDats (as bs : List Int) (k : Int) (n : Nat) : List Dat := (List.range n).map fun i => .tuple [intsDat (norm (slice as bs.length i)), intsDat bs, .int k]
theorem sliceDats_succ (as bs : List Int) (k : Int) (n : Nat) : sliceDats as bs k (n + 1) = sliceDats as bs k n ++ [.tuple [intsDat (norm (slice as bs.length n)), intsDat bs, .int k]] := by
  unfold sliceDats
  rw [List.range_succ, List.map_append]
  rfl
theorem datAll_ints {nx : Led} : ∀ {vs : List Value} {ns : List Int}, IntsAre vs ns → DatAll nx vs (ns.map Dat.int)
  | _, _, .nil => .nil
  | _, _, .cons _ _ r => .cons (.int _ _) (datAll_ints r)
theorem datIn_ints {nx : Led} {l : Addr} {vs : List Value} {ns : List Int} {n : Nat} (hm : (l, listOf vs.toArray n) ∈ nx) (hi : IntsAre vs ns) : DatIn nx (.ref l) (intsDat ns) := .list hm (datAll_ints hi)
/-- how many slices -/
def slices (la lb : Nat) : Nat := if la = 0 then 0 else (la - 1) / lb + 1
theorem slices_range {la lb : Nat} (h : 0 < lb) : Builtin.Range.rangeSize 0 (la : Int) (lb : Int) = ((slices la lb : Nat) : Int) := by
  unfold Builtin.Range.rangeSize slices
  rw [if_pos (by omega)]
  by_cases h0 : la = 0
  · rw [if_pos h0, if_neg (by omega)]; rfl
  · rw [if_neg h0, if_pos (by omega)]
    have e : (la : Int) - 0 - 1 = ((la - 1 : Nat) : Int) := by omega
    rw [e, Int.natCast_add, Int.natCast_ediv]
    rfl
theorem slices_lt {la lb i : Nat} (h : 0 < lb) (hi : i < slices la lb) : i * lb < la := by
  unfold slices at hi
  split at hi
  · omega
  · have h1 : i ≤ (la - 1) / lb := by omega
    have h2 := Nat.mul_le_mul_right lb h1
    have h3 := Nat.div_mul_le_self (la - 1) lb
    omega
theorem slices_all {la lb : Nat} (h : 0 < lb) : la ≤ slices la lb * lb := by
  unfold slices
  split
  · omega
  · have h3 := Nat.lt_div_mul_add h (a := la - 1)
    rw [Nat.add_mul, Nat.one_mul]
    omega
theorem slices_le {la lb : Nat} (h : 0 < lb) : slices la lb ≤ la := by
  unfold slices
  split
  · omega
  · have := Nat.div_le_self (la - 1) lb
    omega
end
section
local macro_rules | `(tactic| is_list) => `(tactic| exact News.isList (by k_asm) (by k_mem))
local macro_rules | `(tactic| k_mem) => `(tactic| first | assumption | exact List.mem_cons_self | (refine List.mem_cons_of_mem _ ?_; k_mem))
local macro_rules | `(tactic| k_all) => `(tactic| first | exact allLt_ne (by assumption) | exact lt_ne (by assumption) | assumption)
local macro_rules | `(tactic| walk_at "pyIter ref") => `(tactic| refine Stop.out ?_)
local macro_rules | `(tactic| walk_at "TP") => `(tactic| dsimp only [TP])
local macro_rules | `(tactic| walk_at "WP") => `(tactic| dsimp only [WP])
local macro_rules | `(tactic| walk_at "my all") => `(tactic| first | exact List.forall_mem_nil _ | (refine List.forall_mem_cons.mpr ⟨by with_unfolding_all rfl, ?_⟩; walk_at "my all"))
local macro_rules | `(tactic| size_fits) => `(tactic| ((simp only [List.size_toArray, List.length_append, List.length_cons, List.length_nil, PySem.sizeLine_eq]); omega))
local macro_rules | `(tactic| walk_at "call ref") => `(tactic| refine Stop.out ?_)
local macro_rules | `(tactic| walk_at "binaryOp Mult ref int") => `(tactic| (k_here; (with_reducible show wpAny _ _ (binaryOp Operator.Mult (Value.ref _) (Value.int _ _)) _ _ _); k_dflt (refine' mul_zeros ?F ?N ?m ?a ?b ?_; (case F => k_asm); (case N => k_asm); (case m => k_mem); (case a => omega); (case b => omega)); intro D' ws' h' F' N' l1 hI'; (try dsimp only); (try k_lt l1); (try k_sweep)))
local macro_rules | `(tactic| walk_at "binaryOp Add ref ref") => `(tactic| (k_here; (with_reducible show wpAny _ _ (binaryOp _ (Value.ref _) (Value.ref _)) _ _ _); k_dflt (refine' kmk_add_ints ?F ?N ?a ?b ?i ?j ?_ ?z; (case F => k_asm); (case N => k_asm); (case a => is_list); (case b => is_list); (case i => l_ints); (case j => l_ints); (case z => ((simp only [PySem.sizeLine_eq, List.length_append, List.length_replicate, List.length_take, List.length_drop, List.length_cons, List.length_nil]); omega))); intro D' ws' h' F' N' l1 hI'; (try dsimp only); (try k_lt l1); (try k_sweep)))
local macro_rules | `(tactic| walk_at "my size") => `(tactic| ((simp only [PySem.sizeLine_eq, List.length_append, List.length_replicate, List.length_take, List.length_drop, List.length_cons, List.length_nil, List.length_reverse]); omega))
local macro_rules | `(tactic| walk_at "subscriptTail Name Slice ref ref") => `(tactic| (k_here; (with_reducible show wpAny _ _ (subscriptTail _ (PySem.Expr.Slice _ _ none _) (Value.ref _) (Value.ref _)) _ _ _); k_dflt (refine' kmk_slice_ints ?F ?N ?l ?p ?q ?i ?m ?c ?_ ?s ?t ?z; (case F => k_asm); (case N => k_asm); (case l => is_list); (case p => kmk_part); (case q => kmk_part); (case i => l_ints); (case m => first | exact kmk_all (by l_ints) | exact kmk_from (by l_ints) (by omega) | exact kmk_upto (by l_ints) (by omega) | exact kmk_run (by l_ints) (by omega) (by omega)); (case c => kmk_len); (case s => with_unfolding_all rfl); (case t => kmk_pure); (case z => exact kmk_sz (by l_ints) (by walk_at "my size"))); intro D' ws' h' F' N' l1 hI' hC' hL'; (try simp only [Int.reduceNeg, Int.neg_neg, Int.reduceToNat] at hI' hC' hL'); (try dsimp only); (try k_lt l1); (try k_sweep)))
local macro_rules | `(tactic| walk_at "my for") => `(tactic| (k_here; (rename Fr _ _ _ _ => lF'); (with_unfolding_all refine' For_invVF lF' ?k1 ?k2 ?_; (case k1 => exact rfl); (case k2 => exact rfl); k_whole)))
local macro_rules | `(tactic| walk_at "exec For Name Subscript cons nil") => `(tactic| walk_at "my for")
local macro_rules | `(tactic| walk_at "subscriptTail Name Slice ref ref") => `(tactic| (k_here; (with_reducible show wpAny _ _ (subscriptTail _ (PySem.Expr.Slice none none (some _) _) (Value.ref _) (Value.ref _)) _ _ _); k_dflt (refine' krv_ints ?F ?N ?l ?k ?i ?_ ?s ?t ?z; (case F => k_asm); (case N => k_asm); (case l => is_list); (case k => exact IsPart.int _ _); (case i => l_ints); (case s => with_unfolding_all rfl); (case t => kmk_pure); (case z => exact kmk_sz (by l_ints) (by walk_at "my size"))); intro D' ws' h' F' N' l1 hI' hC'; (try dsimp only); (try k_lt l1); (try k_sweep)))
local macro_rules | `(tactic| walk_at "my units") => `(tactic| ((dsimp only [Around.deeper, ktrTop]); omega))
local macro_rules | `(tactic| walk_at "compareOp NotEq ref ref") => `(tactic| (k_here; (with_reducible show wpAny _ _ (compareOp CmpOp.NotEq (Value.ref _) (Value.ref _)) _ _ _); k_dflt (refine' ke_ne_ints ?a ?b ?i ?j ?u ?_; (case a => is_list); (case b => is_list); (case i => l_ints); (case j => l_ints); (case u => walk_at "my units"))))
local macro_rules | `(tactic| walk_at "compareOp Eq ref ref") => `(tactic| (k_here; (with_reducible show wpAny _ _ (compareOp CmpOp.Eq (Value.ref _) (Value.ref _)) _ _ _); k_dflt (refine' ke_eq_ints ?a ?b ?i ?j ?u ?_; (case a => is_list); (case b => is_list); (case i => l_ints); (case j => l_ints); (case u => walk_at "my units"))))
local macro_rules | `(tactic| walk_at "exec While Compare cons nil") => `(tactic| refine Stop.out ?_)
local macro_rules | `(tactic| walk_at "WT") => `(tactic| dsimp only [WT])
local macro_rules | `(tactic| walk_at "exec While BoolOp cons nil") => `(tactic| refine Stop.out ?_)
local macro_rules | `(tactic| walk_at "exec Assign cons ListComp") => `(tactic| refine Stop.out ?_)
local macro_rules | `(tactic| walk_at "my enterC") => `(tactic| (refine' code_defC ?k1 ?k2 ?k3 ?k4 ?k5 ?kA ?kF ?kK ?k6 ?k7 ?k8 ?k9 ?kB ?kD ?_ ?c2 ?c3 ?c4; (case kA => exact rfl); (case kF => exact rfl); (case kK => assumption); (case k1 => k_asm); (case k2 => k_asm); (case k3 => k_asm); (case k4 => k_asm); (case k5 => k_asm); (case k6 => k_is); (case k7 => k_is); (case k8 => ktr_room); (case k9 => exact BindsTo.of_eq rfl); (case kB => exact rfl); (case kD => decide +kernel); (case c2 => exact rfl); (case c3 => exact rfl); (case c4 => exact rfl); k_whole; intro g' L' h' tk' cells' FG' F' N' Y' B' X' T' l1; (try k_lt l1); k_cells Y'; (try simp only [List.cons_append, List.nil_append] at N'); (try dsimp only); (try k_fold)))
local macro_rules | `(tactic| walk_at "my comp") => `(tactic| ((rename Fr _ _ _ _ => lF'); (with_unfolding_all refine' assign_comp lF' ?hsw ?hL ?hclos ?hcell ?hkind ?hnames ?hx ?hy ?hp ?_ ?hs); (case hsw => with_unfolding_all rfl); (case hL => with_unfolding_all rfl); (case hclos => with_unfolding_all rfl); (case hcell => decide); (case hkind => with_unfolding_all rfl); (case hnames => decide); (case hx => with_unfolding_all rfl); (case hy => with_unfolding_all rfl); (case hp => with_unfolding_all rfl); (case hs => intro _; with_unfolding_all rfl)))
local macro_rules | `(tactic| walk_at "callWith ref") => `(tactic| (k_here; k_dflt (refine' callWith_F ?k1 ?_; (case k1 => exact FnAt.of (by k_asm) (by k_mem)); k_whole)))
local macro_rules | `(tactic| walk_at "FnAt") => `(tactic| (k_dflt (exact FnAt.of (by k_asm) (by k_mem))))
-- CMulSlices
theorem off_CMulSlices : True := by w_top off; trivial
abbrev tupObj (vs : List Value) : Obj := { cls := .type "tuple", data := .seq vs.toArray }
structure MsS where
  f : Addr
  fv : List Value
  fn : Nat
  fs : List Int
  us : List Value
  uk : Nat
  nx : Led
theorem small_up {la lb : Nat} (h : 0 < lb) (h1 : la < 1000) (h2 : lb < 1000) : Builtin.Range.small 0 (la : Int) (lb : Int) = true := by
  unfold Builtin.Range.small
  rw [slices_range h]
  have := slices_le (la := la) h
  rw [if_pos (show (lb : Int) > 0 by omega)]
  simp only [Builtin.Range.rangeFitsLong, Bool.and_eq_true, Bool.or_eq_true, decide_eq_true_eq, beq_iff_eq]
  have h4 : (slices la lb : Int) ≤ la := by omega
  have h5 : 0 ≤ (slices la lb : Int) := by omega
  refine ⟨⟨⟨⟨?_, ?_⟩, ?_⟩, ?_⟩, .inr ?_⟩
  all_goals omega
/-- what the given product does, over any ledger that bears the rest -/
def MulSays (w : World) (q ak lb : Addr) (k : Int) (t : Tok) (bs : List Int) (rest : Led) : Prop :=
  ∀ (nx : Led) (us : List Value) (uk : Nat) (lo : Addr) (vo : List Value) (no : Nat) (os : List Int), (∀ p ∈ rest, p ∈ nx) → (∀ p ∈ nx, p.1 ≠ ak) → (lo, listOf vo.toArray no) ∈ nx → IntsAre vo os → Good (2 ^ k.toNat) os → os.length ≤ 7 → us.length < 100 →
    Con w 60 400 q [.ref lo, .ref lb, .int k t] ((ak, listOf us.toArray uk) :: nx) (fun v nx' => ∃ r vs n ms tp uk', v = .ref r ∧ nx' = (r, listOf vs.toArray n) :: (tp, tupObj [Value.ref lo, Value.ref lb, Value.int k t]) :: (ak, listOf (us ++ [Value.ref tp]).toArray uk') :: nx ∧
      (∀ p ∈ nx, p.1 < tp) ∧ ak < tp ∧ tp < r ∧ IntsAre vs ms ∧ Good (2 ^ k.toNat) ms ∧ val (2 ^ k.toNat) ms = val (2 ^ k.toNat) os * val (2 ^ k.toNat) bs)
theorem mul_slices_con (w : World) {la lb ak q : Addr} {va vb : List Value} {as bs : List Int} {na nb uk : Nat} {rest : Led} {k : Int} {t : Tok} {oc : Value} {od : Option Addr} {fd : FuncData} {sl : Array (Option Value)}
  (hma : (la, listOf va.toArray na) ∈ rest) (hmb : (lb, listOf vb.toArray nb) ∈ rest) (hia : IntsAre va as) (hib : IntsAre vb bs)
  (hza : as.length ≤ 7) (hzb : bs.length ≤ 7) (hk : 2 ≤ k ∧ k ≤ 9) (hda : Good (2 ^ k.toNat) as) (hdb : Good (2 ^ k.toNat) bs) (hne : ∀ p ∈ rest, p.1 ≠ ak)
  (hqf : (q, (⟨oc, od, .func fd, sl⟩ : Obj)) ∈ rest) (hmul : MulSays w q ak lb k t bs rest) :
    Con w 100 600 49 [.ref la, .ref lb, .int k t, .ref q] ((ak, listOf ([] : List Value).toArray uk) :: rest) (fun v nx => ∃ r vs n ms us' uk' nx', v = .ref r ∧ nx = (r, listOf vs.toArray n) :: (ak, listOf us'.toArray uk') :: nx' ∧ (∀ p ∈ rest, p ∈ nx') ∧ (∀ p ∈ nx', p.1 ≠ ak) ∧
      IntsAre vs ms ∧ Good (2 ^ k.toNat) ms ∧ val (2 ^ k.toNat) ms = val (2 ^ k.toNat) as * val (2 ^ k.toNat) bs ∧ DatAll nx' us' (sliceDats as bs k (if bs.length = 0 then 0 else slices as.length bs.length))) := by
  unfold Con
  k_fill
  intro p loose mean mg mb dp un gd cn cs a ccd cl outer A₀ base h₀ L m s Q E B F X N T hkk hdp hun ret
  refine wpAny_call ?_
  have hIa := hia.length
  have hIb := hib.length
  k_dflt ktr_enter
  refine wpAny_noRaise ?_
  rename_i g' L' h1 FG' F1 N1 B1 X1 T1
  k_steps
  · rename Fr h₀ L _ m => kF
    rename News h₀ L _ _ => kN
    rename ak < _ ∧ AllLt _ rest => hlt
    rename (bs.length : Int) = 0 => hb0
    have hb : bs = [] := List.length_eq_zero_iff.mp (by omega)
    subst hb
    exact ret _ _ _ _ kF kN ⟨_, [], 0, [], [], uk, rest, rfl, rfl, (fun p hp => hp), hne, .nil, good_nil _, by simp [val], .nil⟩
  · rename_i rg F2 N2 _
    rename (bs.length : Int) ≠ 0 => hb0
    rename ak < _ ∧ AllLt _ rest => hlt
    refine Stop.mk ?_
    have hbp : 0 < bs.length := by omega
    have hzsl := slices_le (la := as.length) hbp
    refine' my_range (σ := MsS) (n := slices as.length bs.length) (fun c => (c.f, listOf c.fv.toArray c.fn) :: (ak, listOf c.us.toArray c.uk) :: c.nx) (fun c => [(Str.ofString "found", .ref c.f), (Str.ofString "a", .ref la), (Str.ofString "b", .ref lb), (Str.ofString "w", .int k t), (Str.ofString "mul", .ref q)])
      (fun i c => IntsAre c.fv c.fs ∧ Good (2 ^ k.toNat) c.fs ∧ val (2 ^ k.toNat) c.fs = val (2 ^ k.toNat) (as.take (i * bs.length)) * val (2 ^ k.toNat) bs ∧ DatAll c.nx c.us (sliceDats as bs k i) ∧ (∀ p ∈ rest, p ∈ c.nx) ∧ (∀ p ∈ c.nx, p.1 ≠ ak) ∧ c.f ≠ ak) ⟨_, [], 0, [], [], uk, rest⟩ (by rfl) rg ?sm ?sz F2 N2 (by walk_at "my all") ?p0 ?turn ?done
    case sm => exact small_up (by omega) (by omega) (by omega)
    case sz => exact slices_range hbp
    case p0 => exact ⟨.nil, good_nil _, by simp [val], .nil, fun p hp => hp, hne, Nat.ne_of_gt hlt.1⟩
    case done =>
      rintro ⟨f, fv, fn, fs, us, uk, nx⟩ u h tk ⟨hI, hG, hv, hD, hs, hn, hf⟩ F3 N3
      dsimp only [kstB] at hI hG hv hD hs hn hf F3 N3 ⊢
      k_steps
      rename Fr h₀ L _ m => kF
      rename News h₀ L _ _ => kN
      refine ret _ _ _ _ kF kN ⟨_, fv, fn, fs, us, uk, nx, rfl, rfl, hs, hn, hI, hG, ?_, ?_⟩
      · rw [hv, List.take_of_length_le (slices_all hbp)]
      · rw [if_neg (by omega)]; exact hD
    case turn =>
      rintro i kk tt ⟨f, fv, fn, fs, us, uk, nx⟩ u h tk I o hkk hi ⟨hI, hG, hv, hD, hs, hn, hf⟩ hlt3 hne3 F3 N3
      dsimp only [kstB] at hI hG hv hD hs hn hf F3 N3 hlt3 hne3
      have hma3 := hs _ hma
      have hmb3 := hs _ hmb
      have hqf3 := hs _ hqf
      have hB : (0 : Int) < 2 ^ k.toNat := kbt_pos _
      have ekk : kk = ((i * bs.length : Nat) : Int) := by rw [hkk]; simp
      have hil := slices_lt hbp hi
      have huslen : us.length = i := by rw [hD.length]; simp [sliceDats]
      have hva := val_lt hk.2 hda.1 hza
      have hvb := val_lt hk.2 hdb.1 hzb
      have hvt := val_take_le hB hda.1 (i * bs.length)
      have hfs : fs.length ≤ 63 := good_len hk.1 hG (by rw [hv]; exact (mul_lt ⟨hvt.1, by omega⟩ hvb).2)
      k_steps
      refine Stop.mk ?_
      refine (piece_con w (la := la) (b := kk) (e := kk + bs.length) (by k_mem) hia (by omega) (by omega) (by omega)).use B1 F3 X1 N3 T1 rfl (by show dp + 1 + 16 < recursionLimit; omega) (by show un + 3 + 128 < cLine; omega) ?_
      rintro v nx1 h3 tk3 F4 N4 ⟨pr, pv, pn, pms, rfl, rfl, hlt4, hI4, hp4⟩
      have ep : pms = norm (slice as bs.length i) := by
        rw [hp4, ekk]
        rw [show ((i * bs.length : Nat) : Int).toNat = i * bs.length by omega, show (((i * bs.length : Nat) : Int) + (bs.length : Int)).toNat = i * bs.length + bs.length by omega, slice_min]
      have hsd : Dig (2 ^ k.toNat) (slice as bs.length i) := (hda.1.drop _).take _
      have hpG : Good (2 ^ k.toNat) pms := by rw [ep]; exact norm_good hsd
      have hpl : pms.length ≤ 7 := by
        rw [ep]
        have a1 := norm_len (slice as bs.length i)
        have a2 := slice_len as bs.length i
        omega
      have hpv := val_lt hk.2 hpG.1 hpl
      k_steps
      refine Stop.mk ?_
      refine (hmul ((pr, listOf pv.toArray pn) :: (I, o) :: (f, listOf fv.toArray fn) :: nx) us uk pr pv pn pms (fun p hp => .tail _ (.tail _ (.tail _ (hs p hp)))) ?ne (.head _) hI4 hpG hpl (by omega)).use B1 F4 X1 (kst_newsOf N4 ?sub) T1 rfl (by show dp + 1 + 60 < recursionLimit; omega) (by show un + 3 + 400 < cLine; omega) ?_
      case ne =>
        have a1 : ak < pr := hlt4 _ (.tail _ (.tail _ (.head _)))
        have a2 : ak ≠ I := hne3 _ (.tail _ (.head _))
        exact List.forall_mem_cons.mpr ⟨Nat.ne_of_gt a1, List.forall_mem_cons.mpr ⟨Ne.symm a2, List.forall_mem_cons.mpr ⟨hf, hn⟩⟩⟩
      case sub =>
        intro p hp
        simp only [List.mem_cons] at hp ⊢
        grind
      rintro v nx2 h5 tk5 F5 N5 ⟨r, rv, rn, rms, tp, uk', rfl, rfl, ht1, ht2, ht3, hI5, hG5, hv5⟩
      have hrl : rms.length ≤ 63 := good_len hk.1 hG5 (by rw [hv5]; exact (mul_lt hpv hvb).2)
      k_steps
      refine Stop.mk ?_
      refine (add_at_con w (la := f) (lb := r) (by k_mem) (by k_mem) hI hI5 (by omega) (by omega) (by omega) hk hG hG5).use B1 F5 X1 N5 T1 rfl (by show dp + 1 + 16 < recursionLimit; omega) (by show un + 3 + 128 < cLine; omega) ?_
      rintro v nx3 h6 tk6 F6 N6 ⟨nf, nfv, nfn, nfs, rfl, rfl, hlt6, hI6, hG6, hv6, hl6⟩
      k_steps
      rename_i F7 N7
      have a0 : I < nf := hlt6 _ (.tail _ (.tail _ (.tail _ (.tail _ (.head _)))))
      have a1 : ak < pr := hlt4 _ (.tail _ (.tail _ (.head _)))
      have a2 : ak ≠ I := hne3 _ (.tail _ (.head _))
      have a3 : I < tp := ht1 _ (.tail _ (.head _))
      have a4 : I < pr := hlt4 _ (.head _)
      have a5 : ak < nf := hlt6 _ (.tail _ (.tail _ (.head _)))
      refine ⟨⟨nf, nfv, nfn, nfs, us ++ [Value.ref tp], uk', (tp, tupObj [Value.ref pr, Value.ref lb, Value.int k t]) :: (pr, listOf pv.toArray pn) :: nx⟩, _, _, _, rfl, F7, kst_newsOf N7 ?sub2, ?ne2, by walk_at "my all", hI6, hG6, ?v2, ?d2, fun p hp => .tail _ (.tail _ (hs p hp)), ?n2, Nat.ne_of_gt a5⟩
      case sub2 =>
        intro p hp
        simp only [List.mem_append, List.mem_cons, List.not_mem_nil, or_false] at hp ⊢
        grind
      case ne2 => exact List.forall_mem_cons.mpr ⟨Nat.ne_of_gt a0, List.forall_mem_cons.mpr ⟨a2, List.forall_mem_cons.mpr ⟨Nat.ne_of_gt a3, List.forall_mem_cons.mpr ⟨Nat.ne_of_gt a4, fun p hp => hne3 p (.tail _ (.tail _ hp))⟩⟩⟩⟩
      case n2 => exact List.forall_mem_cons.mpr ⟨Nat.ne_of_gt ht2, List.forall_mem_cons.mpr ⟨Nat.ne_of_gt a1, hn⟩⟩
      case v2 =>
        show val (2 ^ k.toNat) nfs = _
        rw [hv6, hv5, hv, ep, val_norm, val_slice _ _ _ _ (Nat.le_of_lt hil), show kk.toNat = i * bs.length by omega, Int.add_mul, Int.mul_assoc]
      case d2 =>
        show DatAll _ (us ++ [Value.ref tp]) _
        rw [sliceDats_succ, ← ep]
        refine (hD.mono fun p hp => .tail _ (.tail _ hp)).append (DatAll.one (DatIn.tuple (.head _) (.cons (datIn_ints (.tail _ (.head _)) hI4) (.cons (datIn_ints (.tail _ (.tail _ hmb3)) hib) (.cons (.int k t) .nil)))))
end
section
local macro_rules | `(tactic| is_list) => `(tactic| exact News.isList (by k_asm) (by k_mem))
local macro_rules | `(tactic| k_mem) => `(tactic| first | assumption | exact List.mem_cons_self | (refine List.mem_cons_of_mem _ ?_; k_mem))
local macro_rules | `(tactic| k_all) => `(tactic| first | exact allLt_ne (by assumption) | exact lt_ne (by assumption) | assumption)
local macro_rules | `(tactic| walk_at "pyIter ref") => `(tactic| refine Stop.out ?_)
local macro_rules | `(tactic| walk_at "TP") => `(tactic| dsimp only [TP])
local macro_rules | `(tactic| walk_at "WP") => `(tactic| dsimp only [WP])
local macro_rules | `(tactic| walk_at "my all") => `(tactic| first | exact List.forall_mem_nil _ | (refine List.forall_mem_cons.mpr ⟨by with_unfolding_all rfl, ?_⟩; walk_at "my all"))
local macro_rules | `(tactic| size_fits) => `(tactic| ((simp only [List.size_toArray, List.length_append, List.length_cons, List.length_nil, PySem.sizeLine_eq]); omega))
local macro_rules | `(tactic| walk_at "call ref") => `(tactic| refine Stop.out ?_)
local macro_rules | `(tactic| walk_at "binaryOp Mult ref int") => `(tactic| (k_here; (with_reducible show wpAny _ _ (binaryOp Operator.Mult (Value.ref _) (Value.int _ _)) _ _ _); k_dflt (refine' mul_zeros ?F ?N ?m ?a ?b ?_; (case F => k_asm); (case N => k_asm); (case m => k_mem); (case a => omega); (case b => omega)); intro D' ws' h' F' N' l1 hI'; (try dsimp only); (try k_lt l1); (try k_sweep)))
local macro_rules | `(tactic| walk_at "binaryOp Add ref ref") => `(tactic| (k_here; (with_reducible show wpAny _ _ (binaryOp _ (Value.ref _) (Value.ref _)) _ _ _); k_dflt (refine' kmk_add_ints ?F ?N ?a ?b ?i ?j ?_ ?z; (case F => k_asm); (case N => k_asm); (case a => is_list); (case b => is_list); (case i => l_ints); (case j => l_ints); (case z => ((simp only [PySem.sizeLine_eq, List.length_append, List.length_replicate, List.length_take, List.length_drop, List.length_cons, List.length_nil]); omega))); intro D' ws' h' F' N' l1 hI'; (try dsimp only); (try k_lt l1); (try k_sweep)))
local macro_rules | `(tactic| walk_at "my size") => `(tactic| ((simp only [PySem.sizeLine_eq, List.length_append, List.length_replicate, List.length_take, List.length_drop, List.length_cons, List.length_nil, List.length_reverse]); omega))
local macro_rules | `(tactic| walk_at "subscriptTail Name Slice ref ref") => `(tactic| (k_here; (with_reducible show wpAny _ _ (subscriptTail _ (PySem.Expr.Slice _ _ none _) (Value.ref _) (Value.ref _)) _ _ _); k_dflt (refine' kmk_slice_ints ?F ?N ?l ?p ?q ?i ?m ?c ?_ ?s ?t ?z; (case F => k_asm); (case N => k_asm); (case l => is_list); (case p => kmk_part); (case q => kmk_part); (case i => l_ints); (case m => first | exact kmk_all (by l_ints) | exact kmk_from (by l_ints) (by omega) | exact kmk_upto (by l_ints) (by omega) | exact kmk_run (by l_ints) (by omega) (by omega)); (case c => kmk_len); (case s => with_unfolding_all rfl); (case t => kmk_pure); (case z => exact kmk_sz (by l_ints) (by walk_at "my size"))); intro D' ws' h' F' N' l1 hI' hC' hL'; (try simp only [Int.reduceNeg, Int.neg_neg, Int.reduceToNat] at hI' hC' hL'); (try dsimp only); (try k_lt l1); (try k_sweep)))
local macro_rules | `(tactic| walk_at "my for") => `(tactic| (k_here; (rename Fr _ _ _ _ => lF'); (with_unfolding_all refine' For_invVF lF' ?k1 ?k2 ?_; (case k1 => exact rfl); (case k2 => exact rfl); k_whole)))
local macro_rules | `(tactic| walk_at "exec For Name Subscript cons nil") => `(tactic| walk_at "my for")
local macro_rules | `(tactic| walk_at "subscriptTail Name Slice ref ref") => `(tactic| (k_here; (with_reducible show wpAny _ _ (subscriptTail _ (PySem.Expr.Slice none none (some _) _) (Value.ref _) (Value.ref _)) _ _ _); k_dflt (refine' krv_ints ?F ?N ?l ?k ?i ?_ ?s ?t ?z; (case F => k_asm); (case N => k_asm); (case l => is_list); (case k => exact IsPart.int _ _); (case i => l_ints); (case s => with_unfolding_all rfl); (case t => kmk_pure); (case z => exact kmk_sz (by l_ints) (by walk_at "my size"))); intro D' ws' h' F' N' l1 hI' hC'; (try dsimp only); (try k_lt l1); (try k_sweep)))
local macro_rules | `(tactic| walk_at "my units") => `(tactic| ((dsimp only [Around.deeper, ktrTop]); omega))
local macro_rules | `(tactic| walk_at "compareOp NotEq ref ref") => `(tactic| (k_here; (with_reducible show wpAny _ _ (compareOp CmpOp.NotEq (Value.ref _) (Value.ref _)) _ _ _); k_dflt (refine' ke_ne_ints ?a ?b ?i ?j ?u ?_; (case a => is_list); (case b => is_list); (case i => l_ints); (case j => l_ints); (case u => walk_at "my units"))))
local macro_rules | `(tactic| walk_at "compareOp Eq ref ref") => `(tactic| (k_here; (with_reducible show wpAny _ _ (compareOp CmpOp.Eq (Value.ref _) (Value.ref _)) _ _ _); k_dflt (refine' ke_eq_ints ?a ?b ?i ?j ?u ?_; (case a => is_list); (case b => is_list); (case i => l_ints); (case j => l_ints); (case u => walk_at "my units"))))
local macro_rules | `(tactic| walk_at "exec While Compare cons nil") => `(tactic| refine Stop.out ?_)
local macro_rules | `(tactic| walk_at "WT") => `(tactic| dsimp only [WT])
local macro_rules | `(tactic| walk_at "exec While BoolOp cons nil") => `(tactic| refine Stop.out ?_)
local macro_rules | `(tactic| walk_at "exec Assign cons ListComp") => `(tactic| refine Stop.out ?_)
local macro_rules | `(tactic| walk_at "my enterC") => `(tactic| (refine' code_defC ?k1 ?k2 ?k3 ?k4 ?k5 ?kA ?kF ?kK ?k6 ?k7 ?k8 ?k9 ?kB ?kD ?_ ?c2 ?c3 ?c4; (case kA => exact rfl); (case kF => exact rfl); (case kK => assumption); (case k1 => k_asm); (case k2 => k_asm); (case k3 => k_asm); (case k4 => k_asm); (case k5 => k_asm); (case k6 => k_is); (case k7 => k_is); (case k8 => ktr_room); (case k9 => exact BindsTo.of_eq rfl); (case kB => exact rfl); (case kD => decide +kernel); (case c2 => exact rfl); (case c3 => exact rfl); (case c4 => exact rfl); k_whole; intro g' L' h' tk' cells' FG' F' N' Y' B' X' T' l1; (try k_lt l1); k_cells Y'; (try simp only [List.cons_append, List.nil_append] at N'); (try dsimp only); (try k_fold)))
local macro_rules | `(tactic| walk_at "my comp") => `(tactic| ((rename Fr _ _ _ _ => lF'); (with_unfolding_all refine' assign_comp lF' ?hsw ?hL ?hclos ?hcell ?hkind ?hnames ?hx ?hy ?hp ?_ ?hs); (case hsw => with_unfolding_all rfl); (case hL => with_unfolding_all rfl); (case hclos => with_unfolding_all rfl); (case hcell => decide); (case hkind => with_unfolding_all rfl); (case hnames => decide); (case hx => with_unfolding_all rfl); (case hy => with_unfolding_all rfl); (case hp => with_unfolding_all rfl); (case hs => intro _; with_unfolding_all rfl)))
local macro_rules | `(tactic| walk_at "callWith ref") => `(tactic| (k_here; k_dflt (refine' callWith_F ?k1 ?_; (case k1 => exact FnAt.of (by k_asm) (by k_mem)); k_whole)))
local macro_rules | `(tactic| walk_at "FnAt") => `(tactic| (k_dflt (exact FnAt.of (by k_asm) (by k_mem))))
local macro_rules | `(tactic| walk_at "exec FunctionDef") => `(tactic| refine Stop.out ?_)
local macro_rules | `(tactic| walk_at "my enterN") => `(tactic| (refine' code_nest ?k1 ?k2 ?k3 ?k4 ?k5 ?kA ?kF ?kK ?k6 ?k7 ?k8 ?k9 ?kB ?_ ?c2 ?c3 ?c4 ?c5; (case kA => exact rfl); (case kF => exact rfl); (case kK => assumption); (case k1 => k_asm); (case k2 => k_asm); (case k3 => k_asm); (case k4 => k_asm); (case k5 => k_asm); (case k6 => k_mem); (case k7 => exact codeRec_news (by k_asm) (by k_mem) (by assumption) (by assumption)); (case k8 => ktr_room); (case k9 => exact BindsTo.of_eq rfl); (case c5 => decide); (case kB => exact locs rfl); (case c2 => exact rfl); (case c3 => exact rfl); (case c4 => exact rfl); k_whole; intro g' L' h' FG' F' N' B' X' T'; (try dsimp only); (try k_fold)))
-- CNest
theorem off_CNest : True := by w_top off; trivial
/-- the table of the defs made within a def: empty, or the one def is there -/
def TabIs (line col : Int) (qual : Str) (ps : Array Value) (rest : Led) : Prop :=
  ps = #[] ∨ ∃ c' oc vs t, ps = #[rawInt line, rawInt col, .ref c'] ∧ (c', oc) ∈ rest ∧ Obj.data oc = .fields vs ∧ vs[1]? = some (.str qual t)
section
variable {M : Model} {A : Around} {E : Value → Shared → Prop} {s : Shared} {h₀ : Heap} {L c P : Addr} {m mg mb : Str → Option Value} {cn : Str} {cs : Scope} {ccd : Value} {cl : List (Str × Addr)}
  {p : Program} {loose : List Str} {mean : ExcName → Option Value} {name qual : Str} {params : Arguments} {body : List Stmt} {scope : Scope} {ps : Array Value} {pos : Pos} {firstLine : Nat} {clos : List (Str × Addr)}
theorem nest_any {others rest0 : Led} {Q : Value → Shared → Prop} (F : Fr h₀ L s.heap m) (N : News h₀ L s.heap ((P, tabObj ps) :: others)) (hP : ∀ q ∈ others, q.1 ≠ P) (T : Top p loose mean mg mb h₀) (C : CodeHd h₀ c P) (hcd : ccd = .ref c)
    (htab : TabIs pos.line pos.col qual ps rest0) (hsub : ∀ q ∈ rest0, q ∈ others) (hcl : closureFor scope (envX cn cs L a ccd cl) = pure clos)
    (h : ∀ f c' oc vs t doc ctv ps' h' tk of, of = fnMade name qual params body scope clos doc ((mg "__name__").getD .none) c' ctv → Fr h₀ L h' m → News h₀ L h' ((f, of) :: (c', oc) :: (P, tabObj ps') :: others) → Obj.data oc = .fields vs → vs[1]? = some (.str qual t) →
      ps' = #[rawInt pos.line, rawInt pos.col, .ref c'] → (∀ q ∈ others, q.1 < f) → P < f → c' < f → ((∀ q ∈ others, q.1 < c') ∨ ((c', oc) ∈ rest0 ∧ ps' = ps)) → Q (.ref f) { s with heap := h', toks := tk }) :
    wpAny M A (makeFunction name qual params (.stmts body) scope (envX cn cs L a ccd cl) [] [] [] pos firstLine) Q E s := by
  rcases htab with rfl | ⟨c', oc, vs, t, rfl, hm, hd, hv⟩
  · refine nest_K F N T C hcd (UpdF.head hP) trivial rfl hcl fun f c' oc vs t ctv doc h' tk F' N' hd hv hlt hcf => ?_
    refine h f c' oc vs t doc ctv _ h' tk _ rfl F' N' hd hv (by simp) (fun q hq => Nat.lt_trans (hlt q (.tail _ hq)) hcf) (Nat.lt_trans (hlt _ (.head _)) hcf) hcf (.inl fun q hq => hlt q (.tail _ hq))
  · refine nestHit_K (c' := c') F N T C hcd (.head _) (by simp [TriplesOk, rawInt]) (by simp [codeAmong, rawInt]) hcl fun f ctv doc h' tk F' N' hlt => ?_
    refine h f c' oc vs t doc ctv _ h' tk _ rfl F' ?_ hd hv rfl (fun q hq => hlt q (.tail _ hq)) (hlt _ (.head _)) (hlt _ (.tail _ (hsub _ hm))) (.inr ⟨hm, rfl⟩)
    refine kst_newsOf N' (List.forall_mem_cons.mpr ⟨.head _, List.forall_mem_cons.mpr ⟨.tail _ (.tail _ (hsub _ hm)), List.forall_mem_cons.mpr ⟨.tail _ (.head _), fun q hq => .tail _ (.tail _ hq)⟩⟩⟩)
end
end
section
local macro_rules | `(tactic| is_list) => `(tactic| exact News.isList (by k_asm) (by k_mem))
local macro_rules | `(tactic| k_mem) => `(tactic| first | assumption | exact List.mem_cons_self | (refine List.mem_cons_of_mem _ ?_; k_mem))
local macro_rules | `(tactic| k_all) => `(tactic| first | exact allLt_ne (by assumption) | exact lt_ne (by assumption) | assumption)
local macro_rules | `(tactic| walk_at "pyIter ref") => `(tactic| refine Stop.out ?_)
local macro_rules | `(tactic| walk_at "TP") => `(tactic| dsimp only [TP])
local macro_rules | `(tactic| walk_at "WP") => `(tactic| dsimp only [WP])
local macro_rules | `(tactic| walk_at "my all") => `(tactic| first | exact List.forall_mem_nil _ | (refine List.forall_mem_cons.mpr ⟨by with_unfolding_all rfl, ?_⟩; walk_at "my all"))
local macro_rules | `(tactic| size_fits) => `(tactic| ((simp only [List.size_toArray, List.length_append, List.length_cons, List.length_nil, PySem.sizeLine_eq]); omega))
local macro_rules | `(tactic| walk_at "call ref") => `(tactic| refine Stop.out ?_)
local macro_rules | `(tactic| walk_at "binaryOp Mult ref int") => `(tactic| (k_here; (with_reducible show wpAny _ _ (binaryOp Operator.Mult (Value.ref _) (Value.int _ _)) _ _ _); k_dflt (refine' mul_zeros ?F ?N ?m ?a ?b ?_; (case F => k_asm); (case N => k_asm); (case m => k_mem); (case a => omega); (case b => omega)); intro D' ws' h' F' N' l1 hI'; (try dsimp only); (try k_lt l1); (try k_sweep)))
local macro_rules | `(tactic| walk_at "binaryOp Add ref ref") => `(tactic| (k_here; (with_reducible show wpAny _ _ (binaryOp _ (Value.ref _) (Value.ref _)) _ _ _); k_dflt (refine' kmk_add_ints ?F ?N ?a ?b ?i ?j ?_ ?z; (case F => k_asm); (case N => k_asm); (case a => is_list); (case b => is_list); (case i => l_ints); (case j => l_ints); (case z => ((simp only [PySem.sizeLine_eq, List.length_append, List.length_replicate, List.length_take, List.length_drop, List.length_cons, List.length_nil]); omega))); intro D' ws' h' F' N' l1 hI'; (try dsimp only); (try k_lt l1); (try k_sweep)))
local macro_rules | `(tactic| walk_at "my size") => `(tactic| ((simp only [PySem.sizeLine_eq, List.length_append, List.length_replicate, List.length_take, List.length_drop, List.length_cons, List.length_nil, List.length_reverse]); omega))
local macro_rules | `(tactic| walk_at "subscriptTail Name Slice ref ref") => `(tactic| (k_here; (with_reducible show wpAny _ _ (subscriptTail _ (PySem.Expr.Slice _ _ none _) (Value.ref _) (Value.ref _)) _ _ _); k_dflt (refine' kmk_slice_ints ?F ?N ?l ?p ?q ?i ?m ?c ?_ ?s ?t ?z; (case F => k_asm); (case N => k_asm); (case l => is_list); (case p => kmk_part); (case q => kmk_part); (case i => l_ints); (case m => first | exact kmk_all (by l_ints) | exact kmk_from (by l_ints) (by omega) | exact kmk_upto (by l_ints) (by omega) | exact kmk_run (by l_ints) (by omega) (by omega)); (case c => kmk_len); (case s => with_unfolding_all rfl); (case t => kmk_pure); (case z => exact kmk_sz (by l_ints) (by walk_at "my size"))); intro D' ws' h' F' N' l1 hI' hC' hL'; (try simp only [Int.reduceNeg, Int.neg_neg, Int.reduceToNat] at hI' hC' hL'); (try dsimp only); (try k_lt l1); (try k_sweep)))
local macro_rules | `(tactic| walk_at "my for") => `(tactic| (k_here; (rename Fr _ _ _ _ => lF'); (with_unfolding_all refine' For_invVF lF' ?k1 ?k2 ?_; (case k1 => exact rfl); (case k2 => exact rfl); k_whole)))
local macro_rules | `(tactic| walk_at "exec For Name Subscript cons nil") => `(tactic| walk_at "my for")
local macro_rules | `(tactic| walk_at "subscriptTail Name Slice ref ref") => `(tactic| (k_here; (with_reducible show wpAny _ _ (subscriptTail _ (PySem.Expr.Slice none none (some _) _) (Value.ref _) (Value.ref _)) _ _ _); k_dflt (refine' krv_ints ?F ?N ?l ?k ?i ?_ ?s ?t ?z; (case F => k_asm); (case N => k_asm); (case l => is_list); (case k => exact IsPart.int _ _); (case i => l_ints); (case s => with_unfolding_all rfl); (case t => kmk_pure); (case z => exact kmk_sz (by l_ints) (by walk_at "my size"))); intro D' ws' h' F' N' l1 hI' hC'; (try dsimp only); (try k_lt l1); (try k_sweep)))
local macro_rules | `(tactic| walk_at "my units") => `(tactic| ((dsimp only [Around.deeper, ktrTop]); omega))
local macro_rules | `(tactic| walk_at "compareOp NotEq ref ref") => `(tactic| (k_here; (with_reducible show wpAny _ _ (compareOp CmpOp.NotEq (Value.ref _) (Value.ref _)) _ _ _); k_dflt (refine' ke_ne_ints ?a ?b ?i ?j ?u ?_; (case a => is_list); (case b => is_list); (case i => l_ints); (case j => l_ints); (case u => walk_at "my units"))))
local macro_rules | `(tactic| walk_at "compareOp Eq ref ref") => `(tactic| (k_here; (with_reducible show wpAny _ _ (compareOp CmpOp.Eq (Value.ref _) (Value.ref _)) _ _ _); k_dflt (refine' ke_eq_ints ?a ?b ?i ?j ?u ?_; (case a => is_list); (case b => is_list); (case i => l_ints); (case j => l_ints); (case u => walk_at "my units"))))
local macro_rules | `(tactic| walk_at "exec While Compare cons nil") => `(tactic| refine Stop.out ?_)
local macro_rules | `(tactic| walk_at "WT") => `(tactic| dsimp only [WT])
local macro_rules | `(tactic| walk_at "exec While BoolOp cons nil") => `(tactic| refine Stop.out ?_)
local macro_rules | `(tactic| walk_at "exec Assign cons ListComp") => `(tactic| refine Stop.out ?_)
local macro_rules | `(tactic| walk_at "my enterC") => `(tactic| (refine' code_defC ?k1 ?k2 ?k3 ?k4 ?k5 ?kA ?kF ?kK ?k6 ?k7 ?k8 ?k9 ?kB ?kD ?_ ?c2 ?c3 ?c4; (case kA => exact rfl); (case kF => exact rfl); (case kK => assumption); (case k1 => k_asm); (case k2 => k_asm); (case k3 => k_asm); (case k4 => k_asm); (case k5 => k_asm); (case k6 => k_is); (case k7 => k_is); (case k8 => ktr_room); (case k9 => exact BindsTo.of_eq rfl); (case kB => exact rfl); (case kD => decide +kernel); (case c2 => exact rfl); (case c3 => exact rfl); (case c4 => exact rfl); k_whole; intro g' L' h' tk' cells' FG' F' N' Y' B' X' T' l1; (try k_lt l1); k_cells Y'; (try simp only [List.cons_append, List.nil_append] at N'); (try dsimp only); (try k_fold)))
local macro_rules | `(tactic| walk_at "my comp") => `(tactic| ((rename Fr _ _ _ _ => lF'); (with_unfolding_all refine' assign_comp lF' ?hsw ?hL ?hclos ?hcell ?hkind ?hnames ?hx ?hy ?hp ?_ ?hs); (case hsw => with_unfolding_all rfl); (case hL => with_unfolding_all rfl); (case hclos => with_unfolding_all rfl); (case hcell => decide); (case hkind => with_unfolding_all rfl); (case hnames => decide); (case hx => with_unfolding_all rfl); (case hy => with_unfolding_all rfl); (case hp => with_unfolding_all rfl); (case hs => intro _; with_unfolding_all rfl)))
local macro_rules | `(tactic| walk_at "callWith ref") => `(tactic| (k_here; k_dflt (refine' callWith_F ?k1 ?_; (case k1 => exact FnAt.of (by k_asm) (by k_mem)); k_whole)))
local macro_rules | `(tactic| walk_at "FnAt") => `(tactic| (k_dflt (exact FnAt.of (by k_asm) (by k_mem))))
local macro_rules | `(tactic| walk_at "exec FunctionDef") => `(tactic| refine Stop.out ?_)
local macro_rules | `(tactic| walk_at "my enterN") => `(tactic| (refine' code_nest ?k1 ?k2 ?k3 ?k4 ?k5 ?kA ?kF ?kK ?k6 ?k7 ?k8 ?k9 ?kB ?_ ?c2 ?c3 ?c4 ?c5; (case kA => exact rfl); (case kF => exact rfl); (case kK => assumption); (case k1 => k_asm); (case k2 => k_asm); (case k3 => k_asm); (case k4 => k_asm); (case k5 => k_asm); (case k6 => k_mem); (case k7 => exact codeRec_news (by k_asm) (by k_mem) (by assumption) (by assumption)); (case k8 => ktr_room); (case k9 => exact BindsTo.of_eq rfl); (case c5 => decide); (case kB => exact locs rfl); (case c2 => exact rfl); (case c3 => exact rfl); (case c4 => exact rfl); k_whole; intro g' L' h' FG' F' N' B' X' T'; (try dsimp only); (try k_fold)))
-- CDatEq
theorem off_CDatEq : True := by w_top off; trivial
section
variable {prog : Program} {w : World} {A : Around} {E : Value → Shared → Prop} {s : Shared} {h₀ : Heap} {L a b : Addr} {news : Led} {d e : Dat} {Q : Value → Shared → Prop}
open Classical in
theorem dat_ne (N : News h₀ L s.heap news) (Da : DatIn news (.ref a) d) (Db : DatIn news (.ref b) e) (ha : kqdOk 8 d = true) (hb : kqdOk 8 e = true) (hu : A.units + 64 < cLine) (h : Q (.bool (!decide (d = e))) s) :
    wpAny (model prog w) A (compareOp .NotEq (.ref a) (.ref b)) Q E s := by
  obtain ⟨as, ra⟩ := kqd_in N 8 Da ha
  obtain ⟨bs, rb⟩ := kqd_in N 8 Db hb
  have la := kqd_lay 8 d ha
  have lb := kqd_lay 8 e hb
  have q := kqd_eqv 8 d e 8 ha hb
  have e1 : PyData.eqv (kqdP d) (kqdP e) = decide (d = e) := by
    by_cases hq : d = e
    · rw [decide_eq_true hq]; exact q.mpr hq
    · rw [decide_eq_false hq]; exact Bool.eq_false_iff.mpr fun x => hq (q.mp x)
  refine ne_dataH ra rb ?_ ?_ hu (by rw [e1]; exact h)
  · unfold SeqAt.shaped; rw [la.1, Bool.true_and]; exact decide_eq_true (Nat.le_trans la.2 (by decide))
  · unfold SeqAt.shaped; rw [lb.1, Bool.true_and]; exact decide_eq_true (Nat.le_trans lb.2 (by decide))
open Classical in
theorem dat_eq (N : News h₀ L s.heap news) (Da : DatIn news (.ref a) d) (Db : DatIn news (.ref b) e) (ha : kqdOk 8 d = true) (hb : kqdOk 8 e = true) (hu : A.units + 64 < cLine) (h : Q (.bool (decide (d = e))) s) :
    wpAny (model prog w) A (compareOp .Eq (.ref a) (.ref b)) Q E s := by
  obtain ⟨as, ra⟩ := kqd_in N 8 Da ha
  obtain ⟨bs, rb⟩ := kqd_in N 8 Db hb
  have la := kqd_lay 8 d ha
  have lb := kqd_lay 8 e hb
  have q := kqd_eqv 8 d e 8 ha hb
  have e1 : PyData.eqv (kqdP d) (kqdP e) = decide (d = e) := by
    by_cases hq : d = e
    · rw [decide_eq_true hq]; exact q.mpr hq
    · rw [decide_eq_false hq]; exact Bool.eq_false_iff.mpr fun x => hq (q.mp x)
  refine eq_dataH ra rb ?_ ?_ hu (by rw [e1]; exact h)
  · unfold SeqAt.shaped; rw [la.1, Bool.true_and]; exact decide_eq_true (Nat.le_trans la.2 (by decide))
  · unfold SeqAt.shaped; rw [lb.1, Bool.true_and]; exact decide_eq_true (Nat.le_trans lb.2 (by decide))
open Classical in
theorem dat_ne_same (N : News h₀ L s.heap news) (Da : DatIn news (.ref a) d) (Db : DatIn news (.ref b) d) (ha : kqdOk 8 d = true) (hu : A.units + 64 < cLine) (h : Q (.bool false) s) :
    wpAny (model prog w) A (compareOp .NotEq (.ref a) (.ref b)) Q E s := dat_ne N Da Db ha ha hu (by rw [decide_eq_true (Eq.refl d)]; exact h)
open Classical in
theorem dat_eq_same (N : News h₀ L s.heap news) (Da : DatIn news (.ref a) d) (Db : DatIn news (.ref b) d) (ha : kqdOk 8 d = true) (hu : A.units + 64 < cLine) (h : Q (.bool true) s) :
    wpAny (model prog w) A (compareOp .Eq (.ref a) (.ref b)) Q E s := dat_eq N Da Db ha ha hu (by rw [decide_eq_true (Eq.refl d)]; exact h)
end
theorem kqdOk_ints (n : Nat) (ns : List Int) : kqdOk (n + 1) (intsDat ns) = true := by
  unfold intsDat
  simp only [kqdOk, List.all_eq_true, List.mem_map]
  rintro d ⟨i, _, rfl⟩
  cases n <;> rfl
theorem kqdOk_slices (as bs : List Int) (k : Int) (n : Nat) : kqdOk 8 (.list (sliceDats as bs k n)) = true := by
  simp only [kqdOk, List.all_eq_true, sliceDats, List.mem_map]
  rintro d ⟨i, _, rfl⟩
  simp only [kqdOk, List.all_cons, List.all_nil, kqdOk_ints, Bool.and_self]
end
section
local macro_rules | `(tactic| is_list) => `(tactic| exact News.isList (by k_asm) (by k_mem))
local macro_rules | `(tactic| k_mem) => `(tactic| first | assumption | exact List.mem_cons_self | (refine List.mem_cons_of_mem _ ?_; k_mem))
local macro_rules | `(tactic| k_all) => `(tactic| first | exact allLt_ne (by assumption) | exact lt_ne (by assumption) | assumption)
local macro_rules | `(tactic| walk_at "pyIter ref") => `(tactic| refine Stop.out ?_)
local macro_rules | `(tactic| walk_at "TP") => `(tactic| dsimp only [TP])
local macro_rules | `(tactic| walk_at "WP") => `(tactic| dsimp only [WP])
local macro_rules | `(tactic| walk_at "my all") => `(tactic| first | exact List.forall_mem_nil _ | (refine List.forall_mem_cons.mpr ⟨by with_unfolding_all rfl, ?_⟩; walk_at "my all"))
local macro_rules | `(tactic| size_fits) => `(tactic| ((simp only [List.size_toArray, List.length_append, List.length_cons, List.length_nil, PySem.sizeLine_eq]); omega))
local macro_rules | `(tactic| walk_at "call ref") => `(tactic| refine Stop.out ?_)
local macro_rules | `(tactic| walk_at "binaryOp Mult ref int") => `(tactic| (k_here; (with_reducible show wpAny _ _ (binaryOp Operator.Mult (Value.ref _) (Value.int _ _)) _ _ _); k_dflt (refine' mul_zeros ?F ?N ?m ?a ?b ?_; (case F => k_asm); (case N => k_asm); (case m => k_mem); (case a => omega); (case b => omega)); intro D' ws' h' F' N' l1 hI'; (try dsimp only); (try k_lt l1); (try k_sweep)))
local macro_rules | `(tactic| walk_at "binaryOp Add ref ref") => `(tactic| (k_here; (with_reducible show wpAny _ _ (binaryOp _ (Value.ref _) (Value.ref _)) _ _ _); k_dflt (refine' kmk_add_ints ?F ?N ?a ?b ?i ?j ?_ ?z; (case F => k_asm); (case N => k_asm); (case a => is_list); (case b => is_list); (case i => l_ints); (case j => l_ints); (case z => ((simp only [PySem.sizeLine_eq, List.length_append, List.length_replicate, List.length_take, List.length_drop, List.length_cons, List.length_nil]); omega))); intro D' ws' h' F' N' l1 hI'; (try dsimp only); (try k_lt l1); (try k_sweep)))
local macro_rules | `(tactic| walk_at "my size") => `(tactic| ((simp only [PySem.sizeLine_eq, List.length_append, List.length_replicate, List.length_take, List.length_drop, List.length_cons, List.length_nil, List.length_reverse]); omega))
local macro_rules | `(tactic| walk_at "subscriptTail Name Slice ref ref") => `(tactic| (k_here; (with_reducible show wpAny _ _ (subscriptTail _ (PySem.Expr.Slice _ _ none _) (Value.ref _) (Value.ref _)) _ _ _); k_dflt (refine' kmk_slice_ints ?F ?N ?l ?p ?q ?i ?m ?c ?_ ?s ?t ?z; (case F => k_asm); (case N => k_asm); (case l => is_list); (case p => kmk_part); (case q => kmk_part); (case i => l_ints); (case m => first | exact kmk_all (by l_ints) | exact kmk_from (by l_ints) (by omega) | exact kmk_upto (by l_ints) (by omega) | exact kmk_run (by l_ints) (by omega) (by omega)); (case c => kmk_len); (case s => with_unfolding_all rfl); (case t => kmk_pure); (case z => exact kmk_sz (by l_ints) (by walk_at "my size"))); intro D' ws' h' F' N' l1 hI' hC' hL'; (try simp only [Int.reduceNeg, Int.neg_neg, Int.reduceToNat] at hI' hC' hL'); (try dsimp only); (try k_lt l1); (try k_sweep)))
local macro_rules | `(tactic| walk_at "my for") => `(tactic| (k_here; (rename Fr _ _ _ _ => lF'); (with_unfolding_all refine' For_invVF lF' ?k1 ?k2 ?_; (case k1 => exact rfl); (case k2 => exact rfl); k_whole)))
local macro_rules | `(tactic| walk_at "exec For Name Subscript cons nil") => `(tactic| walk_at "my for")
local macro_rules | `(tactic| walk_at "subscriptTail Name Slice ref ref") => `(tactic| (k_here; (with_reducible show wpAny _ _ (subscriptTail _ (PySem.Expr.Slice none none (some _) _) (Value.ref _) (Value.ref _)) _ _ _); k_dflt (refine' krv_ints ?F ?N ?l ?k ?i ?_ ?s ?t ?z; (case F => k_asm); (case N => k_asm); (case l => is_list); (case k => exact IsPart.int _ _); (case i => l_ints); (case s => with_unfolding_all rfl); (case t => kmk_pure); (case z => exact kmk_sz (by l_ints) (by walk_at "my size"))); intro D' ws' h' F' N' l1 hI' hC'; (try dsimp only); (try k_lt l1); (try k_sweep)))
local macro_rules | `(tactic| walk_at "my units") => `(tactic| ((dsimp only [Around.deeper, ktrTop]); omega))
local macro_rules | `(tactic| walk_at "compareOp NotEq ref ref") => `(tactic| (k_here; (with_reducible show wpAny _ _ (compareOp CmpOp.NotEq (Value.ref _) (Value.ref _)) _ _ _); k_dflt (refine' ke_ne_ints ?a ?b ?i ?j ?u ?_; (case a => is_list); (case b => is_list); (case i => l_ints); (case j => l_ints); (case u => walk_at "my units"))))
local macro_rules | `(tactic| walk_at "compareOp Eq ref ref") => `(tactic| (k_here; (with_reducible show wpAny _ _ (compareOp CmpOp.Eq (Value.ref _) (Value.ref _)) _ _ _); k_dflt (refine' ke_eq_ints ?a ?b ?i ?j ?u ?_; (case a => is_list); (case b => is_list); (case i => l_ints); (case j => l_ints); (case u => walk_at "my units"))))
local macro_rules | `(tactic| walk_at "exec While Compare cons nil") => `(tactic| refine Stop.out ?_)
local macro_rules | `(tactic| walk_at "WT") => `(tactic| dsimp only [WT])
local macro_rules | `(tactic| walk_at "exec While BoolOp cons nil") => `(tactic| refine Stop.out ?_)
local macro_rules | `(tactic| walk_at "exec Assign cons ListComp") => `(tactic| refine Stop.out ?_)
local macro_rules | `(tactic| walk_at "my enterC") => `(tactic| (refine' code_defC ?k1 ?k2 ?k3 ?k4 ?k5 ?kA ?kF ?kK ?k6 ?k7 ?k8 ?k9 ?kB ?kD ?_ ?c2 ?c3 ?c4; (case kA => exact rfl); (case kF => exact rfl); (case kK => assumption); (case k1 => k_asm); (case k2 => k_asm); (case k3 => k_asm); (case k4 => k_asm); (case k5 => k_asm); (case k6 => k_is); (case k7 => k_is); (case k8 => ktr_room); (case k9 => exact BindsTo.of_eq rfl); (case kB => exact rfl); (case kD => decide +kernel); (case c2 => exact rfl); (case c3 => exact rfl); (case c4 => exact rfl); k_whole; intro g' L' h' tk' cells' FG' F' N' Y' B' X' T' l1; (try k_lt l1); k_cells Y'; (try simp only [List.cons_append, List.nil_append] at N'); (try dsimp only); (try k_fold)))
local macro_rules | `(tactic| walk_at "my comp") => `(tactic| ((rename Fr _ _ _ _ => lF'); (with_unfolding_all refine' assign_comp lF' ?hsw ?hL ?hclos ?hcell ?hkind ?hnames ?hx ?hy ?hp ?_ ?hs); (case hsw => with_unfolding_all rfl); (case hL => with_unfolding_all rfl); (case hclos => with_unfolding_all rfl); (case hcell => decide); (case hkind => with_unfolding_all rfl); (case hnames => decide); (case hx => with_unfolding_all rfl); (case hy => with_unfolding_all rfl); (case hp => with_unfolding_all rfl); (case hs => intro _; with_unfolding_all rfl)))
local macro_rules | `(tactic| walk_at "callWith ref") => `(tactic| (k_here; k_dflt (refine' callWith_F ?k1 ?_; (case k1 => exact FnAt.of (by k_asm) (by k_mem)); k_whole)))
local macro_rules | `(tactic| walk_at "FnAt") => `(tactic| (k_dflt (exact FnAt.of (by k_asm) (by k_mem))))
local macro_rules | `(tactic| walk_at "exec FunctionDef") => `(tactic| refine Stop.out ?_)
local macro_rules | `(tactic| walk_at "my enterN") => `(tactic| (refine' code_nest ?k1 ?k2 ?k3 ?k4 ?k5 ?kA ?kF ?kK ?k6 ?k7 ?k8 ?k9 ?kB ?_ ?c2 ?c3 ?c4 ?c5; (case kA => exact rfl); (case kF => exact rfl); (case kK => assumption); (case k1 => k_asm); (case k2 => k_asm); (case k3 => k_asm); (case k4 => k_asm); (case k5 => k_asm); (case k6 => k_mem); (case k7 => exact codeRec_news (by k_asm) (by k_mem) (by assumption) (by assumption)); (case k8 => ktr_room); (case k9 => exact BindsTo.of_eq rfl); (case c5 => decide); (case kB => exact locs rfl); (case c2 => exact rfl); (case c3 => exact rfl); (case c4 => exact rfl); k_whole; intro g' L' h' FG' F' N' B' X' T'; (try dsimp only); (try k_fold)))
local macro_rules | `(tactic| walk_at "compareOp NotEq ref ref") => `(tactic| refine Stop.out ?_)
local macro_rules | `(tactic| walk_at "compareOp Eq ref ref") => `(tactic| refine Stop.out ?_)
local macro_rules | `(tactic| walk_at "call type:range") => `(tactic| refine Stop.out ?_)
-- CSlicesRight
theorem off_CSlicesRight : True := by w_top off; trivial
structure DueS where
  us : List Value
  uk : Nat
  nx : Led
structure TrimS where
  p : Addr
  vs : List Value
  n : Nat
  ns : List Int
theorem norm_snoc0 : ∀ is : List Int, norm (is ++ [0]) = norm is
  | [] => by simp [norm]
  | x :: r => by
    have ih := norm_snoc0 r
    simp only [List.cons_append, norm, ih]
theorem norm_init {ns : List Int} (h : 0 < ns.length) (h0 : ns.getD (-1 + (ns.length : Int)).toNat 0 = 0) : norm (ns.take ((ns.length : Int) - 1).toNat) = norm ns := by
  cases hl : ns.length with
  | zero => omega
  | succ n =>
    obtain ⟨is, d, rfl, hn⟩ := snoc_of_len hl
    have e : (-1 + ((is ++ [d]).length : Int)).toNat = is.length := by rw [hl]; omega
    rw [e, List.getD_eq_getElem?_getD, List.getElem?_append_right (Nat.le_refl _)] at h0
    simp only [Nat.sub_self, List.getElem?_cons_zero, Option.getD_some] at h0
    rw [show (((n + 1 : Nat) : Int) - 1).toNat = is.length by omega, List.take_left', h0, norm_snoc0]
    rfl
theorem norm_done {ns : List Int} (h0 : ns.getD (-1 + (ns.length : Int)).toNat 0 ≠ 0) : norm ns = ns := by
  have h := norm_take ns ns.length (Nat.le_refl _) (fun j h1 h2 => absurd h2 (Nat.not_lt.mpr h1)) (by
    rcases Nat.eq_zero_or_pos ns.length with h | h
    · exact .inl h
    · right
      rwa [show (-1 + (ns.length : Int)).toNat = ns.length - 1 by omega] at h0)
  rwa [List.take_length] at h
def slice' (as : List Int) (l p : Nat) : List Int := (as.drop p).take l
theorem slice'_eq (as : List Int) (l p : Nat) : List.take (min (((p : Nat) : Int) + (l : Int)).toNat as.length - ((p : Nat) : Int).toNat) (List.drop ((p : Nat) : Int).toNat as) = slice' as l p := by
  rw [show (((p : Nat) : Int) + (l : Int)).toNat = p + l by omega, Int.toNat_natCast]
  unfold slice'
  rw [List.take_eq_take_iff, List.length_drop]
  omega
theorem slice_eq' (as : List Int) (l i : Nat) : slice as l i = slice' as l (i * l) := rfl
theorem slice'_len (as : List Int) (l p : Nat) : (slice' as l p).length ≤ l := by rw [slice', List.length_take]; omega
def ConH (w : World) (dN uN : Nat) (f : Addr) (vs : List Value) (news : Led) (post : Value → Led → Prop) : Prop :=
  ∀ (p : Program) (loose : List Str) (mean : ExcName → Option Value) (mg mb : Str → Option Value) (dp un : Nat) (gd : Option (List Code)) (cn : Str) (cs : Scope) (a : Addr) (ccd : Value) (cl : List (Str × Addr)) (outer : List Env) (A₀ : Around) (base h₀ : Heap) (L : Addr) (m : Str → Option Value) (s : Shared)
    (Q E : Value → Shared → Prop),
    Below A₀ base outer h₀ → Fr h₀ L s.heap m → (hd.heap_39 w.params).In h₀ → News h₀ L s.heap news → Top p loose mean mg mb h₀ → CodeHd h₀ 88 84 → cs.kind = .function → dp + dN < recursionLimit → un + uN < cLine →
    (∀ r news' h' tk', Fr h₀ L h' m → News h₀ L h' news' → post r news' → Q r { s with heap := h', toks := tk' }) →
    wpAny (model PySem.Challenge.rw_pq0549_01.row.prog w) (ktrTop dp un gd cn cs L a ccd cl outer) (call (.ref f) vs) Q E s

theorem slices_right_con (w : World) {la lb : Addr} {va vb : List Value} {as bs : List Int} {na nb : Nat} {rest : Led} {k : Int} {t : Tok} {ps : Array Value}
  (hma : (la, listOf va.toArray na) ∈ rest) (hmb : (lb, listOf vb.toArray nb) ∈ rest) (hia : IntsAre va as) (hib : IntsAre vb bs)
  (hza : as.length ≤ 7) (hzb : bs.length ≤ 7) (hk : 2 ≤ k ∧ k ≤ 9) (hda : Good (2 ^ k.toNat) as) (hdb : Good (2 ^ k.toNat) bs) (hne : ∀ p ∈ rest, p.1 ≠ 84) (htab : TabIs 69 4 (Str.ofString "_law_slices_right.<locals>.mul_told") ps rest) :
    ConH w 140 800 89 [.ref la, .ref lb, .int k t] ((84, tabObj ps) :: rest) (fun v nx => ∃ ps' nx', v = .bool true ∧ nx = (84, tabObj ps') :: nx' ∧ (∀ p ∈ rest, p ∈ nx') ∧ (∀ p ∈ nx', p.1 ≠ 84) ∧ ((ps' = ps ∧ nx' = rest) ∨ ∃ q, nx' = q :: rest ∧ (∀ p ∈ rest, p.1 < q.1) ∧ TabIs 69 4 (Str.ofString "_law_slices_right.<locals>.mul_told") ps' [q])) := by
  unfold ConH
  k_fill
  intro p loose mean mg mb dp un gd cn cs a ccd cl outer A₀ base h₀ L m s Q E B F X N T C hkk hdp hun ret
  refine wpAny_call ?_
  have hIa := hia.length
  have hIb := hib.length
  k_dflt (walk_at "my enterC")
  refine wpAny_noRaise ?_
  rename_i g' L' h1 tk1 FG' F1 B1 X1 T1 l1 o1 o2 d1 d2 N1
  replace d1 : o1.data = .cell none := d1
  replace d2 : o2.data = .cell (some (.int k t)) := d2
  obtain ⟨h84, hrl⟩ := l1
  have hrlt := allLt_lt hrl
  have hr1 : ∀ p ∈ rest, p.1 ≠ L' + 1 := fun p hp => Nat.ne_of_lt (Nat.lt_succ_of_lt (hrlt p hp))
  have hr2 : ∀ p ∈ rest, p.1 ≠ L' + 1 + 1 := fun p hp => Nat.ne_of_lt (Nat.lt_succ_of_lt (Nat.lt_succ_of_lt (hrlt p hp)))
  have C1 : CodeHd g' 88 84 := C.keeps FG'.keep
  k_steps
  rename_i ak _ lk Ka ca _ lka Kb cb _ lkb Dk _ lkd Do _ lko _ _ oa da _ F2 N2
  refine Stop.mk ?_
  obtain ⟨y1, y2, y3, y4⟩ := lk
  obtain ⟨z1, z2, z3, z4, z5⟩ := lka
  obtain ⟨x1, x2, x3, x4, x5, x6⟩ := lkb
  obtain ⟨v1, v2, v3, v4, v5, v6, v7⟩ := lkd
  clear lko
  have y5 := allLt_lt y4
  have z6 := allLt_lt z5
  have x7 := allLt_lt x6
  have v8 := allLt_lt v7
  k_dflt (refine' nestDef_K ?d0 ?k0 ?a0 ?_; (case d0 => exact rfl); (case k0 => exact rfl); (case a0 => exact rfl))
  k_dflt (refine' nest_any (rest0 := rest) (others := (Dk, tupObj [Value.ref Ka, Value.ref Kb]) :: (Kb, listOf vb.toArray cb) :: (Ka, listOf va.toArray ca) :: (ak, listOf ([] : List Value).toArray 0) :: (L' + 1 + 1, oa) :: (L' + 1, o2) :: rest) F2 (kst_newsOf N2 ?sub) ?hP T1 C1 ?cd htab ?hs ?cl ?_)
  case sub =>
    intro p hp
    simp only [List.mem_cons] at hp ⊢
    grind
  case hP => exact List.forall_mem_cons.mpr ⟨Nat.ne_of_gt v6, List.forall_mem_cons.mpr ⟨Nat.ne_of_gt x5, List.forall_mem_cons.mpr ⟨Nat.ne_of_gt z4, List.forall_mem_cons.mpr ⟨Nat.ne_of_gt y3, List.forall_mem_cons.mpr ⟨Nat.ne_of_gt (Nat.lt_succ_of_lt (Nat.lt_succ_of_lt h84)), List.forall_mem_cons.mpr ⟨Nat.ne_of_gt (Nat.lt_succ_of_lt h84), hne⟩⟩⟩⟩⟩⟩
  case cd => exact rfl
  case hs => exact fun p hp => .tail _ (.tail _ (.tail _ (.tail _ (.tail _ (.tail _ hp)))))
  case cl => exact rfl
  intro f c' oc vs t9 doc ctv ps' h3 tk3 of hof F3 N3 hocd hocv hps hlf hPf hcf hc'
  have hcak : c' ≠ ak := by
    rcases hc' with q | q
    · exact Nat.ne_of_gt (q _ (.tail _ (.tail _ (.tail _ (.head _)))))
    · exact Nat.ne_of_lt (y5 _ q.1)
  have hms : MulSays w f ak lb k t bs ((f, of) :: (c', oc) :: (84, tabObj ps') :: (Dk, tupObj [Value.ref Ka, Value.ref Kb]) :: (Kb, listOf vb.toArray cb) :: (Ka, listOf va.toArray ca) :: (L' + 1 + 1, oa) :: (L' + 1, o2) :: rest) := by
    intro nx us uk lo vo no os hsubx hnex hlo hio hgo hol hus
    have m1 := hsubx _ (.head _)
    rw [hof] at m1
    have m2 := hsubx _ (.tail _ (.head _))
    have m3 := hsubx _ (.tail _ (.tail _ (.tail _ (.tail _ (.tail _ (.tail _ (.head _)))))))
    have m4 := hsubx _ (.tail _ (.tail _ (.tail _ (.tail _ (.tail _ (.tail _ (.tail _ (.head _))))))))
    have m5 := hsubx _ (.tail _ (.tail _ (.tail _ (.tail _ (.tail _ (.tail _ (.tail _ (.tail _ hmb))))))))
    unfold Con
    clear F3 N3 F2 N2 FG' F N B B1
    clear hdp hun ret
    intro p loose mean mg mb dp un gd cn cs a ccd cl outer A₀ base h₀ L m s Q E B F X N T hkk hdp hun ret
    refine wpAny_call ?_
    k_dflt (walk_at "my enterN")
    refine wpAny_noRaise ?_
    k_steps
    rename_i gq Lq _ FGq Bq Xq Tq _ tp _ ltp _ Fq Nq
    simp only [List.push_toArray] at Nq
    obtain ⟨ltp1, ltp2⟩ := ltp
    have ltp3 := allLt_lt ltp2
    have hvo := val_lt hk.2 hgo.1 hol
    have hvb := val_lt hk.2 hdb.1 hzb
    refine Stop.mk ?_
    refine (whole_con w (la := lo) (by k_mem) hio (by omega) hk hgo).use Bq Fq Xq Nq Tq rfl (by show dp + 1 + 8 < recursionLimit; omega) (by show un + 3 + 100 < cLine; omega) ?_
    rintro v nx1 h4 tk4 F4 N4 ⟨t1, rfl, rfl⟩
    k_steps
    refine Stop.mk ?_
    refine (whole_con w (la := lb) (by k_mem) hib (by omega) hk hdb).use Bq F4 Xq N4 Tq rfl (by show dp + 1 + 8 < recursionLimit; omega) (by show un + 3 + 100 < cLine; omega) ?_
    rintro v nx1 h5 tk5 F5 N5 ⟨t2, rfl, rfl⟩
    k_steps
    refine Stop.mk ?_
    have hpr := mul_lt hvo hvb
    refine (told_con w (n := val (2 ^ k.toNat) os * val (2 ^ k.toNat) bs) ⟨hpr.1, Int.lt_trans hpr.2 (by decide)⟩ hk).use Bq F5 Xq N5 Tq rfl (by show dp + 1 + 8 < recursionLimit; omega) (by show un + 3 + 100 < cLine; omega) ?_
    rintro v nx1 h6 tk6 F6 N6 ⟨r, rv, rn, rms, rfl, rfl, hlt6, hI6, hG6, hv6, hl6⟩
    k_steps
    rename Fr h₀ L _ m => kF
    rename News h₀ L _ _ => kN
    exact ret _ _ _ _ kF kN ⟨r, rv, rn, rms, tp, _, rfl, rfl, ltp3, ltp1, hlt6 _ (.head _), hI6, hG6, hv6⟩
  have hq0 : ∃ oc od fd sl, of = (⟨oc, od, .func fd, sl⟩ : Obj) := ⟨_, _, _, _, hof⟩
  obtain ⟨oc1, od1, fd1, sl1, hof1⟩ := hq0
  clear hof
  subst hof1
  have hqm : (f, (⟨oc1, od1, .func fd1, sl1⟩ : Obj)) ∈ (f, (⟨oc1, od1, .func fd1, sl1⟩ : Obj)) :: (c', oc) :: (84, tabObj ps') :: (Dk, tupObj [Value.ref Ka, Value.ref Kb]) :: (Kb, listOf vb.toArray cb) :: (Ka, listOf va.toArray ca) :: (L' + 1 + 1, oa) :: (L' + 1, o2) :: rest := .head _
  have hak : ak < f := hlf _ (.tail _ (.tail _ (.tail _ (.head _))))
  k_steps
  refine Stop.mk ?_
  rename Fr g' L' _ _ => F4
  rename News g' L' _ _ => N4
  refine (mul_slices_con w (la := la) (lb := lb) (ak := ak) (q := f) (uk := 0) (rest := (f, (⟨oc1, od1, .func fd1, sl1⟩ : Obj)) :: (c', oc) :: (84, tabObj ps') :: (Dk, tupObj [Value.ref Ka, Value.ref Kb]) :: (Kb, listOf vb.toArray cb) :: (Ka, listOf va.toArray ca) :: (L' + 1 + 1, oa) :: (L' + 1, o2) :: rest) (by k_mem) (by k_mem) hia hib hza hzb hk hda hdb ?hne1 hqm hms).use B1 F4 X1 (kst_newsOf N4 ?sub1) T1 rfl (by show dp + 1 + 100 < recursionLimit; omega) (by show un + 3 + 600 < cLine; omega) ?_
  case hne1 => exact List.forall_mem_cons.mpr ⟨Nat.ne_of_gt hak, List.forall_mem_cons.mpr ⟨hcak, List.forall_mem_cons.mpr ⟨Nat.ne_of_lt y3, List.forall_mem_cons.mpr ⟨Nat.ne_of_gt v3, List.forall_mem_cons.mpr ⟨Nat.ne_of_gt x2, List.forall_mem_cons.mpr ⟨Nat.ne_of_gt z1, List.forall_mem_cons.mpr ⟨Nat.ne_of_lt y1, List.forall_mem_cons.mpr ⟨Nat.ne_of_lt y2, lt_ne y5⟩⟩⟩⟩⟩⟩⟩⟩
  case sub1 =>
    intro p hp
    simp only [List.mem_cons] at hp ⊢
    grind
  rintro v nx1 h5 tk5 F5 N5 ⟨r, rv, rn, rms, us, uk, nx, rfl, rfl, hsx, hnx, hI5, hG5, hv5, hD5⟩
  have n0 := hsx _ (.tail _ (.head _))
  have n1 := hsx _ (.tail _ (.tail _ (.head _)))
  have n2 := hsx _ (.tail _ (.tail _ (.tail _ (.head _))))
  have n3 := hsx _ (.tail _ (.tail _ (.tail _ (.tail _ (.head _)))))
  have n4 := hsx _ (.tail _ (.tail _ (.tail _ (.tail _ (.tail _ (.head _))))))
  have n5 := hsx _ (.tail _ (.tail _ (.tail _ (.tail _ (.tail _ (.tail _ (.head _)))))))
  have n6 := hsx _ (.tail _ (.tail _ (.tail _ (.tail _ (.tail _ (.tail _ (.tail _ (.head _))))))))
  have n7 := hsx _ (.tail _ (.tail _ (.tail _ (.tail _ (.tail _ (.tail _ (.tail _ (.tail _ hma))))))))
  have n8 := hsx _ (.tail _ (.tail _ (.tail _ (.tail _ (.tail _ (.tail _ (.tail _ (.tail _ hmb))))))))
  k_steps
  have hva := val_lt hk.2 hda.1 hza
  have hvb := val_lt hk.2 hdb.1 hzb
  have hrl : rms.length ≤ 63 := good_len hk.1 hG5 (by rw [hv5]; exact (mul_lt hva hvb).2)
  refine Stop.mk ?_
  rename Fr g' L' _ _ => F55
  rename News g' L' _ _ => N55
  refine (whole_con w (la := r) (k := k) (t := t) (by k_mem) hI5 (by omega) hk hG5).use B1 F55 X1 N55 T1 rfl (by show dp + 1 + 8 < recursionLimit; omega) (by show un + 3 + 100 < cLine; omega) ?_
  rintro v nx6 h6 tk6 F6 N6 ⟨t6, rfl, rfl⟩
  rw [hv5]
  k_steps
  refine Stop.mk ?_
  refine (whole_con w (la := la) (k := k) (t := t) (by k_mem) hia (by omega) hk hda).use B1 F6 X1 N6 T1 rfl (by show dp + 1 + 8 < recursionLimit; omega) (by show un + 3 + 100 < cLine; omega) ?_
  rintro v nx7 h7 tk7 F7 N7 ⟨t7, rfl, rfl⟩
  k_steps
  refine Stop.mk ?_
  refine (whole_con w (la := lb) (k := k) (t := t) (by k_mem) hib (by omega) hk hdb).use B1 F7 X1 N7 T1 rfl (by show dp + 1 + 8 < recursionLimit; omega) (by show un + 3 + 100 < cLine; omega) ?_
  rintro v nx8 h8 tk8 F8 N8 ⟨t8, rfl, rfl⟩
  generalize val (2 ^ k.toNat) as = va0 at *
  generalize val (2 ^ k.toNat) bs = vb0 at *
  iterate 4 walk1
  · rename va0 * vb0 ≠ va0 * vb0 => h9
    exact absurd rfl h9
  k_steps
  refine Stop.mk ?_
  rename Fr g' L' _ _ => F9
  rename News g' L' _ _ => N9
  refine dat_ne_same (d := .tuple [intsDat as, intsDat bs]) N9 (.tuple (.head _) (.cons (datIn_ints (by k_mem) hia) (.cons (datIn_ints (by k_mem) hib) .nil))) (.tuple (by k_mem) (.cons (datIn_ints (by k_mem) hia) (.cons (datIn_ints (by k_mem) hib) .nil)))
    (by simp only [kqdOk, List.all_cons, List.all_nil, kqdOk_ints, Bool.and_self]) (by walk_at "my units") ?_
  k_steps
  rename_i Dt _ ldt _ du _ ldu _ _ _ _ F10 N10
  refine Stop.mk ?_
  have hst : ∃ st : Nat, 0 < st ∧ (if 1 > (bs.length : Int) then (1 : Int) else (bs.length : Int)) = (st : Int) ∧ (bs ≠ [] → st = bs.length) ∧ st ≤ 7 := by
    cases hl : bs.length with
    | zero => exact ⟨1, by decide, rfl, fun h => absurd (List.length_eq_zero_iff.mp hl) h, by decide⟩
    | succ n => exact ⟨n + 1, by omega, by rw [if_neg (by omega)], fun _ => rfl, by omega⟩
  obtain ⟨st, hst0, hst1, hst2, hst3⟩ := hst
  rw [hst1]
  refine range3_rows F10 N10 (by omega) ?_
  intro h11 tk11 t11 u11 v11 rg F11 N11 _
  k_steps
  refine Stop.mk ?_
  have hback : ∀ p ∈ (84, tabObj ps') :: (c', oc) :: rest, p ∈ nx := List.forall_mem_cons.mpr ⟨n1, List.forall_mem_cons.mpr ⟨n0, fun p hp => hsx _ (.tail _ (.tail _ (.tail _ (.tail _ (.tail _ (.tail _ (.tail _ (.tail _ hp))))))))⟩⟩
  have hback2 : ∀ p ∈ (84, tabObj ps') :: rest, p ∈ nx := List.forall_mem_cons.mpr ⟨n1, fun p hp => hback p (.tail _ (.tail _ hp))⟩
  have hc84 : c' ≠ 84 := by
    rcases hc' with q | q
    · exact Nat.ne_of_gt (Nat.lt_trans (Nat.lt_succ_of_lt h84) (q _ (.tail _ (.tail _ (.tail _ (.tail _ (.tail _ (.head _))))))))
    · exact hne _ q.1
  have n84 : ∀ p ∈ nx, p.1 ≠ du := lt_ne (allLt_lt ldu.2.2.2)
  have hdak : @LT.lt Nat instLTNat ak du := ldu.2.2.1
  have hsz : Builtin.Range.rangeSize 0 (as.length : Int) (st : Int) = ((slices as.length st : Nat) : Int) := slices_range hst0
  have hszl := slices_le (la := as.length) hst0
  refine' my_range (σ := DueS) (n := slices as.length st) (fun c => (du, listOf c.us.toArray c.uk) :: (ak, listOf us.toArray uk) :: c.nx) (fun c => [(Str.ofString "due", .ref du), (Str.ofString "a", .ref la), (Str.ofString "b", .ref lb)])
    (fun i c => (bs ≠ [] → DatAll c.nx c.us (sliceDats as bs k i)) ∧ (∀ p ∈ nx, p ∈ c.nx) ∧ (∀ p ∈ c.nx, p.1 ≠ du) ∧ c.us.length ≤ i) ⟨[], 0, nx⟩ (by rfl) rg (small_up hst0 (by omega) (by omega)) hsz F11 (kst_newsOf N11 ?sub) (by walk_at "my all") ?p0 ?turn ?done
  case sub =>
    intro p hp
    simp only [List.mem_cons] at hp ⊢
    grind
  case p0 => exact ⟨fun _ => .nil, fun p hp => hp, n84, Nat.le_refl _⟩
  case done =>
    rintro ⟨us2, uk2, nx2⟩ u h tk ⟨hD, hs, hn, hl⟩ F3 N3
    dsimp only [kstB] at hD hs hn hl F3 N3 ⊢
    have m5 := hs _ n5
    have m6 := hs _ n6
    have m7 := hs _ n7
    have m8 := hs _ n8
    have hD5' := hD5.mono hs
    k_steps
    refine Stop.mk ?_
    rename_i em _ F12 N12 lem
    refine ke_eq_ints (News.isList N12 (by k_mem)) (ys := []) (News.isList (items := #[]) N12 (.head _)) hib IntsAre.nil (by walk_at "my units") ?_
    by_cases hb : bs = []
    · rw [decide_eq_true hb]
      rw [hb, List.length_nil, if_pos rfl] at hD5'
      k_steps
      refine Stop.mk ?_
      rename Fr g' L' _ _ => F15
      rename News g' L' _ _ => N15
      refine dat_eq_same (d := .list []) N15 (.list (vs := us) (n := uk) (by k_mem) (hD5'.mono (fun p hp => by k_mem))) (.list (vs := []) (n := 0) (.head _) .nil) rfl (by walk_at "my units") ?_
      k_steps
      rename Fr h₀ L _ m => kF
      rename News h₀ L _ _ => kN
      rcases hc' with q | ⟨q, qe⟩
      · exact ret _ _ _ _ kF (kst_newsOf kN (fun p hp => by have := hs _ (hback p hp); k_mem)) ⟨ps', (c', oc) :: rest, rfl, rfl, fun p hp => .tail _ hp, List.forall_mem_cons.mpr ⟨hc84, hne⟩, .inr ⟨_, rfl, fun p hp => q _ (.tail _ (.tail _ (.tail _ (.tail _ (.tail _ (.tail _ hp)))))), .inr ⟨c', oc, vs, t9, hps, .head _, hocd, hocv⟩⟩⟩
      · subst qe
        exact ret _ _ _ _ kF (kst_newsOf kN (fun p hp => by have := hs _ (hback2 p hp); k_mem)) ⟨_, rest, rfl, rfl, fun p hp => hp, hne, .inl ⟨rfl, rfl⟩⟩
    · rw [decide_eq_false hb]
      rw [if_neg (fun h => hb (List.length_eq_zero_iff.mp h))] at hD5'
      have hD' := hD hb
      rw [hst2 hb] at hD'
      k_steps
      refine Stop.mk ?_
      rename Fr g' L' _ _ => F15
      rename News g' L' _ _ => N15
      refine dat_eq_same (d := .list (sliceDats as bs k (slices as.length bs.length))) N15 (.list (vs := us) (n := uk) (by k_mem) (hD5'.mono (fun p hp => by k_mem))) (.list (vs := us2) (n := uk2) (by k_mem) (hD'.mono (fun p hp => by k_mem))) (kqdOk_slices _ _ _ _) (by walk_at "my units") ?_
      k_steps
      rename Fr h₀ L _ m => kF
      rename News h₀ L _ _ => kN
      rcases hc' with q | ⟨q, qe⟩
      · exact ret _ _ _ _ kF (kst_newsOf kN (fun p hp => by have := hs _ (hback p hp); k_mem)) ⟨ps', (c', oc) :: rest, rfl, rfl, fun p hp => .tail _ hp, List.forall_mem_cons.mpr ⟨hc84, hne⟩, .inr ⟨_, rfl, fun p hp => q _ (.tail _ (.tail _ (.tail _ (.tail _ (.tail _ (.tail _ hp)))))), .inr ⟨c', oc, vs, t9, hps, .head _, hocd, hocv⟩⟩⟩
      · subst qe
        exact ret _ _ _ _ kF (kst_newsOf kN (fun p hp => by have := hs _ (hback2 p hp); k_mem)) ⟨_, rest, rfl, rfl, fun p hp => hp, hne, .inl ⟨rfl, rfl⟩⟩
  case turn =>
    rintro i kk tt ⟨us2, uk2, nx2⟩ u h tk I o hkk hi ⟨hD, hs, hn, hl⟩ hlt3 hne3 F3 N3
    dsimp only [kstB] at hD hs hn hl hlt3 hne3 F3 N3
    have m5 := hs _ n5
    have m6 := hs _ n6
    have m7 := hs _ n7
    have m8 := hs _ n8
    have hil := slices_lt hst0 hi
    have hdI : @LT.lt Nat instLTNat du I := hlt3 _ (.head _)
    have hakI : @LT.lt Nat instLTNat ak I := hlt3 _ (.tail _ (.head _))
    have ekk : kk = ((i * st : Nat) : Int) := by rw [hkk]; simp
    k_steps
    refine Stop.mk ?_
    rename_i pt pv _ F12 N12 hI12 hC12 hL12 lpt _ F13 N13
    have epl : List.take (min (kk + (bs.length : Int)).toNat as.length - kk.toNat) (List.drop kk.toNat as) = slice' as bs.length (i * st) := by
      rw [ekk]
      exact slice'_eq as bs.length (i * st)
    rw [epl] at hI12
    have hpl7 : (slice' as bs.length (i * st)).length ≤ 7 := by
      have := slice'_len as bs.length (i * st)
      omega
    refine' my_while (σ := TrimS) (fun c => (c.p, listOf c.vs.toArray c.n) :: (I, o) :: (du, listOf us2.toArray uk2) :: (ak, listOf us.toArray uk) :: nx2) (fun c => [(Str.ofString "part", .ref c.p), (Str.ofString "due", .ref du), (Str.ofString "a", .ref la), (Str.ofString "b", .ref lb)])
      (fun c => IntsAre c.vs c.ns ∧ norm c.ns = norm (slice' as bs.length (i * st)) ∧ c.ns.length ≤ 7 ∧ @LT.lt Nat instLTNat I c.p ∧ @LT.lt Nat instLTNat du c.p) (fun c => c.ns.length) ⟨pt, pv, 0, _⟩ F13 N13 (by walk_at "my all") ⟨hI12, rfl, hpl7, lpt.1, lpt.2.1⟩ ?trim PassesOwn.never
    case trim =>
      rintro ⟨p9, vs9, c9, ns9⟩ u9 h9 tk9 ⟨hI9, hnm9, hl9, hp9, hq9⟩ F14 N14
      dsimp only [kstB] at hI9 hnm9 hl9 hp9 hq9 F14 N14 ⊢
      have hIl9 := hI9.length
      k_steps
      refine Stop.mk ?_
      rename_i em _ F15 N15 lem
      refine ke_ne_ints (News.isList N15 (by k_mem)) (ys := []) (News.isList (items := #[]) N15 (.head _)) hI9 IntsAre.nil (by walk_at "my units") ?_
      by_cases hb : ns9 = []
      · rw [decide_eq_true hb, Bool.not_true]
        k_steps
        rename Fr g' L' _ _ => F17
        rename News g' L' _ _ => N17
        rename_i dt _ ldt9 _
        simp only [List.push_toArray] at N17
        refine ⟨⟨us2 ++ [Value.ref dt], uk2 + 1, (dt, tupObj [Value.ref p9, Value.ref lb, Value.int k t]) :: (p9, listOf vs9.toArray c9) :: nx2⟩, _, _, _, rfl, F17, kst_newsOf N17 ?sub2, ?ne2, by walk_at "my all", ?d2, fun p hp => .tail _ (.tail _ (hs p hp)), ?n2, ?l2⟩
        case sub2 =>
          intro p hp
          simp only [List.mem_append, List.mem_cons, List.not_mem_nil, or_false] at hp ⊢
          grind
        case ne2 => exact List.forall_mem_cons.mpr ⟨Nat.ne_of_lt hdI, List.forall_mem_cons.mpr ⟨Nat.ne_of_lt hakI, List.forall_mem_cons.mpr ⟨Nat.ne_of_gt ldt9.2.2.1, List.forall_mem_cons.mpr ⟨Nat.ne_of_gt hp9, fun p hp => hne3 p (.tail _ (.tail _ hp))⟩⟩⟩⟩
        case n2 => exact List.forall_mem_cons.mpr ⟨Nat.ne_of_gt ldt9.2.2.2.1, List.forall_mem_cons.mpr ⟨Nat.ne_of_gt hq9, hn⟩⟩
        case l2 => simp only [List.length_append, List.length_cons, List.length_nil]; omega
        case d2 =>
          intro hbne
          show DatAll _ (us2 ++ [Value.ref dt]) _
          have ens : norm (slice as bs.length i) = ns9 := by
            rw [slice_eq', show i * bs.length = i * st by rw [hst2 hbne], ← hnm9]
            rw [hb]; rfl
          rw [sliceDats_succ, ens]
          exact ((hD hbne).mono fun p hp => .tail _ (.tail _ hp)).append (DatAll.one (DatIn.tuple (.head _) (.cons (datIn_ints (.tail _ (.head _)) hI9) (.cons (datIn_ints (.tail _ (.tail _ m8)) hib) (.cons (.int k t) .nil)))))
      · rw [decide_eq_false hb, Bool.not_false]
        have hpos := List.length_pos_iff.mpr hb
        k_steps
        · rename Fr g' L' _ _ => F17
          rename News g' L' _ _ => N17
          rename ns9.getD _ 0 = 0 => h0
          rename IntsAre _ (List.take _ ns9) => hI17
          rename_i D17 _ _ _ _ l17 _
          refine ⟨⟨D17, _, 0, _⟩, _, _, _, rfl, F17, kst_newsOf N17 ?sub3, by walk_at "my all", ⟨hI17, (norm_init hpos h0).trans hnm9, ?_, l17.2.2.1, l17.2.2.2.1⟩, ?_⟩
          case sub3 =>
            intro p hp
            simp only [List.mem_append, List.mem_cons, List.not_mem_nil, or_false] at hp ⊢
            grind
          · dsimp only; rw [List.length_take]; omega
          · dsimp only; rw [List.length_take]; omega
        · rename ns9.getD _ 0 ≠ 0 => h0
          rename Fr g' L' _ _ => F17
          rename News g' L' _ _ => N17
          rename_i dt _ ldt9 _
          simp only [List.push_toArray] at N17
          refine ⟨⟨us2 ++ [Value.ref dt], uk2 + 1, (dt, tupObj [Value.ref p9, Value.ref lb, Value.int k t]) :: (p9, listOf vs9.toArray c9) :: nx2⟩, _, _, _, rfl, F17, kst_newsOf N17 ?sub2b, ?ne2b, by walk_at "my all", ?d2b, fun p hp => .tail _ (.tail _ (hs p hp)), ?n2b, ?l2b⟩
          case sub2b =>
            intro p hp
            simp only [List.mem_append, List.mem_cons, List.not_mem_nil, or_false] at hp ⊢
            grind
          case ne2b => exact List.forall_mem_cons.mpr ⟨Nat.ne_of_lt hdI, List.forall_mem_cons.mpr ⟨Nat.ne_of_lt hakI, List.forall_mem_cons.mpr ⟨Nat.ne_of_gt ldt9.2.2.1, List.forall_mem_cons.mpr ⟨Nat.ne_of_gt hp9, fun p hp => hne3 p (.tail _ (.tail _ hp))⟩⟩⟩⟩
          case n2b => exact List.forall_mem_cons.mpr ⟨Nat.ne_of_gt ldt9.2.2.2.1, List.forall_mem_cons.mpr ⟨Nat.ne_of_gt hq9, hn⟩⟩
          case l2b => simp only [List.length_append, List.length_cons, List.length_nil]; omega
          case d2b =>
            intro hbne
            show DatAll _ (us2 ++ [Value.ref dt]) _
            have ens : norm (slice as bs.length i) = ns9 := by
              rw [slice_eq', show i * bs.length = i * st by rw [hst2 hbne], ← hnm9]
              exact norm_done h0
            rw [sliceDats_succ, ens]
            exact ((hD hbne).mono fun p hp => .tail _ (.tail _ hp)).append (DatAll.one (DatIn.tuple (.head _) (.cons (datIn_ints (.tail _ (.head _)) hI9) (.cons (datIn_ints (.tail _ (.tail _ m8)) hib) (.cons (.int k t) .nil)))))
end
section
local macro_rules | `(tactic| is_list) => `(tactic| exact News.isList (by k_asm) (by k_mem))
local macro_rules | `(tactic| k_mem) => `(tactic| first | assumption | exact List.mem_cons_self | (refine List.mem_cons_of_mem _ ?_; k_mem))
local macro_rules | `(tactic| k_all) => `(tactic| first | exact allLt_ne (by assumption) | exact lt_ne (by assumption) | assumption)
local macro_rules | `(tactic| walk_at "pyIter ref") => `(tactic| refine Stop.out ?_)
local macro_rules | `(tactic| walk_at "TP") => `(tactic| dsimp only [TP])
local macro_rules | `(tactic| walk_at "WP") => `(tactic| dsimp only [WP])
local macro_rules | `(tactic| walk_at "my all") => `(tactic| first | exact List.forall_mem_nil _ | (refine List.forall_mem_cons.mpr ⟨by with_unfolding_all rfl, ?_⟩; walk_at "my all"))
local macro_rules | `(tactic| size_fits) => `(tactic| ((simp only [List.size_toArray, List.length_append, List.length_cons, List.length_nil, PySem.sizeLine_eq]); omega))
local macro_rules | `(tactic| walk_at "call ref") => `(tactic| refine Stop.out ?_)
local macro_rules | `(tactic| walk_at "binaryOp Mult ref int") => `(tactic| (k_here; (with_reducible show wpAny _ _ (binaryOp Operator.Mult (Value.ref _) (Value.int _ _)) _ _ _); k_dflt (refine' mul_zeros ?F ?N ?m ?a ?b ?_; (case F => k_asm); (case N => k_asm); (case m => k_mem); (case a => omega); (case b => omega)); intro D' ws' h' F' N' l1 hI'; (try dsimp only); (try k_lt l1); (try k_sweep)))
local macro_rules | `(tactic| walk_at "binaryOp Add ref ref") => `(tactic| (k_here; (with_reducible show wpAny _ _ (binaryOp _ (Value.ref _) (Value.ref _)) _ _ _); k_dflt (refine' kmk_add_ints ?F ?N ?a ?b ?i ?j ?_ ?z; (case F => k_asm); (case N => k_asm); (case a => is_list); (case b => is_list); (case i => l_ints); (case j => l_ints); (case z => ((simp only [PySem.sizeLine_eq, List.length_append, List.length_replicate, List.length_take, List.length_drop, List.length_cons, List.length_nil]); omega))); intro D' ws' h' F' N' l1 hI'; (try dsimp only); (try k_lt l1); (try k_sweep)))
local macro_rules | `(tactic| walk_at "my size") => `(tactic| ((simp only [PySem.sizeLine_eq, List.length_append, List.length_replicate, List.length_take, List.length_drop, List.length_cons, List.length_nil, List.length_reverse]); omega))
local macro_rules | `(tactic| walk_at "subscriptTail Name Slice ref ref") => `(tactic| (k_here; (with_reducible show wpAny _ _ (subscriptTail _ (PySem.Expr.Slice _ _ none _) (Value.ref _) (Value.ref _)) _ _ _); k_dflt (refine' kmk_slice_ints ?F ?N ?l ?p ?q ?i ?m ?c ?_ ?s ?t ?z; (case F => k_asm); (case N => k_asm); (case l => is_list); (case p => kmk_part); (case q => kmk_part); (case i => l_ints); (case m => first | exact kmk_all (by l_ints) | exact kmk_from (by l_ints) (by omega) | exact kmk_upto (by l_ints) (by omega) | exact kmk_run (by l_ints) (by omega) (by omega)); (case c => kmk_len); (case s => with_unfolding_all rfl); (case t => kmk_pure); (case z => exact kmk_sz (by l_ints) (by walk_at "my size"))); intro D' ws' h' F' N' l1 hI' hC' hL'; (try simp only [Int.reduceNeg, Int.neg_neg, Int.reduceToNat] at hI' hC' hL'); (try dsimp only); (try k_lt l1); (try k_sweep)))
local macro_rules | `(tactic| walk_at "my for") => `(tactic| (k_here; (rename Fr _ _ _ _ => lF'); (with_unfolding_all refine' For_invVF lF' ?k1 ?k2 ?_; (case k1 => exact rfl); (case k2 => exact rfl); k_whole)))
local macro_rules | `(tactic| walk_at "exec For Name Subscript cons nil") => `(tactic| walk_at "my for")
local macro_rules | `(tactic| walk_at "subscriptTail Name Slice ref ref") => `(tactic| (k_here; (with_reducible show wpAny _ _ (subscriptTail _ (PySem.Expr.Slice none none (some _) _) (Value.ref _) (Value.ref _)) _ _ _); k_dflt (refine' krv_ints ?F ?N ?l ?k ?i ?_ ?s ?t ?z; (case F => k_asm); (case N => k_asm); (case l => is_list); (case k => exact IsPart.int _ _); (case i => l_ints); (case s => with_unfolding_all rfl); (case t => kmk_pure); (case z => exact kmk_sz (by l_ints) (by walk_at "my size"))); intro D' ws' h' F' N' l1 hI' hC'; (try dsimp only); (try k_lt l1); (try k_sweep)))
local macro_rules | `(tactic| walk_at "my units") => `(tactic| ((dsimp only [Around.deeper, ktrTop]); omega))
local macro_rules | `(tactic| walk_at "compareOp NotEq ref ref") => `(tactic| (k_here; (with_reducible show wpAny _ _ (compareOp CmpOp.NotEq (Value.ref _) (Value.ref _)) _ _ _); k_dflt (refine' ke_ne_ints ?a ?b ?i ?j ?u ?_; (case a => is_list); (case b => is_list); (case i => l_ints); (case j => l_ints); (case u => walk_at "my units"))))
local macro_rules | `(tactic| walk_at "compareOp Eq ref ref") => `(tactic| (k_here; (with_reducible show wpAny _ _ (compareOp CmpOp.Eq (Value.ref _) (Value.ref _)) _ _ _); k_dflt (refine' ke_eq_ints ?a ?b ?i ?j ?u ?_; (case a => is_list); (case b => is_list); (case i => l_ints); (case j => l_ints); (case u => walk_at "my units"))))
local macro_rules | `(tactic| walk_at "exec While Compare cons nil") => `(tactic| refine Stop.out ?_)
local macro_rules | `(tactic| walk_at "WT") => `(tactic| dsimp only [WT])
local macro_rules | `(tactic| walk_at "exec While BoolOp cons nil") => `(tactic| refine Stop.out ?_)
local macro_rules | `(tactic| walk_at "exec Assign cons ListComp") => `(tactic| refine Stop.out ?_)
local macro_rules | `(tactic| walk_at "my enterC") => `(tactic| (refine' code_defC ?k1 ?k2 ?k3 ?k4 ?k5 ?kA ?kF ?kK ?k6 ?k7 ?k8 ?k9 ?kB ?kD ?_ ?c2 ?c3 ?c4; (case kA => exact rfl); (case kF => exact rfl); (case kK => assumption); (case k1 => k_asm); (case k2 => k_asm); (case k3 => k_asm); (case k4 => k_asm); (case k5 => k_asm); (case k6 => k_is); (case k7 => k_is); (case k8 => ktr_room); (case k9 => exact BindsTo.of_eq rfl); (case kB => exact rfl); (case kD => decide +kernel); (case c2 => exact rfl); (case c3 => exact rfl); (case c4 => exact rfl); k_whole; intro g' L' h' tk' cells' FG' F' N' Y' B' X' T' l1; (try k_lt l1); k_cells Y'; (try simp only [List.cons_append, List.nil_append] at N'); (try dsimp only); (try k_fold)))
local macro_rules | `(tactic| walk_at "my comp") => `(tactic| ((rename Fr _ _ _ _ => lF'); (with_unfolding_all refine' assign_comp lF' ?hsw ?hL ?hclos ?hcell ?hkind ?hnames ?hx ?hy ?hp ?_ ?hs); (case hsw => with_unfolding_all rfl); (case hL => with_unfolding_all rfl); (case hclos => with_unfolding_all rfl); (case hcell => decide); (case hkind => with_unfolding_all rfl); (case hnames => decide); (case hx => with_unfolding_all rfl); (case hy => with_unfolding_all rfl); (case hp => with_unfolding_all rfl); (case hs => intro _; with_unfolding_all rfl)))
local macro_rules | `(tactic| walk_at "callWith ref") => `(tactic| (k_here; k_dflt (refine' callWith_F ?k1 ?_; (case k1 => exact FnAt.of (by k_asm) (by k_mem)); k_whole)))
local macro_rules | `(tactic| walk_at "FnAt") => `(tactic| (k_dflt (exact FnAt.of (by k_asm) (by k_mem))))
local macro_rules | `(tactic| walk_at "exec FunctionDef") => `(tactic| refine Stop.out ?_)
local macro_rules | `(tactic| walk_at "my enterN") => `(tactic| (refine' code_nest ?k1 ?k2 ?k3 ?k4 ?k5 ?kA ?kF ?kK ?k6 ?k7 ?k8 ?k9 ?kB ?_ ?c2 ?c3 ?c4 ?c5; (case kA => exact rfl); (case kF => exact rfl); (case kK => assumption); (case k1 => k_asm); (case k2 => k_asm); (case k3 => k_asm); (case k4 => k_asm); (case k5 => k_asm); (case k6 => k_mem); (case k7 => exact codeRec_news (by k_asm) (by k_mem) (by assumption) (by assumption)); (case k8 => ktr_room); (case k9 => exact BindsTo.of_eq rfl); (case c5 => decide); (case kB => exact locs rfl); (case c2 => exact rfl); (case c3 => exact rfl); (case c4 => exact rfl); k_whole; intro g' L' h' FG' F' N' B' X' T'; (try dsimp only); (try k_fold)))
-- CTup
theorem off_CTup : True := by w_top off; trivial
section
variable {prog : Program} {w : World} {A : Around} {E : Value → Shared → Prop} {s : Shared} {env : Env} {h₀ : Heap} {target : Expr} {body : List Stmt} {Q : Flow → Shared → Prop} {σ : Type}
theorem my_tupT {l : Addr} {vs : List Value} {m₀ : Str → Option Value} (Ld : σ → Led) (ps : σ → List (Str × Value)) (P : Nat → σ → Prop) (c₀ : σ)
    (hh : A.handled = none) (hl : ∀ c, (l, tupObj vs) ∈ Ld c)
    (F : Fr h₀ env.locals s.heap m₀) (N : News h₀ env.locals s.heap (Ld c₀)) (hps : ∀ p ∈ ps c₀, m₀ p.1 = some p.2) (hP : P 0 c₀)
    (turn : ∀ i v c u h tk I o, vs[i]? = some v → P i c → (∀ p ∈ Ld c₀, p.1 < I) → (∀ p ∈ Ld c, p.1 ≠ I) →
      Fr h₀ env.locals h (kstB u (ps c)) → News h₀ env.locals h ((I, o) :: Ld c) →
      wpAny (model prog w) A (assign target env v) (fun _ s₃ => wpAny (model prog w) A (execs body env) (TP h₀ env.locals [(I, o)] I Ld ps (P (i + 1)) { s with heap := h, toks := tk } Q) E s₃) E { s with heap := h, toks := tk })
    (done : ∀ c u h tk, P vs.length c → Fr h₀ env.locals h (kstB u (ps c)) → News h₀ env.locals h (Ld c) → Q .next { s with heap := h, toks := tk }) :
    wpAny (model prog w) A (pyIter (.ref l)) (fun it s₂ => TurnsAt prog w A h₀ env target body Q E it s₂) E s := by
  have hol : s.heap.get? l = some (tupObj vs) := (N _ (hl c₀)).1
  have hls : s.heap.IsTuple l vs.toArray := ⟨_, hol, rfl, _, rfl⟩
  have hne : l ≠ s.heap.objs.size := Nat.ne_of_lt (Heap.lt_size hol)
  refine wpAny_pyIter_tuple hls ?_
  have W := KTurns.ofWalks (target := target) (Walks.tuple (prog := prog) (w := w) hh s.heap.objs.size l hne vs.toArray) fun i v s Q E st q => letGo_tupleiter st.1 q
  have hlen : vs.toArray.size = vs.length := by simp
  rw [hlen] at W
  have hlt : ∀ p ∈ Ld c₀, p.1 < s.heap.objs.size := fun p hp => Heap.lt_size (N p hp).1
  refine ⟨_, _, _, vs.length, _, _, _, m₀, Ld c₀, (fun i m nx => ∃ c, nx = Ld c ∧ (∀ p ∈ ps c, m p.1 = some p.2) ∧ P i c), rfl, W, ?_, ?_, ?_, ⟨⟨_, Heap.get?_push_size _ rfl, rfl, rfl⟩, hls.at fun o e => Heap.get?_push_of_some _ e⟩, F.push _, ?_, ⟨c₀, rfl, hps, hP⟩, ?_, ?_⟩
  · intro hm
    rcases List.mem_cons.mp hm with e | hm
    · exact absurd F.ns.lt (e ▸ Nat.lt_irrefl _)
    · exact (N _ (hl c₀)).2.1 ((List.mem_singleton.mp hm).symm)
  · intro b hb
    rw [List.mem_singleton.mp hb]
    exact next_is_new F
  · intro p hp hI
    exact absurd (Heap.lt_size (N p hp).1) ((List.mem_singleton.mp hI) ▸ Nat.lt_irrefl _)
  · exact fun p hp => ⟨Heap.get?_push_of_some _ (N p hp).1, (N p hp).2⟩
  · rintro i v m₁ nx hh' tk' own hi hv ⟨c, rfl, hps', hP'⟩ hoff hown hget hall hst F₁ N₁
    obtain ⟨⟨oI, hoI, hrI⟩, hls₁⟩ := hst
    have hio : (s.heap.objs.size, oI) ∈ own := hall s.heap.objs.size (.head _) (next_is_new F) _ hoI
    have hoff' : ∀ p ∈ Ld c, p.1 ≠ s.heap.objs.size := fun p hp e => hoff p hp (List.mem_singleton.mpr e)
    have hcase : ∀ p ∈ own, p = (s.heap.objs.size, oI) ∨ p = (l, tupObj vs) := by
      intro p hp
      have hg := hget p hp
      rcases List.mem_cons.mp (hown p hp) with e | e
      · left
        rw [e, hoI] at hg
        exact Prod.ext e (Option.some.inj hg).symm
      · right
        have e := List.mem_singleton.mp e
        rw [e, (N₁ _ (List.mem_append_right _ (hl c))).1] at hg
        exact Prod.ext e (Option.some.inj hg).symm
    rw [← kst_self hps'] at F₁
    have hv' : vs[i]? = some v := by simpa using hv
    have fin : ∀ s₂, TE h₀ env.locals [(s.heap.objs.size, oI)] s.heap.objs.size Ld ps (P (i + 1)) { s with heap := hh', toks := tk' } s₂ →
        LoopStepU h₀ env.locals [s.heap.objs.size] own (fun m nx => ∃ c, nx = Ld c ∧ (∀ p ∈ ps c, m p.1 = some p.2) ∧ P (i + 1) c) { s with heap := hh', toks := tk' } .next s₂ := by
      rintro s₂ ⟨c', h', tk, m', e, F', N', hoff2, hps2, hP2⟩
      refine ⟨rfl, h', tk, m', Ld c', e, F', fun p hp => ?_, fun p hp hq => hoff2 p hp (List.mem_singleton.mp hq), c', rfl, hps2, hP2⟩
      rcases List.mem_append.mp hp with h1 | h1
      · rcases hcase p h1 with e | e
        · rw [e]; exact N' _ (.head _)
        · rw [e]; exact N' _ (List.mem_append_right _ (hl c'))
      · exact N' _ (List.mem_append_right _ h1)
    refine wpAny_mono (turn i v c m₁ hh' tk' _ oI hv' hP' hlt hoff' F₁ (news_one hio N₁)) (fun _ s₃ q => wpAny_mono q (fun f s₂ p => ?_) fun _ _ e => e) fun _ _ e => e
    cases f with
    | ret v => exact .ret p
    | brk => exact .brk p
    | next => exact .next (fin _ p)
    | cont => exact .cont (fin _ p)
  · rintro h' tk m' nx F' N' _ ⟨c, rfl, hps', hP'⟩
    rw [← kst_self hps'] at F'
    exact done c m' h' tk hP' F' N'
end
end
section
local macro_rules | `(tactic| is_list) => `(tactic| exact News.isList (by k_asm) (by k_mem))
local macro_rules | `(tactic| k_mem) => `(tactic| first | assumption | exact List.mem_cons_self | (refine List.mem_cons_of_mem _ ?_; k_mem))
local macro_rules | `(tactic| k_all) => `(tactic| first | exact allLt_ne (by assumption) | exact lt_ne (by assumption) | assumption)
local macro_rules | `(tactic| walk_at "pyIter ref") => `(tactic| refine Stop.out ?_)
local macro_rules | `(tactic| walk_at "TP") => `(tactic| dsimp only [TP])
local macro_rules | `(tactic| walk_at "WP") => `(tactic| dsimp only [WP])
local macro_rules | `(tactic| walk_at "my all") => `(tactic| first | exact List.forall_mem_nil _ | (refine List.forall_mem_cons.mpr ⟨by with_unfolding_all rfl, ?_⟩; walk_at "my all"))
local macro_rules | `(tactic| size_fits) => `(tactic| ((simp only [List.size_toArray, List.length_append, List.length_cons, List.length_nil, PySem.sizeLine_eq]); omega))
local macro_rules | `(tactic| walk_at "call ref") => `(tactic| refine Stop.out ?_)
local macro_rules | `(tactic| walk_at "binaryOp Mult ref int") => `(tactic| (k_here; (with_reducible show wpAny _ _ (binaryOp Operator.Mult (Value.ref _) (Value.int _ _)) _ _ _); k_dflt (refine' mul_zeros ?F ?N ?m ?a ?b ?_; (case F => k_asm); (case N => k_asm); (case m => k_mem); (case a => omega); (case b => omega)); intro D' ws' h' F' N' l1 hI'; (try dsimp only); (try k_lt l1); (try k_sweep)))
local macro_rules | `(tactic| walk_at "binaryOp Add ref ref") => `(tactic| (k_here; (with_reducible show wpAny _ _ (binaryOp _ (Value.ref _) (Value.ref _)) _ _ _); k_dflt (refine' kmk_add_ints ?F ?N ?a ?b ?i ?j ?_ ?z; (case F => k_asm); (case N => k_asm); (case a => is_list); (case b => is_list); (case i => l_ints); (case j => l_ints); (case z => ((simp only [PySem.sizeLine_eq, List.length_append, List.length_replicate, List.length_take, List.length_drop, List.length_cons, List.length_nil]); omega))); intro D' ws' h' F' N' l1 hI'; (try dsimp only); (try k_lt l1); (try k_sweep)))
local macro_rules | `(tactic| walk_at "my size") => `(tactic| ((simp only [PySem.sizeLine_eq, List.length_append, List.length_replicate, List.length_take, List.length_drop, List.length_cons, List.length_nil, List.length_reverse]); omega))
local macro_rules | `(tactic| walk_at "subscriptTail Name Slice ref ref") => `(tactic| (k_here; (with_reducible show wpAny _ _ (subscriptTail _ (PySem.Expr.Slice _ _ none _) (Value.ref _) (Value.ref _)) _ _ _); k_dflt (refine' kmk_slice_ints ?F ?N ?l ?p ?q ?i ?m ?c ?_ ?s ?t ?z; (case F => k_asm); (case N => k_asm); (case l => is_list); (case p => kmk_part); (case q => kmk_part); (case i => l_ints); (case m => first | exact kmk_all (by l_ints) | exact kmk_from (by l_ints) (by omega) | exact kmk_upto (by l_ints) (by omega) | exact kmk_run (by l_ints) (by omega) (by omega)); (case c => kmk_len); (case s => with_unfolding_all rfl); (case t => kmk_pure); (case z => exact kmk_sz (by l_ints) (by walk_at "my size"))); intro D' ws' h' F' N' l1 hI' hC' hL'; (try simp only [Int.reduceNeg, Int.neg_neg, Int.reduceToNat] at hI' hC' hL'); (try dsimp only); (try k_lt l1); (try k_sweep)))
local macro_rules | `(tactic| walk_at "my for") => `(tactic| (k_here; (rename Fr _ _ _ _ => lF'); (with_unfolding_all refine' For_invVF lF' ?k1 ?k2 ?_; (case k1 => exact rfl); (case k2 => exact rfl); k_whole)))
local macro_rules | `(tactic| walk_at "exec For Name Subscript cons nil") => `(tactic| walk_at "my for")
local macro_rules | `(tactic| walk_at "subscriptTail Name Slice ref ref") => `(tactic| (k_here; (with_reducible show wpAny _ _ (subscriptTail _ (PySem.Expr.Slice none none (some _) _) (Value.ref _) (Value.ref _)) _ _ _); k_dflt (refine' krv_ints ?F ?N ?l ?k ?i ?_ ?s ?t ?z; (case F => k_asm); (case N => k_asm); (case l => is_list); (case k => exact IsPart.int _ _); (case i => l_ints); (case s => with_unfolding_all rfl); (case t => kmk_pure); (case z => exact kmk_sz (by l_ints) (by walk_at "my size"))); intro D' ws' h' F' N' l1 hI' hC'; (try dsimp only); (try k_lt l1); (try k_sweep)))
local macro_rules | `(tactic| walk_at "my units") => `(tactic| ((dsimp only [Around.deeper, ktrTop]); omega))
local macro_rules | `(tactic| walk_at "compareOp NotEq ref ref") => `(tactic| (k_here; (with_reducible show wpAny _ _ (compareOp CmpOp.NotEq (Value.ref _) (Value.ref _)) _ _ _); k_dflt (refine' ke_ne_ints ?a ?b ?i ?j ?u ?_; (case a => is_list); (case b => is_list); (case i => l_ints); (case j => l_ints); (case u => walk_at "my units"))))
local macro_rules | `(tactic| walk_at "compareOp Eq ref ref") => `(tactic| (k_here; (with_reducible show wpAny _ _ (compareOp CmpOp.Eq (Value.ref _) (Value.ref _)) _ _ _); k_dflt (refine' ke_eq_ints ?a ?b ?i ?j ?u ?_; (case a => is_list); (case b => is_list); (case i => l_ints); (case j => l_ints); (case u => walk_at "my units"))))
local macro_rules | `(tactic| walk_at "exec While Compare cons nil") => `(tactic| refine Stop.out ?_)
local macro_rules | `(tactic| walk_at "WT") => `(tactic| dsimp only [WT])
local macro_rules | `(tactic| walk_at "exec While BoolOp cons nil") => `(tactic| refine Stop.out ?_)
local macro_rules | `(tactic| walk_at "exec Assign cons ListComp") => `(tactic| refine Stop.out ?_)
local macro_rules | `(tactic| walk_at "my enterC") => `(tactic| (refine' code_defC ?k1 ?k2 ?k3 ?k4 ?k5 ?kA ?kF ?kK ?k6 ?k7 ?k8 ?k9 ?kB ?kD ?_ ?c2 ?c3 ?c4; (case kA => exact rfl); (case kF => exact rfl); (case kK => assumption); (case k1 => k_asm); (case k2 => k_asm); (case k3 => k_asm); (case k4 => k_asm); (case k5 => k_asm); (case k6 => k_is); (case k7 => k_is); (case k8 => ktr_room); (case k9 => exact BindsTo.of_eq rfl); (case kB => exact rfl); (case kD => decide +kernel); (case c2 => exact rfl); (case c3 => exact rfl); (case c4 => exact rfl); k_whole; intro g' L' h' tk' cells' FG' F' N' Y' B' X' T' l1; (try k_lt l1); k_cells Y'; (try simp only [List.cons_append, List.nil_append] at N'); (try dsimp only); (try k_fold)))
local macro_rules | `(tactic| walk_at "my comp") => `(tactic| ((rename Fr _ _ _ _ => lF'); (with_unfolding_all refine' assign_comp lF' ?hsw ?hL ?hclos ?hcell ?hkind ?hnames ?hx ?hy ?hp ?_ ?hs); (case hsw => with_unfolding_all rfl); (case hL => with_unfolding_all rfl); (case hclos => with_unfolding_all rfl); (case hcell => decide); (case hkind => with_unfolding_all rfl); (case hnames => decide); (case hx => with_unfolding_all rfl); (case hy => with_unfolding_all rfl); (case hp => with_unfolding_all rfl); (case hs => intro _; with_unfolding_all rfl)))
local macro_rules | `(tactic| walk_at "callWith ref") => `(tactic| (k_here; k_dflt (refine' callWith_F ?k1 ?_; (case k1 => exact FnAt.of (by k_asm) (by k_mem)); k_whole)))
local macro_rules | `(tactic| walk_at "FnAt") => `(tactic| (k_dflt (exact FnAt.of (by k_asm) (by k_mem))))
local macro_rules | `(tactic| walk_at "exec FunctionDef") => `(tactic| refine Stop.out ?_)
local macro_rules | `(tactic| walk_at "my enterN") => `(tactic| (refine' code_nest ?k1 ?k2 ?k3 ?k4 ?k5 ?kA ?kF ?kK ?k6 ?k7 ?k8 ?k9 ?kB ?_ ?c2 ?c3 ?c4 ?c5; (case kA => exact rfl); (case kF => exact rfl); (case kK => assumption); (case k1 => k_asm); (case k2 => k_asm); (case k3 => k_asm); (case k4 => k_asm); (case k5 => k_asm); (case k6 => k_mem); (case k7 => exact codeRec_news (by k_asm) (by k_mem) (by assumption) (by assumption)); (case k8 => ktr_room); (case k9 => exact BindsTo.of_eq rfl); (case c5 => decide); (case kB => exact locs rfl); (case c2 => exact rfl); (case c3 => exact rfl); (case c4 => exact rfl); k_whole; intro g' L' h' FG' F' N' B' X' T'; (try dsimp only); (try k_fold)))
-- CPfLp
theorem off_CPfLp : True := by w_top off; trivial
theorem pfGo_le {n least : Int} (hn : 0 ≤ n) (hl : least ≤ n) : ∀ f p, pfGo n least f p = pfGo n 0 f p
  | 0, _ => rfl
  | f + 1, p => by simp only [pfGo, hl, hn, true_and, pfGo_le hn hl f]
theorem lpGo_le {n least : Int} (hn : 0 ≤ n) (hl : least ≤ n) : ∀ i, lpGo n least i = lpGo n 0 i
  | 0 => rfl
  | i + 1 => by simp only [lpGo, hl, hn, true_and, lpGo_le hn hl i]
theorem lpGo_gt {n least : Int} (hl : ¬ least ≤ n) : ∀ i, lpGo n least i = 1
  | 0 => rfl
  | i + 1 => by rw [lpGo, if_neg (fun h => hl h.1), lpGo_gt hl i]
theorem pf_lp0 : ∀ n : Fin 248, pfGo ((n.val : Nat) : Int) 0 13 1 = lpGo ((n.val : Nat) : Int) 0 8 := by decide +kernel
theorem pf_lp16 : ∀ n : Fin 248, pfGo (16 * ((n.val : Nat) : Int)) 0 13 1 = lpGo (16 * ((n.val : Nat) : Int)) 0 8 := by decide +kernel
theorem pf_lp64 : pfGo 64 0 13 1 = lpGo 64 0 8 := by decide +kernel
theorem pf_lp_of {n least : Int} (hn : 0 ≤ n) (h : pfGo n 0 13 1 = lpGo n 0 8) : pfGo n least 13 1 = lpGo n least 8 := by
  by_cases hl : least ≤ n
  · rw [pfGo_le hn hl, lpGo_le hn hl, h]
  · rw [pfGo_stop (fun q => hl q.1), lpGo_gt hl]
theorem pf_lp_list {n least : Int} (hn : 0 ≤ n ∧ n < 248) : [pfGo n least 13 1, pfGo (16 * n) least 13 1, pfGo 64 least 13 1] = [lpGo n least 8, lpGo (16 * n) least 8, lpGo 64 least 8] := by
  obtain ⟨k, rfl⟩ := Int.eq_ofNat_of_zero_le hn.1
  have hk : k < 248 := by omega
  rw [pf_lp_of (by omega) (pf_lp0 ⟨k, hk⟩), pf_lp_of (by omega) (pf_lp16 ⟨k, hk⟩), pf_lp_of (by omega) pf_lp64]
end
section
local macro_rules | `(tactic| is_list) => `(tactic| exact News.isList (by k_asm) (by k_mem))
local macro_rules | `(tactic| k_mem) => `(tactic| first | assumption | exact List.mem_cons_self | (refine List.mem_cons_of_mem _ ?_; k_mem))
local macro_rules | `(tactic| k_all) => `(tactic| first | exact allLt_ne (by assumption) | exact lt_ne (by assumption) | assumption)
local macro_rules | `(tactic| walk_at "pyIter ref") => `(tactic| refine Stop.out ?_)
local macro_rules | `(tactic| walk_at "TP") => `(tactic| dsimp only [TP])
local macro_rules | `(tactic| walk_at "WP") => `(tactic| dsimp only [WP])
local macro_rules | `(tactic| walk_at "my all") => `(tactic| first | exact List.forall_mem_nil _ | (refine List.forall_mem_cons.mpr ⟨by with_unfolding_all rfl, ?_⟩; walk_at "my all"))
local macro_rules | `(tactic| size_fits) => `(tactic| ((simp only [List.size_toArray, List.length_append, List.length_cons, List.length_nil, PySem.sizeLine_eq]); omega))
local macro_rules | `(tactic| walk_at "call ref") => `(tactic| refine Stop.out ?_)
local macro_rules | `(tactic| walk_at "binaryOp Mult ref int") => `(tactic| (k_here; (with_reducible show wpAny _ _ (binaryOp Operator.Mult (Value.ref _) (Value.int _ _)) _ _ _); k_dflt (refine' mul_zeros ?F ?N ?m ?a ?b ?_; (case F => k_asm); (case N => k_asm); (case m => k_mem); (case a => omega); (case b => omega)); intro D' ws' h' F' N' l1 hI'; (try dsimp only); (try k_lt l1); (try k_sweep)))
local macro_rules | `(tactic| walk_at "binaryOp Add ref ref") => `(tactic| (k_here; (with_reducible show wpAny _ _ (binaryOp _ (Value.ref _) (Value.ref _)) _ _ _); k_dflt (refine' kmk_add_ints ?F ?N ?a ?b ?i ?j ?_ ?z; (case F => k_asm); (case N => k_asm); (case a => is_list); (case b => is_list); (case i => l_ints); (case j => l_ints); (case z => ((simp only [PySem.sizeLine_eq, List.length_append, List.length_replicate, List.length_take, List.length_drop, List.length_cons, List.length_nil]); omega))); intro D' ws' h' F' N' l1 hI'; (try dsimp only); (try k_lt l1); (try k_sweep)))
local macro_rules | `(tactic| walk_at "my size") => `(tactic| ((simp only [PySem.sizeLine_eq, List.length_append, List.length_replicate, List.length_take, List.length_drop, List.length_cons, List.length_nil, List.length_reverse]); omega))
local macro_rules | `(tactic| walk_at "subscriptTail Name Slice ref ref") => `(tactic| (k_here; (with_reducible show wpAny _ _ (subscriptTail _ (PySem.Expr.Slice _ _ none _) (Value.ref _) (Value.ref _)) _ _ _); k_dflt (refine' kmk_slice_ints ?F ?N ?l ?p ?q ?i ?m ?c ?_ ?s ?t ?z; (case F => k_asm); (case N => k_asm); (case l => is_list); (case p => kmk_part); (case q => kmk_part); (case i => l_ints); (case m => first | exact kmk_all (by l_ints) | exact kmk_from (by l_ints) (by omega) | exact kmk_upto (by l_ints) (by omega) | exact kmk_run (by l_ints) (by omega) (by omega)); (case c => kmk_len); (case s => with_unfolding_all rfl); (case t => kmk_pure); (case z => exact kmk_sz (by l_ints) (by walk_at "my size"))); intro D' ws' h' F' N' l1 hI' hC' hL'; (try simp only [Int.reduceNeg, Int.neg_neg, Int.reduceToNat] at hI' hC' hL'); (try dsimp only); (try k_lt l1); (try k_sweep)))
local macro_rules | `(tactic| walk_at "my for") => `(tactic| (k_here; (rename Fr _ _ _ _ => lF'); (with_unfolding_all refine' For_invVF lF' ?k1 ?k2 ?_; (case k1 => exact rfl); (case k2 => exact rfl); k_whole)))
local macro_rules | `(tactic| walk_at "exec For Name Subscript cons nil") => `(tactic| walk_at "my for")
local macro_rules | `(tactic| walk_at "subscriptTail Name Slice ref ref") => `(tactic| (k_here; (with_reducible show wpAny _ _ (subscriptTail _ (PySem.Expr.Slice none none (some _) _) (Value.ref _) (Value.ref _)) _ _ _); k_dflt (refine' krv_ints ?F ?N ?l ?k ?i ?_ ?s ?t ?z; (case F => k_asm); (case N => k_asm); (case l => is_list); (case k => exact IsPart.int _ _); (case i => l_ints); (case s => with_unfolding_all rfl); (case t => kmk_pure); (case z => exact kmk_sz (by l_ints) (by walk_at "my size"))); intro D' ws' h' F' N' l1 hI' hC'; (try dsimp only); (try k_lt l1); (try k_sweep)))
local macro_rules | `(tactic| walk_at "my units") => `(tactic| ((dsimp only [Around.deeper, ktrTop]); omega))
local macro_rules | `(tactic| walk_at "compareOp NotEq ref ref") => `(tactic| (k_here; (with_reducible show wpAny _ _ (compareOp CmpOp.NotEq (Value.ref _) (Value.ref _)) _ _ _); k_dflt (refine' ke_ne_ints ?a ?b ?i ?j ?u ?_; (case a => is_list); (case b => is_list); (case i => l_ints); (case j => l_ints); (case u => walk_at "my units"))))
local macro_rules | `(tactic| walk_at "compareOp Eq ref ref") => `(tactic| (k_here; (with_reducible show wpAny _ _ (compareOp CmpOp.Eq (Value.ref _) (Value.ref _)) _ _ _); k_dflt (refine' ke_eq_ints ?a ?b ?i ?j ?u ?_; (case a => is_list); (case b => is_list); (case i => l_ints); (case j => l_ints); (case u => walk_at "my units"))))
local macro_rules | `(tactic| walk_at "exec While Compare cons nil") => `(tactic| refine Stop.out ?_)
local macro_rules | `(tactic| walk_at "WT") => `(tactic| dsimp only [WT])
local macro_rules | `(tactic| walk_at "exec While BoolOp cons nil") => `(tactic| refine Stop.out ?_)
local macro_rules | `(tactic| walk_at "exec Assign cons ListComp") => `(tactic| refine Stop.out ?_)
local macro_rules | `(tactic| walk_at "my enterC") => `(tactic| (refine' code_defC ?k1 ?k2 ?k3 ?k4 ?k5 ?kA ?kF ?kK ?k6 ?k7 ?k8 ?k9 ?kB ?kD ?_ ?c2 ?c3 ?c4; (case kA => exact rfl); (case kF => exact rfl); (case kK => assumption); (case k1 => k_asm); (case k2 => k_asm); (case k3 => k_asm); (case k4 => k_asm); (case k5 => k_asm); (case k6 => k_is); (case k7 => k_is); (case k8 => ktr_room); (case k9 => exact BindsTo.of_eq rfl); (case kB => exact rfl); (case kD => decide +kernel); (case c2 => exact rfl); (case c3 => exact rfl); (case c4 => exact rfl); k_whole; intro g' L' h' tk' cells' FG' F' N' Y' B' X' T' l1; (try k_lt l1); k_cells Y'; (try simp only [List.cons_append, List.nil_append] at N'); (try dsimp only); (try k_fold)))
local macro_rules | `(tactic| walk_at "my comp") => `(tactic| ((rename Fr _ _ _ _ => lF'); (with_unfolding_all refine' assign_comp lF' ?hsw ?hL ?hclos ?hcell ?hkind ?hnames ?hx ?hy ?hp ?_ ?hs); (case hsw => with_unfolding_all rfl); (case hL => with_unfolding_all rfl); (case hclos => with_unfolding_all rfl); (case hcell => decide); (case hkind => with_unfolding_all rfl); (case hnames => decide); (case hx => with_unfolding_all rfl); (case hy => with_unfolding_all rfl); (case hp => with_unfolding_all rfl); (case hs => intro _; with_unfolding_all rfl)))
local macro_rules | `(tactic| walk_at "callWith ref") => `(tactic| (k_here; k_dflt (refine' callWith_F ?k1 ?_; (case k1 => exact FnAt.of (by k_asm) (by k_mem)); k_whole)))
local macro_rules | `(tactic| walk_at "FnAt") => `(tactic| (k_dflt (exact FnAt.of (by k_asm) (by k_mem))))
local macro_rules | `(tactic| walk_at "exec FunctionDef") => `(tactic| refine Stop.out ?_)
local macro_rules | `(tactic| walk_at "my enterN") => `(tactic| (refine' code_nest ?k1 ?k2 ?k3 ?k4 ?k5 ?kA ?kF ?kK ?k6 ?k7 ?k8 ?k9 ?kB ?_ ?c2 ?c3 ?c4 ?c5; (case kA => exact rfl); (case kF => exact rfl); (case kK => assumption); (case k1 => k_asm); (case k2 => k_asm); (case k3 => k_asm); (case k4 => k_asm); (case k5 => k_asm); (case k6 => k_mem); (case k7 => exact codeRec_news (by k_asm) (by k_mem) (by assumption) (by assumption)); (case k8 => ktr_room); (case k9 => exact BindsTo.of_eq rfl); (case c5 => decide); (case kB => exact locs rfl); (case c2 => exact rfl); (case c3 => exact rfl); (case c4 => exact rfl); k_whole; intro g' L' h' FG' F' N' B' X' T'; (try dsimp only); (try k_fold)))
-- CCompTup
theorem off_CCompTup : True := by w_top off; trivial
section
variable {prog : Program} {w : World} {A : Around} {E : Value → Shared → Prop} {s : Shared} {env : Env} {h₀ : Heap} {L : Addr}
theorem comp_tuple {elt : Expr} {x : Str} {scope : Scope} {cl : List (Str × Addr)} {l : Addr} {vs : List Value} {mL : Str → Option Value} {nx₀ : Led} {K : (Str → Option Value) → List Value → Led → Shared → Addr → Nat → Prop} (J : Nat → List Value → Prop)
    (hh : A.handled = none) (F : Fr h₀ L s.heap mL) (N : News h₀ L s.heap nx₀) (hm : (l, tupObj vs) ∈ nx₀) (hJ : J 0 []) (hsz : vs.length ≤ sizeLine)
    (helt : ∀ (i : Nat) v ys h tk D C I oC oI nD mC, vs[i]? = some v → J i ys → (∀ p ∈ nx₀, p.1 < I) → (∀ p ∈ nx₀, p.1 < D) → (∀ p ∈ nx₀, p.1 < C) → Fr h₀ L h mL → News h₀ L h ((D, listOf (List.toArray ys) nD) :: (C, oC) :: (I, oI) :: nx₀) → h.Ns C mC → mC x = some v →
      wpAny (model prog w) A (eval elt (compEnvC scope cl C env)) (fun y s' => ∃ h' tk', s' = { s with heap := h', toks := tk' } ∧ Fr h₀ L h' mL ∧ News h₀ L h' ((D, listOf (List.toArray ys) nD) :: (C, oC) :: (I, oI) :: nx₀) ∧ J (i + 1) (ys ++ [y]))
        (fun _ _ => False) { s with heap := h, toks := tk })
    (hK : ∀ ys D nD h tk, J vs.length ys → ys.length = vs.length → (∀ p ∈ nx₀, p.1 < D) → Fr h₀ L h mL → News h₀ L h ((D, listOf (List.toArray ys) nD) :: nx₀) → K mL ys nx₀ { s with heap := h, toks := tk } D nD) :
    wpAny (model prog w) A (pyIter (.ref l)) (fun it s₂ => ∃ mL, CompAt prog w A h₀ L mL env scope cl x elt (K mL) it s₂) E s := by
  have hol : s.heap.get? l = some (tupObj vs) := (N _ hm).1
  have hls : s.heap.IsTuple l vs.toArray := ⟨_, hol, rfl, _, rfl⟩
  have hne : l ≠ s.heap.objs.size := Nat.ne_of_lt (Heap.lt_size hol)
  refine wpAny_pyIter_tuple hls ?_
  have W := Walks.tuple (prog := prog) (w := w) hh s.heap.objs.size l hne vs.toArray
  have hlen : vs.toArray.size = vs.length := by simp
  rw [hlen] at W
  have hlt : ∀ p ∈ nx₀, p.1 < s.heap.objs.size := fun p hp => Heap.lt_size (N p hp).1
  refine ⟨mL, s.heap.objs.size, _, vs.length, _, _, (fun i ys nx => nx = nx₀ ∧ J i ys), nx₀, rfl, W, fun i h st => ?_, fun b hb => ?_, ?_, Nat.ne_of_lt F.ns.lt, next_is_new F, ?_, ?_, F.push _, ?_, ⟨rfl, hJ⟩, hsz, ?_, ?_⟩
  · obtain ⟨oI, hoI, _⟩ := st.1
    exact ⟨oI, hoI⟩
  · rcases List.mem_cons.mp hb with e | e
    · exact .inl e
    · refine .inr ⟨tupObj vs, ?_⟩
      rintro i ys nx ⟨rfl, _⟩
      rw [List.mem_singleton.mp e]
      exact hm
  · rintro i ys nx ⟨rfl, _⟩
    exact hlt
  · show s.heap.objs.size < (s.heap.push _).objs.size
    rw [Heap.size_push]
    exact Nat.lt_succ_self _
  · exact ⟨⟨_, Heap.get?_push_size _ rfl, rfl, rfl⟩, hls.at fun o e => Heap.get?_push_of_some _ e⟩
  · exact fun p hp => ⟨Heap.get?_push_of_some _ (N p hp).1, (N p hp).2⟩
  · rintro i v ys nx h tk D C oI oC nD mC hi hv ⟨rfl, hj⟩ hD hDC F' N' hn' hmm
    have hv' : vs[i]? = some v := by simpa using hv
    refine wpAny_mono (helt i v ys h tk D C _ oC oI nD mC hv' hj hlt hD (fun p hp => Nat.lt_trans (hD p hp) hDC) F' N' hn' hmm) (fun y s₂ q => ?_) fun _ _ q => q
    obtain ⟨h', tk', e, F₂, N₂, j⟩ := q
    exact ⟨_, h', tk', e, F₂, N₂, rfl, j⟩
  · rintro ys nx D nD h tk ⟨rfl, hj⟩ hl hD F' N'
    exact hK ys D nD h tk hj hl hD F' N'
end
end
section
local macro_rules | `(tactic| is_list) => `(tactic| exact News.isList (by k_asm) (by k_mem))
local macro_rules | `(tactic| k_mem) => `(tactic| first | assumption | exact List.mem_cons_self | (refine List.mem_cons_of_mem _ ?_; k_mem))
local macro_rules | `(tactic| k_all) => `(tactic| first | exact allLt_ne (by assumption) | exact lt_ne (by assumption) | assumption)
local macro_rules | `(tactic| walk_at "TP") => `(tactic| dsimp only [TP])
local macro_rules | `(tactic| walk_at "WP") => `(tactic| dsimp only [WP])
local macro_rules | `(tactic| walk_at "my all") => `(tactic| first | exact List.forall_mem_nil _ | (refine List.forall_mem_cons.mpr ⟨by with_unfolding_all rfl, ?_⟩; walk_at "my all"))
local macro_rules | `(tactic| size_fits) => `(tactic| ((simp only [List.size_toArray, List.length_append, List.length_cons, List.length_nil, PySem.sizeLine_eq]); omega))
local macro_rules | `(tactic| walk_at "call ref") => `(tactic| refine Stop.out ?_)
local macro_rules | `(tactic| walk_at "binaryOp Mult ref int") => `(tactic| (k_here; (with_reducible show wpAny _ _ (binaryOp Operator.Mult (Value.ref _) (Value.int _ _)) _ _ _); k_dflt (refine' mul_zeros ?F ?N ?m ?a ?b ?_; (case F => k_asm); (case N => k_asm); (case m => k_mem); (case a => omega); (case b => omega)); intro D' ws' h' F' N' l1 hI'; (try dsimp only); (try k_lt l1); (try k_sweep)))
local macro_rules | `(tactic| walk_at "binaryOp Add ref ref") => `(tactic| (k_here; (with_reducible show wpAny _ _ (binaryOp _ (Value.ref _) (Value.ref _)) _ _ _); k_dflt (refine' kmk_add_ints ?F ?N ?a ?b ?i ?j ?_ ?z; (case F => k_asm); (case N => k_asm); (case a => is_list); (case b => is_list); (case i => l_ints); (case j => l_ints); (case z => ((simp only [PySem.sizeLine_eq, List.length_append, List.length_replicate, List.length_take, List.length_drop, List.length_cons, List.length_nil]); omega))); intro D' ws' h' F' N' l1 hI'; (try dsimp only); (try k_lt l1); (try k_sweep)))
local macro_rules | `(tactic| walk_at "my size") => `(tactic| ((simp only [PySem.sizeLine_eq, List.length_append, List.length_replicate, List.length_take, List.length_drop, List.length_cons, List.length_nil, List.length_reverse]); omega))
local macro_rules | `(tactic| walk_at "subscriptTail Name Slice ref ref") => `(tactic| (k_here; (with_reducible show wpAny _ _ (subscriptTail _ (PySem.Expr.Slice _ _ none _) (Value.ref _) (Value.ref _)) _ _ _); k_dflt (refine' kmk_slice_ints ?F ?N ?l ?p ?q ?i ?m ?c ?_ ?s ?t ?z; (case F => k_asm); (case N => k_asm); (case l => is_list); (case p => kmk_part); (case q => kmk_part); (case i => l_ints); (case m => first | exact kmk_all (by l_ints) | exact kmk_from (by l_ints) (by omega) | exact kmk_upto (by l_ints) (by omega) | exact kmk_run (by l_ints) (by omega) (by omega)); (case c => kmk_len); (case s => with_unfolding_all rfl); (case t => kmk_pure); (case z => exact kmk_sz (by l_ints) (by walk_at "my size"))); intro D' ws' h' F' N' l1 hI' hC' hL'; (try simp only [Int.reduceNeg, Int.neg_neg, Int.reduceToNat] at hI' hC' hL'); (try dsimp only); (try k_lt l1); (try k_sweep)))
local macro_rules | `(tactic| walk_at "my for") => `(tactic| (k_here; (rename Fr _ _ _ _ => lF'); (with_unfolding_all refine' For_invVF lF' ?k1 ?k2 ?_; (case k1 => exact rfl); (case k2 => exact rfl); k_whole)))
local macro_rules | `(tactic| walk_at "exec For Name Subscript cons nil") => `(tactic| walk_at "my for")
local macro_rules | `(tactic| walk_at "subscriptTail Name Slice ref ref") => `(tactic| (k_here; (with_reducible show wpAny _ _ (subscriptTail _ (PySem.Expr.Slice none none (some _) _) (Value.ref _) (Value.ref _)) _ _ _); k_dflt (refine' krv_ints ?F ?N ?l ?k ?i ?_ ?s ?t ?z; (case F => k_asm); (case N => k_asm); (case l => is_list); (case k => exact IsPart.int _ _); (case i => l_ints); (case s => with_unfolding_all rfl); (case t => kmk_pure); (case z => exact kmk_sz (by l_ints) (by walk_at "my size"))); intro D' ws' h' F' N' l1 hI' hC'; (try dsimp only); (try k_lt l1); (try k_sweep)))
local macro_rules | `(tactic| walk_at "my units") => `(tactic| ((dsimp only [Around.deeper, ktrTop]); omega))
local macro_rules | `(tactic| walk_at "compareOp NotEq ref ref") => `(tactic| (k_here; (with_reducible show wpAny _ _ (compareOp CmpOp.NotEq (Value.ref _) (Value.ref _)) _ _ _); k_dflt (refine' ke_ne_ints ?a ?b ?i ?j ?u ?_; (case a => is_list); (case b => is_list); (case i => l_ints); (case j => l_ints); (case u => walk_at "my units"))))
local macro_rules | `(tactic| walk_at "compareOp Eq ref ref") => `(tactic| (k_here; (with_reducible show wpAny _ _ (compareOp CmpOp.Eq (Value.ref _) (Value.ref _)) _ _ _); k_dflt (refine' ke_eq_ints ?a ?b ?i ?j ?u ?_; (case a => is_list); (case b => is_list); (case i => l_ints); (case j => l_ints); (case u => walk_at "my units"))))
local macro_rules | `(tactic| walk_at "exec While Compare cons nil") => `(tactic| refine Stop.out ?_)
local macro_rules | `(tactic| walk_at "WT") => `(tactic| dsimp only [WT])
local macro_rules | `(tactic| walk_at "exec While BoolOp cons nil") => `(tactic| refine Stop.out ?_)
local macro_rules | `(tactic| walk_at "exec Assign cons ListComp") => `(tactic| refine Stop.out ?_)
local macro_rules | `(tactic| walk_at "my enterC") => `(tactic| (refine' code_defC ?k1 ?k2 ?k3 ?k4 ?k5 ?kA ?kF ?kK ?k6 ?k7 ?k8 ?k9 ?kB ?kD ?_ ?c2 ?c3 ?c4; (case kA => exact rfl); (case kF => exact rfl); (case kK => assumption); (case k1 => k_asm); (case k2 => k_asm); (case k3 => k_asm); (case k4 => k_asm); (case k5 => k_asm); (case k6 => k_is); (case k7 => k_is); (case k8 => ktr_room); (case k9 => exact BindsTo.of_eq rfl); (case kB => exact rfl); (case kD => decide +kernel); (case c2 => exact rfl); (case c3 => exact rfl); (case c4 => exact rfl); k_whole; intro g' L' h' tk' cells' FG' F' N' Y' B' X' T' l1; (try k_lt l1); k_cells Y'; (try simp only [List.cons_append, List.nil_append] at N'); (try dsimp only); (try k_fold)))
local macro_rules | `(tactic| walk_at "my comp") => `(tactic| ((rename Fr _ _ _ _ => lF'); (with_unfolding_all refine' assign_comp lF' ?hsw ?hL ?hclos ?hcell ?hkind ?hnames ?hx ?hy ?hp ?_ ?hs); (case hsw => with_unfolding_all rfl); (case hL => with_unfolding_all rfl); (case hclos => with_unfolding_all rfl); (case hcell => decide); (case hkind => with_unfolding_all rfl); (case hnames => decide); (case hx => with_unfolding_all rfl); (case hy => with_unfolding_all rfl); (case hp => with_unfolding_all rfl); (case hs => intro _; with_unfolding_all rfl)))
local macro_rules | `(tactic| walk_at "callWith ref") => `(tactic| (k_here; k_dflt (refine' callWith_F ?k1 ?_; (case k1 => exact FnAt.of (by k_asm) (by k_mem)); k_whole)))
local macro_rules | `(tactic| walk_at "FnAt") => `(tactic| (k_dflt (exact FnAt.of (by k_asm) (by k_mem))))
local macro_rules | `(tactic| walk_at "exec FunctionDef") => `(tactic| refine Stop.out ?_)
local macro_rules | `(tactic| walk_at "my enterN") => `(tactic| (refine' code_nest ?k1 ?k2 ?k3 ?k4 ?k5 ?kA ?kF ?kK ?k6 ?k7 ?k8 ?k9 ?kB ?_ ?c2 ?c3 ?c4 ?c5; (case kA => exact rfl); (case kF => exact rfl); (case kK => assumption); (case k1 => k_asm); (case k2 => k_asm); (case k3 => k_asm); (case k4 => k_asm); (case k5 => k_asm); (case k6 => k_mem); (case k7 => exact codeRec_news (by k_asm) (by k_mem) (by assumption) (by assumption)); (case k8 => ktr_room); (case k9 => exact BindsTo.of_eq rfl); (case c5 => decide); (case kB => exact locs rfl); (case c2 => exact rfl); (case c3 => exact rfl); (case c4 => exact rfl); k_whole; intro g' L' h' FG' F' N' B' X' T'; (try dsimp only); (try k_fold)))
local macro_rules | `(tactic| walk_at "exec For Tuple Tuple cons nil") => `(tactic| refine Stop.out ?_)
local macro_rules | `(tactic| walk_at "pyIter ref") => `(tactic| (k_here; (with_reducible show wpAny _ _ (pyIter (Value.ref _)) (fun it s₂ => TurnsAt _ _ _ _ _ _ _ _ _ it s₂) _ _); refine Stop.out ?_))
local macro_rules | `(tactic| walk_at "eval ListComp") => `(tactic| (k_here; (with_reducible show wpAny _ _ (eval (Expr.ListComp (Expr.Call _ [Expr.Name _ _, Expr.Name _ _] _ _) _ _ _) _) _ _ _); refine Stop.out ?_))
local macro_rules | `(tactic| walk_at "my comp2") => `(tactic| ((rename Fr _ _ _ _ => lF'); (with_unfolding_all refine' eval_comp lF' ?hclos ?hcell ?hkind ?hnames ?hx ?_ ?hs); (case hclos => with_unfolding_all rfl); (case hcell => decide); (case hkind => with_unfolding_all rfl); (case hnames => decide); (case hx => with_unfolding_all rfl); (case hs => intro _; with_unfolding_all rfl)))
local macro_rules | `(tactic| walk_at "pyIter ref") => `(tactic| (k_here; (with_reducible show wpAny _ _ (pyIter (Value.ref _)) (fun it s₂ => ∃ mL, CompAt _ _ _ _ _ mL _ _ _ _ _ _ it s₂) _ _); refine Stop.out ?_))
local macro_rules | `(tactic| walk_at "compareOp Eq ref ref") => `(tactic| refine Stop.out ?_)
-- CLaw
theorem off_CLaw : True := by w_top off; trivial
theorem absmap_nonneg (ns : List Int) : ∀ d ∈ ns.map (fun k' => if k' < 0 then -k' else k'), 0 ≤ d := by
  intro d hd
  obtain ⟨x, _, rfl⟩ := List.mem_map.mp hd
  split <;> omega
theorem ConH.use {w : World} {dN uN : Nat} {f : Addr} {vs : List Value} {news : Led} {post : Value → Led → Prop} (C : ConH w dN uN f vs news post)
    {p : Program} {loose : List Str} {mean : ExcName → Option Value} {mg mb : Str → Option Value} {dp un : Nat} {gd : Option (List Code)} {cn : Str} {cs : Scope} {a : Addr} {ccd : Value} {cl : List (Str × Addr)} {outer : List Env} {A₀ : Around} {base h₀ : Heap} {L : Addr} {m : Str → Option Value} {s : Shared}
    {Q E : Value → Shared → Prop} (B : Below A₀ base outer h₀) (F : Fr h₀ L s.heap m) (X : (hd.heap_39 w.params).In h₀) (N : News h₀ L s.heap news) (T : Top p loose mean mg mb h₀) (Cd : CodeHd h₀ 88 84) (hk : cs.kind = .function) (hdp : dp + dN < recursionLimit) (hun : un + uN < cLine)
    (ret : ∀ r news' h' tk', Fr h₀ L h' m → News h₀ L h' news' → post r news' → Q r { s with heap := h', toks := tk' }) :
    wpAny (model PySem.Challenge.rw_pq0549_01.row.prog w) (ktrTop dp un gd cn cs L a ccd cl outer) (call (.ref f) vs) Q E s := C _ _ _ _ _ _ _ _ _ _ _ _ _ _ _ _ _ _ _ _ _ _ B F X N T Cd hk hdp hun ret
structure LawS where
  ps : Array Value
  ex : Led
theorem TabIs.mono {line col : Int} {qual : Str} {ps : Array Value} {r1 r2 : Led} (h : TabIs line col qual ps r1) (hs : ∀ p ∈ r1, p ∈ r2) : TabIs line col qual ps r2 := by
  rcases h with h | ⟨c', oc, vs, t, h1, h2, h3, h4⟩
  · exact .inl h
  · exact .inr ⟨c', oc, vs, t, h1, hs _ h2, h3, h4⟩
theorem law_walk : PySem.Challenge.rw_pq0549_01.Holds := hd (by
  k_go0
  k_steps
  rename World => w
  rename Shared => s1
  rename Obj => wc
  rename_i X0 T0 K0 l0 Da ws0 _ hI0 hC0 hL0 la0 _ _ _ hI8 hL8 Db _ _ o1 stk _ ls0 _ F0 N0
  have hd8 := absmap_nonneg (List.take 24 ‹List Int›)
  have hz8 : (List.map (fun k' : Int => if k' < 0 then -k' else k') (List.take 24 ‹List Int›)).length < 100 := by rw [List.length_map, List.length_take]; omega
  generalize List.map (fun k' : Int => if k' < 0 then -k' else k') (List.take 24 ‹List Int›) = ns8 at *
  refine Stop.mk ?_
  refine (cut_con w (st := stk) (sc := Db) (c := 0) (n2 := 0) (rest := (Db, LCg.lst ys) :: _) (.head _) hI8 ?ne1 hz8 (by decide) (by decide) hd8).use K0 F0 X0 N0 T0 rfl (by decide +kernel) (by decide +kernel) ?_
  case ne1 => exact List.forall_mem_cons.mpr ⟨Nat.ne_of_lt ls0.1, List.forall_mem_cons.mpr ⟨Nat.ne_of_lt ls0.2.1, List.forall_mem_cons.mpr ⟨Nat.ne_of_lt ls0.2.2.1, List.forall_mem_cons.mpr ⟨Nat.ne_of_lt ls0.2.2.2, List.forall_mem_nil _⟩⟩⟩⟩
  rintro v nx h1 tk1 F1 N1 ⟨x1, t1, tc1, n1, rfl, hx1, hy1, rfl⟩
  k_steps
  refine Stop.mk ?_
  refine (cut_con w (st := stk) (sc := Db) (c := 0 + 1) (n2 := n1) (rest := (Db, LCg.lst ys) :: _) (.head _) hI8 ?ne2 hz8 (by decide) (by decide) hd8).use K0 F1 X0 N1 T0 rfl (by decide +kernel) (by decide +kernel) ?_
  case ne2 => exact List.forall_mem_cons.mpr ⟨Nat.ne_of_lt ls0.1, List.forall_mem_cons.mpr ⟨Nat.ne_of_lt ls0.2.1, List.forall_mem_cons.mpr ⟨Nat.ne_of_lt ls0.2.2.1, List.forall_mem_cons.mpr ⟨Nat.ne_of_lt ls0.2.2.2, List.forall_mem_nil _⟩⟩⟩⟩
  rintro v nx h2 tk2 F2 N2 ⟨x2, t2, tc2, n2, rfl, hx2, hy2, rfl⟩
  k_steps
  refine Stop.mk ?_
  refine (cut_con w (st := stk) (sc := Db) (c := 0 + 1 + 1) (n2 := n2) (rest := (Db, LCg.lst ys) :: _) (.head _) hI8 ?ne3 hz8 (by decide) (by decide) hd8).use K0 F2 X0 N2 T0 rfl (by decide +kernel) (by decide +kernel) ?_
  case ne3 => exact List.forall_mem_cons.mpr ⟨Nat.ne_of_lt ls0.1, List.forall_mem_cons.mpr ⟨Nat.ne_of_lt ls0.2.1, List.forall_mem_cons.mpr ⟨Nat.ne_of_lt ls0.2.2.1, List.forall_mem_cons.mpr ⟨Nat.ne_of_lt ls0.2.2.2, List.forall_mem_nil _⟩⟩⟩⟩
  rintro v nx h3 tk3 F3 N3 ⟨x3, t3, tc3, n3, rfl, hx3, hy3, rfl⟩
  k_steps
  refine Stop.mk ?_
  rename_i F4 N4
  refine (limbs_con w (st := stk) (sc := Db) (c := 0 + 1 + 1 + 1) (n2 := n3) (rest := (Db, LCg.lst ys) :: _) (.head _) hI8 ?ne4 hz8 (by decide) (by omega) (by omega) hd8).use K0 F4 X0 (kst_newsOf N4 (fun p hp => .tail _ hp)) T0 rfl (by decide +kernel) (by decide +kernel) ?_
  case ne4 => exact List.forall_mem_cons.mpr ⟨Nat.ne_of_lt ls0.1, List.forall_mem_cons.mpr ⟨Nat.ne_of_lt ls0.2.1, List.forall_mem_cons.mpr ⟨Nat.ne_of_lt ls0.2.2.1, List.forall_mem_cons.mpr ⟨Nat.ne_of_lt ls0.2.2.2, List.forall_mem_nil _⟩⟩⟩⟩
  rintro v nx h5 tk5 F5 N5 ⟨ra, va, na, as, tc5, n5, rfl, hra, hsa, hIa, hGa, hla, rfl⟩
  k_steps
  refine Stop.mk ?_
  refine (limbs_con w (st := stk) (sc := Db) (c := 0 + 1 + 1 + 1 + x2) (n2 := n5) (tc := tc5) (rest := (ra, listOf va.toArray na) :: (Db, LCg.lst ys) :: (Da, listOf ws0.toArray 0) :: (s1.heap.objs.size + 1, wc) :: (84, tabObj #[]) :: []) (.tail _ (.head _)) hI8 ?ne5 hz8 (by omega) (by omega) (by omega) hd8).use K0 F5 X0 (kst_newsOf N5 ?sub5) T0 rfl (by decide +kernel) (by decide +kernel) ?_
  case ne5 => exact List.forall_mem_cons.mpr ⟨Nat.ne_of_gt hsa, List.forall_mem_cons.mpr ⟨Nat.ne_of_lt ls0.1, List.forall_mem_cons.mpr ⟨Nat.ne_of_lt ls0.2.1, List.forall_mem_cons.mpr ⟨Nat.ne_of_lt ls0.2.2.1, List.forall_mem_cons.mpr ⟨Nat.ne_of_lt ls0.2.2.2, List.forall_mem_nil _⟩⟩⟩⟩⟩
  case sub5 =>
    intro p hp
    simp only [List.mem_cons] at hp ⊢
    grind
  rintro v nx h6 tk6 F6 N6 ⟨rb, vb, nb, bs, tc6, n6, rfl, hrb, hsb, hIb, hGb, hlb, rfl⟩
  k_steps
  refine Stop.mk ?_
  ktu_for
  k_steps
  refine Stop.mk ?_
  rename_i D5 _ l5 D4 _ l4 D3 _ l3 E1 _ m1 D2 _ l2 E2 _ m2 D1 _ l1 D0 _ F7 N7 g0
  have i84 : @LT.lt Nat instLTNat 84 s1.heap.objs.size := Heap.lt_size (hT8 84 (.head _))
  have bra : @LT.lt Nat instLTNat 84 ra := hra _ (.tail _ (.tail _ (.tail _ (.head _))))
  have brb : @LT.lt Nat instLTNat 84 rb := hrb _ (.tail _ (.tail _ (.tail _ (.tail _ (.head _)))))
  have bst : @LT.lt Nat instLTNat 84 stk := ls0.2.2.2
  have bD5 : @LT.lt Nat instLTNat 84 D5 := l5.2.2.2.2.2.2.2
  have bD4 : @LT.lt Nat instLTNat 84 D4 := l4.2.2.2.2.2.2.2.2
  have bD3 : @LT.lt Nat instLTNat 84 D3 := l3.2.2.2.2.2.2.2.2.2
  have bE1 : @LT.lt Nat instLTNat 84 E1 := m1.2.2.2.2.2.2.2.2.2.2
  have bD2 : @LT.lt Nat instLTNat 84 D2 := l2.2.2.2.2.2.2.2.2.2.2.2
  have bE2 : @LT.lt Nat instLTNat 84 E2 := m2.2.2.2.2.2.2.2.2.2.2.2.2
  have bD1 : @LT.lt Nat instLTNat 84 D1 := l1.2.2.2.2.2.2.2.2.2.2.2.2.2
  obtain ⟨bl, hbl⟩ : ∃ bl : Led, bl = [(D1, tupObj [Value.ref E2, Value.ref rb]), (E2, listOf ([] : List Value).toArray 0), (D2, tupObj [Value.ref ra, Value.ref E1]), (E1, listOf ([] : List Value).toArray 0), (D3, tupObj [Value.ref ra, Value.ref ra]), (D4, tupObj [Value.ref rb, Value.ref ra]), (D5, tupObj [Value.ref ra, Value.ref rb]), (rb, listOf vb.toArray nb), (stk, listOf #[Value.int (0 + 1 + 1 + 1 + x2 + x3) tc6, Value.ref Db] n6), (ra, listOf va.toArray na), (Db, LCg.lst ys), (s1.heap.objs.size + 1, wc)] := ⟨_, rfl⟩
  have h84 : ∀ p ∈ bl, p.1 ≠ 84 := by
    rw [hbl]
    exact List.forall_mem_cons.mpr ⟨Nat.ne_of_gt bD1, List.forall_mem_cons.mpr ⟨Nat.ne_of_gt bE2, List.forall_mem_cons.mpr ⟨Nat.ne_of_gt bD2, List.forall_mem_cons.mpr ⟨Nat.ne_of_gt bE1, List.forall_mem_cons.mpr ⟨Nat.ne_of_gt bD3, List.forall_mem_cons.mpr ⟨Nat.ne_of_gt bD4, List.forall_mem_cons.mpr ⟨Nat.ne_of_gt bD5, List.forall_mem_cons.mpr ⟨Nat.ne_of_gt brb, List.forall_mem_cons.mpr ⟨Nat.ne_of_gt bst, List.forall_mem_cons.mpr ⟨Nat.ne_of_gt bra, List.forall_mem_cons.mpr ⟨o1.2.2.symm, List.forall_mem_cons.mpr ⟨Nat.ne_of_gt (Nat.lt_succ_of_lt i84), List.forall_mem_nil _⟩⟩⟩⟩⟩⟩⟩⟩⟩⟩⟩⟩
  have hgood : ∀ (i : Nat) v, [Value.ref D5, Value.ref D4, Value.ref D3, Value.ref D2, Value.ref D1][i]? = some v → ∃ T x y vx nx xs vy ny zs, v = .ref T ∧ (T, tupObj [Value.ref x, Value.ref y]) ∈ bl ∧ (x, listOf (List.toArray vx) nx) ∈ bl ∧ (y, listOf (List.toArray vy) ny) ∈ bl ∧ IntsAre vx xs ∧ IntsAre vy zs ∧ xs.length ≤ 7 ∧ zs.length ≤ 7 ∧ Good (2 ^ (2 + x1).toNat) xs ∧ Good (2 ^ (2 + x1).toNat) zs := by
    have ma : (ra, listOf va.toArray na) ∈ bl := by rw [hbl]; simp
    have mb : (rb, listOf vb.toArray nb) ∈ bl := by rw [hbl]; simp
    have me1 : (E1, listOf (List.toArray ([] : List Value)) 0) ∈ bl := by rw [hbl]; simp
    have me2 : (E2, listOf (List.toArray ([] : List Value)) 0) ∈ bl := by rw [hbl]; simp
    have la7 : as.length ≤ 7 := by omega
    have lb7 : bs.length ≤ 7 := by omega
    intro i v hv
    match i, hv with
    | 0, hv => exact ⟨D5, ra, rb, va, na, as, vb, nb, bs, (Option.some.inj hv).symm, by rw [hbl]; simp, ma, mb, hIa, hIb, la7, lb7, hGa, hGb⟩
    | 1, hv => exact ⟨D4, rb, ra, vb, nb, bs, va, na, as, (Option.some.inj hv).symm, by rw [hbl]; simp, mb, ma, hIb, hIa, lb7, la7, hGb, hGa⟩
    | 2, hv => exact ⟨D3, ra, ra, va, na, as, va, na, as, (Option.some.inj hv).symm, by rw [hbl]; simp, ma, ma, hIa, hIa, la7, la7, hGa, hGa⟩
    | 3, hv => exact ⟨D2, ra, E1, va, na, as, [], 0, [], (Option.some.inj hv).symm, by rw [hbl]; simp, ma, me1, hIa, .nil, la7, Nat.zero_le _, hGa, good_nil _⟩
    | 4, hv => exact ⟨D1, E2, rb, [], 0, [], vb, nb, bs, (Option.some.inj hv).symm, by rw [hbl]; simp, me2, mb, .nil, hIb, Nat.zero_le _, lb7, good_nil _, hGb⟩
    | i + 5, hv => simp at hv
  refine' my_tupT (σ := LawS) (l := D0) (vs := [Value.ref D5, Value.ref D4, Value.ref D3, Value.ref D2, Value.ref D1]) (fun c => (D0, tupObj [Value.ref D5, Value.ref D4, Value.ref D3, Value.ref D2, Value.ref D1]) :: (84, tabObj c.ps) :: c.ex) (fun _ => [(Str.ofString "w", .int (2 + x1) tk1), (Str.ofString "stack", .ref stk)])
    (fun _ c => (∀ p ∈ bl, p ∈ c.ex) ∧ (∀ p ∈ c.ex, p.1 ≠ 84) ∧ TabIs 69 4 (Str.ofString "_law_slices_right.<locals>.mul_told") c.ps c.ex) ⟨#[], bl⟩ (by rfl) (fun _ => .head _) F7 (kst_newsOf N7 ?sub7) (by walk_at "my all") ⟨fun p h => h, h84, .inl rfl⟩ ?turn ?done
  case sub7 =>
    intro p hp
    rw [hbl] at hp
    simp only [List.mem_cons] at hp ⊢
    grind
  case turn =>
    rintro i v ⟨ps9, ex9⟩ u h tk I o hv ⟨hs9, hn9, ht9⟩ hlt9 hne9 F8 N8
    dsimp only [kstB] at hs9 hn9 ht9 hlt9 hne9 F8 N8
    obtain ⟨T, x, y, vx, nx, xs, vy, ny, zs, rfl, mT, mx, my, ix, iy, lx, ly, gx, gy⟩ := hgood i v hv
    have mT := hs9 _ mT
    have mx := hs9 _ mx
    have my := hs9 _ my
    clear F7 N7 hv
    have hI0 : @LT.lt Nat instLTNat 84 I := hlt9 _ (.tail _ (.head _))
    have hDI : @LT.lt Nat instLTNat D0 I := hlt9 _ (.head _)
    have hD84 : @LT.lt Nat instLTNat 84 D0 := g0.2.2.2.2.2.2.2.2.2.2.2.2.2.2
    have hneR : ∀ p ∈ (I, o) :: (D0, tupObj [Value.ref D5, Value.ref D4, Value.ref D3, Value.ref D2, Value.ref D1]) :: ex9, p.1 ≠ 84 := List.forall_mem_cons.mpr ⟨Nat.ne_of_gt hI0, List.forall_mem_cons.mpr ⟨Nat.ne_of_gt hD84, hn9⟩⟩
    have htR : TabIs 69 4 (Str.ofString "_law_slices_right.<locals>.mul_told") ps9 ((I, o) :: (D0, tupObj [Value.ref D5, Value.ref D4, Value.ref D3, Value.ref D2, Value.ref D1]) :: ex9) := ht9.mono fun p hp => .tail _ (.tail _ hp)
    k_steps
    refine Stop.mk ?_
    rename Fr _ _ _ _ => F9
    rename News _ _ _ _ => N9
    rename CodeHd _ _ _ => cH9
    refine (slices_right_con w (la := x) (lb := y) (rest := (I, o) :: (D0, tupObj [Value.ref D5, Value.ref D4, Value.ref D3, Value.ref D2, Value.ref D1]) :: ex9) (k := 2 + x1) (t := tk1) (ps := ps9) (.tail _ (.tail _ mx)) (.tail _ (.tail _ my)) ix iy lx ly ⟨by omega, by omega⟩ gx gy hneR htR).use K0 F9 X0 (kst_newsOf N9 ?sub9) T0 cH9 rfl (by decide +kernel) (by decide +kernel) ?_
    case sub9 =>
      intro p hp
      simp only [List.mem_cons] at hp ⊢
      grind
    rintro v nx h tk F10 N10 ⟨ps', nx', rfl, rfl, hsub, hne', hcase⟩
    k_steps
    rename Fr _ _ _ _ => F11
    rename News _ _ _ _ => N11
    have hne9' := List.forall_mem_cons.mp hne9
    have hne9'' := List.forall_mem_cons.mp hne9'.2
    rcases hcase with ⟨e1, e2⟩ | ⟨q, e2, hq, hT⟩
    · subst e1 e2
      refine ⟨⟨ps', ex9⟩, _, _, _, rfl, F11, kst_newsOf N11 ?sub11, hne9, by walk_at "my all", hs9, hn9, ht9⟩
      intro p hp
      simp only [List.mem_append, List.mem_cons, List.not_mem_nil, or_false] at hp ⊢
      grind
    · subst e2
      refine ⟨⟨ps', q :: ex9⟩, _, _, _, rfl, F11, kst_newsOf N11 ?sub12, ?off12, by walk_at "my all", fun p hp => .tail _ (hs9 p hp), ?n12, hT.mono ?t12⟩
      case sub12 =>
        intro p hp
        simp only [List.mem_append, List.mem_cons, List.not_mem_nil, or_false] at hp ⊢
        grind
      case off12 => exact List.forall_mem_cons.mpr ⟨hne9'.1, List.forall_mem_cons.mpr ⟨hne9''.1, List.forall_mem_cons.mpr ⟨Nat.ne_of_gt (hq _ (.head _)), hne9''.2⟩⟩⟩
      case n12 => exact List.forall_mem_cons.mpr ⟨hne' _ (.head _), hn9⟩
      case t12 => exact fun p hp => by rw [List.mem_singleton.mp hp]; exact .head _
  case done =>
    rintro ⟨ps9, ex9⟩ u h tk ⟨hs9, hn9, ht9⟩ F8 N8
    dsimp only [kstB] at hs9 hn9 ht9 F8 N8
    dsimp only
    have mst : (stk, listOf #[Value.int (0 + 1 + 1 + 1 + x2 + x3) tc6, Value.ref Db] n6) ∈ ex9 := hs9 _ (by rw [hbl]; simp)
    have mDb : (Db, LCg.lst ys) ∈ ex9 := hs9 _ (by rw [hbl]; simp)
    have mwc : (s1.heap.objs.size + 1, wc) ∈ ex9 := hs9 _ (by rw [hbl]; simp)
    have N9 : News (ghostOf s1.heap [(88, 84)]) s1.heap.objs.size h ((stk, listOf #[Value.int (0 + 1 + 1 + 1 + x2 + x3) tc6, Value.ref Db] n6) :: (Db, LCg.lst ys) :: (s1.heap.objs.size + 1, wc) :: (84, tabObj ps9) :: []) := kst_newsOf N8 (by
      intro p hp
      simp only [List.mem_cons, List.not_mem_nil, or_false] at hp ⊢
      grind)
    clear N8 F7 N7 hs9 hn9 ht9 mst mDb mwc hgood h84 hbl bl
    have hnest : ∀ p ∈ (Db, LCg.lst ys) :: (s1.heap.objs.size + 1, wc) :: (84, tabObj ps9) :: [], p.1 ≠ stk := List.forall_mem_cons.mpr ⟨Nat.ne_of_lt ls0.1, List.forall_mem_cons.mpr ⟨Nat.ne_of_lt ls0.2.2.1, List.forall_mem_cons.mpr ⟨Nat.ne_of_lt ls0.2.2.2, List.forall_mem_nil _⟩⟩⟩
    k_steps
    refine Stop.mk ?_
    refine (cut_con w (st := stk) (sc := Db) (c := 0 + 1 + 1 + 1 + x2 + x3) (n2 := n6) (tc := tc6) (rest := (Db, LCg.lst ys) :: _) (.head _) hI8 hnest hz8 (by omega) (by decide) hd8).use K0 F8 X0 N9 T0 rfl (by decide +kernel) (by decide +kernel) ?_
    rintro v nx h10 tk10 F10 N10 ⟨z1, t10, tc10, n10, rfl, hz1, hy10, rfl⟩
    k_steps
    refine Stop.mk ?_
    refine (cut_con w (st := stk) (sc := Db) (c := 0 + 1 + 1 + 1 + x2 + x3 + 1) (n2 := n10) (tc := tc10) (rest := (Db, LCg.lst ys) :: _) (.head _) hI8 hnest hz8 (by omega) (by decide) hd8).use K0 F10 X0 N10 T0 rfl (by decide +kernel) (by decide +kernel) ?_
    rintro v nx h11 tk11 F11 N11 ⟨z2, t11, tc11, n11, rfl, hz2, hy11, rfl⟩
    have hprod : 0 ≤ z1 * z2 ∧ z1 * z2 < 248 := by
      have e1 : 0 ≤ z1 * z2 := Int.mul_nonneg hz1 hz2
      have e2 : z1 * z2 ≤ 13 * 19 := Int.mul_le_mul (by omega) (by omega) hz2 (by decide)
      omega
    k_steps
    refine Stop.mk ?_
    refine (cut_con w (st := stk) (sc := Db) (c := 0 + 1 + 1 + 1 + x2 + x3 + 1 + 1) (n2 := n11) (tc := tc11) (rest := (Db, LCg.lst ys) :: _) (.head _) hI8 hnest hz8 (by omega) (by decide) hd8).use K0 F11 X0 N11 T0 rfl (by decide +kernel) (by decide +kernel) ?_
    rintro v nx h12 tk12 F12 N12 ⟨z3, t12, tc12, n12, rfl, hz3, hy12, rfl⟩
    k_steps
    refine Stop.mk ?_
    walk_at "my comp2"
    k_steps
    refine Stop.mk ?_
    rename_i oL dL _ DT _ F13 N13 lDT
    generalize z1 * z2 = nn at *
    refine' comp_tuple (l := DT) (vs := [Value.int nn tk11, Value.int (16 * nn) _, Value.int 64 _]) (fun i ys => IntsAre ys ([pfGo nn z3 13 1, pfGo (16 * nn) z3 13 1, pfGo 64 z3 13 1].take i)) (by rfl) F13 N13 (.head _) .nil ?sz ?el ?fin
    case sz => rw [PySem.sizeLine_eq]; exact (by decide : 3 ≤ 16777216)
    case el =>
      intro i v ys h tk D C I oI oC nD mC hv hJ hI hD hC F14 N14 hn hm
      obtain ⟨x, t, rfl, hx, he⟩ : ∃ x t, v = Value.int x t ∧ (0 ≤ x ∧ x < 8000) ∧ [pfGo nn z3 13 1, pfGo (16 * nn) z3 13 1, pfGo 64 z3 13 1].take (i + 1) = [pfGo nn z3 13 1, pfGo (16 * nn) z3 13 1, pfGo 64 z3 13 1].take i ++ [pfGo x z3 13 1] := by
        match i, hv with
        | 0, hv => exact ⟨_, _, (Option.some.inj hv).symm, by omega, rfl⟩
        | 1, hv => exact ⟨_, _, (Option.some.inj hv).symm, by omega, rfl⟩
        | 2, hv => exact ⟨_, _, (Option.some.inj hv).symm, by omega, rfl⟩
        | i + 3, hv => simp at hv
      clear N13 F13
      k_steps
      refine Stop.mk ?_
      refine (pf_con w (n := x) (least := z3) hx ⟨hz3, by omega⟩).use K0 F14 X0 N14 T0 rfl (by decide +kernel) (by decide +kernel) ?_
      rintro v nx h16 tk16 F16 N16 ⟨t', rfl, rfl⟩
      refine ⟨_, _, rfl, F16, N16, ?_⟩
      rw [he]
      exact IntsAre.append hJ (.cons _ _ .nil)
    case fin =>
      intro ys1 D1c nD1 h tk9 hJ1 hl1 hD1 F15 N15
      dsimp only
      clear N13 F13
      k_steps
      refine Stop.mk ?_
      walk_at "my comp2"
      k_steps
      refine Stop.mk ?_
      rename_i DT2 _ F17 N17 lDT2
      refine' comp_tuple (l := DT2) (vs := [Value.int nn tk11, Value.int (16 * nn) _, Value.int 64 _]) (fun i ys => IntsAre ys ([lpGo nn z3 8, lpGo (16 * nn) z3 8, lpGo 64 z3 8].take i)) (by rfl) F17 N17 (.head _) .nil ?sz ?el ?fin
      case sz => rw [PySem.sizeLine_eq]; exact (by decide : 3 ≤ 16777216)
      case el =>
        intro i v ys h tk D C I oI oC nD mC hv hJ hI hD hC F14 N14 hn hm
        obtain ⟨x, t, rfl, hx, he⟩ : ∃ x t, v = Value.int x t ∧ (0 ≤ x ∧ x < 8000) ∧ [lpGo nn z3 8, lpGo (16 * nn) z3 8, lpGo 64 z3 8].take (i + 1) = [lpGo nn z3 8, lpGo (16 * nn) z3 8, lpGo 64 z3 8].take i ++ [lpGo x z3 8] := by
          match i, hv with
          | 0, hv => exact ⟨_, _, (Option.some.inj hv).symm, by omega, rfl⟩
          | 1, hv => exact ⟨_, _, (Option.some.inj hv).symm, by omega, rfl⟩
          | 2, hv => exact ⟨_, _, (Option.some.inj hv).symm, by omega, rfl⟩
          | i + 3, hv => simp at hv
        clear N17 F17
        k_steps
        refine Stop.mk ?_
        refine (lp_con w (n := x) (least := z3) hx ⟨hz3, by omega⟩).use K0 F14 X0 N14 T0 rfl (by decide +kernel) (by decide +kernel) ?_
        rintro v nx h16 tk16 F16 N16 ⟨t', rfl, rfl⟩
        refine ⟨_, _, rfl, F16, N16, ?_⟩
        rw [he]
        exact IntsAre.append hJ (.cons _ _ .nil)
      case fin =>
        intro ys2 D2c nD2 h tk hJ2 hl2 hD2 F18 N18
        dsimp only
        clear N17 F17
        have hJ1' : IntsAre ys1 [pfGo nn z3 13 1, pfGo (16 * nn) z3 13 1, pfGo 64 z3 13 1] := hJ1
        have hJ2' : IntsAre ys2 [lpGo nn z3 8, lpGo (16 * nn) z3 8, lpGo 64 z3 8] := hJ2
        k_steps
        refine Stop.mk ?_
        refine ke_eq_ints (News.isList N18 (.tail _ (.tail _ (.head _)))) (News.isList N18 (.head _)) hJ1' hJ2' (by show 4 + _ + 64 < cLine; decide +kernel) ?_
        rw [decide_eq_true (pf_lp_list hprod)]
        k_steps)
end
end Mine
theorem PySem.Challenge.cw_pq0549_01_holds : PySem.Challenge.rw_pq0549_01.Holds :=
  Mine.law_walk
