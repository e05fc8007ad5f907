import PyProof.Rows.All
import Wide.All
import OpenK.AllK
import Wide.FinOn
import Lean
import PySem.Challenge.RW_pq0455_01
open PySem PySem.W PyProof.Rows
set_option Elab.async false
set_option linter.unusedVariables false
open PySem.Spec PySem.Calls
namespace Mine
section
local macro_rules | `(tactic| o_head $_) => `(tactic| assumption)
/-- the written part of the heap, laid by the head's own line -/
theorem top (h : PySem.Challenge.rw_pq0455_01.row.Holds) : PySem.Challenge.rw_pq0455_01.row.Holds := by
  k_head
end
/-- the text's top stands in g -/
def TopX (mean : ExcName → Option Value) (mg mb : Str → Option Value) (g : Heap) : Prop := ∃ p lo, Top p lo mean mg mb g
def FreshTo (h : Heap) (S S' : List (Addr × Obj)) : Prop := ∀ p ∈ S', p.1 ∈ S.map (·.1) ∨ h.get? p.1 = none
structure Back (h₀ : Heap) (L : Addr) (h h' : Heap) (S S' : List (Addr × Obj)) : Prop where
  N : News h₀ L h' S'
  G : GSub h h' (S.map (·.1))
  f : FreshTo h S S'
def Off (pre S : List (Addr × Obj)) : Prop := ∀ p ∈ pre, ∀ q ∈ S, p.1 ≠ q.1
/-- the contract of a def: what it is handed (the ledger S), what it gives back -/
def Tell (w : World) (f : Addr) (vs : List Value) (dn un' : Nat) (S : List (Addr × Obj)) (h : Heap) (Post : Value → List (Addr × Obj) → Heap → Prop) : Prop :=
  ∀ (mean : ExcName → Option Value) (mg mb : Str → Option Value) (dp un : Nat) (gd : Option (List Code)) (cn : Str) (cs : Scope) (a : Addr) (ccd : Value) (cl : List (Str × Addr)) (outer : List Env) (A₀ : Around)
    (base h₀ : Heap) (L : Addr) (m : Str → Option Value) (s : Shared) (Q E : Value → Shared → Prop),
   s.heap = h → Below A₀ base outer h₀ → Fr h₀ L s.heap m → (Mine.top.heap_1 w.params).In h₀ → News h₀ L s.heap S → TopX mean mg mb h₀ → cs.kind = .function →
   dp + dn < recursionLimit → un + un' < cLine →
   (∀ r S' h' tk', Fr h₀ L h' m → Back h₀ L s.heap h' S S' → Post r S' h' → Q r { s with heap := h', toks := tk' }) →
   wpAny (model PySem.Challenge.rw_pq0455_01.row.toRowW.prog w) (ktrTop dp un gd cn cs L a ccd cl outer) (call (.ref f) vs) Q E s
theorem gsub_of {g s h' : Heap} {L' : Addr} {m' : Str → Option Value} {adr : List Addr} (G : GSub s g adr) (F' : Fr g L' h' m') : GSub s h' adr := fun b o e n => F'.keep b o (G b o e n)
theorem fresh_of {g s h' : Heap} {L' : Addr} {S S' : List (Addr × Obj)} (G : GSub s g (S.map (·.1))) (N' : News g L' h' S') : FreshTo s S S' := fun p hp => by
  by_cases hm : p.1 ∈ S.map (·.1)
  · exact .inl hm
  · refine .inr ?_
    cases e : s.get? p.1 with
    | none => rfl
    | some o => have := G _ _ e hm; rw [(N' p hp).2.2] at this; cases this
theorem off_nil {S : List (Addr × Obj)} : Off [] S := fun p hp => nomatch hp
theorem off_cons {I : Addr} {o : Obj} {pre S : List (Addr × Obj)} (h : ∀ q ∈ S, q.1 ≠ I) (t : Off pre S) : Off ((I, o) :: pre) S := fun p hp q hq e => by
  rcases List.mem_cons.mp hp with rfl | hp
  · exact h q hq e.symm
  · exact t p hp q hq e
theorem Off.head {I : Addr} {o : Obj} {pre S : List (Addr × Obj)} (h : Off ((I, o) :: pre) S) : ∀ q ∈ S, q.1 ≠ I := fun q hq e => h _ (.head _) q hq e.symm
theorem Off.tail {p : Addr × Obj} {pre S : List (Addr × Obj)} (h : Off (p :: pre) S) : Off pre S := fun q hq => h q (.tail _ hq)
theorem news_back {h₀ h h' : Heap} {L : Addr} {pre S S' : List (Addr × Obj)} (N : News h₀ L h (pre ++ S)) (off : Off pre S) (N' : News h₀ L h' S') (G : GSub h h' (S.map (·.1))) : News h₀ L h' (pre ++ S') := by
  intro p hp
  rcases List.mem_append.mp hp with hp | hp
  · have z := N p (List.mem_append_left _ hp)
    refine ⟨G _ _ z.1 fun hm => ?_, z.2⟩
    obtain ⟨q, hq, e⟩ := List.mem_map.mp hm
    exact off p hp q hq e.symm
  · exact N' p hp
theorem off_back {h₀ h : Heap} {L : Addr} {pre S S' : List (Addr × Obj)} (N : News h₀ L h (pre ++ S)) (off : Off pre S) (f : FreshTo h S S') : Off pre S' := by
  intro p hp q hq e
  rcases f q hq with hm | hn
  · obtain ⟨q', hq', e'⟩ := List.mem_map.mp hm
    exact off p hp q' hq' (e.trans e'.symm)
  · have z := (N p (List.mem_append_left _ hp)).1
    rw [e, hn] at z; cases z
/-- pop(0) of a list of the ledger -/
theorem pop0_K {prog : Program} {w : World} {A : Around} {E : Value → Shared → Prop} {s : Shared} {h₀ : Heap} {L D : Addr} {m : Str → Option Value} {news news' : List (Addr × Obj)} {n : Nat} {y : Value} {q : List Value} {u : Tok} {Q : Value → Shared → Prop}
    (F : Fr h₀ L s.heap m) (N : News h₀ L s.heap news) (U : Upd D (listOf (y :: q).toArray n) (listOf q.toArray (n + 1)) news news') (hz : (y :: q).length ≤ sizeLine)
    (h : ∀ h', Fr h₀ L h' m → News h₀ L h' news' → Q y { s with heap := h' }) : wpAny (model prog w) A (call (.builtin "list.pop") [.ref D, .int 0 u]) Q E s := by
  refine kl_popAt (p := []) (k := 0) F N rfl ?_ rfl U hz h
  simp [seqIndex?]
/-- append to a list of the ledger -/
theorem appendL_K {prog : Program} {w : World} {A : Around} {E : Value → Shared → Prop} {s : Shared} {h₀ : Heap} {L D : Addr} {m : Str → Option Value} {news news' : List (Addr × Obj)} {n : Nat} {x : Value} {vs : List Value} {Q : Value → Shared → Prop}
    (F : Fr h₀ L s.heap m) (N : News h₀ L s.heap news) (U : Upd D (listOf vs.toArray n) (listOf (vs ++ [x]).toArray (n + 1)) news news') (hz : vs.length ≤ sizeLine)
    (h : ∀ h', Fr h₀ L h' m → News h₀ L h' news' → Q .none { s with heap := h' }) : wpAny (model prog w) A (call (.builtin "list.append") [.ref D, x]) Q E s := by
  refine append_K F N (its := vs.toArray) (n := n) ?_ h (by simpa using hz)
  rw [List.push_toArray]; exact U
/-- a cell of the netlist: what drives a net -/
inductive Cell where
  | inv (a : Nat)
  | and (a b : Nat)
  | xor (a b : Nat)
def Cell.str : Cell → Str
  | .inv _ => "not"
  | .and _ _ => "and"
  | .xor _ _ => "xor"
def Cell.ins : Cell → List Nat
  | .inv a => [a]
  | .and a b => [a, b]
  | .xor a b => [a, b]
def Cell.v (f : Nat → Int) : Cell → Int
  | .inv a => 1 - f a
  | .and a b => min (f a) (f b)
  | .xor a b => (f a + f b) % 2
def vals (r : Nat) (cs : List Cell) : List Int := cs.foldl (fun vs c => vs ++ [c.v fun i => vs.getD i 0]) [0, 1, ((r % 2 : Nat) : Int), ((r / 2 : Nat) : Int)]
def val (r : Nat) (cs : List Cell) (i : Nat) : Int := (vals r cs).getD i 0
theorem vals_snoc (r : Nat) (cs : List Cell) (c : Cell) : vals r (cs ++ [c]) = vals r cs ++ [c.v (val r cs)] := by
  unfold vals
  rw [List.foldl_append]; rfl
theorem vals_len (r : Nat) (cs : List Cell) : (vals r cs).length = 4 + cs.length := by
  have H : ∀ (l : List Int), (cs.foldl (fun vs c => vs ++ [c.v fun i => vs.getD i 0]) l).length = l.length + cs.length := by
    induction cs with
    | nil => intro l; rfl
    | cons c cs ih => intro l; rw [List.foldl_cons, ih]; simp; omega
  rw [vals, H]; rfl
theorem vals_pre (r : Nat) (cs ds : List Cell) : ∃ l, vals r (cs ++ ds) = vals r cs ++ l := by
  induction ds generalizing cs with
  | nil => exact ⟨[], by simp⟩
  | cons d ds ih =>
    obtain ⟨l, e⟩ := ih (cs ++ [d])
    refine ⟨[d.v (val r cs)] ++ l, ?_⟩
    have : cs ++ d :: ds = (cs ++ [d]) ++ ds := by simp
    rw [this, e, vals_snoc, List.append_assoc]
theorem val_mono (r : Nat) (cs ds : List Cell) {i : Nat} (h : i < 4 + cs.length) : val r (cs ++ ds) i = val r cs i := by
  obtain ⟨l, e⟩ := vals_pre r cs ds
  unfold val
  rw [e, List.getD_eq_getElem?_getD, List.getD_eq_getElem?_getD, List.getElem?_append_left (by rw [vals_len]; exact h)]
theorem val_new (r : Nat) (cs : List Cell) (c : Cell) : val r (cs ++ [c]) (4 + cs.length) = c.v (val r cs) := by
  unfold val
  rw [vals_snoc, List.getD_eq_getElem?_getD, List.getElem?_append_right (by rw [vals_len]; exact Nat.le_refl _), vals_len]
  simp; rfl
theorem val_lo (r : Nat) (cs : List Cell) {i : Nat} (h : i < 4) : val r cs i = ([0, 1, ((r % 2 : Nat) : Int), ((r / 2 : Nat) : Int)] : List Int).getD i 0 := by
  have := val_mono r [] cs (i := i) (by simpa using h)
  rw [List.nil_append] at this
  rw [this]; rfl
theorem cell_bit {f : Nat → Int} (h : ∀ i, 0 ≤ f i ∧ f i ≤ 1) (c : Cell) : 0 ≤ c.v f ∧ c.v f ≤ 1 := by
  cases c with
  | inv a => have := h a; simp only [Cell.v]; omega
  | and a b => have := h a; have := h b; simp only [Cell.v]; omega
  | xor a b => have := h a; have := h b; simp only [Cell.v]; omega
theorem val_bit {r : Nat} (hr : r < 4) (cs : List Cell) (i : Nat) : 0 ≤ val r cs i ∧ val r cs i ≤ 1 := by
  suffices H : ∀ n (cs : List Cell), cs.length = n → ∀ i, 0 ≤ val r cs i ∧ val r cs i ≤ 1 from H _ cs rfl i
  intro n
  induction n with
  | zero =>
    intro cs hcs i
    have : cs = [] := List.length_eq_zero_iff.mp hcs
    subst this
    have h1 : r % 2 ≤ 1 := by omega
    have h2 : r / 2 ≤ 1 := by omega
    unfold val vals
    match i with
    | 0 => simp
    | 1 => simp
    | 2 => simp; omega
    | 3 => simp; omega
    | n + 4 => simp
  | succ n ih =>
    intro cs hcs i
    have hne : cs ≠ [] := by intro h; rw [h] at hcs; simp at hcs
    have e := List.dropLast_concat_getLast hne
    rw [← e]
    have hl : cs.dropLast.length = n := by rw [List.length_dropLast, hcs]; rfl
    have ih' := ih cs.dropLast hl
    rcases Nat.lt_trichotomy i (4 + cs.dropLast.length) with h | h | h
    · rw [val_mono r _ _ h]; exact ih' i
    · rw [h, val_new]; exact cell_bit ih' _
    · have : val r (cs.dropLast ++ [cs.getLast hne]) i = 0 := by
        unfold val
        rw [List.getD_eq_getElem?_getD, List.getElem?_eq_none (by rw [vals_len]; simp at h ⊢; omega)]; rfl
      rw [this]; omega
theorem val_0 (r : Nat) (cs : List Cell) : val r cs 0 = 0 := (val_lo r cs (by omega)).trans rfl
theorem val_1 (r : Nat) (cs : List Cell) : val r cs 1 = 1 := (val_lo r cs (by omega)).trans rfl
/-- the netlist has grown by k cells at most -/
def Grown (cs cs₂ : List Cell) (k : Nat) : Prop := ∃ d, cs₂ = cs ++ d ∧ d.length ≤ k
theorem Grown.rfl (cs : List Cell) (k : Nat) : Grown cs cs k := ⟨[], (List.append_nil _).symm, Nat.zero_le _⟩
theorem Grown.one (cs : List Cell) (c : Cell) : Grown cs (cs ++ [c]) 1 := ⟨[c], Eq.refl _, Nat.le_refl _⟩
theorem Grown.trans {cs c2 c3 : List Cell} {k l : Nat} (h : Grown cs c2 k) (h' : Grown c2 c3 l) : Grown cs c3 (k + l) := by
  obtain ⟨d, rfl, h1⟩ := h
  obtain ⟨d', rfl, h2⟩ := h'
  exact ⟨d ++ d', List.append_assoc _ _ _, by rw [List.length_append]; omega⟩
theorem Grown.le {cs c2 : List Cell} {k l : Nat} (h : Grown cs c2 k) (hl : k ≤ l) : Grown cs c2 l := let ⟨d, e, h1⟩ := h; ⟨d, e, Nat.le_trans h1 hl⟩
theorem Grown.len {cs c2 : List Cell} {k : Nat} (h : Grown cs c2 k) : cs.length ≤ c2.length ∧ c2.length ≤ cs.length + k := by
  obtain ⟨d, rfl, h1⟩ := h
  rw [List.length_append]; omega
theorem Grown.val {cs c2 : List Cell} {k : Nat} (h : Grown cs c2 k) (r : Nat) {i : Nat} (hi : i < 4 + cs.length) : val r c2 i = val r cs i := by
  obtain ⟨d, rfl, h1⟩ := h
  exact val_mono r cs d hi
/-- every cell reads nets that stand below its own -/
def Wf (cs : List Cell) : Prop := ∀ i c, cs[i]? = some c → ∀ j ∈ c.ins, j < 4 + i
theorem Wf.nil : Wf [] := fun _ _ h => by simp at h
theorem Wf.snoc {cs : List Cell} (h : Wf cs) {c : Cell} (hc : ∀ j ∈ c.ins, j < 4 + cs.length) : Wf (cs ++ [c]) := by
  intro i d hd j hj
  rcases Nat.lt_trichotomy i cs.length with hi | hi | hi
  · rw [List.getElem?_append_left hi] at hd; exact h i d hd j hj
  · subst hi
    rw [List.getElem?_append_right (Nat.le_refl _)] at hd
    simp at hd; subst hd; exact hc j hj
  · rw [List.getElem?_append_right (Nat.le_of_lt hi)] at hd
    have : i - cs.length ≥ 1 := by omega
    rw [List.getElem?_eq_none (by simpa using this)] at hd; cases hd
theorem cell_v_congr {f f' : Nat → Int} (c : Cell) (h : ∀ j ∈ c.ins, f j = f' j) : c.v f = c.v f' := by
  cases c with
  | inv a => simp only [Cell.v, Cell.ins, List.mem_singleton, forall_eq] at *; rw [h]
  | and a b => simp only [Cell.v, Cell.ins, List.mem_cons, List.not_mem_nil, or_false, forall_eq_or_imp, forall_eq] at *; rw [h.1, h.2]
  | xor a b => simp only [Cell.v, Cell.ins, List.mem_cons, List.not_mem_nil, or_false, forall_eq_or_imp, forall_eq] at *; rw [h.1, h.2]
theorem val_cell (r : Nat) {cs : List Cell} (h : Wf cs) {i : Nat} {c : Cell} (hc : cs[i]? = some c) : val r cs (4 + i) = c.v (val r cs) := by
  have hi : i < cs.length := (List.getElem?_eq_some_iff.mp hc).1
  have e : cs = (cs.take i ++ [c]) ++ cs.drop (i + 1) := by
    have h1 : cs.take (i + 1) = cs.take i ++ [c] := by rw [List.take_add_one, hc]; rfl
    rw [← h1, List.take_append_drop]
  have hl : (cs.take i).length = i := by rw [List.length_take]; omega
  conv => lhs; rw [e]
  rw [val_mono r _ _ (by simp; omega)]
  have h2 := val_new r (cs.take i) c
  rw [hl] at h2
  rw [h2]
  refine cell_v_congr c fun j hj => ?_
  have hj' := h i c hc j hj
  have e2 : cs = cs.take i ++ cs.drop i := (List.take_append_drop i cs).symm
  conv => rhs; rw [e2]
  rw [val_mono r _ _ (by rw [hl]; exact hj')]
/-- a turn's end: the iterator stands, the word holds anew -/
def TurnP (h₀ : Heap) (L I : Addr) (o : Obj) (s₁ : Shared) (J : (Str → Option Value) → List (Addr × Obj) → Prop) (Q : Flow → Shared → Prop) (f : Flow) (s₂ : Shared) : Prop := match f with
  | .ret v => Q (.ret v) s₂
  | .brk => Q .next s₂
  | _ => ∃ h' tk m' news', s₂ = { s₁ with heap := h', toks := tk } ∧ Fr h₀ L h' m' ∧ News h₀ L h' ((I, o) :: news') ∧ (∀ p ∈ news', p.1 ≠ I) ∧ J m' news'
section
variable {prog : Program} {w : World} {A : Around} {E : Value → Shared → Prop} {s : Shared} {env : Env} {h₀ : Heap} {L : Addr} {x : Str} {body : List Stmt} {Q : Flow → Shared → Prop}
/-- what a loop goes over: an iterator I made anew, over n values; Fx stands still meanwhile -/
structure Src (prog : Program) (w : World) (A : Around) (h₀ : Heap) (L : Addr) (h : Heap) (news Fx : List (Addr × Obj)) (I : Addr) (n : Nat) (P : Nat → Value → Prop) : Prop where
  ex : ∃ fp wr St, Walks prog w A I fp wr n P St ∧ I ∈ fp ∧ (∀ b ∈ wr, b = I) ∧ (∀ b ∈ fp, b = I ∨ (∃ q, h₀.get? b = some q) ∨ ∃ o, (b, o) ∈ Fx) ∧ (∀ i h, St i h → ∃ o, h.get? I = some o) ∧ St 0 h
  hL : L ≠ I
  h0 : h₀.get? I = none
  nw : ∀ p ∈ news, p.1 < I
theorem src_of {m : Str → Option Value} {news Fx : List (Addr × Obj)} {n : Nat} {P : Nat → Value → Prop} {fp : List Addr} {St : Nat → Heap → Prop} {o : Obj} (hf : o.isFreed = false) (F : Fr h₀ L s.heap m) (N : News h₀ L s.heap news)
    (W : Walks prog w A s.heap.objs.size (s.heap.objs.size :: fp) [s.heap.objs.size] n P St) (hfp : ∀ b ∈ fp, (∃ q, h₀.get? b = some q) ∨ ∃ o, (b, o) ∈ Fx) (hob : ∀ i h, St i h → ∃ o, h.get? s.heap.objs.size = some o) (hst : St 0 (s.heap.push o)) :
    Src prog w A h₀ L (s.heap.push o) news Fx s.heap.objs.size n P ∧ Fr h₀ L (s.heap.push o) m ∧ News h₀ L (s.heap.push o) news :=
  ⟨⟨⟨_, _, _, W, .head _, fun b hb => List.mem_singleton.mp hb, fun b hb => (List.mem_cons.mp hb).imp id (hfp b), hob, hst⟩, Nat.ne_of_lt F.ns.lt, next_is_new F, fun p hp => Heap.lt_size (N p hp).1⟩, F.push _, fun p hp => ⟨Heap.get?_push_of_some _ (N p hp).1, (N p hp).2⟩⟩
section src
variable {m : Str → Option Value} {news Fx : List (Addr × Obj)} {l : Addr} {vs : List Value} {k : Nat} {QI : Value → Shared → Prop}
end src
theorem loopO {I : Addr} {n : Nat} {P : Nat → Value → Prop} {m₀ : Str → Option Value} {news Fx : List (Addr × Obj)} (J : Nat → (Str → Option Value) → List (Addr × Obj) → Prop)
    (Z : Src prog w A h₀ env.locals s.heap news Fx I n P) (F : Fr h₀ env.locals s.heap m₀) (N : News h₀ env.locals s.heap news) (h0 : J 0 m₀ news) (hFx : ∀ i m l, J i m l → ∀ p ∈ Fx, p ∈ l)
    (turn : ∀ i v m₁ news₁ h tk o, i < n → P i v → J i m₁ news₁ → (∀ p ∈ news₁, p.1 ≠ I) → Fr h₀ env.locals h (fun y => if y = x then some v else m₁ y) → News h₀ env.locals h ((I, o) :: news₁) →
      wpAny (model prog w) A (execs body env) (TurnP h₀ env.locals I o { s with heap := h, toks := tk } (J (i + 1)) Q) E { s with heap := h, toks := tk })
    (done : ∀ m₁ news₁ h tk, J n m₁ news₁ → (∀ p ∈ news₁, p.1 ≠ I) → Fr h₀ env.locals h m₁ → News h₀ env.locals h news₁ → Q .next { s with heap := h, toks := tk }) :
    LoopAtV prog w A h₀ env x body Q E (.ref I) s := by
  obtain ⟨⟨fp, wr, St, W, hIf, hwI, hfp, hob, hst⟩, hLI, hI0, hlt⟩ := Z
  have hnI : ∀ p ∈ news, p.1 ≠ I := fun p hp => Nat.ne_of_lt (hlt p hp)
  have hFN : ∀ b o, (b, o) ∈ Fx → b ≠ env.locals ∧ h₀.get? b = none := fun b o hb => (N _ (hFx _ _ _ h0 _ hb)).2
  have hLf : env.locals ∉ fp := fun hm => by
    rcases hfp _ hm with e | ⟨q, hq⟩ | ⟨o, ho⟩
    · exact hLI e
    · exact absurd (Nat.lt_of_lt_of_le (Heap.lt_size hq) F.above) (Nat.lt_irrefl _)
    · exact (hFN _ _ ho).1 rfl
  have nw : ∀ l : List (Addr × Obj), (∀ p ∈ l, p.1 ≠ I) → ∀ p ∈ l, p.1 ∉ wr := fun l hl p hp hw => hl p hp (hwI _ hw)
  refine ⟨I, fp, wr, n, P, St, m₀, news, (fun i m₁ l => J i m₁ l ∧ ∀ p ∈ l, p.1 ≠ I), rfl, W, hLf, fun b hb => by rw [hwI b hb]; exact hI0, nw _ hnI, hst, F, N, ⟨h0, hnI⟩, ?_, ?_⟩
  · rintro i v m₁ news₁ s₁ own ⟨hh', tk', rfl⟩ hin hP ⟨hJ, hn1⟩ hoff hown _ hall hst' F₁ N₁
    obtain ⟨o, ho⟩ := hob _ _ hst'
    have hio : (I, o) ∈ own := hall I hIf hI0 o ho
    have hone : ∀ p ∈ own, p = (I, o) ∨ p ∈ Fx := fun p hp => by
      have z := N₁ p (List.mem_append_left _ hp)
      rcases hfp p.1 (hown p hp) with e | ⟨q, hq⟩ | ⟨o', ho'⟩
      · refine .inl (Prod.ext e ?_)
        have z1 := z.1
        rw [e, ho] at z1
        exact (Option.some.inj z1).symm
      · have z2 := z.2.2
        rw [hq] at z2; cases z2
      · have z1 := (N₁ _ (List.mem_append_right _ (hFx _ _ _ hJ _ ho'))).1
        have e : p = (p.1, o') := Prod.ext rfl (Option.some.inj (z.1.symm.trans z1))
        exact .inr (e ▸ ho')
    refine wpAny_mono (turn i v m₁ news₁ hh' tk' o hin hP hJ hn1 F₁ (news_one hio N₁)) (fun f s₂ p => ?_) fun _ _ e => e
    have fin : (∃ h' tk m' news', s₂ = { ({ s with heap := hh', toks := tk' } : Shared) with heap := h', toks := tk } ∧ Fr h₀ env.locals h' m' ∧ News h₀ env.locals h' ((I, o) :: news') ∧ (∀ p ∈ news', p.1 ≠ I) ∧ J (i + 1) m' news') →
        LoopStepU h₀ env.locals wr own (fun m₁ l => J (i + 1) m₁ l ∧ ∀ p ∈ l, p.1 ≠ I) { s with heap := hh', toks := tk' } .next s₂ := by
      rintro ⟨h', tk, m', news', e, F', N', hn', hJ'⟩
      refine ⟨rfl, h', tk, m', news', e, F', fun q hq => ?_, nw _ hn', hJ', hn'⟩
      rcases List.mem_append.mp hq with hq | hq
      · rcases hone q hq with e | hq
        · rw [e]; exact N' _ (.head _)
        · exact N' _ (.tail _ (hFx _ _ _ hJ' _ hq))
      · exact N' _ (.tail _ hq)
    cases f with
    | ret v => exact .ret p
    | brk => exact .brk p
    | next => exact .next (fin p)
    | cont => exact .cont (fin p)
  · rintro h' tk m' news' F' N' _ ⟨hJ, hn⟩
    exact done m' news' h' tk hJ hn F' N'
theorem ints_at {vs : List Value} {ns : List Nat} (h : IntsAre vs (ns.map fun n => ((n : Nat) : Int))) {i : Nat} {v : Value} (hv : vs[i]? = some v) : ∃ n t, v = .int ((n : Nat) : Int) t ∧ ns[i]? = some n := by
  induction ns generalizing vs i with
  | nil => cases h; simp at hv
  | cons n ns ih =>
    cases h with
    | cons _ t h' =>
      cases i with
      | zero => simp at hv; exact ⟨n, t, hv.symm, rfl⟩
      | succ i => exact ih h' (by simpa using hv)
theorem ints_snoc {ys : List Value} {ms : List Nat} (h : IntsAre ys (ms.map fun n => ((n : Nat) : Int))) (o : Nat) (t : Tok) : IntsAre (ys ++ [.int (o : Int) t]) ((ms ++ [o]).map fun n => ((n : Nat) : Int)) := by
  induction ms generalizing ys with
  | nil => cases h; exact .cons _ _ .nil
  | cons n ms ih => cases h with
    | cons _ t' h' => exact .cons _ _ (ih h')
theorem ints_len {vs : List Value} {ns : List Nat} (h : IntsAre vs (ns.map fun n => ((n : Nat) : Int))) : vs.length = ns.length := by
  have := h.length; simpa using this
end
section
variable {prog : Program} {w : World} {A : Around} {E : Value → Shared → Prop} {s : Shared} {env : Env} {h₀ : Heap} {L : Addr} {m : Str → Option Value}
theorem ns_obj {h : Heap} {C : Addr} {cm : Str → Option Value} (hn : h.Ns C cm) : ∃ o, h.get? C = some o ∧ ∀ h' : Heap, h'.get? C = some o → h'.Ns C cm := let ⟨o, es, ep, ho, r⟩ := hn; ⟨o, ho, fun h' e => ⟨o, es, ep, e, r⟩⟩
/-- a comprehension's block by a word over its turns: the ledger may turn -/
theorem comp_blockK {elt iter : Expr} {x : Str} {px : Pos} {scope : Scope} {cl : List (Str × Addr)} {pos : Pos} {s₂ : Shared} {I : Addr} {n : Nat} {P : Nat → Value → Prop} {news Fx : List (Addr × Obj)}
    (R : Nat → List Value → List (Addr × Obj) → Prop) {RR : Value → Addr → Result → Shared → Prop}
    (Z : Src prog w A h₀ L s₂.heap news Fx I n P) (hsz : n ≤ sizeLine)
    (hcell : ∀ y ∈ scope.names, y.2 ≠ .cell) (hkind : scope.kind = .function) (hx : scope.names.lookup x = some .local) (F : Fr h₀ L s₂.heap m) (N : News h₀ L s₂.heap news) (h0 : R 0 [] news) (hFx : ∀ i ys l, R i ys l → ∀ p ∈ Fx, p ∈ l)
    (turn : ∀ i v ys news₁ h tk D C oI oC k cm E', i < n → P i v → R i ys news₁ → (∀ p ∈ news, p.1 < D) → Off [(I, oI), (D, listOf ys.toArray k), (C, oC)] news₁ → Fr h₀ L h m → News h₀ L h ((I, oI) :: (D, listOf ys.toArray k) :: (C, oC) :: news₁) →
      h.Ns (compEnvC scope cl C env).locals cm → cm x = some v →
      wpAny (model prog w) A (eval elt (compEnvC scope cl C env)) (fun y s₃ => ∃ h' tk' news', s₃ = { s₂ with heap := h', toks := tk' } ∧ Fr h₀ L h' m ∧ News h₀ L h' ((I, oI) :: (D, listOf ys.toArray k) :: (C, oC) :: news') ∧
        Off [(I, oI), (D, listOf ys.toArray k), (C, oC)] news' ∧ R (i + 1) (ys ++ [y]) news') E' { s₂ with heap := h, toks := tk })
    (done : ∀ D C h' tk cm ys news₁ k, R n ys news₁ → ys.length = n → (∀ p ∈ news, p.1 < D) → (∀ p ∈ news₁, p.1 ≠ D) → (∀ p ∈ news₁, p.1 ≠ C) → D ≠ C → C ≠ L → h₀.get? C = none → Fr h₀ L h' m → News h₀ L h' ((D, listOf ys.toArray k) :: news₁) → h'.Ns C cm →
      RR (.ref D) C (.ok .next) { s₂ with heap := h', toks := tk }) :
    wpAny (model prog w) A (newList []) (fun acc s₃ => wpAny (model prog w) A (newFunctionEnv scope env.globals cl [] env.qual none .none (some env)) (fun cenv s₄ =>
      codeAny (model prog w) A (.compStart (.ListComp elt [⟨.Name x px, iter, [], 0⟩] scope pos) 0 (.ref I) acc { cenv with scope := relabel scope env }) (RR acc cenv.locals) s₄) E s₃) E s₂ := by
  obtain ⟨⟨fp, wr, St, W, hIf, hwI, hfp, hob, hst⟩, hLI, hI0, hltI⟩ := Z
  have hnI : ∀ p ∈ news, p.1 ≠ I := fun p hp => Nat.ne_of_lt (hltI p hp)
  refine wpAny_newObj_type (wpAny_newFunctionEnv hcell (by intro y hy; simp at hy) (fun h₁ hns₁ hsb₁ => ?_) hkind)
  dsimp only at hns₁ hsb₁ ⊢
  have hDnew : h₀.get? s₂.heap.objs.size = none := next_is_new F
  have hDL : s₂.heap.objs.size ≠ L := Nat.ne_of_gt F.ns.lt
  have hID : I ≠ s₂.heap.objs.size := by
    obtain ⟨o, ho⟩ := hob _ _ hst
    exact Nat.ne_of_lt (Heap.lt_size ho)
  generalize hH2 : s₂.heap.push { cls := .type "list", dict := none, data := .seq ([] : List Value).toArray } = H2 at hns₁ hsb₁ ⊢
  have hC : H2.objs.size = s₂.heap.objs.size + 1 := by rw [← hH2, Heap.size_push]
  have hDC : s₂.heap.objs.size ≠ H2.objs.size := by rw [hC]; exact Nat.ne_of_lt (Nat.lt_succ_self _)
  have below : ∀ b, b < s₂.heap.objs.size → b ≠ H2.objs.size := fun b hb => by rw [hC]; exact Nat.ne_of_lt (Nat.lt_succ_of_lt hb)
  have old : ∀ b o, s₂.heap.get? b = some o → h₁.get? b = some o := fun b o e => hsb₁.extBut b o (below b (Heap.lt_size e)) (Heap.get?_push_of_some _ (hH2 ▸ Heap.get?_push_of_some _ e))
  have hD₁ : h₁.get? s₂.heap.objs.size = some (listOf ([] : List Value).toArray 0) := hsb₁.extBut _ _ hDC (Heap.get?_push_of_some _ (hH2 ▸ Heap.get?_push_size _ rfl))
  have hC0 : h₀.get? H2.objs.size = none := by
    cases e : h₀.get? H2.objs.size with
    | none => rfl
    | some o => have := Heap.lt_size (F.keep _ _ e); rw [hC] at this; exact absurd this (Nat.not_lt.mpr (Nat.le_succ _))
  have hCL : H2.objs.size ≠ L := by have := F.ns.lt; rw [hC]; exact Nat.ne_of_gt (Nat.lt_succ_of_lt this)
  have hIC : I ≠ H2.objs.size := by
    obtain ⟨o, ho⟩ := hob _ _ hst
    exact below _ (Heap.lt_size ho)
  have hlt : ∀ p ∈ news, p.1 < s₂.heap.objs.size := fun p hp => Heap.lt_size (N p hp).1
  have F₁ : Fr h₀ L h₁ m := F.keeps old
  have N₁ : News h₀ L h₁ news := N.grown old
  have hCk : ∀ b ∈ fp, b ≠ H2.objs.size ∧ b ≠ s₂.heap.objs.size := fun b hb => by
    rcases hfp b hb with rfl | ⟨q, hq⟩ | ⟨o, ho⟩
    · exact ⟨hIC, hID⟩
    · exact ⟨fun e => (by rw [e, hC0] at hq; cases hq), fun e => (by rw [e, hDnew] at hq; cases hq)⟩
    · have := hlt _ (hFx _ _ _ h0 _ ho)
      exact ⟨below _ this, Nat.ne_of_lt this⟩
  have hst₁ : St 0 h₁ := W.frame _ _ _ hst fun b _ o e => old b o e
  have loop : codeAny (model prog w) A (.compLoop (.ListComp elt [⟨.Name x px, iter, [], 0⟩] scope pos) 0 (.ref I) (.ref s₂.heap.objs.size) (compEnvC scope cl H2.objs.size env))
      (RR (.ref s₂.heap.objs.size) H2.objs.size) { s₂ with heap := h₁, toks := s₂.toks + ([] : List (Str × Value)).length } := by
    refine codeAny_compLoop_list
      (fun c s' => ∃ h' tk cm ys n1 k i, s' = { s₂ with heap := h', toks := tk } ∧ St i h' ∧ Fr h₀ L h' m ∧ News h₀ L h' ((s₂.heap.objs.size, listOf ys.toArray k) :: n1) ∧ (∀ p ∈ n1, p.1 ≠ I ∧ p.1 ≠ s₂.heap.objs.size ∧ p.1 ≠ H2.objs.size) ∧
        h'.Ns H2.objs.size cm ∧ R i ys n1 ∧ ys.length = i ∧ i ≤ n ∧ c = n + 1 - i) ?_ (n + 1)
      ⟨h₁, _, _, [], news, 0, 0, rfl, hst₁, F₁, fun p hp => ?_, fun p hp => ⟨hnI p hp, Nat.ne_of_lt (hlt p hp), below _ (hlt p hp)⟩, hns₁, h0, rfl, Nat.zero_le _, rfl⟩ (by intro _; rfl)
    · rintro c s' ⟨h', tk, cm, ys, n1, k, i, rfl, hst', F', N', hap, hn', hR, hlen, hi, rfl⟩
      have keepF : ∀ h2 : Heap, (∀ b o, b ∉ wr → h'.get? b = some o → h2.get? b = some o) → Fr h₀ L h2 m ∧ News h₀ L h2 ((s₂.heap.objs.size, listOf ys.toArray k) :: n1) ∧ h2.Ns H2.objs.size cm := fun h2 hk => by
        have hLw : L ∉ wr := fun h => hLI (hwI _ h)
        refine ⟨⟨F'.ns.at' fun o e => hk _ o hLw e, fun b o e => hk b o (fun hb => ?_) (F'.keep b o e), F'.above⟩, fun p hp => ⟨hk _ _ (fun hw => ?_) (N' p hp).1, (N' p hp).2⟩, hn'.at' fun o e => hk _ o (fun hw => hIC (hwI _ hw).symm) e⟩
        · rw [hwI b hb, hI0] at e; cases e
        · rcases List.mem_cons.mp hp with rfl | hp
          · exact hID (hwI _ hw).symm
          · exact (hap p hp).1 (hwI _ hw)
      by_cases hin : i < n
      · refine W.item i _ _ _ hin hst' fun v h2 tk2 hP hst2 hk2 => ?_
        obtain ⟨F2, N2, hn2⟩ := keepF h2 hk2
        refine wpAny_assign_Name (wpAny_storeName_local (env := compEnvC scope cl H2.objs.size env) (lookup_relabel_local hx) hn2 (fun h3 hn3 hs3 => ?_) (by simp [compEnvC, relabel, hkind]))
        have hne3 : ∀ b o, b ≠ H2.objs.size → h2.get? b = some o → h3.get? b = some o := fun b o hb e => (hs3.2 b hb).trans e
        have F3 : Fr h₀ L h3 m := ⟨F2.ns.at' fun o e => hne3 _ o hCL.symm e, fun b o e => hne3 b o (fun hb => by rw [hb, hC0] at e; cases e) (F2.keep b o e), F2.above⟩
        have hst3 : St (i + 1) h3 := W.frame _ _ _ hst2 fun b hb o e => hne3 b o (hCk b hb).1 e
        obtain ⟨oI, hoI⟩ := hob _ _ hst3
        obtain ⟨oC, hoC, hCns⟩ := ns_obj hn3
        have N3 : News h₀ L h3 ((I, oI) :: (s₂.heap.objs.size, listOf ys.toArray k) :: (H2.objs.size, oC) :: n1) := fun p hp => by
          rcases List.mem_cons.mp hp with rfl | hp
          · exact ⟨hoI, hLI.symm, hI0⟩
          · rcases List.mem_cons.mp hp with rfl | hp
            · exact ⟨hne3 _ _ hDC (N2 _ (.head _)).1, hDL, hDnew⟩
            · rcases List.mem_cons.mp hp with rfl | hp
              · exact ⟨hoC, hCL, hC0⟩
              · exact ⟨hne3 _ _ (hap p hp).2.2 (N2 p (.tail _ hp)).1, (N2 p (.tail _ hp)).2⟩
        have off3 : Off [(I, oI), (s₂.heap.objs.size, listOf ys.toArray k), (H2.objs.size, oC)] n1 := off_cons (fun q hq => (hap q hq).1) (off_cons (fun q hq => (hap q hq).2.1) (off_cons (fun q hq => (hap q hq).2.2) off_nil))
        refine wpAny_mono (turn i v ys n1 h3 _ s₂.heap.objs.size H2.objs.size oI oC k _ _ hin hP hR hlt off3 F3 N3 hn3 (by simp)) (fun y s5 h5 => ?_) fun _ _ e => e
        obtain ⟨h', tk', n2, rfl, F5, N5, off5, hR5⟩ := h5
        have hap5 : ∀ p ∈ n2, p.1 ≠ I ∧ p.1 ≠ s₂.heap.objs.size ∧ p.1 ≠ H2.objs.size := fun p hp => ⟨off5.head p hp, off5.tail.head p hp, off5.tail.tail.head p hp⟩
        refine appendL_K (h₀ := h₀) (L := L) (m := m) (n := k) (vs := ys) F5 N5 (.tail hID (.head fun p hp => ?_)) (by omega) fun h6 F6 N6 => ?_
        · rcases List.mem_cons.mp hp with rfl | hp
          · exact hDC.symm
          · exact (hap5 p hp).2.1
        · have hst6 : St (i + 1) h6 := W.frame _ _ _ hst3 fun b hb o e => by
            rcases hfp b hb with rfl | ⟨q, hq⟩ | ⟨o1, ho1⟩
            · rw [hoI] at e; rw [← Option.some.inj e]; exact (N6 _ (.head _)).1
            · have := F3.keep b q hq; rw [e] at this; rw [Option.some.inj this]; exact F6.keep b q hq
            · have z1 := (N3 _ (.tail _ (.tail _ (.tail _ (hFx _ _ _ hR _ ho1))))).1
              rw [e] at z1
              rw [Option.some.inj z1]
              exact (N6 _ (.tail _ (.tail _ (.tail _ (hFx _ _ _ hR5 _ ho1))))).1
          exact ⟨n + 1 - (i + 1), by omega, h6, _, _, ys ++ [y], n2, k + 1, i + 1, rfl, hst6, F6, (fun p hp => N6 p (by
            rcases List.mem_cons.mp hp with rfl | hp
            · exact .tail _ (.head _)
            · exact .tail _ (.tail _ (.tail _ hp)))), hap5, hCns h6 (N6 _ (.tail _ (.tail _ (.head _)))).1, hR5, by simp [hlen], hin, rfl⟩
      · have e : i = n := by omega
        subst e
        refine W.done _ _ _ hst' fun h2 tk2 hk2 => ?_
        obtain ⟨F2, N2, hn2⟩ := keepF h2 hk2
        exact done _ _ h2 _ cm ys n1 k hR hlen hlt (fun p hp => (hap p hp).2.1) (fun p hp => (hap p hp).2.2) hDC hCL hC0 F2 N2 hn2
    · rcases List.mem_cons.mp hp with rfl | hp
      · exact ⟨hD₁, hDL, hDnew⟩
      · exact N₁ p hp
  exact codeAny_compStart_list loop (W.self 0 _ _ _ hst₁ loop)
/-- the block behind its iterator -/
def CompN (prog : Program) (w : World) (A : Around) (E : Value → Shared → Prop) (env : Env) (elt : Expr) (x : Str) (px : Pos) (iter : Expr) (scope : Scope) (cl : List (Str × Addr)) (pos : Pos) (use : Option (Value → Sem Unit)) (Q : Value → Shared → Prop) (it : Value) (s₂ : Shared) : Prop :=
  wpAny (model prog w) A (newList []) (fun acc s₃ => wpAny (model prog w) A (newFunctionEnv scope env.globals cl [] env.qual none .none (some env)) (fun cenv s₄ =>
    codeAny (model prog w) A (.compStart (.ListComp elt [⟨.Name x px, iter, [], 0⟩] scope pos) 0 it acc { cenv with scope := relabel scope env }) (compPost (model prog w) A E use Q acc cenv.locals) s₄) E s₃) E s₂
theorem ListComp_at {elt iter : Expr} {x : Str} {px : Pos} {scope : Scope} {cl : List (Str × Addr)} {pos : Pos} {Q : Value → Shared → Prop} (hclos : closureFor scope env = pure cl) (hkind : scope.kind = .function)
    (hnames : ∀ y ∈ scope.names, y.2 = .local → scope.names.lookup y.1 = some .local)
    (h : wpAny (model prog w) A (eval iter env) (fun xv s₁ => wpAny (model prog w) A (pyIter xv) (fun it s₂ => CompN prog w A E env elt x px iter scope cl pos none Q it s₂) E s₁) E s)
    (hs : ∀ x, foldedSetIterable iter env x = pure x := by intro _; rfl) : wpAny (model prog w) A (eval (.ListComp elt [⟨.Name x px, iter, [], 0⟩] scope pos) env) Q E s := by
  rw [eval_ListComp]
  exact wpAny_comprehension_free (use := none) rfl hs hclos hkind hnames h
theorem Assign_ListComp_at {elt iter : Expr} {x y : Str} {px py : Pos} {scope : Scope} {cl : List (Str × Addr)} {pos spos : Pos} {Q : Flow → Shared → Prop}
    (hsw : swapsWith (.ListComp elt [⟨.Name x px, iter, [], 0⟩] scope pos) (some (.Name y py)) spos.line env = pure true) (hclos : closureFor scope env = pure cl) (hkind : scope.kind = .function)
    (hnames : ∀ y ∈ scope.names, y.2 = .local → scope.names.lookup y.1 = some .local)
    (h : wpAny (model prog w) A (eval iter env) (fun xv s₁ => wpAny (model prog w) A (pyIter xv) (fun it s₂ => CompN prog w A E env elt x px iter scope cl pos (some (assign (.Name y py) env)) (fun _ s' => Q .next s') it s₂) E s₁) E s)
    (hs : ∀ x, foldedSetIterable iter env x = pure x := by intro _; rfl) : wpAny (model prog w) A (exec (.Assign [.Name y py] (.ListComp elt [⟨.Name x px, iter, [], 0⟩] scope pos) spos) env) Q E s := by
  rw [exec_Assign_Name_used _ _ _ _ hsw]
  refine wpAny_bind (wpAny_standAt (wpAny_bind ?_))
  show wpAny _ A (do let _ ← comprehension (.ListComp elt [⟨.Name x px, iter, [], 0⟩] scope pos) scope env _ (newList []) false (eval iter env) (some (assign (.Name y py) env))) _ _ s
  exact wpAny_bind (wpAny_mono (wpAny_comprehension_free (use := some (assign (.Name y py) env)) (Q := fun _ s' => Q .next s') rfl hs hclos hkind hnames h) (fun _ s' hq => wpAny_pure (wpAny_pure hq)) fun _ _ e => e)
section
variable {elt iter : Expr} {x : Str} {px : Pos} {scope : Scope} {cl : List (Str × Addr)} {pos : Pos} {I : Addr} {n : Nat} {P : Nat → Value → Prop} {news Fx : List (Addr × Obj)}
/-- what a turn of a block owes -/
def EltP (h₀ : Heap) (L : Addr) (m : Str → Option Value) (own : List (Addr × Obj)) (s₁ : Shared) (R : Value → List (Addr × Obj) → Prop) (y : Value) (s₃ : Shared) : Prop :=
  ∃ h' tk' news', s₃ = { s₁ with heap := h', toks := tk' } ∧ Fr h₀ L h' m ∧ News h₀ L h' (own ++ news') ∧ Off own news' ∧ R y news'
theorem comp_eval {Q : Value → Shared → Prop} (R : Nat → List Value → List (Addr × Obj) → Prop) (Z : Src prog w A h₀ L s.heap news Fx I n P) (hsz : n ≤ sizeLine)
    (hcell : ∀ y ∈ scope.names, y.2 ≠ .cell) (hkind : scope.kind = .function) (hx : scope.names.lookup x = some .local) (F : Fr h₀ L s.heap m) (N : News h₀ L s.heap news) (h0 : R 0 [] news) (hFx : ∀ i ys l, R i ys l → ∀ p ∈ Fx, p ∈ l)
    (turn : ∀ i v ys news₁ h tk D C oI oC k cm E', i < n → P i v → R i ys news₁ → (∀ p ∈ news, p.1 < D) → Off [(I, oI), (D, listOf ys.toArray k), (C, oC)] news₁ → Fr h₀ L h m → News h₀ L h ((I, oI) :: (D, listOf ys.toArray k) :: (C, oC) :: news₁) →
      h.Ns (compEnvC scope cl C env).locals cm → cm x = some v →
      wpAny (model prog w) A (eval elt (compEnvC scope cl C env)) (EltP h₀ L m [(I, oI), (D, listOf ys.toArray k), (C, oC)] { s with heap := h, toks := tk } fun y l => R (i + 1) (ys ++ [y]) l) E' { s with heap := h, toks := tk })
    (done : ∀ D h' tk ys news₁ k, R n ys news₁ → ys.length = n → (∀ p ∈ news, p.1 < D) → (∀ p ∈ news₁, p.1 ≠ D) → Fr h₀ L h' m → News h₀ L h' ((D, listOf ys.toArray k) :: news₁) → Q (.ref D) { s with heap := h', toks := tk }) :
    CompN prog w A E env elt x px iter scope cl pos none Q (.ref I) s :=
  comp_blockK R Z hsz hcell hkind hx F N h0 hFx
    (fun i v ys n1 h tk D C oI oC k cm E' hi hP hR hD off F1 N1 hn hc => wpAny_mono (turn i v ys n1 h tk D C oI oC k cm E' hi hP hR hD off F1 N1 hn hc) (fun y s₃ ⟨h', tk', n2, e, F2, N2, o2, r2⟩ => ⟨h', tk', n2, e, F2, N2, o2, r2⟩) fun _ _ e => e)
    fun D C h' tk cm ys n1 k hR hlen hD hnD hnC hDC hCL hC0 F1 N1 hn => ⟨cm, hn, fun h'' hs => done D h'' tk ys n1 k hR hlen hD hnD (F1.change hs hCL hC0) fun p hp => by
      have hpC : p.1 ≠ C := by
        rcases List.mem_cons.mp hp with rfl | hp
        · exact hDC
        · exact hnC p hp
      exact ⟨(hs.2 _ hpC).trans (N1 p hp).1, (N1 p hp).2⟩⟩
theorem comp_assign {y : Str} {py : Pos} {Q : Flow → Shared → Prop} (R : Nat → List Value → List (Addr × Obj) → Prop) (Z : Src prog w A h₀ env.locals s.heap news Fx I n P) (hsz : n ≤ sizeLine)
    (hcell : ∀ y ∈ scope.names, y.2 ≠ .cell) (hkind : scope.kind = .function) (hx : scope.names.lookup x = some .local) (F : Fr h₀ env.locals s.heap m) (N : News h₀ env.locals s.heap news) (h0 : R 0 [] news) (hFx : ∀ i ys l, R i ys l → ∀ p ∈ Fx, p ∈ l)
    (hy : env.kindOf y = some .local) (hp : (env.scope.kind == .class || (env.scope.kind == .module && env.locals != env.globals)) = false)
    (turn : ∀ i v ys news₁ h tk D C oI oC k cm E', i < n → P i v → R i ys news₁ → (∀ p ∈ news, p.1 < D) → Off [(I, oI), (D, listOf ys.toArray k), (C, oC)] news₁ → Fr h₀ env.locals h m → News h₀ env.locals h ((I, oI) :: (D, listOf ys.toArray k) :: (C, oC) :: news₁) →
      h.Ns (compEnvC scope cl C env).locals cm → cm x = some v →
      wpAny (model prog w) A (eval elt (compEnvC scope cl C env)) (EltP h₀ env.locals m [(I, oI), (D, listOf ys.toArray k), (C, oC)] { s with heap := h, toks := tk } fun y l => R (i + 1) (ys ++ [y]) l) E' { s with heap := h, toks := tk })
    (done : ∀ D h' tk ys news₁ k, R n ys news₁ → ys.length = n → (∀ p ∈ news, p.1 < D) → (∀ p ∈ news₁, p.1 ≠ D) → Fr h₀ env.locals h' (fun z => if z = y then some (.ref D) else m z) → News h₀ env.locals h' ((D, listOf ys.toArray k) :: news₁) → Q .next { s with heap := h', toks := tk }) :
    CompN prog w A E env elt x px iter scope cl pos (some (assign (.Name y py) env)) (fun _ s' => Q .next s') (.ref I) s :=
  comp_blockK R Z hsz hcell hkind hx F N h0 hFx
    (fun i v ys n1 h tk D C oI oC k cm E' hi hP hR hD off F1 N1 hn hc => wpAny_mono (turn i v ys n1 h tk D C oI oC k cm E' hi hP hR hD off F1 N1 hn hc) (fun y s₃ ⟨h', tk', n2, e, F2, N2, o2, r2⟩ => ⟨h', tk', n2, e, F2, N2, o2, r2⟩) fun _ _ e => e)
    fun D C h' tk cm ys n1 k hR hlen hD hnD hnC hDC hCL hC0 F1 N1 hn => by
      show wpAny _ A (assign (.Name y py) env (.ref D)) _ _ _
      refine wpAny_assign_Name (wpAny_storeName_local hy F1.ns (fun h2 hn2 hs2 => ⟨cm, hn.sameBut hs2 hCL, fun h3 hs3 => ?_⟩) hp)
      refine done D h3 _ ys n1 k hR hlen hD hnD ((F1.set hn2 hs2).change hs3 hCL hC0) fun p hp => ?_
      have hpC : p.1 ≠ C := by
        rcases List.mem_cons.mp hp with rfl | hp
        · exact hDC
        · exact hnC p hp
      exact ⟨(hs3.2 _ hpC).trans ((hs2.2 _ (N1 p hp).2.1).trans (N1 p hp).1), (N1 p hp).2⟩
end
end
section
variable {prog : Program} {w : World} {A A₀ : Around} {s : Shared} {K : Frag} {L : Addr} {h₀ base : Heap} {m mg mb : Str → Option Value} {news : List (Addr × Obj)} {p : Program} {loose : List Str} {mean : ExcName → Option Value}
/-- a def whose names are in cells: the ground told, as code_defG does -/
theorem code_defGC {env : Env} {outer : List Env} {R : Result → Shared → Prop} {name qual : Str} {params : Arguments} {body : List Stmt} {scope : Scope} {dV kV doc pm cdv ct oc : Value} {an od : Option Addr} {osl : Array (Option Value)} {f : Addr} {args : Args} {binds : List (Str × Value)}
    (B : Below A₀ base outer h₀) (F : Fr h₀ L s.heap m) (X₀ : K.In h₀) (N : News h₀ L s.heap news) (T : Top p loose mean mg mb h₀) (hA : A.frames = some (env :: outer)) (hf : env.frame = some L) (hke : env.scope.kind = .function)
    (ho : K.lookup f = some ⟨oc, od, .func (fnOf name qual params body scope dV kV doc pm an cdv ct), osl⟩) (hcd : codeIn K cdv qual = true) (hroom : A.depth < recursionLimit)
    (hbind : BindsTo s (fnOf name qual params body scope dV kV doc pm an cdv ct) args binds) (hkind : (binds.all fun y => scope.names.lookup y.1 == some .local || scope.names.lookup y.1 == some .cell) = true)
    (hnd : ((cellsFrom 0 scope.names []).map (·.1)).Nodup)
    (h : ∀ g L' h₁ tk cells, Fr h₀ L g m → Fr g L' h₁ (bindL (envOfC qual scope L' f cdv).kindOf binds fun _ => none) → News g L' h₁ (cells ++ news) →
      CellsAre (bindC (envOfC qual scope L' f cdv).kindOf binds fun _ => none) (cellsFrom (L' + 1) scope.names []) cells → Below A base (env :: outer) g → K.In g → Top p loose mean mg mb g → (∀ p ∈ news, p.1 < L') → GSub s.heap g (news.map (·.1)) →
      wpAny (model prog w) (A.deeper (envOfC qual scope L' f cdv)) (execs body (envOfC qual scope L' f cdv))
        (fun fl s' => LeaveK h₀ L m g R (match fl with | .ret v => v | _ => .none) s')
        (fun e s' => wpAny (model prog w) (A.deeper (envOfC qual scope L' f cdv)) (leaving (envOfC qual scope L' f cdv) e) (fun _ s'' => R (.error e) s'') (fun e' s'' => R (.error e') s'') s')
        { s with heap := h₁, toks := tk })
    (hco : scope.isCoroutine = false) (hgen : scope.isGenerator = false) (hk : scope.kind = .function) : codeAny (model prog w) A (.call (.ref f) args) R s := by
  obtain ⟨FG, BG, st, back⟩ := groundX (R := R) B F N hA hf hke
  have X₁ := X₀.keeps F.keep
  refine codeAny_call_function hroom (X₁ _ _ ho) rfl hco hgen rfl (codeRec_of X₁ hcd) (hbind _ _ _ _ (wpAny_newFunctionEnv_cells hk (kindsX hkind _) fun env' he s' x => ?_))
  subst he
  have kept := x.toInCall.keep
  refine ⟨(T.nolimit.keeps F.keep).keeps kept, codeAny_func ?_⟩
  obtain ⟨h₁, tk, rfl, _⟩ := x.done
  obtain ⟨cells, NC, Y⟩ := Cl.news (h₀ := s.heap) (Nat.le_refl _) fun n c hm => ⟨x.cell n c (lookup_of_mem_nodup (cellsFrom_names scope.names 0 (s.heap.objs.size + 1) [] [] rfl ▸ hnd) hm), x.above n c hm⟩
  have low : ∀ q ∈ news, q.1 < s.heap.objs.size := fun q hq => Heap.lt_size (N q hq).1
  have hidden : ∀ b, s.heap.get? b = none → (hideAll s.heap (news.map (·.1))).get? b = none := fun b hb => by
    cases e : (hideAll s.heap (news.map (·.1))).get? b with
    | none => rfl
    | some o => rw [of_hideAll _ e] at hb; cases hb
  have NN : News (hideAll s.heap (news.map (·.1))) s.heap.objs.size h₁ (cells ++ news) := fun q hq => by
    rcases List.mem_append.mp hq with hq | hq
    · have z := NC q hq
      exact ⟨z.1, z.2.1, hidden _ z.2.2⟩
    · exact ⟨kept _ _ (N q hq).1, Nat.ne_of_lt (low q hq), hideAll_none _ (List.mem_map_of_mem hq)⟩
  exact wpAny_mono (h _ _ h₁ tk cells FG ⟨x.toInCall.ns, fun b o e => kept b o (of_hideAll _ e), Nat.le_of_eq (hideAll_size _ _)⟩ NN Y BG (X₀.keeps st) (T.keeps st) low fun b o e n => hideAll_get _ e n) (fun _ _ q => back _ _ q) fun _ _ e => e
end
section
variable {prog : Program} {w : World} {A : Around} {E : Value → Shared → Prop} {s : Shared} {env : Env} {h₀ : Heap} {L : Addr}
variable {target : Expr} {body : List Stmt} {Q : Flow → Shared → Prop}
/-- a list of the ledger, gone over with any target -/
theorem turns_listN {l : Addr} {vs : List Value} {k : Nat} {m₀ : Str → Option Value} {news : List (Addr × Obj)} (J : Nat → (Str → Option Value) → List (Addr × Obj) → Prop)
    (hh : A.handled = none) (hl : (l, listOf vs.toArray k) ∈ news) (F : Fr h₀ env.locals s.heap m₀) (N : News h₀ env.locals s.heap news) (h0 : J 0 m₀ news) (hFx : ∀ i m l', J i m l' → (l, listOf vs.toArray k) ∈ l')
    (turn : ∀ i v m₁ news₁ h tk I o, i < vs.length → vs[i]? = some v → J i m₁ news₁ → (∀ p ∈ news, p.1 < I) → (∀ p ∈ news₁, p.1 ≠ I) → Fr h₀ env.locals h m₁ → News h₀ env.locals h ((I, o) :: news₁) →
      wpAny (model prog w) A (assign target env v) (fun _ s₃ => wpAny (model prog w) A (execs body env) (TurnP h₀ env.locals I o { s with heap := h, toks := tk } (J (i + 1)) Q) E s₃) E { s with heap := h, toks := tk })
    (done : ∀ m₁ news₁ h tk, J vs.length m₁ news₁ → Fr h₀ env.locals h m₁ → News h₀ env.locals h news₁ → Q .next { s with heap := h, toks := tk }) :
    wpAny (model prog w) A (pyIter (.ref l)) (fun it s₂ => TurnsAt prog w A h₀ env target body Q E it s₂) E s := by
  have hls : s.heap.IsList l vs.toArray := ⟨_, (N _ hl).1, rfl, k, rfl⟩
  have hlt : l < s.heap.objs.size := Heap.lt_size (N _ hl).1
  have hne : l ≠ s.heap.objs.size := Nat.ne_of_lt hlt
  refine wpAny_pyIter_list hls ?_
  have W := Walks.list (prog := prog) (w := w) hh s.heap.objs.size l hne vs.toArray
  have hsz : vs.toArray.size = vs.length := by simp
  rw [hsz] at W
  have hnI : ∀ p ∈ news, p.1 < s.heap.objs.size := fun p hp => Heap.lt_size (N p hp).1
  have hI0 : h₀.get? s.heap.objs.size = none := next_is_new F
  have hLI : env.locals ≠ s.heap.objs.size := Nat.ne_of_lt F.ns.lt
  have one : ∀ b ∈ [s.heap.objs.size], b = s.heap.objs.size := fun b hb => List.mem_singleton.mp hb
  refine ⟨s.heap.objs.size, [s.heap.objs.size, l], [s.heap.objs.size], vs.length, (fun i v _ => vs.toArray[i]? = some v), (fun i v h => vs.toArray[i]? = some v ∧ (h.IsListIter s.heap.objs.size l (i + 1) ∧ h.IsList l vs.toArray)), (fun i h => h.IsListIter s.heap.objs.size l i ∧ h.IsList l vs.toArray), m₀, news, (fun i m₁ l' => J i m₁ l' ∧ ∀ p ∈ l', p.1 ≠ s.heap.objs.size), rfl, KTurns.ofWalks (target := target) W fun i v s Q E st q => letGo_listiter st.1 q, fun hm => ?_, fun b hb => by rw [one b hb]; exact hI0, fun p hp hw => Nat.ne_of_lt (hnI p hp) (one _ hw),
    ⟨⟨_, Heap.get?_push_size _ rfl, rfl, rfl⟩, hls.at fun o e => Heap.get?_push_of_some _ e⟩, F.push _, fun p hp => ⟨Heap.get?_push_of_some _ (N p hp).1, (N p hp).2⟩, ⟨h0, fun p hp => Nat.ne_of_lt (hnI p hp)⟩, ?_, ?_⟩
  · rcases List.mem_cons.mp hm with e | hm
    · exact hLI e
    · exact (N _ hl).2.1 (List.mem_singleton.mp hm).symm
  · intro i v m₁ news₁ h₁ tk₁ own hin hP hJ hnw hown hown2 hall hst F₁ N₁
    have hP' : vs[i]? = some v := by simpa using hP
    obtain ⟨o, ho, _⟩ := hst.1
    have hio : (s.heap.objs.size, o) ∈ own := hall _ (.head _) hI0 o ho
    have hone : ∀ p ∈ own, p = (s.heap.objs.size, o) ∨ p = (l, listOf vs.toArray k) := fun p hp => by
      have z := hown2 p hp
      rcases List.mem_cons.mp (hown p hp) with e | e
      · refine .inl (Prod.ext e ?_)
        rw [e, ho] at z
        exact (Option.some.inj z).symm
      · have e := List.mem_singleton.mp e
        refine .inr (Prod.ext e ?_)
        have z1 := (N₁ _ (List.mem_append_right _ (hFx _ _ _ hJ.1))).1
        rw [e, z1] at z
        exact (Option.some.inj z).symm
    refine wpAny_mono (turn i v m₁ news₁ h₁ tk₁ _ o hin hP' hJ.1 hnI hJ.2 F₁ (news_one hio N₁)) (fun _ s₃ x => wpAny_mono x (fun f s₂ p => ?_) fun _ _ e => e) fun _ _ e => e
    have fin : (∃ h' tk m' news', s₂ = { ({ s with heap := h₁, toks := tk₁ } : Shared) with heap := h', toks := tk } ∧ Fr h₀ env.locals h' m' ∧ News h₀ env.locals h' ((s.heap.objs.size, o) :: news') ∧ (∀ p ∈ news', p.1 ≠ s.heap.objs.size) ∧ J (i + 1) m' news') →
        LoopStepU h₀ env.locals [s.heap.objs.size] own (fun m₁ l' => J (i + 1) m₁ l' ∧ ∀ p ∈ l', p.1 ≠ s.heap.objs.size) { s with heap := h₁, toks := tk₁ } .next s₂ := by
      rintro ⟨h', tk, m', news', e, F', N', hn', hJ'⟩
      refine ⟨rfl, h', tk, m', news', e, F', fun q hq => ?_, fun p hp hw => hn' p hp (one _ hw), hJ', hn'⟩
      rcases List.mem_append.mp hq with hq | hq
      · rcases hone q hq with e | hq
        · rw [e]; exact N' _ (.head _)
        · rw [hq]; exact N' _ (.tail _ (hFx _ _ _ hJ'))
      · exact N' _ (.tail _ hq)
    cases f with
    | ret v => exact .ret p
    | brk => exact .brk p
    | next => exact .next (fin p)
    | cont => exact .cont (fin p)
  · rintro h' tk m' news' F' N' _ ⟨hJ, hn⟩
    exact done m' news' h' tk hJ F' N'
end
abbrev PR : Program := PySem.Challenge.rw_pq0455_01.row.toRowW.prog
noncomputable abbrev KK (w : World) : Frag := Mine.top.heap_1 w.params
abbrev NoE : Value → Shared → Prop := fun _ _ => False
abbrev Led := List (Addr × Obj)
abbrev Loc := List (Str × Value)
/-- a frame's static data -/
structure Dn where
  cn : Str
  cs : Scope
  a : Addr
  ccd : Value
def Dn.cl (D : Dn) (L : Addr) : List (Str × Addr) := cellsFrom (L + 1) D.cs.names []
@[reducible] def Dn.env (D : Dn) (L : Addr) : Env := envX D.cn D.cs L D.a D.ccd (D.cl L)
/-- what a walk within one def knows: the world, the def, the room, the base heap; nm : the names of the scope at hand, fn : is it the def's own -/
structure Cx where
  w : World
  D : Dn
  nm : List (Str × NameKind)
  fn : Bool
  dn : Nat
  un : Nat
  g : Heap
@[reducible] def cx (w : World) (D : Dn) (dn un : Nat) (g : Heap) : Cx := ⟨w, D, D.cs.names, true, dn, un, g⟩
def varN (nm : List (Str × NameKind)) (x : Str) : Bool := match nm.lookup x with | some .local => true | some .cell => true | some .free => true | _ => false
def globN (nm : List (Str × NameKind)) (x : Str) : Bool := match nm.lookup x with | some .globalImplicit => true | _ => false
def Keeps (g h : Heap) : Prop := ∀ b o, g.get? b = some o → h.get? b = some o
/-- a frame's surroundings, whatever they are: what a step may ask of them -/
structure Fm (C : Cx) (A : Around) (env : Env) (L : Addr) (Rel : Heap → Loc → Led → Prop) : Prop where
  hand : A.handled = none
  room : A.depth + C.dn < recursionLimit
  unit : A.units + C.un < cLine
  K : (KK C.w).In C.g
  T : ∃ mean mg mb, TopX mean mg mb C.g
  opn : ∀ {h m S}, Rel h m S → ∃ pre mm, Fr C.g L h mm ∧ News C.g L h (pre ++ S) ∧ Off pre S ∧ (∀ h' S', Fr C.g L h' mm → News C.g L h' (pre ++ S') → Off pre S' → Rel h' m S') ∧
    (C.fn = true → ∀ x v, m.lookup x = some v → C.nm.lookup x = some .cell → ∃ c o, env.cells.lookup x = some c ∧ (c, o) ∈ pre ∧ o.data = .cell (some v))
  var : ∀ {s m S x pos v Q}, Rel s.heap m S → m.lookup x = some v → varN C.nm x = true → (x == Str.ofString "__debug__") = false → Q v s → wpAny (model PR C.w) A (eval (.Name x pos) env) Q NoE s
  glob : ∀ {s m S x pos v Q}, Rel s.heap m S → globN C.nm x = true → (x == Str.ofString "__debug__") = false → nsIn (KK C.w) mainGlobals x = some (some v) → Q v s → wpAny (model PR C.w) A (eval (.Name x pos) env) Q NoE s
  blt : ∀ {s m S x pos v Q}, Rel s.heap m S → globN C.nm x = true → (x == Str.ofString "__debug__") = false → nsIn (KK C.w) mainGlobals x = some none → bootBuiltins x = some v → x ≠ Str.ofString "__name__" → Q v s → wpAny (model PR C.w) A (eval (.Name x pos) env) Q NoE s
  call : ∀ {s mm f vs dn' un' S1 pre Post Q}, Fr C.g L s.heap mm → News C.g L s.heap (pre ++ S1) → Off pre S1 → Tell C.w f vs dn' un' S1 s.heap Post → dn' ≤ C.dn → un' ≤ C.un →
    (∀ r S' h' tk', Fr C.g L h' mm → News C.g L h' (pre ++ S') → Off pre S' → Post r S' h' → Q r { s with heap := h', toks := tk' }) → wpAny (model PR C.w) A (call (.ref f) vs) Q NoE s
  fnk : C.fn = true → env.scope.kind = .function ∧ env.globals = mainGlobals ∧ env.builtins = builtinsNs ∧ ∀ x, env.kindOf x = C.nm.lookup x ∧ (C.nm.lookup x = some .cell → ∃ c, env.cells.lookup x = some c)
theorem Fm.tell {C : Cx} {A : Around} {env : Env} {L : Addr} {Rel : Heap → Loc → Led → Prop} {s : Shared} {m : Loc} {S : Led} {f : Addr} {vs : List Value} {dn' un' : Nat} {S1 pre : Led} {Post : Value → Led → Heap → Prop} {Q : Value → Shared → Prop} (F : Fm C A env L Rel) (R : Rel s.heap m S) (T : Tell C.w f vs dn' un' S1 s.heap Post) (hd : dn' ≤ C.dn) (hu : un' ≤ C.un)
    (hpre : ∀ p ∈ pre, p ∈ S) (hS1 : ∀ p ∈ S1, p ∈ S) (off : Off pre S1) (k : ∀ r S' h' tk', Rel h' m (pre ++ S') → Off pre S' → Post r S' h' → Q r { s with heap := h', toks := tk' }) : wpAny (model PR C.w) A (PySem.call (.ref f) vs) Q NoE s := by
  obtain ⟨p0, mm, f0, N, o, back, _⟩ := F.opn R
  refine F.call (pre := p0 ++ pre) f0 (fun p hp => ?_) (fun p hp q hq => ?_) T hd hu fun r S' h' tk' F' N' o' P => k r S' h' tk' (back h' _ F' (by rw [← List.append_assoc]; exact N') fun p hp q hq => ?_) (fun p hp q hq => o' p (List.mem_append_right _ hp) q hq) P
  · rcases List.mem_append.mp hp with hp | hp
    · rcases List.mem_append.mp hp with hp | hp
      · exact N p (List.mem_append_left _ hp)
      · exact N p (List.mem_append_right _ (hpre p hp))
    · exact N p (List.mem_append_right _ (hS1 p hp))
  · rcases List.mem_append.mp hp with hp | hp
    · exact o p hp q (hS1 q hq)
    · exact off p hp q hq
  · rcases List.mem_append.mp hq with hq | hq
    · exact o p hp q (hpre q hq)
    · exact o' p (List.mem_append_left _ hp) q hq
/-- a tree run in any such frame: the ledger S in, S' out -/
def Tr {α : Type} (C : Cx) (m : Loc) (S : Led) (X : Env → Sem α) (P : α → Led → Prop) : Prop :=
  ∀ (A : Around) (env : Env) (L : Addr) (Rel : Heap → Loc → Led → Prop) (s : Shared), Fm C A env L Rel → Rel s.heap m S →
    wpAny (model PR C.w) A (X env) (fun v s' => ∃ h' tk' S', s' = { s with heap := h', toks := tk' } ∧ Rel h' m S' ∧ P v S') NoE s
def Ev (C : Cx) (m : Loc) (S : Led) (e : Expr) (P : Value → Led → Prop) : Prop := Tr C m S (fun env => eval e env) P
/-- it changes nothing -/
def Pu (C : Cx) (m : Loc) (S : Led) (e : Expr) (p : Value → Prop) : Prop := Ev C m S e fun v S' => S' = S ∧ p v
section
variable {α β : Type} {C : Cx} {m : Loc} {S S' : Led}
theorem Tr.mono {X : Env → Sem α} {P P' : α → Led → Prop} (h : Tr C m S X P) (hp : ∀ v S', P v S' → P' v S') : Tr C m S X P' := fun A env L Rel s F R =>
  wpAny_mono (h A env L Rel s F R) (fun _ _ ⟨h', tk, S', e, r, p⟩ => ⟨h', tk, S', e, r, hp _ _ p⟩) fun _ _ e => e
theorem Tr.then {X : Env → Sem α} {P : α → Led → Prop} {A : Around} {env : Env} {L : Addr} {Rel : Heap → Loc → Led → Prop} {s : Shared} {Q : α → Shared → Prop} (h : Tr C m S X P) (F : Fm C A env L Rel) (R : Rel s.heap m S)
    (k : ∀ v h' tk' S', Rel h' m S' → P v S' → Q v { s with heap := h', toks := tk' }) : wpAny (model PR C.w) A (X env) Q NoE s :=
  wpAny_mono (h A env L Rel s F R) (fun _ _ ⟨h', tk, S', e, r, p⟩ => e ▸ k _ h' tk S' r p) fun _ _ e => e
/-- the ledger is a function -/
def FunL (S : Led) : Prop := ∀ p ∈ S, ∀ q ∈ S, p.1 = q.1 → p.2 = q.2
theorem news_fun {g h : Heap} {L : Addr} (N : News g L h S) : FunL S := fun p hp q hq e => by
  have a := (N p hp).1; have b := (N q hq).1
  rw [e, b] at a; exact (Option.some.inj a).symm
theorem Tr.fun {X : Env → Sem α} {P : α → Led → Prop} (h : FunL S → Tr C m S X P) : Tr C m S X P := fun A env L Rel s F R => by
  obtain ⟨pre, mm, f, N, o, back, _⟩ := F.opn R
  exact h (news_fun fun p hp => N p (List.mem_append_right _ hp)) A env L Rel s F R
end
/-- what is known of the names -/
def Know (nm : List (Str × NameKind)) (cl : List (Str × Addr)) (m : Loc) (mm cm : Str → Option Value) : Prop :=
  ∀ x v, m.lookup x = some v → (nm.lookup x = some .local ∧ mm x = some v) ∨ (nm.lookup x = some .cell ∧ cm x = some v ∧ ∃ c, cl.lookup x = some c)
structure FnS (C : Cx) (L : Addr) (hid : Led) (h : Heap) (m : Loc) (S : Led) (mm cm : Str → Option Value) (ce : Led) : Prop where
  F : Fr C.g L h mm
  Y : CellsAre cm (C.D.cl L) ce
  N : News C.g L h ((hid ++ ce) ++ S)
  o : Off (hid ++ ce) S
  oc : Off hid ce
  kn : Know C.D.cs.names (C.D.cl L) m mm cm
/-- a def's own frame; hid : what the loops at work keep to themselves -/
def FnR (C : Cx) (L : Addr) (hid : Led) (h : Heap) (m : Loc) (S : Led) : Prop := ∃ mm cm ce, FnS C L hid h m S mm cm ce
structure FnX (C : Cx) (A : Around) (L : Addr) (mean : ExcName → Option Value) (mg mb : Str → Option Value) (dp un : Nat) (gd : Option (List Code)) (outer : List Env) (A₀ : Around) (base : Heap) : Prop where
  A : A = ktrTop dp un gd C.D.cn C.D.cs L C.D.a C.D.ccd (C.D.cl L) outer
  B : Below A₀ base outer C.g
  K : (KK C.w).In C.g
  T : TopX mean mg mb C.g
  hd : dp + C.dn < recursionLimit
  hu : un + C.un < cLine
structure FnC (C : Cx) (A : Around) (L : Addr) : Prop where
  nm : C.nm = C.D.cs.names
  fn : C.fn = true
  kind : C.D.cs.kind = .function
  ap : ((C.D.cl L).map (·.1)).Nodup ∧ ((C.D.cl L).map (·.2)).Nodup
  ex : ∃ mean mg mb dp un gd outer A₀ base, FnX C A L mean mg mb dp un gd outer A₀ base
theorem cells_mem {cm : Str → Option Value} {cl : List (Str × Addr)} {ce : Led} (Y : CellsAre cm cl ce) {x : Str} {c : Addr} (h : cl.lookup x = some c) : ∃ o, (c, o) ∈ ce ∧ o.data = .cell (cm x) := by
  induction Y with
  | nil => cases h
  | @cons n d o cs cells hd _ ih =>
    rw [List.lookup_cons] at h
    by_cases e : (x == n) = true
    · rw [e] at h; cases h
      have : x = n := by simpa using e
      subst this
      exact ⟨o, .head _, hd⟩
    · rw [Bool.eq_false_iff.mpr e] at h
      obtain ⟨o, a, b⟩ := ih h
      exact ⟨o, .tail _ a, b⟩
theorem cells_keys {cm : Str → Option Value} {cl : List (Str × Addr)} {ce : Led} (Y : CellsAre cm cl ce) : ce.map (·.1) = cl.map (·.2) := by
  induction Y with
  | nil => rfl
  | cons _ _ ih => rw [List.map_cons, List.map_cons, ih]
theorem cells_set {cm : Str → Option Value} {cl : List (Str × Addr)} {ce : Led} (Y : CellsAre cm cl ce) {x : Str} {c : Addr} {v : Value} (h : cl.lookup x = some c) (h1 : (cl.map (·.1)).Nodup) (h2 : (cl.map (·.2)).Nodup) {o' : Obj} (ho : o'.data = .cell (some v)) :
    ∃ ce', CellsAre (fun y => if y = x then some v else cm y) cl ce' ∧ (∀ p ∈ ce', p = (c, o') ∨ (p ∈ ce ∧ p.1 ≠ c)) := by
  induction Y with
  | nil => cases h
  | @cons n d o cs cells hd r ih =>
    rw [List.map_cons, List.nodup_cons] at h1 h2
    rw [List.lookup_cons] at h
    by_cases e : (x == n) = true
    · rw [e] at h
      obtain rfl : d = c := Option.some.inj h
      have : x = n := by simpa using e
      subst this
      have rest : ∀ (l : List (Str × Addr)) (k : Led), CellsAre cm l k → x ∉ l.map (·.1) → CellsAre (fun y => if y = x then some v else cm y) l k := by
        intro l k Z
        induction Z with
        | nil => exact fun _ => .nil
        | @cons n' d' o'' _ _ hd' _ ih' =>
          intro hn
          rw [List.map_cons, List.mem_cons, not_or] at hn
          exact .cons (by rw [if_neg (fun e => hn.1 e.symm)]; exact hd') (ih' hn.2)
      refine ⟨(d, o') :: cells, .cons (by rw [if_pos rfl]; exact ho) (rest _ _ r h1.1), fun p hp => ?_⟩
      rcases List.mem_cons.mp hp with rfl | hp
      · exact .inl rfl
      · refine .inr ⟨.tail _ hp, fun e => h2.1 ?_⟩
        rw [← cells_keys r, ← e]; exact List.mem_map_of_mem hp
    · rw [Bool.eq_false_iff.mpr e] at h
      obtain ⟨ce', a, b⟩ := ih h h1.2 h2.2
      have hne : ¬ n = x := fun q => e (by simp [q])
      refine ⟨(d, o) :: ce', .cons (by rw [if_neg hne]; exact hd) a, fun p hp => ?_⟩
      rcases List.mem_cons.mp hp with rfl | hp
      · refine .inr ⟨.head _, fun e => h2.1 ?_⟩
        have : (x, c) ∈ cs := by
          have : ∀ (l : List (Str × Addr)), l.lookup x = some c → (x, c) ∈ l := by
            intro l
            induction l with
            | nil => intro q; cases q
            | cons y l ihl =>
              intro q
              rw [List.lookup_cons] at q
              by_cases e' : (x == y.1) = true
              · rw [e'] at q; cases q
                have : x = y.1 := by simpa using e'
                rw [this]; exact .head _
              · rw [Bool.eq_false_iff.mpr e'] at q
                exact .tail _ (ihl q)
          exact this _ h
        rw [show d = c from e]
        exact List.mem_map_of_mem (f := (·.2)) this
      · exact (b p hp).imp id fun q => ⟨.tail _ q.1, q.2⟩
theorem globN_is {nm : List (Str × NameKind)} {x : Str} (h : globN nm x = true) : nm.lookup x = some .globalImplicit := by
  unfold globN at h
  split at h
  · assumption
  · cases h
theorem fnFm {C : Cx} {A : Around} {L : Addr} (H : FnC C A L) (hid : Led) : Fm C A (C.D.env L) L (FnR C L hid) := by
  obtain ⟨hnm, hfn, hkind, hap, mean, mg, mb, dp, un, gd, outer, A₀, base, rfl, B, K, T, hd, hu⟩ := H
  refine ⟨rfl, hd, hu, K, ⟨_, _, _, T⟩, ?_, ?_, ?_, ?_, ?_, ?_⟩
  · rintro h m S ⟨mm, cm, ce, F, Y, N, o, oc, kn⟩
    refine ⟨hid ++ ce, mm, F, N, o, fun h' S' F' N' o' => ⟨mm, cm, ce, F', Y, N', o', oc, kn⟩, fun _ x v hv hx => ?_⟩
    rcases kn x v hv with ⟨h1, _⟩ | ⟨_, h2, c, h3⟩
    · rw [hnm] at hx; rw [hx] at h1; cases h1
    · obtain ⟨o, ho, hd⟩ := cells_mem Y h3
      exact ⟨c, o, h3, List.mem_append_right _ ho, h2 ▸ hd⟩
  · rintro s m S x pos v Q ⟨mm, cm, ce, F, Y, N, o, oc, kn⟩ hv hx hdb hq
    rcases kn x v hv with ⟨h1, h2⟩ | ⟨h1, h2, c, h3⟩
    · exact nameX_L F h2 hq hkind h1 hdb
    · obtain ⟨o, ho, hd⟩ := cells_mem Y h3
      exact nameX_C N h3 (List.mem_append_left _ (List.mem_append_right _ ho)) (h2 ▸ hd) hq hkind h1 hdb
  · rintro s m S x pos v Q ⟨mm, cm, ce, F, Y, N, o, oc, kn⟩ hx hdb e hq
    obtain ⟨_, _, T⟩ := T
    exact nameX_K F K (topRead_of T) e hq hkind (by show C.D.cs.names.lookup x = _; rw [← hnm]; exact globN_is hx) hdb
  · rintro s m S x pos v Q ⟨mm, cm, ce, F, Y, N, o, oc, kn⟩ hx hdb e hb hn hq
    obtain ⟨_, _, T⟩ := T
    exact nameX_B F K (topRead_of T) e hb hn hq hkind (by show C.D.cs.names.lookup x = _; rw [← hnm]; exact globN_is hx) hdb
  · intro s mm f vs dn' un' S1 pre Post Q F N off Cn hdn hun k
    exact Cn _ _ _ _ _ _ _ _ _ _ _ _ _ _ _ _ _ _ _ _ rfl B F K (fun p hp => N p (List.mem_append_right _ hp)) T hkind (Nat.lt_of_le_of_lt (Nat.add_le_add_left hdn _) hd) (Nat.lt_of_le_of_lt (Nat.add_le_add_left hun _) hu) fun r S' h' tk' F' b P =>
      k r S' h' tk' F' (news_back N off b.N b.G) (off_back N off b.f) P
  · exact fun _ => ⟨hkind, rfl, rfl, fun x => ⟨by rw [hnm]; rfl, fun hx => Option.isSome_iff_exists.mp (cellsFrom_some _ _ _ (.inl (hnm ▸ hx)))⟩⟩
/-- the statements of a def's body: P is told how it ends, with what names and what ledger -/
def Go (C : Cx) (m : Loc) (S : Led) (st : List Stmt) (P : Flow → Loc → Led → Prop) : Prop :=
  ∀ (A : Around) (L : Addr) (hid : Led) (s : Shared), FnC C A L → FnR C L hid s.heap m S →
    wpAny (model PR C.w) A (execs st (C.D.env L)) (fun f s' => ∃ h' tk' m' S', s' = { s with heap := h', toks := tk' } ∧ FnR C L hid h' m' S' ∧ P f m' S') NoE s
/-- the rest of a body, then P -/
def Th (C : Cx) (rest : List Stmt) (P : Flow → Loc → Led → Prop) (f : Flow) (m : Loc) (S : Led) : Prop := match f with
  | .next => Go C m S rest P
  | f => P f m S
/-- the end of a def that gives back a value -/
def Fin (R : Value → Led → Prop) (f : Flow) (m : Loc) (S : Led) : Prop := match f with
  | .ret v => R v S
  | .next => R .none S
  | _ => False
section
variable {C : Cx} {m : Loc} {S S' : Led} {P : Flow → Loc → Led → Prop} {rest body : List Stmt}
/-- one statement, then the rest -/
def St1 (C : Cx) (m : Loc) (S : Led) (st : Stmt) (P : Flow → Loc → Led → Prop) : Prop :=
  ∀ (A : Around) (L : Addr) (hid : Led) (s : Shared), FnC C A L → FnR C L hid s.heap m S →
    wpAny (model PR C.w) A (exec st (C.D.env L)) (fun f s' => ∃ h' tk' m' S', s' = { s with heap := h', toks := tk' } ∧ FnR C L hid h' m' S' ∧ P f m' S') NoE s
theorem Go.cons {st : Stmt} (h : St1 C m S st (Th C rest P)) : Go C m S (st :: rest) P := fun A L hid s H R => by
  refine wpAny_execs_cons (wpAny_mono (h A L hid s H R) ?_ fun _ _ e => e)
  rintro f _ ⟨h', tk', m', S', rfl, R', p⟩
  cases f with
  | next => exact wpAny_mono (p A L hid _ H R') (fun f s'' ⟨h2, tk2, m2, S2, e, r, q⟩ => ⟨h2, tk2, m2, S2, e, r, q⟩) fun _ _ e => e
  | ret v => exact ⟨h', tk', m', S', rfl, R', p⟩
  | brk => exact ⟨h', tk', m', S', rfl, R', p⟩
  | cont => exact ⟨h', tk', m', S', rfl, R', p⟩
theorem Go.nil (h : P .next m S) : Go C m S [] P := fun A L hid s H R => wpAny_execs_nil ⟨_, _, m, S, rfl, R, h⟩
theorem FnR.weak {L : Addr} {hid : Led} {h : Heap} {m' : Loc} (R : FnR C L hid h m S) (hm : ∀ x v, m'.lookup x = some v → m.lookup x = some v) (hs : ∀ p ∈ S', p ∈ S) : FnR C L hid h m' S' := by
  obtain ⟨mm, cm, ce, F, Y, N, o, oc, kn⟩ := R
  exact ⟨mm, cm, ce, F, Y, fun p hp => N p ((List.mem_append.mp hp).elim (List.mem_append_left _) fun q => List.mem_append_right _ (hs p q)), fun p hp q hq => o p hp q (hs q hq), oc, fun x v hx => kn x v (hm x v hx)⟩
/-- the names and the ledger may be forgotten in part -/
theorem Go.weak {m' : Loc} (hm : ∀ x v, m'.lookup x = some v → m.lookup x = some v) (hs : ∀ p ∈ S', p ∈ S) (h : Go C m' S' body P) : Go C m S body P := fun A L hid s H R => h A L hid s H (R.weak hm hs)
theorem Go.fun (h : FunL S → Go C m S body P) : Go C m S body P := fun A L hid s H R => by
  obtain ⟨mm, cm, ce, F, Y, N, o, oc, kn⟩ := R
  exact h (news_fun fun p hp => N p (List.mem_append_right _ hp)) A L hid s H ⟨mm, cm, ce, F, Y, N, o, oc, kn⟩
/-- a statement's part, an expression run in the frame -/
theorem Tr.at {α : Type} {X : Env → Sem α} {Pv : α → Led → Prop} {A : Around} {L : Addr} {hid : Led} {s : Shared} {Q : α → Shared → Prop} (h : Tr C m S X Pv) (H : FnC C A L) (R : FnR C L hid s.heap m S)
    (k : ∀ v h' tk' S', FnR C L hid h' m S' → Pv v S' → Q v { s with heap := h', toks := tk' }) : wpAny (model PR C.w) A (X (C.D.env L)) Q NoE s := h.then (fnFm H hid) R k
end
theorem bindL_out {kindOf : Str → Option NameKind} {x : Str} : ∀ {binds : Loc} {m0 : Str → Option Value}, x ∉ binds.map (·.1) → bindL kindOf binds m0 x = m0 x
  | [], _, _ => rfl
  | (n, v) :: r, m0, h => by
    rw [List.map_cons, List.mem_cons, not_or] at h
    rw [bindL, bindL_out h.2]
    split
    · exact if_neg h.1
    · rfl
theorem bindL_get {kindOf : Str → Option NameKind} {x : Str} {v : Value} : ∀ {binds : Loc} {m0 : Str → Option Value}, (binds.map (·.1)).Nodup → binds.lookup x = some v → kindOf x = some .local → bindL kindOf binds m0 x = some v
  | [], _, _, h, _ => by cases h
  | (n, u) :: r, m0, hn, h, hk => by
    rw [List.map_cons, List.nodup_cons] at hn
    rw [List.lookup_cons] at h
    rw [bindL]
    by_cases e : (x == n) = true
    · rw [e] at h
      obtain rfl : u = v := Option.some.inj h
      obtain rfl : x = n := by simpa using e
      rw [bindL_out hn.1, if_pos hk, if_pos rfl]
    · rw [Bool.eq_false_iff.mpr e] at h
      exact bindL_get hn.2 h hk
theorem bindC_out {kindOf : Str → Option NameKind} {x : Str} : ∀ {binds : Loc} {m0 : Str → Option Value}, x ∉ binds.map (·.1) → bindC kindOf binds m0 x = m0 x
  | [], _, _ => rfl
  | (n, v) :: r, m0, h => by
    rw [List.map_cons, List.mem_cons, not_or] at h
    rw [bindC, bindC_out h.2]
    split
    · rfl
    · exact if_neg h.1
theorem bindC_get {kindOf : Str → Option NameKind} {x : Str} {v : Value} : ∀ {binds : Loc} {m0 : Str → Option Value}, (binds.map (·.1)).Nodup → binds.lookup x = some v → kindOf x = some .cell → bindC kindOf binds m0 x = some v
  | [], _, _, h, _ => by cases h
  | (n, u) :: r, m0, hn, h, hk => by
    rw [List.map_cons, List.nodup_cons] at hn
    rw [List.lookup_cons] at h
    rw [bindC]
    by_cases e : (x == n) = true
    · rw [e] at h
      obtain rfl : u = v := Option.some.inj h
      obtain rfl : x = n := by simpa using e
      rw [bindC_out hn.1, if_neg (by rw [hk]; simp), if_pos rfl]
    · rw [Bool.eq_false_iff.mpr e] at h
      exact bindC_get hn.2 h hk
theorem cells_keys2 : ∀ (names : List (Str × NameKind)) (n : Nat) (acc acc' : List (Str × Addr)), acc.map (·.1) = acc'.map (·.1) → ∀ n', (cellsFrom n names acc).map (·.1) = (cellsFrom n' names acc').map (·.1)
  | [], _, _, _, h, _ => h
  | (y, k) :: r, n, acc, acc', h, n' => by
    rw [cellsFrom, cellsFrom]
    split
    · exact cells_keys2 r _ _ _ (by rw [List.map_cons, List.map_cons, h]) _
    · exact cells_keys2 r _ _ _ h _
theorem cells_nodup2 : ∀ (names : List (Str × NameKind)) (n : Nat) (acc : List (Str × Addr)), (acc.map (·.2)).Nodup → (∀ c ∈ acc.map (·.2), c < n) → ((cellsFrom n names acc).map (·.2)).Nodup
  | [], _, _, h, _ => h
  | (y, k) :: r, n, acc, h, hl => by
    rw [cellsFrom]
    split
    · refine cells_nodup2 r _ _ ?_ fun c hc => ?_
      · rw [List.map_cons, List.nodup_cons]; exact ⟨fun hm => Nat.lt_irrefl _ (hl _ hm), h⟩
      · rw [List.map_cons, List.mem_cons] at hc
        rcases hc with rfl | hc
        · exact Nat.lt_succ_self _
        · exact Nat.lt_succ_of_lt (hl c hc)
    · exact cells_nodup2 r _ _ h hl
theorem know_entry {D : Dn} {L : Addr} {binds : Loc} (hkind : (binds.all fun y => D.cs.names.lookup y.1 == some .local || D.cs.names.lookup y.1 == some .cell) = true) (hm : (binds.map (·.1)).Nodup) :
    Know D.cs.names (D.cl L) binds (bindL (envOfC D.cn D.cs L D.a D.ccd).kindOf binds fun _ => none) (bindC (envOfC D.cn D.cs L D.a D.ccd).kindOf binds fun _ => none) := fun x v hv => by
  have hx : D.cs.names.lookup x = some .local ∨ D.cs.names.lookup x = some .cell := by
    have : ∀ (l : Loc), (l.all fun y => D.cs.names.lookup y.1 == some .local || D.cs.names.lookup y.1 == some .cell) = true → l.lookup x = some v → D.cs.names.lookup x = some .local ∨ D.cs.names.lookup x = some .cell := by
      intro l
      induction l with
      | nil => intro _ h; cases h
      | cons y l ih =>
        intro h1 h2
        rw [List.all_cons, Bool.and_eq_true] at h1
        rw [List.lookup_cons] at h2
        by_cases e : (x == y.1) = true
        · obtain rfl : x = y.1 := by simpa using e
          simpa using h1.1
        · rw [Bool.eq_false_iff.mpr e] at h2
          exact ih h1.2 h2
    exact this _ hkind hv
  rcases hx with hx | hx
  · exact .inl ⟨hx, bindL_get hm hv hx⟩
  · exact .inr ⟨hx, bindC_get hm hv hx, Option.isSome_iff_exists.mp (cellsFrom_some _ _ _ (.inl hx))⟩
def nodS : List Str → Bool
  | [] => true
  | x :: r => !(r.contains x) && nodS r
theorem nod_of : ∀ {l : List Str}, nodS l = true → l.Nodup
  | [], _ => .nil
  | x :: r, h => by
    rw [nodS, Bool.and_eq_true, Bool.not_eq_true'] at h
    exact List.nodup_cons.mpr ⟨fun hm => (by have := List.contains_iff_mem.mpr hm; rw [h.1] at this; cases this), nod_of h.2⟩
/-- a def's contract by its body -/
theorem tell_def {w : World} {f : Addr} {vs : List Value} {dn un : Nat} {S : Led} {h : Heap} {Post : Value → Led → Heap → Prop} {name qual : Str} {params : Arguments} {body : List Stmt} {scope : Scope} {dV kV doc pm cdv ct oc : Value} {an od : Option Addr} {osl : Array (Option Value)} (binds : Loc)
    (ho : (KK w).lookup f = some ⟨oc, od, .func (fnOf name qual params body scope dV kV doc pm an cdv ct), osl⟩) (hcd : codeIn (KK w) cdv qual = true)
    (hbind : ∀ g, (KK w).In g → ∀ s : Shared, Keeps g s.heap → BindsTo s (fnOf name qual params body scope dV kV doc pm an cdv ct) ⟨vs, []⟩ binds) (hkind : (binds.all fun y => scope.names.lookup y.1 == some .local || scope.names.lookup y.1 == some .cell) = true) (hm : nodS (binds.map (·.1)) = true)
    (hnd : nodS ((cellsFrom 0 scope.names []).map (·.1)) = true) (hco : scope.isCoroutine = false) (hgen : scope.isGenerator = false) (hk : scope.kind = .function)
    (H : ∀ g, GSub h g (S.map (·.1)) → Go (cx w ⟨qual, scope, f, cdv⟩ dn un g) binds S body (Fin fun r S' => ∀ h', Keeps g h' → (∀ p ∈ S', h'.get? p.1 = some p.2) → Post r S' h')) :
    Tell w f vs (dn + 1) (un + 3) S h Post := by
  intro mean mg mb dp un' gd cn cs₀ a₀ ccd cl outer A₀ base h₀ L m s Q E hh B F X N T hk0 hd hu hret
  replace hm := nod_of hm
  replace hnd := nod_of hnd
  obtain ⟨_, _, T⟩ := T
  refine wpAny_call (code_defGC (R := fun r s' => match r with | .ok (.ret v) => Q v s' | .ok _ => False | .error e => E e s') B F X N T rfl rfl hk0 ho hcd (Nat.lt_of_le_of_lt (Nat.le_add_right _ _) hd) (hbind _ X _ F.keep) hkind hnd ?_ hco hgen hk)
  intro g L' h₁ tk cells FG F' N' Y B' X' T' lt G
  refine wpAny_mono (H g (hh ▸ G) _ L' [] { s with heap := h₁, toks := tk } ⟨rfl, rfl, hk, ⟨(cells_keys2 _ _ [] [] rfl 0) ▸ hnd, cells_nodup2 _ _ _ .nil (fun _ h => nomatch h)⟩, mean, mg, mb, dp + 1, un' + 3, gd, _, _, base, rfl, B', X', ⟨_, _, T'⟩, by
    show dp + 1 + dn < _; rw [Nat.add_assoc, Nat.add_comm 1 dn]; exact hd, by show un' + 3 + un < _; rw [Nat.add_assoc, Nat.add_comm 3 un]; exact hu⟩ ⟨_, _, cells, F', Y, N', fun p hp q hq e => ?_, off_nil, know_entry (D := ⟨qual, scope, f, cdv⟩) hkind hm⟩) ?_ fun _ _ e => e.elim
  · have hp' : p ∈ cells := hp
    have : L' + 1 ≤ p.1 := by
      have : ∀ (names : List (Str × NameKind)) (n : Nat) (acc : List (Str × Addr)), L' + 1 ≤ n → (∀ c ∈ acc.map (·.2), L' + 1 ≤ c) → ∀ c ∈ (cellsFrom n names acc).map (·.2), L' + 1 ≤ c := by
        intro names
        induction names with
        | nil => exact fun _ _ _ h => h
        | cons y r ih =>
          intro n acc hn hacc
          rw [cellsFrom]
          split
          · refine ih _ _ (Nat.le_succ_of_le hn) fun c hc => ?_
            rw [List.map_cons, List.mem_cons] at hc
            rcases hc with rfl | hc
            · exact hn
            · exact hacc c hc
          · exact ih _ _ hn hacc
      exact this _ _ _ (Nat.le_refl _) (fun _ h => by cases h) _ (cells_keys Y ▸ List.mem_map_of_mem hp')
    have l2 := lt q hq
    rw [← e] at l2
    exact Nat.lt_irrefl _ (Nat.lt_of_lt_of_le (Nat.lt_succ_of_lt l2) this)
  · rintro fl _ ⟨h', tk', m', S', rfl, ⟨mm, cm, ce, F2, Y2, N2, o2, oc2, kn2⟩, p⟩
    have N3 : News g L' h' S' := fun q hq => N2 q (List.mem_append_right _ hq)
    have key : ∀ v, (∀ h', Keeps g h' → (∀ p ∈ S', h'.get? p.1 = some p.2) → Post v S' h') → LeaveK h₀ L m g (fun r s' => match r with | .ok (.ret v) => Q v s' | .ok _ => False | .error e => E e s') v { s with heap := h', toks := tk' } := fun v hv =>
      leaveK_ F2 N3 fun kF kN => hret v S' h' tk' kF ⟨kN, gsub_of G F2, fresh_of G N3⟩ (hv h' F2.keep fun q hq => (N3 q hq).1)
    cases fl with
    | ret v => exact key v p
    | next => exact key .none p
    | brk => exact p.elim
    | cont => exact p.elim
def IsI (z : Int) (v : Value) : Prop := ∃ t, v = .int z t
def IsS (x : Str) (v : Value) : Prop := ∃ t, v = .str x t
def Is (u v : Value) : Prop := v = u
def dbg (x : Str) : Bool := x == Str.ofString "__debug__"
def vOk (C : Cx) (x : Str) : Bool := varN C.nm x && !(dbg x)
def gOk (C : Cx) (x : Str) : Bool := globN C.nm x && !(dbg x)
theorem and_not {a b : Bool} (h : (a && !b) = true) : a = true ∧ b = false := by cases a <;> cases b <;> first | exact ⟨rfl, rfl⟩ | cases h
/-- a primitive step -/
def Op {α : Type} (C : Cx) (m : Loc) (S : Led) (X : Sem α) (P : α → Led → Prop) : Prop := Tr C m S (fun _ => X) P
/-- an expression tested; X : the tree of its value, which the test may not need -/
def Te (C : Cx) (m : Loc) (S : Led) (e : Expr) (P : Bool → Led → Prop) : Prop := ∀ X : Env → Sem Value, (∀ env, X env = eval e env) → Tr C m S (fun env => PySem.isTrue e env (X env)) P
def Tp (C : Cx) (m : Loc) (S : Led) (e : Expr) (b : Bool) : Prop := Te C m S e fun c S' => S' = S ∧ c = b
def Evs (C : Cx) (m : Loc) (S : Led) (pos : Pos) (es : List Expr) (P : List Value → Led → Prop) : Prop := Tr C m S (fun env => spliced (backTo pos (starEach es env))) P
def noStar : List Expr → Bool
  | [] => true
  | .Starred .. :: _ => false
  | _ :: r => noStar r
section
variable {α β : Type} {C : Cx} {m : Loc} {S S' : Led} {e a b test : Expr} {es rest : List Expr} {pos apos xp : Pos} {P : Value → Led → Prop} {p q o : Value → Prop} {x : Str} {v u : Value} {z y : Int} {k : Nat}
theorem Ev.mono {P' : Value → Led → Prop} (h : Ev C m S e P) (hp : ∀ v S', P v S' → P' v S') : Ev C m S e P' := Tr.mono h hp
theorem Pu.mono (h : Pu C m S e p) (hp : ∀ v, p v → q v) : Pu C m S e q := Tr.mono h fun v S' ⟨e, r⟩ => ⟨e, hp v r⟩
/-- from a step that changes nothing to a step in general -/
theorem Pu.ev (h : Pu C m S e p) (hp : ∀ v, p v → P v S) : Ev C m S e P := Tr.mono h fun v S' ⟨e, r⟩ => e ▸ hp v r
theorem Pu.is (h : Pu C m S e (Is v)) (hp : P v S) : Ev C m S e P := h.ev fun _ e => e ▸ hp
theorem Pu.i (h : Pu C m S e (IsI z)) (hp : ∀ t, P (.int z t) S) : Ev C m S e P := h.ev fun _ ⟨t, e⟩ => e ▸ hp t
theorem Pu.s (h : Pu C m S e (IsS x)) (hp : ∀ t, P (.str x t) S) : Ev C m S e P := h.ev fun _ ⟨t, e⟩ => e ▸ hp t
theorem Tr.run {X : Env → Sem α} {P : α → Led → Prop} {A : Around} {env : Env} {L : Addr} {Rel : Heap → Loc → Led → Prop} {s : Shared} {h1 : Heap} {t1 : Nat} (h : Tr C m S X P) (F : Fm C A env L Rel) (R : Rel h1 m S) :
    wpAny (model PR C.w) A (X env) (fun v s' => ∃ h' tk' S', s' = { s with heap := h', toks := tk' } ∧ Rel h' m S' ∧ P v S') NoE { s with heap := h1, toks := t1 } := h A env L Rel { s with heap := h1, toks := t1 } F R
theorem Op.run {X : Sem α} {P : α → Led → Prop} {A : Around} {env : Env} {L : Addr} {Rel : Heap → Loc → Led → Prop} {s : Shared} {h1 : Heap} {t1 : Nat} (h : Op C m S X P) (F : Fm C A env L Rel) (R : Rel h1 m S) :
    wpAny (model PR C.w) A X (fun v s' => ∃ h' tk' S', s' = { s with heap := h', toks := tk' } ∧ Rel h' m S' ∧ P v S') NoE { s with heap := h1, toks := t1 } := Tr.run h F R
theorem Op.then {X : Sem α} {P : α → Led → Prop} {A : Around} {env : Env} {L : Addr} {Rel : Heap → Loc → Led → Prop} {s : Shared} {Q : α → Shared → Prop} (h : Op C m S X P) (F : Fm C A env L Rel) (R : Rel s.heap m S)
    (k : ∀ v h' tk' S', Rel h' m S' → P v S' → Q v { s with heap := h', toks := tk' }) : wpAny (model PR C.w) A X Q NoE s := Tr.then h F R k
theorem Pu.var (hv : m.lookup x = some v) (hp : p v) (hx : vOk C x = true := by rfl) : Pu C m S (.Name x pos) p := fun A env L Rel s F R =>
  F.var R hv (and_not hx).1 (and_not hx).2 ⟨_, _, S, rfl, R, rfl, hp⟩
theorem Pu.glob (h : nsIn (KK C.w) mainGlobals x = some (some v)) (hx : gOk C x = true := by rfl) : Pu C m S (.Name x pos) (Is v) := fun A env L Rel s F R =>
  F.glob R (and_not hx).1 (and_not hx).2 h ⟨_, _, S, rfl, R, rfl, rfl⟩
theorem Pu.blt (h : nsIn (KK C.w) mainGlobals x = some none) (hb : bootBuiltins x = some v) (hn : x ≠ Str.ofString "__name__") (hx : gOk C x = true := by rfl) : Pu C m S (.Name x pos) (Is v) := fun A env L Rel s F R =>
  F.blt R (and_not hx).1 (and_not hx).2 h hb hn ⟨_, _, S, rfl, R, rfl, rfl⟩
theorem Pu.int : Pu C m S (.Constant (.int z) k pos) (IsI z) := fun A env L Rel s F R => wpAny_Constant_int ⟨_, _, S, rfl, R, rfl, _, rfl⟩
theorem Pu.str : Pu C m S (.Constant (.str x) k pos) (IsS x) := fun A env L Rel s F R => Constant_str ⟨_, _, S, rfl, R, rfl, _, rfl⟩
theorem Pu.bool {c : Bool} : Pu C m S (.Constant (.bool c) k pos) (Is (.bool c)) := fun A env L Rel s F R => Constant_bool ⟨_, _, S, rfl, R, rfl, rfl⟩
theorem Pu.none : Pu C m S (.Constant .none k pos) (Is .none) := fun A env L Rel s F R => wpAny_Constant_none ⟨_, _, S, rfl, R, rfl, rfl⟩
theorem Ev.bin {op : Operator} (h : Ev C m S a fun v S1 => Ev C m S1 b fun u S2 => Op C m S2 (binaryOp op v u) P) : Ev C m S (.BinOp a op b pos) P := fun A env L Rel s F R =>
  wpAny_BinOp (Tr.then h F R fun v h1 t1 S1 R1 h2 => Tr.then h2 F R1 fun u h2 t2 S2 R2 h3 => Op.run h3 F R2)
theorem Pu.bin {op : Operator} (ha : Pu C m S a p) (hb : Pu C m S b q) (h : ∀ v u, p v → q u → Op C m S (binaryOp op v u) fun r S' => S' = S ∧ o r) : Pu C m S (.BinOp a op b pos) o :=
  Ev.bin (ha.ev fun v hv => hb.ev fun u hu => h v u hv hu)
theorem Pu.add (ha : Pu C m S a (IsI z)) (hb : Pu C m S b (IsI y)) : Pu C m S (.BinOp a .Add b pos) (IsI (z + y)) := Pu.bin ha hb fun _ _ ⟨t, e⟩ ⟨u, e'⟩ => by
  subst e e'; exact fun A env L Rel s F R => add_int ⟨_, _, S, rfl, R, rfl, _, rfl⟩
theorem Pu.sub (ha : Pu C m S a (IsI z)) (hb : Pu C m S b (IsI y)) : Pu C m S (.BinOp a .Sub b pos) (IsI (z - y)) := Pu.bin ha hb fun _ _ ⟨t, e⟩ ⟨u, e'⟩ => by
  subst e e'; exact fun A env L Rel s F R => sub_int ⟨_, _, S, rfl, R, rfl, _, rfl⟩
theorem Pu.mul (ha : Pu C m S a (IsI z)) (hb : Pu C m S b (IsI y)) (hok : IntMulOk z y) : Pu C m S (.BinOp a .Mult b pos) (IsI (z * y)) := Pu.bin ha hb fun _ _ ⟨t, e⟩ ⟨u, e'⟩ => by
  subst e e'; exact fun A env L Rel s F R => mul_int ⟨_, _, S, rfl, R, rfl, _, rfl⟩ hok
theorem Pu.mod (ha : Pu C m S a (IsI z)) (hb : Pu C m S b (IsI y)) (h0 : y ≠ 0) : Pu C m S (.BinOp a .Mod b pos) (IsI (Int.fmod z y)) := Pu.bin ha hb fun _ _ ⟨t, e⟩ ⟨u, e'⟩ => by
  subst e e'; exact fun A env L Rel s F R => mod_int' h0 ⟨_, _, S, rfl, R, rfl, _, rfl⟩
theorem Pu.fdiv (ha : Pu C m S a (IsI z)) (hb : Pu C m S b (IsI y)) (h0 : y ≠ 0) (hl : Builtin.divisionGoesByPylong z y = false) : Pu C m S (.BinOp a .FloorDiv b pos) (IsI (Int.fdiv z y)) := Pu.bin ha hb fun _ _ ⟨t, e⟩ ⟨u, e'⟩ => by
  subst e e'; exact fun A env L Rel s F R => floordiv_int h0 ⟨_, _, S, rfl, R, rfl, _, rfl⟩ (.inl hl)
theorem Pu.shr (ha : Pu C m S a (IsI z)) (hb : Pu C m S b (IsI y)) (h0 : 0 ≤ y) : Pu C m S (.BinOp a .RShift b pos) (IsI (Int.fdiv z (2 ^ y.toNat))) := Pu.bin ha hb fun _ _ ⟨t, e⟩ ⟨u, e'⟩ => by
  subst e e'; exact fun A env L Rel s F R => rshift_int h0 ⟨_, _, S, rfl, R, rfl, _, rfl⟩
theorem Pu.and (ha : Pu C m S a (IsI z)) (hb : Pu C m S b (IsI y)) : Pu C m S (.BinOp a .BitAnd b pos) (IsI (Builtin.bitAnd z y)) := Pu.bin ha hb fun _ _ ⟨t, e⟩ ⟨u, e'⟩ => by
  subst e e'; exact fun A env L Rel s F R => and_int ⟨_, _, S, rfl, R, rfl, _, rfl⟩
theorem Pu.pow (ha : Pu C m S a (IsI z)) (hb : Pu C m S b (IsI y)) (h0 : 0 ≤ y) (h1 : y ≤ 1000000) (h2 : z.natAbs < 2 ^ 64) : Pu C m S (.BinOp a .Pow b pos) (IsI (z ^ y.toNat)) := Pu.bin ha hb fun _ _ ⟨t, e⟩ ⟨u, e'⟩ => by
  subst e e'; exact fun A env L Rel s F R => pow_int_small h0 h1 h2 ⟨_, _, S, rfl, R, rfl, _, rfl⟩
theorem Pu.neg (ha : Pu C m S a (IsI z)) : Pu C m S (.UnaryOp .USub a pos) (IsI (-z)) := fun A env L Rel s F R =>
  UnaryOp_ (Tr.then ha F R fun v h1 t1 S1 R1 ⟨e, t, ev⟩ => by subst e ev; exact neg_int ⟨_, _, _, rfl, R1, rfl, _, rfl⟩)
theorem Ev.cmp {op : CmpOp} (h : Ev C m S a fun v S1 => Ev C m S1 b fun u S2 => Op C m S2 (compareOp op v u) P) (hm : behindInMarks op b = false := by rfl) : Ev C m S (.Compare a [op] [b] pos) P := fun A env L Rel s F R =>
  wpAny_Compare1 (Tr.then h F R fun v h1 t1 S1 R1 h2 => Tr.then h2 F R1 fun u h2 t2 S2 R2 h3 => Op.run h3 F R2) hm
theorem Te.cmp {op : CmpOp} {P : Bool → Led → Prop} (h : Ev C m S a fun v S1 => Ev C m S1 b fun u S2 => Op C m S2 (compareOp op v u) fun c S3 => ∃ d, c = .bool d ∧ P d S3) (hm : behindInMarks op b = false := by rfl) : Te C m S (.Compare a [op] [b] pos) P := fun X _ A env L Rel s F R =>
  wpAny_isTrue_Compare1 (Tr.then h F R fun v h1 t1 S1 R1 h2 => Tr.then h2 F R1 fun u h2 t2 S2 R2 h3 => Op.then h3 F R2 fun c h3 t3 S3 R3 ⟨d, ed, pd⟩ => by subst ed; exact wpAny_truthy_bool ⟨_, _, _, rfl, R3, pd⟩) hm
/-- what a comparison gives -/
def Cm (C : Cx) (m : Loc) (S : Led) (op : CmpOp) (v u : Value) (c : Bool) : Prop := Op C m S (compareOp op v u) fun r S' => S' = S ∧ r = .bool c
theorem Tp.cmp {op : CmpOp} {c : Bool} (ha : Pu C m S a p) (hb : Pu C m S b q) (h : ∀ v u, p v → q u → Cm C m S op v u c) (hm : behindInMarks op b = false := by rfl) : Tp C m S (.Compare a [op] [b] pos) c :=
  Te.cmp (ha.ev fun v hv => hb.ev fun u hu => Tr.mono (h v u hv hu) fun _ _ ⟨e, r⟩ => ⟨c, r, e, rfl⟩) hm
theorem Cm.eqI (v u : Value) : IsI z v → IsI y u → Cm C m S .Eq v u (z == y) := fun ⟨t, e⟩ ⟨t', e'⟩ => by subst e e'; exact fun A env L Rel s F R => eq_int ⟨_, _, S, rfl, R, rfl, rfl⟩
theorem Cm.neI (v u : Value) : IsI z v → IsI y u → Cm C m S .NotEq v u (z != y) := fun ⟨t, e⟩ ⟨t', e'⟩ => by subst e e'; exact fun A env L Rel s F R => ne_int ⟨_, _, S, rfl, R, rfl, rfl⟩
theorem Cm.ltI (v u : Value) : IsI z v → IsI y u → Cm C m S .Lt v u (decide (z < y)) := fun ⟨t, e⟩ ⟨t', e'⟩ => by subst e e'; exact fun A env L Rel s F R => lt_int ⟨_, _, S, rfl, R, rfl, rfl⟩
theorem Cm.leI (v u : Value) : IsI z v → IsI y u → Cm C m S .LtE v u (decide (z ≤ y)) := fun ⟨t, e⟩ ⟨t', e'⟩ => by subst e e'; exact fun A env L Rel s F R => le_int ⟨_, _, S, rfl, R, rfl, rfl⟩
theorem Cm.gtI (v u : Value) : IsI z v → IsI y u → Cm C m S .Gt v u (decide (y < z)) := fun ⟨t, e⟩ ⟨t', e'⟩ => by subst e e'; exact fun A env L Rel s F R => gt_int ⟨_, _, S, rfl, R, rfl, rfl⟩
theorem Cm.geI (v u : Value) : IsI z v → IsI y u → Cm C m S .GtE v u (decide (y ≤ z)) := fun ⟨t, e⟩ ⟨t', e'⟩ => by subst e e'; exact fun A env L Rel s F R => ge_int ⟨_, _, S, rfl, R, rfl, rfl⟩
theorem Cm.eqS {x y : Str} (v u : Value) : IsS x v → IsS y u → Cm C m S .Eq v u (x == y) := fun ⟨t, e⟩ ⟨t', e'⟩ => by subst e e'; exact fun A env L Rel s F R => eq_str ⟨_, _, S, rfl, R, rfl, rfl⟩
theorem Cm.eqB {c d : Bool} (v u : Value) : Is (.bool c) v → Is (.bool d) u → Cm C m S .Eq v u (c == d) := fun e e' => by cases e; cases e'; exact fun A env L Rel s F R => eq_bool ⟨_, _, S, rfl, R, rfl, rfl⟩
theorem Tp.as {c d : Bool} (h : Tp C m S e c) (hc : c = d) : Tp C m S e d := hc ▸ h
theorem Te.mono {P P' : Bool → Led → Prop} (h : Te C m S e P) (hp : ∀ c S', P c S' → P' c S') : Te C m S e P' := fun X hX => Tr.mono (h X hX) hp
theorem Tp.te {c : Bool} {P : Bool → Led → Prop} (h : Tp C m S e c) (hp : P c S) : Te C m S e P := h.mono fun _ _ ⟨e, r⟩ => by subst e r; exact hp
theorem Te.plain {P : Bool → Led → Prop} (h : Ev C m S e fun v S1 => ∃ c, v = .bool c ∧ P c S1)
    (hs : ∀ env whole, PySem.isTrue e env whole = (do let v ← whole; standAt e.pos; holding [v] (truthy v)) := by intro _ _; rfl) : Te C m S e P := fun X hX A env L Rel s F R => by
  refine isTrue_plain ?_ (hs env (X env))
  rw [hX]
  exact Tr.then h F R fun v h1 t1 S1 R1 ⟨c, ec, pc⟩ => by subst ec; exact wpAny_truthy_bool ⟨_, _, _, rfl, R1, pc⟩
theorem Tp.plain {c : Bool} (h : Pu C m S e (Is (.bool c))) (hs : ∀ env whole, PySem.isTrue e env whole = (do let v ← whole; standAt e.pos; holding [v] (truthy v)) := by intro _ _; rfl) : Tp C m S e c :=
  Te.plain (Ev.mono h fun _ _ ⟨a, b⟩ => ⟨c, b, a, rfl⟩) hs
/-- the tail of an or, of an and: the whole's tree is not looked at -/
def Tt (C : Cx) (m : Loc) (S : Led) (e : Expr) (P : Bool → Led → Prop) : Prop := ∀ X : Env → Sem Value, Tr C m S (fun env => PySem.isTrue e env (X env)) P
theorem Tt.te {P : Bool → Led → Prop} (h : Tt C m S e P) : Te C m S e P := fun X _ => h X
theorem Tt.or_nil {P : Bool → Led → Prop} (h : P false S) : Tt C m S (.BoolOp .Or [] pos) P := fun X A env L Rel s F R => isTrue_or_nil ⟨_, _, S, rfl, R, h⟩
theorem Tt.or {P : Bool → Led → Prop} (h : Te C m S e fun c S1 => if c = true then P true S1 else Tt C m S1 (.BoolOp .Or es pos) P) : Tt C m S (.BoolOp .Or (e :: es) pos) P := fun X A env L Rel s F R =>
  isTrue_or (Tr.then (h (fun env => eval e env) fun _ => rfl) F R fun c h1 t1 S1 R1 hc => by
    cases c with
    | true => exact ⟨_, _, _, rfl, R1, hc⟩
    | false => exact Tr.run (hc X) F R1)
theorem Tt.and_nil {P : Bool → Led → Prop} (h : P true S) : Tt C m S (.BoolOp .And [] pos) P := fun X A env L Rel s F R => isTrue_and_nil ⟨_, _, S, rfl, R, h⟩
theorem Tt.and {P : Bool → Led → Prop} (h : Te C m S e fun c S1 => if c = true then Tt C m S1 (.BoolOp .And es pos) P else P false S1) : Tt C m S (.BoolOp .And (e :: es) pos) P := fun X A env L Rel s F R =>
  isTrue_and (Tr.then (h (fun env => eval e env) fun _ => rfl) F R fun c h1 t1 S1 R1 hc => by
    cases c with
    | true => exact Tr.run (hc X) F R1
    | false => exact ⟨_, _, _, rfl, R1, hc⟩)
/-- or, and : each part changes nothing; the second is asked only where the first does not decide -/
theorem Tt.orP {c : Bool} {P : Bool → Led → Prop} (h : Tp C m S e c) (ht : c = true → P true S) (hf : c = false → Tt C m S (.BoolOp .Or es pos) P) : Tt C m S (.BoolOp .Or (e :: es) pos) P :=
  Tt.or (h.mono fun d S1 ⟨a, b⟩ => by subst a b; cases d with | true => exact ht rfl | false => exact hf rfl)
theorem Tt.andP {c : Bool} {P : Bool → Led → Prop} (h : Tp C m S e c) (ht : c = true → Tt C m S (.BoolOp .And es pos) P) (hf : c = false → P false S) : Tt C m S (.BoolOp .And (e :: es) pos) P :=
  Tt.and (h.mono fun d S1 ⟨a, b⟩ => by subst a b; cases d with | true => exact ht rfl | false => exact hf rfl)
theorem Ev.ifx {body orelse : Expr} (h : Te C m S test fun c S1 => if c = true then Ev C m S1 body P else Ev C m S1 orelse P) : Ev C m S (.IfExp test body orelse pos) P := fun A env L Rel s F R =>
  IfExp_ (Tr.then (h (fun env => eval test env) fun _ => rfl) F R fun c h1 t1 S1 R1 hc => by
    cases c with
    | true => exact Tr.run hc F R1
    | false => exact Tr.run hc F R1)
theorem Ev.ifP {body orelse : Expr} {c : Bool} (h : Tp C m S test c) (ht : c = true → Ev C m S body P) (hf : c = false → Ev C m S orelse P) : Ev C m S (.IfExp test body orelse pos) P :=
  Ev.ifx (h.mono fun d S1 ⟨a, b⟩ => by subst a b; cases d with | true => exact ht rfl | false => exact hf rfl)
theorem noStar_each {env : Env} (h : noStar (e :: es) = true) : starEach (e :: es) env = (false, eval e env) :: starEach es env ∧ noStar es = true := by
  cases e <;> first | exact ⟨rfl, h⟩ | cases h
theorem noStar_any {env : Env} : ∀ {es : List Expr}, noStar es = true → (List.any (backTo pos (starEach es env)) fun x => x.1) = false
  | [], _ => rfl
  | e :: es, h => by
    obtain ⟨h1, h2⟩ := noStar_each (env := env) h
    rw [h1]
    show (false || _) = false
    rw [Bool.false_or]; exact noStar_any h2
theorem Evs.nil {P : List Value → Led → Prop} (h : P [] S) : Evs C m S pos [] P := fun A env L Rel s F R => args_nil ⟨_, _, S, rfl, R, h⟩
theorem Evs.cons {P : List Value → Led → Prop} (hn : noStar (e :: es) = true) (h : Ev C m S e fun v S1 => Evs C m S1 pos es fun vs S2 => P (v :: vs) S2) : Evs C m S pos (e :: es) P := fun A env L Rel s F R =>
  args_cons (Tr.then h F R fun v h1 t1 S1 R1 h2 => Tr.run h2 F R1) (noStar_each hn).1
end
/-- S' is S with o' at D -/
def Chg (D : Addr) (o' : Obj) (S S' : Led) : Prop := ∀ p ∈ S', p = (D, o') ∨ (p ∈ S ∧ p.1 ≠ D)
def setL (D : Addr) (o' : Obj) (S : Led) : Led := S.map fun p => if p.1 = D then (D, o') else p
theorem chg_set {D : Addr} {o' : Obj} {S : Led} : Chg D o' S (setL D o' S) := fun p hp => by
  obtain ⟨q, hq, e⟩ := List.mem_map.mp hp
  split at e
  · exact .inl e.symm
  · rename_i h; subst e; exact .inr ⟨hq, h⟩
theorem mem_set {D : Addr} {o o' : Obj} {S : Led} (h : (D, o) ∈ S) : (D, o') ∈ setL D o' S := List.mem_map.mpr ⟨_, h, if_pos rfl⟩
theorem mem_set_ne {D : Addr} {o' : Obj} {S : Led} {p : Addr × Obj} (h : p ∈ S) (hn : p.1 ≠ D) : p ∈ setL D o' S := List.mem_map.mpr ⟨_, h, if_neg hn⟩
theorem chg_head {D : Addr} {o o' : Obj} {S : Led} (h : ∀ p ∈ S, p.1 ≠ D) : Chg D o' ((D, o) :: S) ((D, o') :: S) := fun p hp => (List.mem_cons.mp hp).imp id fun q => ⟨.tail _ q, h p q⟩
theorem chg_tail {D : Addr} {o' : Obj} {S S' : Led} {q : Addr × Obj} (hn : q.1 ≠ D) (h : Chg D o' S S') : Chg D o' (q :: S) (q :: S') := fun p hp => by
  rcases List.mem_cons.mp hp with rfl | hp
  · exact .inr ⟨.head _, hn⟩
  · exact (h p hp).imp id fun z => ⟨.tail _ z.1, z.2⟩
section
variable {C : Cx} {m : Loc} {S S' : Led} {A : Around} {env : Env} {L : Addr} {Rel : Heap → Loc → Led → Prop} {h : Heap}
/-- the frame opened: nothing of the ledger turns -/
theorem Fm.same {Z : Prop} (F : Fm C A env L Rel) (R : Rel h m S) (k : ∀ L mm news, Fr C.g L h mm → News C.g L h news → (∀ p ∈ S, p ∈ news) → (∀ h' S', Fr C.g L h' mm → News C.g L h' news → (∀ p ∈ S', p ∈ S) → Rel h' m S') → Z) : Z := by
  obtain ⟨pre, mm, f, N, o, back, _⟩ := F.opn R
  exact k L mm (pre ++ S) f N (fun p hp => List.mem_append_right _ hp) fun h' S' f' N' hs => back h' S' f' (fun p hp => N' p ((List.mem_append.mp hp).elim (List.mem_append_left _) fun q => List.mem_append_right _ (hs p q))) fun p hp q hq => o p hp q (hs q hq)
/-- one object turns -/
theorem Fm.upd {Z : Prop} {D : Addr} {o : Obj} (F : Fm C A env L Rel) (R : Rel h m S) (hm : (D, o) ∈ S) (k : ∀ L mm rest, Fr C.g L h mm → News C.g L h ((D, o) :: rest) → (∀ p ∈ rest, p.1 ≠ D) → (∀ p ∈ S, p.1 ≠ D → p ∈ rest) →
    (∀ h' o' S', Fr C.g L h' mm → News C.g L h' ((D, o') :: rest) → Chg D o' S S' → Rel h' m S') → Z) : Z := by
  obtain ⟨pre, mm, f, N, off, back, _⟩ := F.opn R
  refine k L mm ((pre ++ S).filter fun p => decide (p.1 ≠ D)) f (fun p hp => ?_) (fun p hp => ?_) (fun p hp hn => List.mem_filter.mpr ⟨List.mem_append_right _ hp, by simpa using hn⟩) fun h' o' S' f' N' c => back h' S' f' (fun p hp => ?_) fun p hp q hq e => ?_
  · rcases List.mem_cons.mp hp with rfl | hp
    · exact N _ (List.mem_append_right _ hm)
    · exact N p (List.mem_filter.mp hp).1
  · simpa using (List.mem_filter.mp hp).2
  · rcases List.mem_append.mp hp with hp | hp
    · exact N' p (.tail _ (List.mem_filter.mpr ⟨List.mem_append_left _ hp, by simpa using off p hp _ hm⟩))
    · rcases c p hp with rfl | ⟨hp, hn⟩
      · exact N' _ (.head _)
      · exact N' p (.tail _ (List.mem_filter.mpr ⟨List.mem_append_right _ hp, by simpa using hn⟩))
  · rcases c q hq with rfl | ⟨hq, _⟩
    · exact off p hp _ hm e
    · exact off p hp q hq e
/-- one object is made -/
theorem Fm.new {Z : Prop} (F : Fm C A env L Rel) (R : Rel h m S) (k : ∀ L mm news, Fr C.g L h mm → News C.g L h news → (∀ p ∈ S, p ∈ news) →
    (∀ h' x o, Fr C.g L h' mm → News C.g L h' ((x, o) :: news) → (∀ p ∈ news, p.1 < x) → Rel h' m ((x, o) :: S)) → Z) : Z := by
  obtain ⟨pre, mm, f, N, off, back, _⟩ := F.opn R
  refine k L mm (pre ++ S) f N (fun p hp => List.mem_append_right _ hp) fun h' x o f' N' lt => back h' _ f' (fun p hp => ?_) fun p hp q hq e => ?_
  · rcases List.mem_append.mp hp with hp | hp
    · exact N' p (.tail _ (List.mem_append_left _ hp))
    · rcases List.mem_cons.mp hp with rfl | hp
      · exact N' _ (.head _)
      · exact N' p (.tail _ (List.mem_append_right _ hp))
  · rcases List.mem_cons.mp hq with rfl | hq
    · exact Nat.lt_irrefl _ (e ▸ lt p (List.mem_append_left _ hp))
    · exact off p hp q hq e
theorem Fm.in {s : Shared} (F : Fm C A env L Rel) (R : Rel s.heap m S) : (KK C.w).In s.heap := F.same R fun L mm news f N hs back => F.K.keeps f.keep
end
/-- a list at hand: in the ledger, or older -/
def LsAt (g : Heap) (S : Led) (l : Addr) (vs : List Value) : Prop := (∃ k, (l, listOf vs.toArray k) ∈ S) ∨ g.IsList l vs.toArray
def TpAt (g : Heap) (S : Led) (t : Addr) (vs : List Value) : Prop := (∃ k, (t, { cls := .type "tuple", data := .seq vs.toArray k }) ∈ S) ∨ IsTup g t vs.toArray
section
variable {α β : Type} {C : Cx} {m : Loc} {S S' : Led} {e a b test func : Expr} {es rest : List Expr} {pos apos xp : Pos} {P : Value → Led → Prop} {p q o : Value → Prop} {x : Str} {v u : Value} {z y : Int} {k : Nat} {vs ws : List Value} {l D : Addr}
theorem LsAt.at {L : Addr} {h : Heap} {mm : Str → Option Value} {news : Led} (hl : LsAt C.g S l vs) (F : Fr C.g L h mm) (N : News C.g L h news) (hs : ∀ p ∈ S, p ∈ news) : h.IsList l vs.toArray := by
  rcases hl with ⟨k, hk⟩ | hl
  · exact ⟨_, (N _ (hs _ hk)).1, rfl, k, rfl⟩
  · exact hl.at fun o e => F.keep l o e
theorem TpAt.at {L : Addr} {h : Heap} {mm : Str → Option Value} {news : Led} (hl : TpAt C.g S l vs) (F : Fr C.g L h mm) (N : News C.g L h news) (hs : ∀ p ∈ S, p ∈ news) : IsTup h l vs.toArray := by
  rcases hl with ⟨k, hk⟩ | hl
  · exact ⟨_, (N _ (hs _ hk)).1, rfl, k, rfl⟩
  · exact hl.keeps F.keep
theorem LsAt.mono {g : Heap} (hs : ∀ p ∈ S, p ∈ S') (h : LsAt g S l vs) : LsAt g S' l vs := h.imp (fun ⟨k, hk⟩ => ⟨k, hs _ hk⟩) id
theorem LsAt.tail {g : Heap} {p : Addr × Obj} (h : LsAt g S l vs) : LsAt g (p :: S) l vs := h.mono fun _ => .tail _
theorem LsAt.head {g : Heap} : LsAt g ((l, listOf vs.toArray k) :: S) l vs := .inl ⟨k, .head _⟩
def Out (C : Cx) (m : Loc) (Rel : Heap → Loc → Led → Prop) (s : Shared) {α : Type} (P : α → Led → Prop) (v : α) (s' : Shared) : Prop := ∃ h' tk' S', s' = { s with heap := h', toks := tk' } ∧ Rel h' m S' ∧ P v S'
theorem callWithK {f : Addr} {first : List Value} {A : Around} {env : Env} {L : Addr} {Rel : Heap → Loc → Led → Prop} {s : Shared} (F : Fm C A env L Rel) (R : Rel s.heap m S) (hk : keepIn (KK C.w) (.ref f) = true) (hn : noStar (e :: es) = true)
    (h : Evs C m S pos (e :: es) fun vs S1 => Op C m S1 (call (.ref f) (first ++ vs)) P) : wpAny (model PR C.w) A (callWith pos (.ref f) first (backTo pos (starEach (e :: es) env)) []) (Out C m Rel s P) NoE s :=
  callWith_K (F.in R) hk (Tr.then h F R fun vs h1 t1 S1 R1 h2 => ⟨F.in (s := { s with heap := h1, toks := t1 }) R1, Op.run h2 F R1⟩) (noStar_each hn).1 (noStar_any (noStar_each (env := env) hn).2)
def CallOk (func : Expr) (args : List Expr) (pos : Pos) : Prop := ∀ env, eval (.Call func args [] pos) env = (do callWith pos (← eval func env) [] (backTo pos (starEach args env)) (backToKw pos (keywordEach [] env)))
/-- a def of the text, called by its name -/
theorem Ev.callK {f : Addr} (hf : Pu C m S func (Is (.ref f))) (hk : keepIn (KK C.w) (.ref f) = true) (h : Evs C m S pos (e :: es) fun vs S1 => Op C m S1 (call (.ref f) vs) P)
    (hn : noStar (e :: es) = true := by rfl) (hc : CallOk func (e :: es) pos := by intro _; rfl) : Ev C m S (.Call func (e :: es) [] pos) P := fun A env L Rel s F R =>
  Call_ (Tr.then hf F R fun v h1 t1 S1 R1 ⟨e1, e2⟩ => by subst e1; cases e2; exact callWithK (s := { s with heap := h1, toks := t1 }) (first := []) F R1 hk hn h) (hc env)
theorem Ev.callB {id : String} (hf : Pu C m S func (Is (.builtin id))) (h : Evs C m S pos (e :: es) fun vs S1 => Op C m S1 (call (.builtin id) vs) P)
    (hn : noStar (e :: es) = true := by rfl) (hc : CallOk func (e :: es) pos := by intro _; rfl) : Ev C m S (.Call func (e :: es) [] pos) P := fun A env L Rel s F R =>
  Call_ (Tr.then hf F R fun v h1 t1 S1 R1 ⟨e1, e2⟩ => by
    subst e1; cases e2
    exact PyProof.Rows.callWith_builtin1 (s := { s with heap := h1, toks := t1 }) (Tr.then h F R1 fun vs h1 t1 S1 R1 h2 => Op.run h2 F R1) (noStar_each hn).1 (noStar_any (noStar_each (env := env) hn).2)) (hc env)
theorem Ev.callT {T : String} (hf : Pu C m S func (Is (.type T))) (h : Evs C m S pos (e :: es) fun vs S1 => Op C m S1 (call (.type T) vs) P)
    (hn : noStar (e :: es) = true := by rfl) (hc : CallOk func (e :: es) pos := by intro _; rfl) : Ev C m S (.Call func (e :: es) [] pos) P := fun A env L Rel s F R =>
  Call_ (Tr.then hf F R fun v h1 t1 S1 R1 ⟨e1, e2⟩ => by
    subst e1; cases e2
    exact Pv.callWith_type1 (s := { s with heap := h1, toks := t1 }) (Tr.then h F R1 fun vs h1 t1 S1 R1 h2 => Op.run h2 F R1) (noStar_each hn).1 (noStar_any (noStar_each (env := env) hn).2)) (hc env)
def MethOk (o : Expr) (name : Str) (apos : Pos) (args : List Expr) (pos : Pos) (pl : Env → Sem Bool) : Prop := ∀ env, eval (.Call (.Attribute o name apos) args [] pos) env = (do
  let ov ← eval o env
  standAt apos.atName
  let (f, first) ← holding [ov] (getMethod ov name (pl env))
  callWith pos f first (backTo pos (starEach args env)) [])
/-- what the text says of a class's method -/
structure MethIs (w : World) (c : Addr) (name : Str) (f : Addr) : Prop where
  plain : plainGet (KK w) c name = true
  find : findIn (KK w) (.ref c) name = some (some (.ref f))
  fn : isFn (KK w) (.ref f) = true
  keep : keepIn (KK w) (.ref f) = true
/-- an object at hand: its class, its dict -/
structure InstS (S : Led) (x c d : Addr) (es : List DictEntry) (n : Nat) : Prop where
  i : (x, instObj c d) ∈ S
  d : (d, dictOf es n) ∈ S
theorem InstS.mono {es : List DictEntry} {n : Nat} {x c d : Addr} (hs : ∀ p ∈ S, p ∈ S') (h : InstS S x c d es n) : InstS S' x c d es n := ⟨hs _ h.i, hs _ h.d⟩
theorem InstS.tail {es : List DictEntry} {n : Nat} {x c d : Addr} {p : Addr × Obj} (h : InstS S x c d es n) : InstS (p :: S) x c d es n := h.mono fun _ => .tail _
theorem getMeth {w : World} {es' : List DictEntry} {n : Nat} {c d f : Addr} {name : Str} {pl : Sem Bool} {A : Around} {env : Env} {L : Addr} {Rel : Heap → Loc → Led → Prop} {s : Shared} {Q : Value × List Value → Shared → Prop} (F : Fm C A env L Rel) (R : Rel s.heap m S) (M : MethIs C.w c name f) (I : InstS S l c d es' n)
    (hg : getL name es' = some none) (hq : Q (.ref f, [.ref l]) s) : wpAny (model PR C.w) A (getMethod (.ref l) name pl) Q NoE s :=
  F.same R fun L mm news f N hs back => method_inst f (F.K) (InstAt.of_news N (hs _ I.i) (hs _ I.d)) M.plain M.find M.fn hg hq
theorem Ev.meth {es' : List DictEntry} {n : Nat} {c d f : Addr} {name : Str} {pl : Env → Sem Bool} (ho : Pu C m S a (Is (.ref l))) (M : MethIs C.w c name f) (I : InstS S l c d es' n) (hg : getL name es' = some none)
    (h : Evs C m S pos (e :: es) fun vs S1 => Op C m S1 (call (.ref f) (.ref l :: vs)) P) (hn : noStar (e :: es) = true := by rfl) (hc : MethOk a name apos (e :: es) pos pl := by intro _; rfl) : Ev C m S (.Call (.Attribute a name apos) (e :: es) [] pos) P := fun A env L Rel s F R =>
  MethodCall_ (Tr.then ho F R fun v h1 t1 S1 R1 ⟨e1, e2⟩ => by
    subst e1; cases e2
    exact getMeth (w := C.w) (s := { s with heap := h1, toks := t1 }) F R1 M I hg (callWithK (s := { s with heap := h1, toks := t1 }) (first := [.ref l]) F R1 M.keep hn h)) (hc env)
theorem Ev.meth0 {es' : List DictEntry} {n : Nat} {c d f : Addr} {name : Str} {pl : Env → Sem Bool} (ho : Pu C m S a (Is (.ref l))) (M : MethIs C.w c name f) (I : InstS S l c d es' n) (hg : getL name es' = some none)
    (h : Op C m S (call (.ref f) [.ref l]) P) (hc : MethOk a name apos [] pos pl := by intro _; rfl) : Ev C m S (.Call (.Attribute a name apos) [] [] pos) P := fun A env L Rel s F R =>
  MethodCall_ (Tr.then ho F R fun v h1 t1 S1 R1 ⟨e1, e2⟩ => by
    subst e1; cases e2
    exact getMeth (w := C.w) (s := { s with heap := h1, toks := t1 }) F R1 M I hg (callWith_K0 (F.in (s := { s with heap := h1, toks := t1 }) R1) M.keep (Op.run h F R1))) (hc env)
/-- a def's contract, used: S1 handed over, pre kept -/
theorem Op.tell {f : Addr} {dn' un' : Nat} {S1 pre : Led} {Post : Value → Led → Heap → Prop} (hT : ∀ h, Keeps C.g h → (∀ p ∈ S, h.get? p.1 = some p.2) → Tell C.w f vs dn' un' S1 h Post)
    (hpre : ∀ p ∈ pre, p ∈ S) (hS1 : ∀ p ∈ S1, p ∈ S) (off : FunL S → Off pre S1) (k : ∀ r S' h', Off pre S' → Post r S' h' → P r (pre ++ S')) (hd : dn' ≤ C.dn := by exact Nat.le_of_ble_eq_true rfl) (hu : un' ≤ C.un := by exact Nat.le_of_ble_eq_true rfl) : Op C m S (call (.ref f) vs) P := fun A env L Rel s F R =>
  F.same R fun L mm news f N hs back => F.tell R (hT _ f.keep fun p hp => (N p (hs p hp)).1) hd hu hpre hS1 (off (news_fun fun p hp => N p (hs p hp))) fun r S' h' tk' R' o p => ⟨_, _, _, rfl, R', k r S' h' o p⟩
/-- the whole ledger handed over -/
theorem Op.tellA {f : Addr} {dn' un' : Nat} {Post : Value → Led → Heap → Prop} (hT : ∀ h, Keeps C.g h → (∀ p ∈ S, h.get? p.1 = some p.2) → Tell C.w f vs dn' un' S h Post)
    (k : ∀ r S' h', Post r S' h' → P r S') (hd : dn' ≤ C.dn := by exact Nat.le_of_ble_eq_true rfl) (hu : un' ≤ C.un := by exact Nat.le_of_ble_eq_true rfl) : Op C m S (call (.ref f) vs) P := Op.tell (pre := []) hT (fun _ h => nomatch h) (fun _ h => h) (fun _ => off_nil) (fun r S' h' _ p => k r S' h' p) hd hu
/-- nothing of the ledger handed over; what was made stands ahead of it -/
theorem Op.tell0 {f : Addr} {dn' un' : Nat} {Post : Value → Led → Heap → Prop} (hT : ∀ h, Keeps C.g h → (∀ p ∈ S, h.get? p.1 = some p.2) → Tell C.w f vs dn' un' [] h Post)
    (k : ∀ r S' h', Off S' S → Post r S' h' → P r (S' ++ S)) (hd : dn' ≤ C.dn := by exact Nat.le_of_ble_eq_true rfl) (hu : un' ≤ C.un := by exact Nat.le_of_ble_eq_true rfl) : Op C m S (call (.ref f) vs) P := fun A env L Rel s F R =>
  F.same R fun L mm news f N hs back => F.tell (pre := S) R (hT _ f.keep fun p hp => (N p (hs p hp)).1) hd hu (fun _ h => h) (fun _ h => nomatch h) (fun _ _ _ h => nomatch h) fun r S' h' tk' R' o p => ⟨_, _, S' ++ S, rfl, by
    obtain ⟨pre, mm, f, N, off, back, _⟩ := F.opn R'
    exact back _ _ f (fun p hp => N p (by simp only [List.mem_append] at hp ⊢; rcases hp with hp | hp | hp <;> simp [hp])) (fun p hp q hq => off p hp q (by simp only [List.mem_append] at hq ⊢; exact hq.symm)), k r S' h' (fun p hp q hq e => o q hq p hp e.symm) p⟩
structure AttrIs (w : World) (c : Addr) (name : Str) : Prop where
  plain : plainGet (KK w) c name = true
  dict : hasDictIn (KK w) c = true
  find : ∃ attr, findIn (KK w) (.ref c) name = some attr ∧ noGet (KK w) attr = true
theorem Op.attr {es' : List DictEntry} {n : Nat} {c d : Addr} {name : Str} {ex : Bool} (M : AttrIs C.w c name) (I : InstS S l c d es' n) (hg : getL name es' = some (some v)) (hh : handedIn v = true) (hp : P v S) : Op C m S (getAttr (.ref l) name ex) P := fun A env L Rel s F R =>
  F.same R fun L mm news f N hs back => by
    obtain ⟨attr, h1, h2⟩ := M.find
    exact get_own f F.K (InstAt.of_news N (hs _ I.i) (hs _ I.d)) M.plain M.dict h1 h2 hg hh ⟨_, _, S, rfl, R, hp⟩
def AttrOk (x attr : Str) (xp pos : Pos) : Prop := ∀ env, eval (.Attribute (.Name x xp) attr pos) env = (do
  let o ← eval (.Name x xp) env
  standAt pos.atName
  let r ← holding [o] (getAttr o attr true)
  letTemporaryGo (.Name x xp) o r
  pure r)
theorem Pu.attr {es' : List DictEntry} {n : Nat} {c d : Addr} {name : Str} (ho : Pu C m S (.Name x xp) (Is (.ref l))) (M : AttrIs C.w c name) (I : InstS S l c d es' n) (hg : getL name es' = some (some v)) (hh : handedIn v = true := by rfl) (hp : p v)
    (hc : AttrOk x name xp pos := by intro _; rfl) : Pu C m S (.Attribute (.Name x xp) name pos) p := fun A env L Rel s F R =>
  Attribute_Name_ (Tr.then ho F R fun v h1 t1 S1 R1 ⟨e1, e2⟩ => by
    subst e1; cases e2
    exact Op.run (Op.attr M I hg hh ⟨rfl, hp⟩) F R1) (hc env)
theorem Op.tuple (k : ∀ D, (∀ p ∈ S, p.1 < D) → P (.ref D) ((D, { cls := .type "tuple", data := .seq vs.toArray }) :: S)) (hl : vs.length ≤ sizeLine := by exact Nat.le_of_ble_eq_true rfl) : Op C m S (newTuple vs) P := fun A env L Rel s F R =>
  F.new R fun L mm news f N hs back => kup_newTuple f N (fun D h' f' N' lt => ⟨_, _, _, rfl, back h' D _ f' N' lt, k D fun p hp => lt p (hs p hp)⟩) hl
theorem Op.list (k : ∀ D, (∀ p ∈ S, p.1 < D) → P (.ref D) ((D, listOf vs.toArray 0) :: S)) (hl : vs.length ≤ sizeLine := by exact Nat.le_of_ble_eq_true rfl) : Op C m S (newList vs) P := fun A env L Rel s F R =>
  F.new R fun L mm news f N hs back => newList_K f N (fun D h' f' N' lt => ⟨_, _, _, rfl, back h' D _ f' N' lt, k D fun p hp => lt p (hs p hp)⟩) hl
theorem Ev.tuple (h : Evs C m S pos es fun vs S1 => Op C m S1 (newTuple vs) P) : Ev C m S (.Tuple es k pos) P := fun A env L Rel s F R => Tuple_ (Tr.then h F R fun v h1 t1 S1 R1 h2 => Op.run h2 F R1)
theorem Ev.list (h : Evs C m S pos es fun vs S1 => Op C m S1 (newList vs) P) : Ev C m S (.List es pos) P := fun A env L Rel s F R => List_ (Tr.then h F R fun v h1 t1 S1 R1 h2 => Op.run h2 F R1)
theorem Ev.sub (h : Ev C m S a fun v S1 => Ev C m S1 b fun u S2 => Op C m S2 (subscriptTail a b v u) P) : Ev C m S (.Subscript a b pos) P := fun A env L Rel s F R =>
  Subscript_ (Tr.then h F R fun v h1 t1 S1 R1 h2 => Tr.then h2 F R1 fun u h2 t2 S2 R2 h3 => Op.run h3 F R2)
def SubOk (slice : Expr) : Prop := ∀ o i : Value, subscripted slice false o i = operate [o, i] (getItem o i)
def GoOk (value : Expr) : Prop := ∀ o r : Value, letTemporaryGo value o r = pure ()
/-- a tuple's place, the place a written number -/
theorem Pu.item {i j : Nat} (ha : Pu C m S a (Is (.ref l))) (hb : Pu C m S b (IsI z)) (ht : TpAt C.g S l vs) (h0 : -2 ^ 63 ≤ z) (h1 : z < 2 ^ 63) (hj : seqIndex? z vs.length = some j) (hv : vs[j]? = some v) (hp : p v) (hs : SubOk b := by intro _ _; rfl) : Pu C m S (.Subscript a b pos) p :=
  Ev.sub (ha.is (hb.i fun t A env L Rel s F R => F.same R fun L mm news f N hn back => item_tupleT (ht.at f N hn) h0 h1 hj hv ⟨_, _, S, rfl, R, rfl, hp⟩ (hs _ _)))
end
def stOk (C : Cx) (x : Str) : Bool := match C.D.cs.names.lookup x with | some .local => true | some .cell => true | _ => false
section
variable {C : Cx} {m m' : Loc} {S S' : Led} {P : Flow → Loc → Led → Prop} {rest body orelse : List Stmt} {e test iter : Expr} {x : Str} {v : Value} {pos px : Pos} {A : Around} {L : Addr} {hid : Led}
theorem Know.put {nm : List (Str × NameKind)} {cl : List (Str × Addr)} {mm cm mm' cm' : Str → Option Value} (kn : Know nm cl m mm cm) (h1 : ∀ y, y ≠ x → mm' y = mm y ∧ cm' y = cm y) (h2 : (nm.lookup x = some .local ∧ mm' x = some v) ∨ (nm.lookup x = some .cell ∧ cm' x = some v ∧ ∃ c, cl.lookup x = some c)) :
    Know nm cl ((x, v) :: m) mm' cm' := fun y u hy => by
  rw [List.lookup_cons] at hy
  by_cases e : (y == x) = true
  · rw [e] at hy
    obtain rfl : v = u := Option.some.inj hy
    obtain rfl : y = x := by simpa using e
    exact h2
  · rw [Bool.eq_false_iff.mpr e] at hy
    have hne : y ≠ x := fun q => e (by simp [q])
    rw [(h1 y hne).1, (h1 y hne).2]
    exact kn y u hy
/-- a name stored, in the frame or in its cell -/
theorem FnR.store {s : Shared} {Q : Unit → Shared → Prop} (H : FnC C A L) (R : FnR C L hid s.heap m S) (hx : stOk C x = true) (k : ∀ h' tk', FnR C L hid h' ((x, v) :: m) S → Q () { s with heap := h', toks := tk' }) :
    wpAny (model PR C.w) A (storeName (C.D.env L) x v) Q NoE s := by
  obtain ⟨mm, cm, ce, F, Y, N, o, oc, kn⟩ := R
  unfold stOk at hx
  split at hx
  · rename_i hl
    exact storeX_L F N (fun h' F' N' => k h' _ ⟨_, cm, ce, F', Y, N', o, oc, kn.put (fun y hy => ⟨if_neg hy, rfl⟩) (.inl ⟨hl, if_pos rfl⟩)⟩) H.kind hl
  · rename_i hl
    obtain ⟨c, hc⟩ := Option.isSome_iff_exists.mp (cellsFrom_some C.D.cs.names (L + 1) [] (.inl hl))
    obtain ⟨ob, hm, hd⟩ := cells_mem Y hc
    have hmN : (c, ob) ∈ (hid ++ ce) ++ S := List.mem_append_left _ (List.mem_append_right _ hm)
    refine storeX_C (news := (c, ob) :: ((hid ++ ce) ++ S).filter fun p => decide (p.1 ≠ c)) F (fun p hp => ?_) hc (.head fun p hp => by simpa using (List.mem_filter.mp hp).2) hd (fun h' o' F' N' hd' => ?_) H.kind hl
    · rcases List.mem_cons.mp hp with rfl | hp
      · exact N _ hmN
      · exact N p (List.mem_filter.mp hp).1
    · obtain ⟨ce', Y', hce⟩ := cells_set Y hc H.ap.1 H.ap.2 hd'
      have old : ∀ p ∈ (hid ++ ce) ++ S, p.1 ≠ c → p ∈ (c, o') :: ((hid ++ ce) ++ S).filter fun p => decide (p.1 ≠ c) := fun p hp hn => .tail _ (List.mem_filter.mpr ⟨hp, by simpa using hn⟩)
      refine k h' _ ⟨mm, _, ce', F', Y', fun p hp => N' p ?_, fun p hp q hq => ?_, fun p hp q hq => ?_, kn.put (fun y hy => ⟨rfl, if_neg hy⟩) (.inr ⟨hl, if_pos rfl, c, hc⟩)⟩
      · rcases List.mem_append.mp hp with hp | hp
        · rcases List.mem_append.mp hp with hp | hp
          · exact old p (List.mem_append_left _ (List.mem_append_left _ hp)) (oc p hp _ hm)
          · rcases hce p hp with rfl | ⟨hp, hn⟩
            · exact .head _
            · exact old p (List.mem_append_left _ (List.mem_append_right _ hp)) hn
        · exact old p (List.mem_append_right _ hp) fun e => o _ (List.mem_append_right _ hm) p hp e.symm
      · rcases List.mem_append.mp hp with hp | hp
        · exact o p (List.mem_append_left _ hp) q hq
        · rcases hce p hp with rfl | ⟨hp, _⟩
          · exact o _ (List.mem_append_right _ hm) q hq
          · exact o p (List.mem_append_right _ hp) q hq
      · rcases hce q hq with rfl | ⟨hq, _⟩
        · exact fun e => oc p hp (c, ob) hm e
        · exact oc p hp q hq
  · cases hx
/-- how a statement ends -/
def SOut (C : Cx) (L : Addr) (hid : Led) (s : Shared) (P : Flow → Loc → Led → Prop) (f : Flow) (s' : Shared) : Prop := ∃ h' tk' m' S', s' = { s with heap := h', toks := tk' } ∧ FnR C L hid h' m' S' ∧ P f m' S'
theorem Go.run {s : Shared} {h1 : Heap} {t1 : Nat} (h : Go C m S body P) (H : FnC C A L) (R : FnR C L hid h1 m S) : wpAny (model PR C.w) A (execs body (C.D.env L)) (SOut C L hid s P) NoE { s with heap := h1, toks := t1 } := h A L hid { s with heap := h1, toks := t1 } H R
theorem Go.assign (h : Ev C m S e fun v S1 => Go C ((x, v) :: m) S1 rest P) (hx : stOk C x = true := by rfl) (hw : ∀ env, swapsWith e (some (.Name x px)) pos.line env = pure false := by intro _; rfl) : Go C m S (.Assign [.Name x px] e pos :: rest) P :=
  Go.cons fun A L hid s H R => wpAny_Assign_Name (Tr.at h H R fun v h1 t1 S1 R1 h2 => FnR.store (s := { s with heap := h1, toks := t1 }) H R1 hx fun h2' t2 R2 => ⟨h2', t2, _, S1, rfl, R2, h2⟩) (hw _)
theorem Go.ret (h : Ev C m S e fun v S1 => P (.ret v) m S1) : Go C m S (.Return (some e) pos :: rest) P :=
  Go.cons fun A L hid s H R => wpAny_Return_some (Tr.at h H R fun v h1 t1 S1 R1 p => ⟨h1, t1, m, S1, rfl, R1, p⟩)
theorem Go.expr (h : Ev C m S e fun _ S1 => Go C m S1 rest P) (hw : ∀ env, swapsWith e none pos.line env = pure false := by intro _; rfl) : Go C m S (.Expr e pos :: rest) P :=
  Go.cons fun A L hid s H R => wpAny_Expr_any (Tr.at h H R fun v h1 t1 S1 R1 p => ⟨h1, t1, m, S1, rfl, R1, p⟩) (by show (C.D.cs.kind == _ && _) = false; rw [H.kind]; rfl) (hw _)
theorem Go.brk (h : P .brk m S) : Go C m S (.Break pos :: rest) P := Go.cons fun A L hid s H R => wpAny_Break ⟨_, _, m, S, rfl, R, h⟩
theorem Go.ifx (h : Te C m S test fun c S1 => if c = true then Go C m S1 body (Th C rest P) else Go C m S1 orelse (Th C rest P)) : Go C m S (.If test body orelse pos :: rest) P :=
  Go.cons fun A L hid s H R => wpAny_If (Tr.at (h (fun env => eval test env) fun _ => rfl) H R fun c h1 t1 S1 R1 hc => by
    cases c with
    | true => exact Go.run hc H R1
    | false => exact Go.run hc H R1)
theorem Go.ifP {c : Bool} (h : Tp C m S test c) (ht : c = true → Go C m S body (Th C rest P)) (hf : c = false → Go C m S rest P) : Go C m S (.If test body [] pos :: rest) P :=
  Go.ifx (h.te (by cases c with
    | true => exact ht rfl
    | false => exact Go.nil (hf rfl)))
theorem Go.ifT (h : Tp C m S test true) (ht : Go C m S body (Th C rest P)) : Go C m S (.If test body orelse pos :: rest) P := Go.ifx (h.te ht)
theorem Go.ifF (h : Tp C m S test false) (hf : Go C m S rest P) : Go C m S (.If test body [] pos :: rest) P := Go.ifx (h.te (Go.nil hf))
/-- a test whose parts may run on: and, or -/
theorem Go.ifE (h : Te C m S test fun c S1 => if c = true then Go C m S1 body (Th C rest P) else Go C m S1 rest P) : Go C m S (.If test body [] pos :: rest) P :=
  Go.ifx (h.mono fun c S1 hc => by
    cases c with
    | true => exact hc
    | false => exact Go.nil hc)
/-- what a loop goes over: n values, of which the i-th has Pv i; Fx stands meanwhile -/
structure Itr (C : Cx) (m : Loc) (S : Led) (v : Value) (n : Nat) (Pv : Nat → Value → Prop) (Fx : Led) : Prop where
  fx : ∀ p ∈ Fx, p ∈ S
  go : ∀ (A : Around) (env : Env) (L : Addr) (Rel : Heap → Loc → Led → Prop) (s : Shared), Fm C A env L Rel → Rel s.heap m S → ∀ Q : Value → Shared → Prop,
    (∀ h0 tk o fp St, Rel h0 m S → o.isFreed = false → Walks PR C.w A h0.objs.size (h0.objs.size :: fp) [h0.objs.size] n Pv St → (∀ b ∈ fp, (∃ q, C.g.get? b = some q) ∨ ∃ o, (b, o) ∈ Fx) → (∀ i h, St i h → ∃ o, h.get? h0.objs.size = some o) → St 0 (h0.push o) →
      Q (.ref h0.objs.size) { s with heap := h0.push o, toks := tk }) → wpAny (model PR C.w) A (pyIter v) Q NoE s
theorem itr_list {l : Addr} {vs : List Value} {k : Nat} (hl : (l, listOf vs.toArray k) ∈ S) : Itr C m S (.ref l) vs.length (fun i v => vs[i]? = some v) [(l, listOf vs.toArray k)] where
  fx := fun p hp => (List.mem_singleton.mp hp) ▸ hl
  go := fun A env L Rel s F R Q K => F.same R fun L mm news f N hs _ => by
    have hls : s.heap.IsList l vs.toArray := ⟨_, (N _ (hs _ hl)).1, rfl, k, rfl⟩
    have W := Walks.list (prog := PR) (w := C.w) F.hand s.heap.objs.size l (Nat.ne_of_lt (Heap.lt_size (N _ (hs _ hl)).1)) vs.toArray
    rw [List.size_toArray] at W
    simp only [List.getElem?_toArray] at W
    exact wpAny_pyIter_list hls (K s.heap s.toks _ _ _ R rfl W (fun b hb => .inr ((List.mem_singleton.mp hb) ▸ ⟨_, .head _⟩)) (fun i h st => let ⟨o, ho, _⟩ := st.1; ⟨o, ho⟩) ⟨⟨_, Heap.get?_push_size _ rfl, rfl, rfl⟩, hls.at fun o e => Heap.get?_push_of_some _ e⟩)
theorem itr_listB {l : Addr} {vs : List Value} (hl : C.g.IsList l vs.toArray) : Itr C m S (.ref l) vs.length (fun i v => vs[i]? = some v) [] where
  fx := fun _ hp => nomatch hp
  go := fun A env L Rel s F R Q K => F.same R fun L mm news f N hs _ => by
    have hls : s.heap.IsList l vs.toArray := hl.at fun o e => f.keep l o e
    obtain ⟨ol, hol, _⟩ := id hl
    have W := Walks.list (prog := PR) (w := C.w) F.hand s.heap.objs.size l (Nat.ne_of_lt (Heap.lt_size (f.keep _ _ hol))) vs.toArray
    rw [List.size_toArray] at W
    simp only [List.getElem?_toArray] at W
    exact wpAny_pyIter_list hls (K s.heap s.toks _ _ _ R rfl W (fun b hb => .inl ((List.mem_singleton.mp hb) ▸ ⟨_, hol⟩)) (fun i h st => let ⟨o, ho, _⟩ := st.1; ⟨o, ho⟩) ⟨⟨_, Heap.get?_push_size _ rfl, rfl, rfl⟩, hls.at fun o e => Heap.get?_push_of_some _ e⟩)
theorem itr_tupB {l : Addr} {vs : List Value} (hl : IsTup C.g l vs.toArray) : Itr C m S (.ref l) vs.length (fun i v => vs[i]? = some v) [] where
  fx := fun _ hp => nomatch hp
  go := fun A env L Rel s F R Q K => F.same R fun L mm news f N hs _ => by
    have hls : s.heap.IsTuple l vs.toArray := hl.keeps f.keep
    obtain ⟨ol, hol, _⟩ := id hl
    have W := Walks.tuple (prog := PR) (w := C.w) F.hand s.heap.objs.size l (Nat.ne_of_lt (Heap.lt_size (f.keep _ _ hol))) vs.toArray
    rw [List.size_toArray] at W
    simp only [List.getElem?_toArray] at W
    exact wpAny_pyIter_tuple hls (K s.heap s.toks _ _ _ R rfl W (fun b hb => .inl ((List.mem_singleton.mp hb) ▸ ⟨_, hol⟩)) (fun i h st => let ⟨o, ho, _⟩ := st.1; ⟨o, ho⟩) ⟨⟨_, Heap.get?_push_size _ rfl, rfl, rfl⟩, Heap.IsTuple.at hls fun o e => Heap.get?_push_of_some _ e⟩)
abbrev rngObj (a b c : Int) (t u v : Tok) : Obj := { cls := .type "range", dict := none, data := .fields #[.int a t, .int b u, .int c v], slots := #[] }
theorem itr_range {r : Addr} {a b c : Int} {t u v : Tok} {n : Nat} (hr : (r, rngObj a b c t u v) ∈ S) (hsmall : Builtin.Range.small a b c = true) (hn : Builtin.Range.rangeSize a b c = (n : Int)) :
    Itr C m S (.ref r) n (fun i v => i < n ∧ ∃ t, v = .int (a + i * c) t) [] where
  fx := fun _ hp => nomatch hp
  go := fun A env L Rel s F R Q K => F.same R fun L mm news f N hs _ => by
    have W : Walks PR C.w A s.heap.objs.size [s.heap.objs.size] [s.heap.objs.size] n (fun i v => i < n ∧ ∃ t, v = .int (a + i * c) t)
      (fun i h => IsRangeIter h s.heap.objs.size (a + (i : Nat) * c) ((n : Int) - (i : Nat)) c) := (Walks.range F.hand _ a c n).bound
    exact wpAny_pyIter_range (N _ (hs _ hr)).1 hsmall (K s.heap s.toks _ [] _ R rfl W (fun b hb => nomatch hb) (fun i h st => ⟨_, st⟩) (by show IsRangeIter _ _ _ _ _; rw [hn]; simpa using Heap.get?_push_size _ rfl))
/-- how a loop's body ends -/
def Lp (J : Loc → Led → Prop) (P : Flow → Loc → Led → Prop) (f : Flow) (m : Loc) (S : Led) : Prop := match f with
  | .ret v => P (.ret v) m S
  | .brk => P .next m S
  | _ => J m S
theorem for_tail {n : Nat} {Pv : Nat → Value → Prop} {Fx : Led} {J : Nat → Loc → Led → Prop} {I : Addr} {hI : Heap} {tI : Nat} {s : Shared} {mm0 cm0 : Str → Option Value} {ce0 S1 : Led} (H : FnC C A L) (hx' : C.D.cs.names.lookup x = some .local) (Z : Src PR C.w A C.g L hI ((hid ++ ce0) ++ S1) Fx I n Pv) (F2 : Fr C.g L hI mm0) (N2 : News C.g L hI ((hid ++ ce0) ++ S1))
    (Y0 : CellsAre cm0 (C.D.cl L) ce0) (o0 : Off (hid ++ ce0) S1) (oc0 : Off hid ce0) (kn0 : Know C.D.cs.names (C.D.cl L) m mm0 cm0) (h0 : J 0 m S1) (hFx : ∀ i m' l, J i m' l → ∀ p ∈ Fx, p ∈ l)
    (turn : ∀ i u m1 S2, i < n → Pv i u → J i m1 S2 → Go C ((x, u) :: m1) S2 body (Lp (J (i + 1)) (Th C rest P))) (done : ∀ m1 S2, J n m1 S2 → Go C m1 S2 rest P) :
    LoopAtV PR C.w A C.g (C.D.env L) x body (SOut C L hid s (Th C rest P)) NoE (.ref I) { s with heap := hI, toks := tI } := by
  refine loopO (s := { s with heap := hI, toks := tI }) (env := C.D.env L) (Fx := Fx) (fun i m3 l => ∃ m1 S2 cm ce, l = (hid ++ ce) ++ S2 ∧ CellsAre cm (C.D.cl L) ce ∧ Off (hid ++ ce) S2 ∧ Off hid ce ∧ Know C.D.cs.names (C.D.cl L) m1 m3 cm ∧ J i m1 S2) Z F2 N2
    ⟨m, S1, cm0, ce0, rfl, Y0, o0, oc0, kn0, h0⟩ ?_ ?_ ?_
  · rintro i m3 l ⟨m1, S2, cm, ce, rfl, _, _, _, _, hJ⟩ p hp
    exact List.mem_append_right _ (hFx i m1 S2 hJ p hp)
  · rintro i u m3 l h' tk' oI hin hP ⟨m1, S2, cm, ce, rfl, Y, o, oc, kn, hJ⟩ hnI F' N'
    have R' : FnR C L ((I, oI) :: hid) h' ((x, u) :: m1) S2 := ⟨_, cm, ce, F', Y, N', fun p hp q hq => by
        rcases List.mem_cons.mp hp with rfl | hp
        · exact fun e => hnI q (List.mem_append_right _ hq) e.symm
        · exact o p hp q hq, fun p hp q hq => by
        rcases List.mem_cons.mp hp with rfl | hp
        · exact fun e => hnI q (List.mem_append_left _ (List.mem_append_right _ hq)) e.symm
        · exact oc p hp q hq, kn.put (fun y hy => ⟨if_neg hy, rfl⟩) (.inl ⟨hx', if_pos rfl⟩)⟩
    refine wpAny_mono (Go.run (s := s) (t1 := tk') (turn i u m1 S2 hin hP hJ) H R') (fun f s3 ⟨h4, t4, m4, S4, es, R4, p4⟩ => ?_) fun _ _ e => e
    subst es
    obtain ⟨mm4, cm4, ce4, F4, Y4, N4, o4, oc4, kn4⟩ := R4
    have off4 : Off (hid ++ ce4) S4 := fun p hp q hq => o4 p (.tail _ hp) q hq
    have offc : Off hid ce4 := fun p hp q hq => oc4 p (.tail _ hp) q hq
    have R5 : FnR C L hid h4 m4 S4 := ⟨mm4, cm4, ce4, F4, Y4, fun p hp => N4 p (.tail _ hp), off4, offc, kn4⟩
    have fin : J (i + 1) m4 S4 → TurnP C.g (C.D.env L).locals I oI { s with heap := h', toks := tk' } (fun m3 l => ∃ m1 S2 cm ce, l = (hid ++ ce) ++ S2 ∧ CellsAre cm (C.D.cl L) ce ∧ Off (hid ++ ce) S2 ∧ Off hid ce ∧ Know C.D.cs.names (C.D.cl L) m1 m3 cm ∧ J (i + 1) m1 S2) (SOut C L hid s (Th C rest P)) .next { s with heap := h4, toks := t4 } := fun hJ4 =>
      ⟨h4, t4, mm4, _, rfl, F4, N4, fun p hp e => by
        rcases List.mem_append.mp hp with hp | hp
        · rcases List.mem_append.mp hp with hp | hp
          · exact hnI p (List.mem_append_left _ (List.mem_append_left _ hp)) e
          · exact oc4 _ (.head _) p hp e.symm
        · exact o4 _ (.head _) p hp e.symm, m4, S4, cm4, ce4, rfl, Y4, off4, offc, kn4, hJ4⟩
    cases f with
    | next => exact fin p4
    | cont => exact fin p4
    | ret v => exact ⟨h4, t4, m4, S4, rfl, R5, p4⟩
    | brk => exact ⟨h4, t4, m4, S4, rfl, R5, p4⟩
  · rintro m3 l h' tk' ⟨m1, S2, cm, ce, rfl, Y, o, oc, kn, hJ⟩ hnI F' N'
    exact ⟨h', tk', m1, S2, rfl, ⟨m3, cm, ce, F', Y, N', o, oc, kn⟩, done m1 S2 hJ⟩
theorem Go.for_ (h : Ev C m S iter fun v S1 => ∃ (n : Nat) (Pv : Nat → Value → Prop) (Fx : Led) (J : Nat → Loc → Led → Prop), Itr C m S1 v n Pv Fx ∧ J 0 m S1 ∧ (∀ i m' l, J i m' l → ∀ p ∈ Fx, p ∈ l) ∧
      (∀ i u m1 S2, i < n → Pv i u → J i m1 S2 → Go C ((x, u) :: m1) S2 body (Lp (J (i + 1)) (Th C rest P))) ∧ (∀ m1 S2, J n m1 S2 → Go C m1 S2 rest P))
    (hx : (C.D.cs.names.lookup x == some .local) = true := by rfl) (hf : ∀ env v, foldedSetIterable iter env v = pure v := by intro _ _; rfl) : Go C m S (.For (.Name x px) iter body [] pos :: rest) P :=
  Go.cons fun A L hid s H R => by
    have hx' : C.D.cs.names.lookup x = some .local := by simpa using hx
    obtain ⟨mm, cm, ce, F, _⟩ := id R
    refine For_invVF F hx' (by show (C.D.cs.kind == _ || C.D.cs.kind == _ && _) = false; rw [H.kind]; rfl) (Tr.at h H R fun v h1 t1 S1 R1 ⟨n, Pv, Fx, J, I, h0, hFx, turn, done⟩ => ?_) (hf _) PassesOwn.never
    refine I.go A _ _ _ { s with heap := h1, toks := t1 } (fnFm H hid) R1 _ fun h0' tk o fp St R0 hfr W hfp hob hst => ?_
    obtain ⟨mm0, cm0, ce0, F0, Y0, N0, o0, oc0, kn0⟩ := R0
    obtain ⟨Z, F2, N2⟩ := src_of (s := { s with heap := h0', toks := tk }) (A := A) hfr F0 N0 W (fun b hb => (hfp b hb).imp id fun ⟨o, ho⟩ => ⟨o, ho⟩) hob hst
    exact for_tail (s := s) (tI := tk) H hx' Z F2 N2 Y0 o0 oc0 kn0 h0 hFx turn done
theorem Go.while_ (J : Nat → Loc → Led → Prop) {n₀ : Nat} (h0 : J n₀ m S) (turn : ∀ n m1 S1, J n m1 S1 → Te C m1 S1 test fun b S2 => if b = true then Go C m1 S2 body (fun f m' S' => f = .next ∧ ∃ n', n' < n ∧ J n' m' S') else Go C m1 S2 rest P) :
    Go C m S (.While test body [] pos :: rest) P := Go.cons fun A L hid s H R => by
  obtain ⟨mm, cm, ce, F, Y, N, o, oc, kn⟩ := R
  refine While_inv (fun n m3 l => ∃ m1 S2 cm ce, l = (hid ++ ce) ++ S2 ∧ CellsAre cm (C.D.cl L) ce ∧ Off (hid ++ ce) S2 ∧ Off hid ce ∧ Know C.D.cs.names (C.D.cl L) m1 m3 cm ∧ J n m1 S2) F N ⟨m, S, cm, ce, rfl, Y, o, oc, kn, h0⟩ ?_ PassesOwn.never
  rintro n m3 l h1 t1 F1 N1 ⟨m1, S1, cm1, ce1, rfl, Y1, o1, oc1, kn1, hJ⟩
  refine Tr.at (s := { s with heap := h1, toks := t1 }) (turn n m1 S1 hJ (fun env => eval test env) fun _ => rfl) H ⟨m3, cm1, ce1, F1, Y1, N1, o1, oc1, kn1⟩ fun b h2 t2 S2 R2 hb => ?_
  cases b with
  | true =>
    rw [if_pos rfl] at hb ⊢
    refine wpAny_mono (Go.run (s := s) (t1 := t2) hb H R2) (fun f s3 ⟨h4, t4, m4, S4, es, R4, ef, n', hn', hJ4⟩ => ?_) fun _ _ e => e
    obtain ⟨mm4, cm4, ce4, F4, Y4, N4, o4, oc4, kn4⟩ := R4
    exact ⟨ef, h4, t4, mm4, _, n', es, F4, N4, hn', m4, S4, cm4, ce4, rfl, Y4, o4, oc4, kn4, hJ4⟩
  | false => exact ⟨h2, t2, m1, S2, rfl, R2, hb⟩
end
section
variable {α β : Type} {C : Cx} {m : Loc} {S S' : Led} {e a b test func : Expr} {es : List Expr} {rest : List Stmt} {pos apos xp tpos : Pos} {P : Value → Led → Prop} {Pf : Flow → Loc → Led → Prop} {p q o : Value → Prop} {x : Str} {v u : Value} {z y : Int} {k n : Nat} {vs ws : List Value} {l D d c : Addr}
theorem Ev.lmeth {name : Str} {id : String} {pl : Env → Sem Bool} {vs : List Value} (ho : Pu C m S a (Is (.ref l))) (hl : (l, listOf vs.toArray n) ∈ S) (slot : Slot "list" name id) (hty : typeOf (.builtin id) = pure (.type "method_descriptor"))
    (h : Evs C m S pos (e :: es) fun ws S1 => Op C m S1 (call (.builtin id) (.ref l :: ws)) P) (hn : noStar (e :: es) = true := by rfl) (hc : MethOk a name apos (e :: es) pos pl := by intro _; rfl) : Ev C m S (.Call (.Attribute a name apos) (e :: es) [] pos) P := fun A env L Rel s F R =>
  MethodCall_ (Tr.then ho F R fun v h1 t1 S1 R1 ⟨e1, e2⟩ => by
    subst e1; cases e2
    exact F.same (h := h1) R1 fun L mm news f N hs back => listMethod_K (s := { s with heap := h1, toks := t1 }) N (hs _ hl) slot hty (callWith_method1 (s := { s with heap := h1, toks := t1 }) (Tr.then h F R1 fun ws h1 t1 S1 R1 h2 => Op.run h2 F R1) (noStar_each hn).1 (noStar_any (noStar_each (env := env) hn).2))) (hc env)
theorem Op.append {vs : List Value} (hl : (l, listOf vs.toArray n) ∈ S) (hc : Chg l (listOf (vs ++ [v]).toArray (n + 1)) S S') (hz : vs.length ≤ sizeLine) (h : P .none S') : Op C m S (call (.builtin "list.append") [.ref l, v]) P := fun A env L Rel s F R =>
  F.upd R hl fun L mm rest f N hr hs back => appendL_K f N (.head hr) hz fun h' f' N' => ⟨h', _, S', rfl, back h' _ S' f' N' hc, h⟩
theorem Op.pop0 {vs : List Value} {t : Tok} (hl : (l, listOf (v :: vs).toArray n) ∈ S) (hc : Chg l (listOf vs.toArray (n + 1)) S S') (hz : (v :: vs).length ≤ sizeLine) (h : P v S') : Op C m S (call (.builtin "list.pop") [.ref l, .int 0 t]) P := fun A env L Rel s F R =>
  F.upd R hl fun L mm rest f N hr hs back => pop0_K f N (.head hr) hz fun h' f' N' => ⟨h', _, S', rfl, back h' _ S' f' N' hc, h⟩
/-- x.append(e) as a statement -/
theorem Go.append {vs : List Value} {pl : Env → Sem Bool} (ho : Pu C m S a (Is (.ref l))) (hl : (l, listOf vs.toArray n) ∈ S) (hz : vs.length ≤ sizeLine) (he : Ev C m S e fun v S1 => (l, listOf vs.toArray n) ∈ S1 ∧ ∃ S2, Chg l (listOf (vs ++ [v]).toArray (n + 1)) S1 S2 ∧ Go C m S2 rest Pf)
    (hn : noStar [e] = true := by rfl) (hc : MethOk a (Str.ofString "append") apos [e] pos pl := by intro _; rfl) (hw : ∀ env, swapsWith (.Call (.Attribute a (Str.ofString "append") apos) [e] [] pos) none tpos.line env = pure false := by intro _; rfl) :
    Go C m S (.Expr (.Call (.Attribute a (Str.ofString "append") apos) [e] [] pos) tpos :: rest) Pf :=
  Go.expr (Ev.lmeth ho hl PySem.F.slot_list_append PySem.F.type_list_append (Evs.cons hn (he.mono fun v S1 ⟨hl1, S2, hc2, g⟩ => Evs.nil (Op.append hl1 hc2 hz g))) hn hc) hw
theorem Op.len (hl : LsAt C.g S l vs) (hz : vs.length ≤ 100000) : Op C m S (call (.builtin "len") [.ref l]) fun r S' => S' = S ∧ IsI (vs.length : Int) r := fun A env L Rel s F R =>
  F.same R fun L mm news f N hs back => len_list (hl.at f N hs) (by rw [List.size_toArray]; omega) ⟨_, _, S, rfl, R, rfl, _, by rw [List.size_toArray]⟩
theorem Op.min2 {t t' : Tok} : Op C m S (call (.builtin "min") [.int z t, .int y t']) fun r S' => S' = S ∧ IsI (if y < z then y else z) r := fun A env L Rel s F R =>
  F.same R fun L mm news f N hs back => min_two_N F.hand f N fun h' tk f' N' => ⟨h', tk, S, rfl, back h' S f' N' fun _ h => h, rfl, _, rfl⟩
theorem Op.max2 {t t' : Tok} : Op C m S (call (.builtin "max") [.int z t, .int y t']) fun r S' => S' = S ∧ IsI (if y > z then y else z) r := fun A env L Rel s F R =>
  F.same R fun L mm news f N hs back => max_two_N F.hand f N fun h' tk f' N' => ⟨h', tk, S, rfl, back h' S f' N' fun _ h => h, rfl, _, rfl⟩
theorem Op.minL {ns : List Int} (hl : LsAt C.g S l vs) (hi : IntsAre vs ns) (h0 : 0 < ns.length) : Op C m S (call (.builtin "min") [.ref l]) fun r S' => S' = S ∧ ∃ M, IsI M r ∧ M ∈ ns ∧ ∀ a ∈ ns, M ≤ a := fun A env L Rel s F R =>
  F.same R fun L mm news f N hs back => kso_min f N (hl.at f N hs) hi h0 F.hand fun h' M t tk f' N' h1 h2 => ⟨h', tk, S, rfl, back h' S f' N' fun _ h => h, rfl, M, ⟨_, rfl⟩, h1, h2⟩
theorem Op.maxL {ns : List Int} (hl : LsAt C.g S l vs) (hi : IntsAre vs ns) (h0 : 0 < ns.length) : Op C m S (call (.builtin "max") [.ref l]) fun r S' => S' = S ∧ ∃ M, IsI M r ∧ M ∈ ns ∧ ∀ a ∈ ns, a ≤ M := fun A env L Rel s F R =>
  F.same R fun L mm news f N hs back => kso_max f N (hl.at f N hs) hi h0 F.hand fun h' M t tk f' N' h1 h2 => ⟨h', tk, S, rfl, back h' S f' N' fun _ h => h, rfl, M, ⟨_, rfl⟩, h1, h2⟩
theorem Op.sumL {ns : List Int} (hl : LsAt C.g S l vs) (hi : IntsAre vs ns) : Op C m S (call (.builtin "sum") [.ref l]) fun r S' => S' = S ∧ IsI ns.sum r := fun A env L Rel s F R =>
  F.same R fun L mm news f N hs back => sumK F.hand f N (hl.at f N hs) hi fun h' tk t f' N' => ⟨h', tk, S, rfl, back h' S f' N' fun _ h => h, rfl, _, rfl⟩
theorem Op.copy (hl : LsAt C.g S l vs) (hz : vs.length ≤ sizeLine) (k : ∀ D n, (∀ p ∈ S, p.1 < D) → P (.ref D) ((D, listOf vs.toArray n) :: S)) : Op C m S (call (.type "list") [.ref l]) P := fun A env L Rel s F R =>
  F.new R fun L mm news f N hs back => list_copyK f N (hl.at f N hs) (fun D n h' f' N' lt => ⟨_, _, _, rfl, back h' D _ f' N' lt, k D n fun p hp => lt p (hs p hp)⟩) (by rw [List.size_toArray]; exact hz)
theorem Op.tupleSame (hl : TpAt C.g S l vs) : Op C m S (call (.type "tuple") [.ref l]) fun r S' => S' = S ∧ Is (.ref l) r := fun A env L Rel s F R =>
  F.same R fun L mm news f N hs back => call_tuple_tup (hl.at f N hs) ⟨_, _, S, rfl, R, rfl, rfl⟩
theorem news_rng {g h h' : Heap} {L : Addr} {mm : Str → Option Value} {news : Led} {o : Obj} (F : Fr g L h mm) (N' : News g L h' news) (N : News g L h news) (hr : h'.get? h.objs.size = some o) : News g L h' ((h.objs.size, o) :: news) ∧ ∀ p ∈ news, p.1 < h.objs.size := ⟨fun p hp => by
  rcases List.mem_cons.mp hp with rfl | hp
  · exact ⟨hr, Nat.ne_of_gt F.ns.lt, next_is_new F⟩
  · exact N' p hp, fun p hp => Heap.lt_size (N p hp).1⟩
theorem Op.range1 {t : Tok} (k : ∀ r t u v, (∀ p ∈ S, p.1 < r) → P (.ref r) ((r, rngObj 0 z 1 t u v) :: S)) : Op C m S (call (.type "range") [.int z t]) P := fun A env L Rel s F R =>
  F.new R fun L mm news f N hs back => range1_rows f N fun h' tk t u v hr f' N' _ => ⟨h', tk, _, rfl, back h' _ _ f' (news_rng f N' N hr).1 (news_rng f N' N hr).2, k _ t u v fun p hp => (news_rng f N' N hr).2 p (hs p hp)⟩
theorem Op.range2 {t t' : Tok} (k : ∀ r t u v, (∀ p ∈ S, p.1 < r) → P (.ref r) ((r, rngObj z y 1 t u v) :: S)) : Op C m S (call (.type "range") [.int z t, .int y t']) P := fun A env L Rel s F R =>
  F.new R fun L mm news f N hs back => range2_rows f N fun h' tk t u v hr f' N' _ => ⟨h', tk, _, rfl, back h' _ _ f' (news_rng f N' N hr).1 (news_rng f N' N hr).2, k _ t u v fun p hp => (news_rng f N' N hr).2 p (hs p hp)⟩
theorem Op.range3 {t t' t'' : Tok} {w : Int} (h0 : w ≠ 0) (hl : Builtin.divisionGoesByPylong (y - z) w = false) (k : ∀ r t u v, (∀ p ∈ S, p.1 < r) → P (.ref r) ((r, rngObj z y w t u v) :: S)) : Op C m S (call (.type "range") [.int z t, .int y t', .int w t'']) P := fun A env L Rel s F R =>
  F.new R fun L mm news f N hs back => range3_rows f N h0 (fun h' tk t u v hr f' N' _ => ⟨h', tk, _, rfl, back h' _ _ f' (news_rng f N' N hr).1 (news_rng f N' N hr).2, k _ t u v fun p hp => (news_rng f N' N hr).2 p (hs p hp)⟩) (.inl hl)
structure SetIs (w : World) (c : Addr) (name : Str) : Prop where
  set : findIn (KK w) (.ref c) (Str.ofString "__setattr__") = some (some (.builtin "object.__setattr__"))
  over : plainOver (KK w) c = true
  taker : takerIn (KK w) c name = some none
  dict : hasDictIn (KK w) c = true
theorem Op.setAttr {es' : List DictEntry} {name : Str} (M : SetIs C.w c name) (I : InstS S l c d es' n) (hg : (getL name es').isSome = true) (St : Tok → Led) (hz : ∀ t, (putL name (PyData.keyHash C.w.params name) (.str name t) v es').length ≤ 1000)
    (hc : ∀ t, Chg d (dictOf (putL name (PyData.keyHash C.w.params name) (.str name t) v es') (putN name es' n)) S (St t)) {P : Unit → Led → Prop} (k : ∀ t, P () (St t)) : Op C m S (setAttr (.ref l) name v) P := fun A env L Rel s F R =>
  F.upd R I.d fun L mm rest f N hr hs back => by
    have hne : l ≠ d := fun e => by
      obtain ⟨L, mm, news, f, N, hs⟩ : ∃ L mm news, Fr C.g L s.heap mm ∧ News C.g L s.heap news ∧ ∀ p ∈ S, p ∈ news := F.same R fun L mm news f N hs _ => ⟨L, mm, news, f, N, hs⟩
      have z1 := (N _ (hs _ I.i)).1
      have z2 := (N _ (hs _ I.d)).1
      rw [show (l, instObj c d).1 = (d, dictOf es' n).1 from e, z2] at z1
      cases z1
    exact set_dict f F.K N (InstAt.of_news N (.tail _ (hs _ I.i hne)) (.head _)) rfl M.set M.over M.taker M.dict hg rfl (.head hr) (hz _) fun h' f' N' => ⟨h', _, _, rfl, back h' _ _ f' N' (hc _), k _⟩
theorem Go.aug {name : Str} {es' : List DictEntry} {op : Operator} (ho : Pu C m S a (Is (.ref l))) (M : AttrIs C.w c name) (I : InstS S l c d es' n) (hg : getL name es' = some (some u)) (hh : handedIn u = true)
    (h : Ev C m S e fun v S1 => Op C m S1 (inplaceOp op u v) fun r S2 => Op C m S2 (PySem.setAttr (.ref l) name r) fun _ S3 => Go C m S3 rest Pf) : Go C m S (.AugAssign (.Attribute a name tpos) op e pos :: rest) Pf :=
  Go.cons fun A L hid s H R => wpAny_AugAssign_AttributeAny (Tr.at ho H R fun v h1 t1 S1 R1 ⟨e1, e2⟩ => by
    subst e1; cases e2
    refine Tr.at (s := { s with heap := h1, toks := t1 }) (Op.attr M I hg hh (P := fun r S' => r = u ∧ S' = S1) ⟨rfl, rfl⟩) H R1 fun r h2 t2 S2 R2 ⟨e1, e2⟩ => ?_
    subst e1 e2
    exact Tr.at (s := { s with heap := h2, toks := t2 }) h H R2 fun v h3 t3 S3 R3 g3 => Tr.at (s := { s with heap := h3, toks := t3 }) g3 H R3 fun r h4 t4 S4 R4 g4 => Tr.at (s := { s with heap := h4, toks := t4 }) g4 H R4 fun _ h5 t5 S5 R5 g5 => ⟨h5, t5, m, S5, rfl, R5, g5⟩)
theorem Op.iadd {t t' : Tok} : Op C m S (inplaceOp .Add (.int z t) (.int y t')) fun r S' => S' = S ∧ IsI (z + y) r := fun A env L Rel s F R => iadd_int ⟨_, _, S, rfl, R, rfl, _, rfl⟩
theorem Go.setAttr {name : Str} (h : Ev C m S e fun v S1 => Ev C m S1 a fun u S2 => Op C m S2 (PySem.setAttr u name v) fun _ S3 => Go C m S3 rest Pf) (hw : ∀ env, swapsWith e (some (.Attribute a name apos)) pos.line env = pure false := by intro _; rfl) :
    Go C m S (.Assign [.Attribute a name apos] e pos :: rest) Pf :=
  Go.cons fun A L hid s H R => plainObj_wpAny_Assign_Attribute (Tr.at h H R fun v h1 t1 S1 R1 g1 => Tr.at (s := { s with heap := h1, toks := t1 }) g1 H R1 fun u h2 t2 S2 R2 g2 => Tr.at (s := { s with heap := h2, toks := t2 }) g2 H R2 fun _ h3 t3 S3 R3 g3 => ⟨h3, t3, m, S3, rfl, R3, g3⟩) (hw _)
theorem Go.setItem (h : Ev C m S e fun v S1 => Ev C m S1 a fun u S2 => Ev C m S2 b fun i S3 => Op C m S3 (setItem u i v) fun _ S4 => Go C m S4 rest Pf) (hw : ∀ env, swapsWith e (some (.Subscript a b apos)) pos.line env = pure false := by intro _; rfl) :
    Go C m S (.Assign [.Subscript a b apos] e pos :: rest) Pf :=
  Go.cons fun A L hid s H R => wpAny_Assign_Subscript (Tr.at h H R fun v h1 t1 S1 R1 g1 => Tr.at (s := { s with heap := h1, toks := t1 }) g1 H R1 fun u h2 t2 S2 R2 g2 => Tr.at (s := { s with heap := h2, toks := t2 }) g2 H R2 fun i h3 t3 S3 R3 g3 => Tr.at (s := { s with heap := h3, toks := t3 }) g3 H R3 fun _ h4 t4 S4 R4 g4 => ⟨h4, t4, m, S4, rfl, R4, g4⟩) (hw _)
end
section
variable {α β : Type} {C : Cx} {m : Loc} {S S' : Led} {e a b test func : Expr} {es : List Expr} {rest : List Stmt} {pos apos xp sp : Pos} {P : Value → Led → Prop} {Pf : Flow → Loc → Led → Prop} {p q : Value → Prop} {x : Str} {v u : Value} {z y : Int} {n : Nat} {vs ws : List Value} {l D d c : Addr}
variable {K : Type} [DecidableEq K] {knd : PySem.KeyKind PR C.w K} {o : Obj} {kvs : List (K × Value)} {k : K} {key : Value}
theorem Op.dNotIn (hd : (d, o) ∈ S) (ho : o.IsDictOf knd kvs) (lo : (d == sysModules) = false) (hk : knd.is k key = true) : Op C m S (compareOp .NotIn key (.ref d)) fun r S' => S' = S ∧ r = .bool (!(valueAt kvs k).isSome) := fun A env L Rel s F R =>
  F.same R fun L mm news f N hs back => kdg_notin N (hs _ hd) ho lo hk _ rfl ⟨_, _, S, rfl, R, rfl, rfl⟩
theorem Op.dIn (hd : (d, o) ∈ S) (ho : o.IsDictOf knd kvs) (lo : (d == sysModules) = false) (hk : knd.is k key = true) : Op C m S (compareOp .In key (.ref d)) fun r S' => S' = S ∧ r = .bool (valueAt kvs k).isSome := fun A env L Rel s F R =>
  F.same R fun L mm news f N hs back => wpAny_in_of hk lo (kda_dict N (hs _ hd) ho).mapOf ⟨_, _, S, rfl, R, rfl, rfl⟩
theorem Op.dGet2 (hd : (d, o) ∈ S) (ho : o.IsDictOf knd kvs) (lo : (d == sysModules) = false) (hk : knd.is k key = true) : Op C m S (call (.builtin "dict.get") [.ref d, key, v]) fun r S' => S' = S ∧ r = (valueAt kvs k).getD v := fun A env L Rel s F R =>
  F.same R fun L mm news f N hs back => kdg_get2 N (hs _ hd) ho lo hk _ rfl ⟨_, _, S, rfl, R, rfl, rfl⟩
theorem Op.dItem {value slice : Expr} (hd : (d, o) ∈ S) (ho : o.IsDictOf knd kvs) (hk : knd.is k key = true) (hv : valueAt kvs k = some v) (h1 : SubOk slice := by intro _ _; rfl) (h2 : GoOk value := by intro _ _; rfl) : Op C m S (subscriptTail value slice (.ref d) key) fun r S' => S' = S ∧ r = v := fun A env L Rel s F R =>
  F.same R fun L mm news f N hs back => kda_item N (hs _ hd) ho hk hv ⟨_, _, S, rfl, R, rfl, rfl⟩ (h1 _ _) (h2 _)
theorem Op.dSet (hd : (d, o) ∈ S) (ho : o.IsDictOf knd kvs) (hk : knd.is k key = true) (hz : kvs.length ≤ sizeLine) (St : Obj → Led) (hc : ∀ o', Chg d o' S (St o')) {P : Unit → Led → Prop} (h : ∀ o', o'.IsDictOf knd (stored kvs k v) → P () (St o')) : Op C m S (setItem (.ref d) key v) P := fun A env L Rel s F R =>
  F.upd R hd fun L mm rest f N hr hs back => kda_set f N (.head hr) ho hk hz fun h' o' f' N' ho' => ⟨h', _, _, rfl, back h' o' _ f' N' (hc o'), h o' ho'⟩
theorem Ev.dget {pl : Env → Sem Bool} (ha : Pu C m S a (Is (.ref d))) (hd : (d, o) ∈ S) (ho : o.IsDictOf knd kvs) (h : Evs C m S pos (e :: es) fun ws S1 => Op C m S1 (call (.builtin "dict.get") (.ref d :: ws)) P)
    (hn : noStar (e :: es) = true := by rfl) (hc : MethOk a (Str.ofString "get") apos (e :: es) pos pl := by intro _; rfl) : Ev C m S (.Call (.Attribute a (Str.ofString "get") apos) (e :: es) [] pos) P := fun A env L Rel s F R =>
  MethodCall_ (Tr.then ha F R fun v h1 t1 S1 R1 ⟨e1, e2⟩ => by
    subst e1; cases e2
    exact F.same (h := h1) R1 fun L mm news f N hs back => kdg_method (s := { s with heap := h1, toks := t1 }) N (hs _ hd) ho (callWith_method1 (s := { s with heap := h1, toks := t1 }) (Tr.then h F R1 fun ws h1 t1 S1 R1 h2 => Op.run h2 F R1) (noStar_each hn).1 (noStar_any (noStar_each (env := env) hn).2))) (hc env)
end
section
variable {α β : Type} {C : Cx} {m : Loc} {S S' : Led} {e a b test func : Expr} {es : List Expr} {rest : List Stmt} {pos apos xp sp : Pos} {P : Value → Led → Prop} {Pf : Flow → Loc → Led → Prop} {p q : Value → Prop} {x : Str} {v u : Value} {z y : Int} {n : Nat} {vs ws : List Value} {l D d c : Addr} {ns ms : List Int}
theorem Op.item {value slice : Expr} {t : Tok} (hl : LsAt C.g S l vs) (hi : IntsAre vs ns) (h0 : 0 ≤ z) (h1 : z < ns.length) (h2 : ns.length ≤ 100000) (hs : SubOk slice := by intro _ _; rfl) (hg : GoOk value := by intro _ _; rfl) : Op C m S (subscriptTail value slice (.ref l) (.int z t)) fun r S' => S' = S ∧ IsI (ns.getD z.toNat 0) r := fun A env L Rel s F R =>
  F.same R fun L mm news f N hn back => item_list_ints (hl.at f N hn) hi h0 h1 (by omega) (fun t => ⟨_, _, S, rfl, R, rfl, _, rfl⟩) (hs _ _) (hg _)
theorem Op.itemNeg {value slice : Expr} {t : Tok} (hl : LsAt C.g S l vs) (hi : IntsAre vs ns) (h0 : z < 0) (h1 : -(ns.length : Int) ≤ z) (h2 : ns.length ≤ 100000) (hs : SubOk slice := by intro _ _; rfl) (hg : GoOk value := by intro _ _; rfl) : Op C m S (subscriptTail value slice (.ref l) (.int z t)) fun r S' => S' = S ∧ IsI (ns.getD (z + ns.length).toNat 0) r := fun A env L Rel s F R =>
  F.same R fun L mm news f N hn back => item_list_ints_neg (hl.at f N hn) hi h0 h1 (by omega) (fun t => ⟨_, _, S, rfl, R, rfl, _, rfl⟩) (hs _ _) (hg _)
/-- l[:y] -/
theorem Ev.upto (h : Ev C m S a fun v S1 => ∃ l vs ns y, v = .ref l ∧ LsAt C.g S1 l vs ∧ IntsAre vs ns ∧ ns.length ≤ 100000 ∧ 0 ≤ y ∧ Pu C m S1 e (IsI y) ∧ ∀ D ws, (∀ p ∈ S1, p.1 < D) → IntsAre ws (ns.take y.toNat) → P (.ref D) ((D, listOf ws.toArray 0) :: S1)) (base : Expr := a) (hg : ∀ o r : Value, letTemporaryGo base o r = pure () := by intro _ _; rfl) :
    Ev C m S (.Subscript a (.Slice none (some e) none sp) pos) P := fun A env L Rel s F R =>
  Subscript_ (Tr.then h F R fun v h1 t1 S1 R1 ⟨l, vs, ns, y, ev, hl, hi, hz, hy, he, k⟩ => by
    subst ev
    refine wpAny_Slice (evalPart_none_step (evalPart_some_step (Tr.then (s := { s with heap := h1, toks := t1 }) he F R1 fun u h2 t2 S2 R2 ⟨e1, t, e2⟩ => ?_)))
    subst e1 e2
    refine evalPart_none_step (kba_turn (value' := base) (slice := .Slice none (some e) none sp) (fun r => hg _ r) (F.new (h := h2) R2 fun L mm news f N hs back => ?_))
    refine kmk_slice_ints (s := { s with heap := h2, toks := t2 }) (c := _) f N (hl.at f N hs) IsPart.none (IsPart.int _ _) hi (kmk_upto hi hy) rfl (fun D ws h' f' N' lt hw _ _ => ⟨h', _, _, rfl, back h' D _ f' N' lt, k D ws (fun p hp => lt p (hs p hp)) hw⟩) rfl (fun r => hg _ r) ?_
    rw [List.size_toArray, hi.length]; exact Nat.le_trans hz (by decide))
theorem Op.addL {ws : List Value} (ha : LsAt C.g S l vs) (hb : LsAt C.g S d ws) (hi : IntsAre vs ns) (hj : IntsAre ws ms) (hz : ns.length + ms.length ≤ 100000) (k : ∀ D us, (∀ p ∈ S, p.1 < D) → IntsAre us (ns ++ ms) → P (.ref D) ((D, listOf us.toArray 0) :: S)) : Op C m S (binaryOp .Add (.ref l) (.ref d)) P := fun A env L Rel s F R =>
  F.new R fun L mm news f N hs back => kmk_add_ints f N (ha.at f N hs) (hb.at f N hs) hi hj (fun D us h' f' N' lt hu => ⟨h', _, _, rfl, back h' D _ f' N' lt, k D us (fun p hp => lt p (hs p hp)) hu⟩) (Nat.le_trans hz (by decide))
theorem Op.mulL {t : Tok} (ha : LsAt C.g S l vs) (hi : IntsAre vs ns) (h0 : 0 ≤ z) (h1 : z ≤ 100) (hz : vs.length ≤ 100) (k : ∀ D us, (∀ p ∈ S, p.1 < D) → IntsAre us (List.replicate z.toNat ns).flatten → P (.ref D) ((D, listOf us.toArray 0) :: S)) : Op C m S (binaryOp .Mult (.ref l) (.int z t)) P := fun A env L Rel s F R =>
  F.new R fun L mm news f N hs back => KM.mul f N (ha.at f N hs) hi (by omega) (by omega) (Nat.le_trans (Nat.mul_le_mul hz (show z.toNat ≤ 100 by omega)) (by decide)) fun D h' f' N' lt hu _ _ _ _ _ => ⟨h', _, _, rfl, back h' D _ f' N' lt, k D _ (fun p hp => lt p (hs p hp)) hu⟩
theorem Op.inInts {t : Tok} (hl : LsAt C.g S l vs) (hi : IntsAre vs ns) : Op C m S (compareOp .In (.int z t) (.ref l)) fun r S' => S' = S ∧ r = .bool (ns.any fun a => a == z) := fun A env L Rel s F R =>
  F.same R fun L mm news f N hs back => in_list_ints (hl.at f N hs) hi ⟨_, _, S, rfl, R, rfl, rfl⟩
theorem Op.inStrs {t : Tok} {ys : List Str} {x : Str} (hl : TpAt C.g S l vs) (hi : StrsAre vs ys) : Op C m S (compareOp .In (.str x t) (.ref l)) fun r S' => S' = S ∧ r = .bool (ys.any fun a => a == x) := fun A env L Rel s F R =>
  F.same R fun L mm news f N hs back => in_tuple_strs (hl.at f N hs) hi ⟨_, _, S, rfl, R, rfl, rfl⟩
theorem Ev.or {e2 : Expr} (h : Ev C m S e fun v S1 => ∃ c, v = .bool c ∧ if c = true then P v S1 else Ev C m S1 (.BoolOp .Or (e2 :: es) pos) P) : Ev C m S (.BoolOp .Or (e :: e2 :: es) pos) P := fun A env L Rel s F R =>
  BoolOp_or (Tr.then h F R fun v h1 t1 S1 R1 ⟨c, ev, hc⟩ => by
    subst ev
    refine wpAny_truthy_bool ?_
    cases c with
    | true => exact ⟨_, _, _, rfl, R1, hc⟩
    | false => exact Tr.run hc F R1)
theorem Ev.and {e2 : Expr} (h : Ev C m S e fun v S1 => ∃ c, v = .bool c ∧ if c = true then Ev C m S1 (.BoolOp .And (e2 :: es) pos) P else P v S1) : Ev C m S (.BoolOp .And (e :: e2 :: es) pos) P := fun A env L Rel s F R =>
  BoolOp_and (Tr.then h F R fun v h1 t1 S1 R1 ⟨c, ev, hc⟩ => by
    subst ev
    refine wpAny_truthy_bool ?_
    cases c with
    | true => exact Tr.run hc F R1
    | false => exact ⟨_, _, _, rfl, R1, hc⟩)
theorem Ev.one {op : BoolOp} (h : Ev C m S e P) : Ev C m S (.BoolOp op [e] pos) P := fun A env L Rel s F R => BoolOp_one (h A env L Rel s F R)
/-- a <= b < c -/
theorem Te.chain {x y z : Int} {c' : Expr} {P : Bool → Led → Prop} (ha : Pu C m S a (IsI x)) (hb : Pu C m S b (IsI y)) (hc : Pu C m S c' (IsI z)) (h : P (decide (x ≤ y) && decide (y < z)) S) (hm : lastMarks [.LtE, .Lt] [b, c'] = false := by rfl) : Te C m S (.Compare a [.LtE, .Lt] [b, c'] pos) P := fun X _ A env L Rel s F R =>
  isTrue_chain (Tr.then ha F R fun v h1 t1 S1 R1 ⟨e1, t, e2⟩ => by
    subst e1 e2
    refine test_link (Tr.then (s := { s with heap := h1, toks := t1 }) hb F R1 fun u h2 t2 S2 R2 ⟨e1, t', e2⟩ => ?_)
    subst e1 e2
    refine le_int (wpAny_truthy_bool ?_)
    by_cases hxy : x ≤ y
    · rw [decide_eq_true hxy, if_pos rfl]
      refine test_last (Tr.then (s := { s with heap := h2, toks := t2 }) hc F R2 fun w h3 t3 S3 R3 ⟨e1, t'', e2⟩ => ?_)
      subst e1 e2
      refine lt_int (wpAny_truthy_bool ⟨h3, t3, _, rfl, R3, ?_⟩)
      rw [decide_eq_true hxy, Bool.true_and] at h; exact h
    · rw [decide_eq_false hxy, if_neg (by simp)]
      refine ⟨h2, t2, _, rfl, R2, ?_⟩
      rw [decide_eq_false hxy, Bool.false_and] at h; exact h) hm
theorem assignNames {L : Addr} {hid : Led} {A : Around} (H : FnC C A L) {P : Loc → Led → Prop} : ∀ {es : List Expr} {vs : List Value} {xs : List Str} {m : Loc} {s : Shared}, FnR C L hid s.heap m S → es.length = vs.length → (es.map fun e => match e with | .Name x _ => some x | _ => none) = xs.map some → (xs.all (stOk C)) = true → P ((xs.zip vs).foldl (fun m p => p :: m) m) S →
    wpAny (model PR C.w) A (assignInOrder ((assignEach es (C.D.env L)).map (·.2)) vs) (fun _ s' => ∃ h' tk' m' S', s' = { s with heap := h', toks := tk' } ∧ FnR C L hid h' m' S' ∧ P m' S') NoE s
  | [], [], [], m, s, R, _, _, _, h => assignInOrder_nil ⟨_, _, m, S, rfl, R, h⟩
  | e :: es, v :: vs, x :: xs, m, s, R, hl, hx, hs, h => by
    rw [List.map_cons, List.map_cons, List.cons.injEq] at hx
    rw [List.all_cons, Bool.and_eq_true] at hs
    obtain ⟨px, rfl⟩ : ∃ px, e = .Name x px := by
      cases e <;> first | (have := hx.1; simp at this; subst this; exact ⟨_, rfl⟩) | (have := hx.1; simp at this)
    refine assignInOrder_cons (assign_Name (FnR.store H R hs.1 fun h1 t1 R1 => ?_))
    exact assignNames H (s := { s with heap := h1, toks := t1 }) R1 (by simpa using hl) hx.2 hs.2 h
  | [], _ :: _, _, m, s, R, hl, _, _, _ => by simp at hl
  | _ :: _, [], _, m, s, R, hl, _, _, _ => by simp at hl
  | [], [], _ :: _, m, s, R, _, hx, _, _ => by simp at hx
  | _ :: _, _ :: _, [], m, s, R, _, hx, _, _ => by simp at hx
end
section
variable {C : Cx} {m : Loc} {S S' : Led} {e a b test iter elt : Expr} {es : List Expr} {rest body : List Stmt} {pos tpos xp px : Pos} {P : Value → Led → Prop} {Pf : Flow → Loc → Led → Prop} {x : Str} {v u : Value} {k n : Nat} {vs us : List Value} {l : Addr} {xs : List Str}
def namesOf (es : List Expr) : List (Option Str) := es.map fun e => match e with | .Name x _ => some x | _ => none
/-- a, b = e : e a list -/
theorem Go.unpack (h : Ev C m S e fun v S1 => ∃ l us, v = .ref l ∧ LsAt C.g S1 l us ∧ es.length = us.length ∧ Go C ((xs.zip us).foldl (fun m p => p :: m) m) S1 rest Pf) (hx : namesOf es = xs.map some := by rfl) (hs : xs.all (stOk C) = true := by rfl)
    (hi : ∀ env, List.findIdx? (fun x => x.1) (assignEach es env) = none := by intro _; rfl) (hl : ∀ env, (assignEach es env).length = es.length := by intro _; rfl)
    (h1 : ∀ env, swapsWithSole [.Tuple es k tpos] e pos.line env = pure false := by intro _; rfl) (h2 : ∀ env, swappedStores [.Tuple es k tpos] e env = pure none := by intro _; rfl) : Go C m S (.Assign [.Tuple es k tpos] e pos :: rest) Pf :=
  Go.cons fun A L hid s H R => Assign_Tuple (Tr.at h H R fun v h1 t1 S1 R1 ⟨l, us, ev, hl1, hlen, g⟩ => by
    subst ev
    obtain ⟨mm, cm, ce, F, Y, N, o, oc, kn⟩ := R1
    refine kun_list (s := { s with heap := h1, toks := t1 }) F N (hl1.at F N fun p hp => List.mem_append_right _ hp) (fnFm H hid).hand (by rw [hl, List.size_toArray]; exact hlen) (hi _) fun h' F' N' => ?_
    exact wpAny_mono (assignNames (P := fun m' S' => Go C m' S' rest Pf) H (s := { s with heap := h', toks := t1 }) ⟨mm, cm, ce, F', Y, N', o, oc, kn⟩ hlen hx hs g) (fun _ _ ⟨h2, t2, m2, S2, e2, R2, p2⟩ => ⟨h2, t2, m2, S2, e2, R2, p2⟩) fun _ _ e => e) (h1 _) (h2 _)
/-- for a, b in l : a list of tuples, in the ledger -/
theorem Go.forUn (J : Nat → Loc → Led → Prop) (h : Pu C m S iter (Is (.ref l))) (hl : (l, listOf vs.toArray n) ∈ S) (h0 : J 0 m S) (hFx : ∀ i m' l', J i m' l' → (l, listOf vs.toArray n) ∈ l')
    (turn : ∀ i u m1 S1, vs[i]? = some u → J i m1 S1 → ∃ t us, u = .ref t ∧ TpAt C.g S1 t us ∧ es.length = us.length ∧ Go C ((xs.zip us).foldl (fun m p => p :: m) m1) S1 body (Lp (J (i + 1)) (Th C rest Pf))) (done : ∀ m1 S1, J vs.length m1 S1 → Go C m1 S1 rest Pf)
    (hx : namesOf es = xs.map some := by rfl) (hs : xs.all (stOk C) = true := by rfl) (hi : ∀ env, List.findIdx? (fun x => x.1) (assignEach es env) = none := by intro _; rfl) (hlen : ∀ env, (assignEach es env).length = es.length := by intro _; rfl)
    (hf : ∀ env v, foldedSetIterable iter env v = pure v := by intro _ _; rfl) : Go C m S (.For (.Tuple es k tpos) iter body [] pos :: rest) Pf :=
  Go.cons fun A L hid s H R => by
    obtain ⟨mm, cm, ce, F, _⟩ := id R
    refine For_turns F (Tr.at h H R fun v h1 t1 S1 R1 ⟨e1, e2⟩ => ?_) (hf _) PassesOwn.never
    subst e1; cases e2
    obtain ⟨mm1, cm1, ce1, F1, Y1, N1, o1, oc1, kn1⟩ := R1
    refine turns_listN (s := { s with heap := h1, toks := t1 }) (env := C.D.env L) (fun i m3 l => ∃ m1 S2 cm ce, l = (hid ++ ce) ++ S2 ∧ CellsAre cm (C.D.cl L) ce ∧ Off (hid ++ ce) S2 ∧ Off hid ce ∧ Know C.D.cs.names (C.D.cl L) m1 m3 cm ∧ J i m1 S2) (fnFm H hid).hand (List.mem_append_right _ hl) F1 N1 ⟨m, _, cm1, ce1, rfl, Y1, o1, oc1, kn1, h0⟩ ?_ ?_ ?_
    · rintro i m3 l' ⟨m1, S2, cm, ce, rfl, _, _, _, _, hJ⟩
      exact List.mem_append_right _ (hFx i m1 S2 hJ)
    · rintro i u m3 l' h' tk' I oI hin hP ⟨m1, S2, cm, ce, rfl, Y, o, oc, kn, hJ⟩ hnI0 hnI F' N'
      obtain ⟨t, us, rfl, ht, hlu, g⟩ := turn i u m1 S2 hP hJ
      have off' : Off ((I, oI) :: hid ++ ce) S2 := fun p hp q hq => by
        rcases List.mem_cons.mp hp with rfl | hp
        · exact fun e => hnI q (List.mem_append_right _ hq) e.symm
        · exact o p hp q hq
      have offc : Off ((I, oI) :: hid) ce := fun p hp q hq => by
        rcases List.mem_cons.mp hp with rfl | hp
        · exact fun e => hnI q (List.mem_append_left _ (List.mem_append_right _ hq)) e.symm
        · exact oc p hp q hq
      refine unpackN_ (s := { s with heap := h', toks := tk' }) F' N' (ht.at F' N' fun p hp => .tail _ (List.mem_append_right _ hp)) (fnFm H hid).hand (by rw [hlen, List.size_toArray]; exact hlu) (hi _) fun h2 F2 N2 => ?_
      refine wpAny_mono (assignNames (P := fun m' S' => Go C m' S' body (Lp (J (i + 1)) (Th C rest Pf))) H (s := { s with heap := h2, toks := tk' }) (hid := (I, oI) :: hid) ⟨m3, cm, ce, F2, Y, N2, off', offc, kn⟩ hlu hx hs g) ?_ fun _ _ e => e
      rintro _ _ ⟨h3, t3, m5, S5, rfl, R5, g5⟩
      refine wpAny_mono (Go.run (s := s) (t1 := t3) g5 H R5) (fun f s3 ⟨h4, t4, m4, S4, es, R4, p4⟩ => ?_) fun _ _ e => e
      subst es
      obtain ⟨mm4, cm4, ce4, F4, Y4, N4, o4, oc4, kn4⟩ := R4
      have off4 : Off (hid ++ ce4) S4 := fun p hp q hq => o4 p (.tail _ hp) q hq
      have offc4 : Off hid ce4 := fun p hp q hq => oc4 p (.tail _ hp) q hq
      have R6 : FnR C L hid h4 m4 S4 := ⟨mm4, cm4, ce4, F4, Y4, fun p hp => N4 p (.tail _ hp), off4, offc4, kn4⟩
      have fin : J (i + 1) m4 S4 → TurnP C.g (C.D.env L).locals I oI { s with heap := h', toks := tk' } (fun m3 l => ∃ m1 S2 cm ce, l = (hid ++ ce) ++ S2 ∧ CellsAre cm (C.D.cl L) ce ∧ Off (hid ++ ce) S2 ∧ Off hid ce ∧ Know C.D.cs.names (C.D.cl L) m1 m3 cm ∧ J (i + 1) m1 S2) (SOut C L hid s (Th C rest Pf)) .next { s with heap := h4, toks := t4 } := fun hJ4 =>
        ⟨h4, t4, mm4, _, rfl, F4, N4, fun p hp e => by
          rcases List.mem_append.mp hp with hp | hp
          · rcases List.mem_append.mp hp with hp | hp
            · exact hnI p (List.mem_append_left _ (List.mem_append_left _ hp)) e
            · exact oc4 _ (.head _) p hp e.symm
          · exact o4 _ (.head _) p hp e.symm, m4, S4, cm4, ce4, rfl, Y4, off4, offc4, kn4, hJ4⟩
      cases f with
      | next => exact fin p4
      | cont => exact fin p4
      | ret v => exact ⟨h4, t4, m4, S4, rfl, R6, p4⟩
      | brk => exact ⟨h4, t4, m4, S4, rfl, R6, p4⟩
    · rintro m3 l' h' tk' ⟨m1, S2, cm, ce, rfl, Y, o, oc, kn, hJ⟩ F' N'
      exact ⟨h', tk', m1, S2, rfl, ⟨m3, cm, ce, F', Y, N', o, oc, kn⟩, done m1 S2 hJ⟩
end
def clos (cells : List (Str × Addr)) : List (Str × NameKind) → List (Str × Addr) → List (Str × Addr)
  | [], acc => acc
  | (y, k) :: r, acc => clos cells r (if k == .free then (y, (cells.lookup y).getD 0) :: acc else acc)
theorem closure_eq {scope : Scope} {env : Env} (h : ∀ p ∈ scope.names, p.2 = .free → ∃ c, env.cells.lookup p.1 = some c) : closureFor scope env = pure (clos env.cells scope.names []) := by
  unfold closureFor
  have : ∀ (names : List (Str × NameKind)) (acc : List (Str × Addr)), (∀ p ∈ names, p.2 = .free → ∃ c, env.cells.lookup p.1 = some c) →
      (forIn names acc (fun (x : Str × NameKind) (r : List (Str × Addr)) => (if (x.2 == .free) = true then (fun a => ForInStep.yield ((x.1, a) :: r)) <$> cellOf env x.1 else pure (ForInStep.yield r) : Sem (ForInStep (List (Str × Addr)))))) = pure (clos env.cells names acc) := by
    intro names
    induction names with
    | nil => intro acc _; rw [List.forIn_nil]; rfl
    | cons p r ih =>
      intro acc hp
      rw [List.forIn_cons]
      obtain ⟨y, k⟩ := p
      dsimp only [clos]
      by_cases hk : (k == .free) = true
      · obtain ⟨c, hc⟩ := hp _ (.head _) (by simpa using hk)
        rw [if_pos hk, if_pos hk]
        have e : cellOf env y = pure c := by unfold cellOf; rw [show env.cells.lookup y = some c from hc]
        rw [e, show env.cells.lookup y = some c from hc]
        simp only [map_pure, pure_bind]
        exact ih _ fun q hq => hp q (.tail _ hq)
      · rw [if_neg hk, if_neg hk]
        simp only [pure_bind]
        exact ih _ fun q hq => hp q (.tail _ hq)
  simp only [bind_pure_comp]
  rw [this _ _ h]
  simp
theorem clos_get {cells : List (Str × Addr)} {y : Str} : ∀ {names : List (Str × NameKind)} {acc : List (Str × Addr)}, acc.lookup y = some ((cells.lookup y).getD 0) ∨ names.lookup y = some .free → (clos cells names acc).lookup y = some ((cells.lookup y).getD 0)
  | [], acc, h => h.elim id fun e => by cases e
  | (n, k) :: r, acc, h => by
    rw [clos]
    refine clos_get ?_
    by_cases hy : (y == n) = true
    · obtain rfl : y = n := by simpa using hy
      by_cases hk : (k == .free) = true
      · rw [if_pos hk, List.lookup_cons, hy]; exact .inl rfl
      · rw [if_neg hk]
        refine h.imp id fun e => ?_
        rw [List.lookup_cons, hy] at e
        exact absurd (by rw [Option.some.inj e]; rfl) hk
    · have hy' := Bool.eq_false_iff.mpr hy
      refine h.imp (fun e => ?_) fun e => ?_
      · split
        · rw [List.lookup_cons, hy']; exact e
        · exact e
      · rw [List.lookup_cons, hy'] at e; exact e
theorem relabel_get {scope : Scope} {env : Env} {y : Str} : (relabel scope env).names.lookup y = (scope.names.lookup y).map fun k => if (k == .free && env.scope.kind == .function && env.kindOf y == some .cell) = true then NameKind.cell else k := by
  show (scope.names.map fun (p : Str × NameKind) => if (p.2 == .free && env.scope.kind == .function && env.kindOf p.1 == some .cell) = true then (p.1, NameKind.cell) else (p.1, p.2)).lookup y = _
  have e : ∀ p : Str × NameKind, (if (p.2 == .free && env.scope.kind == .function && env.kindOf p.1 == some .cell) = true then (p.1, NameKind.cell) else (p.1, p.2)) = (p.1, if (p.2 == .free && env.scope.kind == .function && env.kindOf p.1 == some .cell) = true then NameKind.cell else p.2) := fun p => by split <;> rfl
  simp only [e]
  induction scope.names with
  | nil => rfl
  | cons p r ih =>
    obtain ⟨n, k⟩ := p
    rw [List.map_cons, List.lookup_cons, List.lookup_cons]
    by_cases hy : (y == n) = true
    · rw [hy]
      obtain rfl : y = n := by simpa using hy
      rfl
    · rw [Bool.eq_false_iff.mpr hy]; exact ih
/-- the surroundings within a comprehension -/
@[reducible] def inner (C : Cx) (names : List (Str × NameKind)) : Cx := { C with nm := names, fn := false }
/-- what the text of a comprehension must show -/
def compOk (C : Cx) (m : Loc) (scope : Scope) (x : Str) : Bool :=
  scope.kind == .function && scope.names.lookup x == some .local && (m.all fun p => !(scope.names.lookup p.1 == some .local)) && (scope.names.all fun p => !(p.2 == .cell)) && (scope.names.all fun p => !(p.2 == .free) || C.nm.lookup p.1 == some .cell) &&
    (scope.names.all fun p => !(p.2 == .local) || scope.names.lookup p.1 == some .local)
structure CompOk (C : Cx) (m : Loc) (scope : Scope) (x : Str) : Prop where
  kind : scope.kind = .function
  x : scope.names.lookup x = some .local
  m : ∀ y v, m.lookup y = some v → scope.names.lookup y ≠ some .local
  cell : ∀ y ∈ scope.names, y.2 ≠ .cell
  free : ∀ y ∈ scope.names, y.2 = .free → C.nm.lookup y.1 = some .cell
  loc : ∀ y ∈ scope.names, y.2 = .local → scope.names.lookup y.1 = some .local
theorem mem_lookup {α : Type} {x : Str} {v : α} : ∀ {l : List (Str × α)}, l.lookup x = some v → (x, v) ∈ l
  | [], h => by cases h
  | (y, u) :: r, h => by
    rw [List.lookup_cons] at h
    by_cases e : (x == y) = true
    · rw [e] at h
      obtain rfl : u = v := Option.some.inj h
      obtain rfl : x = y := by simpa using e
      exact .head _
    · rw [Bool.eq_false_iff.mpr e] at h
      exact .tail _ (mem_lookup h)
theorem compOk_is {C : Cx} {m : Loc} {scope : Scope} {x : Str} (h : compOk C m scope x = true) : CompOk C m scope x := by
  unfold compOk at h
  simp only [Bool.and_eq_true, List.all_eq_true, Bool.not_eq_true', Bool.or_eq_true, beq_eq_false_iff_ne, beq_iff_eq, ne_eq] at h
  obtain ⟨⟨⟨⟨⟨h1, h2⟩, h3⟩, h4⟩, h5⟩, h6⟩ := h
  exact ⟨h1, h2, fun y v hy => h3 _ (mem_lookup hy), h4, fun y hy hf => (h5 y hy).elim (fun q => absurd hf q) id, fun y hy hf => (h6 y hy).elim (fun q => absurd hf q) id⟩
section
variable {C : Cx} {m : Loc} {S S' : Led} {e iter elt : Expr} {pos px : Pos} {P : Value → Led → Prop} {x : Str} {v u : Value} {scope : Scope}
theorem compFm {A : Around} {env : Env} {L : Addr} {Rel : Heap → Loc → Led → Prop} {own pre : Led} {Cc : Addr} {oC : Obj} {cm mm : Str → Option Value} (F : Fm C A env L Rel) (hfn : C.fn = true) (ok : CompOk C m scope x) (hC : (Cc, oC) ∈ own) (hns : ∀ h : Heap, h.get? Cc = some oC → h.Ns Cc cm) (hx : cm x = some u)
    (cell : ∀ y v, m.lookup y = some v → C.nm.lookup y = some .cell → ∃ c o, env.cells.lookup y = some c ∧ (c, o) ∈ pre ∧ o.data = .cell (some v)) :
    Fm (inner C scope.names) A (compEnvC scope (clos env.cells scope.names []) Cc env) L fun h m' S => m' = (x, u) :: m ∧ Fr C.g L h mm ∧ News C.g L h ((own ++ pre) ++ S) ∧ Off (own ++ pre) S := by
  obtain ⟨hk, hgl, hbl, hkn⟩ := F.fnk hfn
  have kind : ∀ y, (compEnvC scope (clos env.cells scope.names []) Cc env).kindOf y = (scope.names.lookup y).map fun k => if (k == .free && env.scope.kind == .function && env.kindOf y == some .cell) = true then NameKind.cell else k := fun y => relabel_get
  refine ⟨F.hand, F.room, F.unit, F.K, F.T, ?_, ?_, ?_, ?_, F.call, fun h => nomatch h⟩
  · rintro h m' S ⟨rfl, f, N, off⟩
    exact ⟨own ++ pre, mm, f, N, off, fun h' S' f' N' o' => ⟨rfl, f', N', o'⟩, fun h => nomatch h⟩
  · rintro s m' S y pos v Q ⟨rfl, f, N, off⟩ hv hy hdb hq
    have hCN : s.heap.get? Cc = some oC := (N _ (List.mem_append_left _ (List.mem_append_left _ hC))).1
    rw [List.lookup_cons] at hv
    by_cases e : (y == x) = true
    · rw [e] at hv
      obtain rfl : u = v := Option.some.inj hv
      obtain rfl : y = x := by simpa using e
      exact ldVarK (hns _ hCN) hx hq ok.kind (by rw [kind, ok.x]; rfl) hdb
    · rw [Bool.eq_false_iff.mpr e] at hv
      have hfree : scope.names.lookup y = some .free := by
        have h1 := ok.m y v hv
        unfold varN at hy
        split at hy
        · rename_i q; exact absurd q h1
        · rename_i q; exact absurd rfl (ok.cell _ (mem_lookup q))
        · assumption
        · cases hy
      have hcell := ok.free _ (mem_lookup hfree) rfl
      obtain ⟨c, ob, hc, hm, hd⟩ := cell y v hv hcell
      refine kcf_cell (c := c) N (by rw [clos_get (.inr hfree), hc]; rfl) (List.mem_append_left _ (List.mem_append_right _ hm)) hd hq ok.kind ?_ hdb
      rw [kind, hfree, (hkn y).1, hcell, hk]; rfl
  · rintro s m' S y pos v Q ⟨rfl, f, N, off⟩ hy hdb e hq
    obtain ⟨_, _, _, _, _, T⟩ := F.T
    exact LCgL.ld_global f F.K T e hq hgl ok.kind (by rw [kind, globN_is hy]; rfl) hdb
  · rintro s m' S y pos v Q ⟨rfl, f, N, off⟩ hy hdb e hb hn hq
    obtain ⟨_, _, _, _, _, T⟩ := F.T
    exact LCgL.ld_built f F.K T e hb hn hq hgl hbl ok.kind (by rw [kind, globN_is hy]; rfl) hdb
/-- what a comprehension's block owes: its source, the word J over its turns, its end -/
structure CompP (C : Cx) (m : Loc) (S1 : Led) (v : Value) (elt : Expr) (x : Str) (names : List (Str × NameKind)) (P : Value → Led → Prop) (n : Nat) (Pv : Nat → Value → Prop) (Fx : Led) (J : Nat → List Value → Led → Prop) : Prop where
  it : Itr C m S1 v n Pv Fx
  sz : n ≤ 100000
  h0 : J 0 [] S1
  fx : ∀ i ys l, J i ys l → ∀ p ∈ Fx, p ∈ l
  turn : ∀ i u ys S2, i < n → Pv i u → J i ys S2 → Ev (inner C names) ((x, u) :: m) S2 elt fun y S3 => J (i + 1) (ys ++ [y]) S3
  done : ∀ D k ys S2, J n ys S2 → ys.length = n → (∀ p ∈ S1, p.1 < D) → (∀ p ∈ S2, p.1 ≠ D) → P (.ref D) ((D, listOf ys.toArray k) :: S2)
theorem Ev.comp (h : Ev C m S iter fun v S1 => ∃ n Pv Fx J, CompP C m S1 v elt x scope.names P n Pv Fx J) (hok : compOk C m scope x = true := by rfl) (hfn : C.fn = true := by rfl) (hs : ∀ env v, foldedSetIterable iter env v = pure v := by intro _ _; rfl) :
    Ev C m S (.ListComp elt [⟨.Name x px, iter, [], 0⟩] scope pos) P := fun A env L Rel s F R => by
  have ok := compOk_is hok
  obtain ⟨hk, hgl, hbl, hkn⟩ := F.fnk hfn
  refine ListComp_at (closure_eq fun p hp hf => (hkn p.1).2 (ok.free p hp hf)) ok.kind ok.loc (Tr.then h F R fun v h1 t1 S1 R1 ⟨n, Pv, Fx, J, B⟩ => ?_) (hs _)
  refine B.it.go A env L Rel { s with heap := h1, toks := t1 } F R1 _ fun h0' tk o fp St R0 hfr W hfp hob hst => ?_
  obtain ⟨pre, mm, f, N, off, back, cell⟩ := F.opn R0
  obtain ⟨Z, F2, N2⟩ := src_of (s := { s with heap := h0', toks := tk }) (A := A) hfr f N W (fun b hb => (hfp b hb).imp id fun ⟨o, ho⟩ => ⟨o, ho⟩) hob hst
  refine comp_eval (s := { s with heap := h0'.push o, toks := tk }) (fun i ys l => ∃ S2, l = pre ++ S2 ∧ Off pre S2 ∧ J i ys S2) Z (Nat.le_trans B.sz (by decide)) ok.cell ok.kind ok.x F2 N2 ⟨S1, rfl, off, B.h0⟩ ?_ ?_ ?_
  · rintro i ys l ⟨S2, rfl, _, hJ⟩ p hp
    exact List.mem_append_right _ (B.fx i ys S2 hJ p hp)
  · rintro i u ys l h' tk' D Cc oI oC k cm E' hin hP ⟨S2, rfl, off2, hJ⟩ hD offo F3 N3 hn3 hc3
    obtain ⟨oC', hoC, hCns⟩ := ns_obj hn3
    have eC : oC = oC' := Option.some.inj ((N3 _ (.tail _ (.tail _ (.head _)))).1.symm.trans hoC)
    subst eC
    refine wpAny_mono (Tr.run (C := inner C scope.names) (m := (x, u) :: m) (s := s) (t1 := tk') (B.turn i u ys S2 hin hP hJ) (compFm (own := [(h0'.objs.size, oI), (D, listOf ys.toArray k), (Cc, oC)]) (pre := pre) (mm := mm) F hfn ok (.tail _ (.tail _ (.head _))) hCns hc3 (cell hfn)) ⟨rfl, F3, by rw [List.append_assoc]; exact N3, fun p hp q hq => ?_⟩) ?_ fun _ _ e => e.elim
    · rcases List.mem_append.mp hp with hp | hp
      · exact offo p hp q (List.mem_append_right _ hq)
      · exact off2 p hp q hq
    · rintro y _ ⟨h5, t5, S5, rfl, ⟨_, F5, N5, off5⟩, hJ5⟩
      exact ⟨h5, t5, pre ++ S5, rfl, F5, by rw [List.append_assoc] at N5; exact N5, fun p hp q hq => by
        rcases List.mem_append.mp hq with hq | hq
        · exact offo p hp q (List.mem_append_left _ hq)
        · exact off5 p (List.mem_append_left _ hp) q hq, S5, rfl, fun p hp q hq => off5 p (List.mem_append_right _ hp) q hq, hJ5⟩
  · rintro D h' tk' ys l k ⟨S2, rfl, off2, hJ⟩ hlen hlt hD F3 N3
    exact ⟨h', tk', (D, listOf ys.toArray k) :: S2, rfl, back h' _ F3 (fun p hp => N3 p (by
      rcases List.mem_append.mp hp with hp | hp
      · exact .tail _ (List.mem_append_left _ hp)
      · rcases List.mem_cons.mp hp with rfl | hp
        · exact .head _
        · exact .tail _ (List.mem_append_right _ hp))) (fun p hp q hq => by
      rcases List.mem_cons.mp hq with rfl | hq
      · exact hD p (List.mem_append_left _ hp)
      · exact off2 p hp q hq), B.done D k ys S2 hJ hlen (fun p hp => hlt p (List.mem_append_right _ hp)) fun p hp => hD p (List.mem_append_right _ hp)⟩
/-- x = [..], the name in the frame -/
theorem Go.assignComp {y : Str} {py spos : Pos} {rest : List Stmt} {Pf : Flow → Loc → Led → Prop} (h : Ev C m S iter fun v S1 => ∃ n Pv Fx J, CompP C m S1 v elt x scope.names (fun r S' => Go C ((y, r) :: m) S' rest Pf) n Pv Fx J) (hy : (C.D.cs.names.lookup y == some .local) = true := by rfl) (hsw : ∀ L, swapsWith (.ListComp elt [⟨.Name x px, iter, [], 0⟩] scope pos) (some (.Name y py)) spos.line (C.D.env L) = pure true := by intro _; with_unfolding_all rfl)
    (hok : compOk C m scope x = true := by rfl) (hs : ∀ env v, foldedSetIterable iter env v = pure v := by intro _ _; rfl) : Go C m S (.Assign [.Name y py] (.ListComp elt [⟨.Name x px, iter, [], 0⟩] scope pos) spos :: rest) Pf :=
  Go.cons fun A L hid s H R => by
    have ok := compOk_is hok
    have F := fnFm H hid
    obtain ⟨hk, hgl, hbl, hkn⟩ := F.fnk H.fn
    have hy' : (C.D.env L).kindOf y = some .local := by show C.D.cs.names.lookup y = _; simpa using hy
    refine Assign_ListComp_at (hsw L) (closure_eq fun p hp hf => (hkn p.1).2 (ok.free p hp hf)) ok.kind ok.loc (Tr.at h H R fun v h1 t1 S1 R1 ⟨n, Pv, Fx, J, B⟩ => ?_) (hs _)
    refine B.it.go A _ _ _ { s with heap := h1, toks := t1 } F R1 _ fun h0' tk o fp St R0 hfr W hfp hob hst => ?_
    have cell := (F.opn R0)
    obtain ⟨mm, cm, ce, f, Y, N, off, oc, kn⟩ := R0
    have cell : ∀ y v, m.lookup y = some v → C.nm.lookup y = some .cell → ∃ c o, (C.D.env L).cells.lookup y = some c ∧ (c, o) ∈ hid ++ ce ∧ o.data = .cell (some v) := fun y v hv hc => by
      rw [H.nm] at hc
      rcases kn y v hv with ⟨h1, _⟩ | ⟨_, h2, c, h3⟩
      · rw [hc] at h1; cases h1
      · obtain ⟨o, ho, hd⟩ := cells_mem Y h3
        exact ⟨c, o, h3, List.mem_append_right _ ho, h2 ▸ hd⟩
    obtain ⟨Z, F2, N2⟩ := src_of (s := { s with heap := h0', toks := tk }) (A := A) hfr f N W (fun b hb => (hfp b hb).imp id fun ⟨o, ho⟩ => ⟨o, ho⟩) hob hst
    refine comp_assign (Q := SOut C L hid s (Th C rest Pf)) (s := { s with heap := h0'.push o, toks := tk }) (env := C.D.env L) (fun i ys l => ∃ S2, l = (hid ++ ce) ++ S2 ∧ Off (hid ++ ce) S2 ∧ J i ys S2) Z (Nat.le_trans B.sz (by decide)) ok.cell ok.kind ok.x F2 N2 ⟨S1, rfl, off, B.h0⟩ ?_ hy' (by show (C.D.cs.kind == _ || C.D.cs.kind == _ && _) = false; rw [H.kind]; rfl) ?_ ?_
    · rintro i ys l ⟨S2, rfl, _, hJ⟩ p hp
      exact List.mem_append_right _ (B.fx i ys S2 hJ p hp)
    · rintro i u ys l h' tk' D Cc oI oC k cm' E' hin hP ⟨S2, rfl, off2, hJ⟩ hD offo F3 N3 hn3 hc3
      obtain ⟨oC', hoC, hCns⟩ := ns_obj hn3
      have eC : oC = oC' := Option.some.inj ((N3 _ (.tail _ (.tail _ (.head _)))).1.symm.trans hoC)
      subst eC
      refine wpAny_mono (Tr.run (C := inner C scope.names) (m := (x, u) :: m) (s := s) (t1 := tk') (B.turn i u ys S2 hin hP hJ) (compFm (own := [(h0'.objs.size, oI), (D, listOf ys.toArray k), (Cc, oC)]) (pre := hid ++ ce) (mm := mm) F H.fn ok (.tail _ (.tail _ (.head _))) hCns hc3 cell) ⟨rfl, F3, by rw [List.append_assoc]; exact N3, fun p hp q hq => ?_⟩) ?_ fun _ _ e => e.elim
      · rcases List.mem_append.mp hp with hp | hp
        · exact offo p hp q (List.mem_append_right _ hq)
        · exact off2 p hp q hq
      · rintro y _ ⟨h5, t5, S5, rfl, ⟨_, F5, N5, off5⟩, hJ5⟩
        exact ⟨h5, t5, (hid ++ ce) ++ S5, rfl, F5, by rw [List.append_assoc] at N5; exact N5, fun p hp q hq => by
          rcases List.mem_append.mp hq with hq | hq
          · exact offo p hp q (List.mem_append_left _ hq)
          · exact off5 p (List.mem_append_left _ hp) q hq, S5, rfl, fun p hp q hq => off5 p (List.mem_append_right _ hp) q hq, hJ5⟩
    · rintro D h' tk' ys l k ⟨S2, rfl, off2, hJ⟩ hlen hlt hD F3 N3
      exact ⟨h', tk', (y, .ref D) :: m, (D, listOf ys.toArray k) :: S2, rfl, ⟨_, cm, ce, F3, Y, fun p hp => N3 p (by
        rcases List.mem_append.mp hp with hp | hp
        · exact .tail _ (List.mem_append_left _ hp)
        · rcases List.mem_cons.mp hp with rfl | hp
          · exact .head _
          · exact .tail _ (List.mem_append_right _ hp)), fun p hp q hq => (by
        rcases List.mem_cons.mp hq with rfl | hq
        · exact hD p (List.mem_append_left _ hp)
        · exact off2 p hp q hq), oc, kn.put (fun z hz => ⟨if_neg hz, rfl⟩) (.inl ⟨hy', if_pos rfl⟩)⟩, B.done D k ys S2 hJ hlen (fun p hp => hlt p (List.mem_append_right _ hp)) fun p hp => hD p (List.mem_append_right _ hp)⟩
end
section
variable (prog : Program) (w : World)
def mixIs : Str ⊕ Int → Value → Bool
  | .inl x, v => Value.isStrOf x v
  | .inr i, v => Value.isInt i v
def mixHash : Str ⊕ Int → Int
  | .inl x => hashStr w x
  | .inr i => hashInt i
theorem eqBool_str_int {prog : Program} {w : World} {A : Around} {E : Value → Shared → Prop} {s : Shared} {a : Str} {t : Tok} {b : Int} {u : Tok} {Q : Bool → Shared → Prop} (h : Q false s) : wpAny (model prog w) A (eqBool (.str a t) (.int b u)) Q E s := by
  unfold eqBool
  refine wpAny_holding ?_
  rw [if_neg (by simp)]
  exact wpAny_bind (EqMixed.eq_str_int (wpAny_truthy_bool h))
theorem eqBool_int_str {prog : Program} {w : World} {A : Around} {E : Value → Shared → Prop} {s : Shared} {a : Int} {t : Tok} {b : Str} {u : Tok} {Q : Bool → Shared → Prop} (h : Q false s) : wpAny (model prog w) A (eqBool (.int a t) (.str b u)) Q E s := by
  unfold eqBool
  refine wpAny_holding ?_
  rw [if_neg (by simp)]
  exact wpAny_bind (EqMixed.eq_int_str (wpAny_truthy_bool h))
def mixKind : KeyKind prog w (Str ⊕ Int) where
  is := mixIs
  hash := mixHash w
  inj := fun v a b ha hb => by
    cases a with
    | inl x => cases b with
      | inl y => exact congrArg _ ((strKind prog w).inj v x y ha hb)
      | inr j => obtain ⟨t, rfl⟩ := Value.isStrOf_shape ha; simp [mixIs, Value.isInt] at hb
    | inr i => cases b with
      | inl y => obtain ⟨t, rfl⟩ := Value.isStrOf_shape hb; simp [mixIs, Value.isInt] at ha
      | inr j => exact congrArg _ ((intKind prog w).inj v i j ha hb)
  byValue := fun k v h => by
    cases k with
    | inl x => exact (strKind prog w).byValue x v h
    | inr i => exact (intKind prog w).byValue i v h
  pyHash := fun {A E s k v Q} hv h => by
    cases k with
    | inl x => exact (strKind prog w).pyHash (k := x) hv h
    | inr i => exact (intKind prog w).pyHash (k := i) hv h
  eqBool := fun {A E s a b u v Q} hu hv h => by
    cases a with
    | inl x => cases b with
      | inl y =>
        refine (strKind prog w).eqBool (a := x) (b := y) hu hv ?_
        have e : decide ((Sum.inl x : Str ⊕ Int) = Sum.inl y) = decide (x = y) := by by_cases hxy : x = y <;> simp [hxy]
        rw [e] at h; exact h
      | inr j =>
        obtain ⟨t, rfl⟩ := Value.isStrOf_shape hu
        obtain ⟨t', rfl⟩ := Value.isInt_shape hv
        exact eqBool_str_int (by simpa using h)
    | inr i => cases b with
      | inl y =>
        obtain ⟨t, rfl⟩ := Value.isInt_shape hu
        obtain ⟨t', rfl⟩ := Value.isStrOf_shape hv
        exact eqBool_int_str (by simpa using h)
      | inr j =>
        refine (intKind prog w).eqBool (a := i) (b := j) hu hv ?_
        have e : decide ((Sum.inr i : Str ⊕ Int) = Sum.inr j) = decide (i = j) := by by_cases hxy : i = j <;> simp [hxy]
        rw [e] at h; exact h
  «strs» := fun k x t v h => by
    cases k with
    | inl y =>
      exact (strKind prog w).«strs» y x t v h
    | inr i => simp [mixIs, Value.isInt] at h
end
structure Ad where
  (g gd nl nd ca ma oa : Addr)
abbrev tupOf (vs : List Value) : Obj := { cls := .type "tuple", data := .seq vs.toArray }
abbrev gdEs (w : World) (t1 t2 t3 : Tok) (nl ma oa : Addr) : List DictEntry :=
  [⟨PyData.keyHash w.params (Str.ofString "netlist"), .str (Str.ofString "netlist") t1, .ref nl⟩, ⟨PyData.keyHash w.params (Str.ofString "made"), .str (Str.ofString "made") t2, .ref ma⟩, ⟨PyData.keyHash w.params (Str.ofString "opposite"), .str (Str.ofString "opposite") t3, .ref oa⟩]
abbrev ndEs (w : World) (t1 t2 t3 t4 t5 : Tok) (v1 v3 v4 : Value) (cnt : Int) (tc : Tok) (ca : Addr) : List DictEntry :=
  [⟨PyData.keyHash w.params (Str.ofString "name"), .str (Str.ofString "name") t1, v1⟩, ⟨PyData.keyHash w.params (Str.ofString "count"), .str (Str.ofString "count") t2, .int cnt tc⟩,
   ⟨PyData.keyHash w.params (Str.ofString "inputs"), .str (Str.ofString "inputs") t3, v3⟩, ⟨PyData.keyHash w.params (Str.ofString "outputs"), .str (Str.ofString "outputs") t4, v4⟩,
   ⟨PyData.keyHash w.params (Str.ofString "cells"), .str (Str.ofString "cells") t5, .ref ca⟩]
/-- the cells' list as the heap bears it: a tuple a cell, its inputs' tuple -/
inductive CellsIn (R : List (Addr × Obj)) : Nat → List Value → List Cell → Prop
  | nil {i} : CellsIn R i [] []
  | cons {i : Nat} {q ti : Addr} {t1 t2 : Tok} {ivs : List Value} {c : Cell} {vs : List Value} {cs : List Cell} : (q, tupOf [.str c.str t1, .int ((4 + i : Nat) : Int) t2, .ref ti, .none]) ∈ R → (ti, tupOf ivs) ∈ R → IntsAre ivs (c.ins.map fun j => ((j : Nat) : Int)) →
      CellsIn R (i + 1) vs cs → CellsIn R i (.ref q :: vs) (c :: cs)
theorem CellsIn.mono {R R' : List (Addr × Obj)} {i : Nat} {vs : List Value} {cs : List Cell} (h : CellsIn R i vs cs) (hs : ∀ p ∈ R, p ∈ R') : CellsIn R' i vs cs := by
  induction h with
  | nil => exact .nil
  | cons a b c _ ih => exact .cons (hs _ a) (hs _ b) c ih
theorem CellsIn.snoc {R : List (Addr × Obj)} {i : Nat} {vs : List Value} {cs : List Cell} (h : CellsIn R i vs cs) {q ti : Addr} {t1 t2 : Tok} {ivs : List Value} {c : Cell}
    (a : (q, tupOf [.str c.str t1, .int ((4 + (i + cs.length) : Nat) : Int) t2, .ref ti, .none]) ∈ R) (b : (ti, tupOf ivs) ∈ R) (e : IntsAre ivs (c.ins.map fun j => ((j : Nat) : Int))) : CellsIn R i (vs ++ [.ref q]) (cs ++ [c]) := by
  induction h with
  | nil => exact .cons (by simpa using a) b e .nil
  | @cons j _ _ _ _ _ _ _ cs' a' b' e' h' ih => exact .cons a' b' e' (ih (by
      have : j + 1 + cs'.length = j + (cs'.length + 1) := by omega
      rw [this]; simpa using a))
theorem CellsIn.len {R : List (Addr × Obj)} {i : Nat} {vs : List Value} {cs : List Cell} (h : CellsIn R i vs cs) : vs.length = cs.length := by
  induction h with
  | nil => rfl
  | cons _ _ _ _ ih => simp [ih]
abbrev MKey := List (Str ⊕ Int)
def KeyIn (prog : Program) (w : World) (R : List (Addr × Obj)) (ks : MKey) (a : Addr) : Prop := ∃ items, (a, tupOf items) ∈ R ∧ ItemsAre (mixKind prog w) ks items
/-- what a key of the memory means -/
def keyOf (c : Cell) : MKey := .inl c.str :: c.ins.map fun j : Nat => .inr (j : Int)
structure MadeOk (prog : Program) (w : World) (R : List (Addr × Obj)) (cs : List Cell) (mo : Obj) (xs : List (MKey × Addr × Value)) : Prop where
  ex : mo.ExactDict
  da : ∃ es ep, mo.data = .dict es ep ∧ es.toList = xs.map (entryOfKey (tupleKind (mixKind prog w)))
  nd : (xs.map (·.1)).Nodup
  len : xs.length ≤ cs.length
  key : ∀ x ∈ xs, KeyIn prog w R x.1 x.2.1
  sem : ∀ x ∈ xs, ∃ (c : Cell) (o : Nat) (t : Tok), x.1 = keyOf c ∧ x.2.2 = .int (o : Int) t ∧ o < 4 + cs.length ∧ (∀ j ∈ c.ins, j < 4 + cs.length) ∧ ∀ r, r < 4 → val r cs o = c.v (val r cs)
structure OppOk (prog : Program) (w : World) (cs : List Cell) (oo : Obj) (kvs : List (Int × Value)) : Prop where
  d : oo.IsDictOf (intKind prog w) kvs
  len : kvs.length ≤ 2 * cs.length
  sem : ∀ kv ∈ kvs, ∃ (k v : Nat) (t : Tok), kv = ((k : Int), .int (v : Int) t) ∧ k < 4 + cs.length ∧ v < 4 + cs.length ∧ ∀ r, r < 4 → val r cs v = 1 - val r cs k
theorem val_app {r : Nat} {cs : List Cell} (c : Cell) {i : Nat} (h : i < 4 + cs.length) : val r (cs ++ [c]) i = val r cs i := val_mono r cs [c] h
theorem MadeOk.mono {prog : Program} {w : World} {R R' : List (Addr × Obj)} {cs : List Cell} {mo : Obj} {xs : List (MKey × Addr × Value)} (h : MadeOk prog w R cs mo xs) (hs : ∀ p ∈ R, p ∈ R') (c : Cell) : MadeOk prog w R' (cs ++ [c]) mo xs where
  ex := h.ex
  da := h.da
  nd := h.nd
  len := by have := h.len; simp; omega
  key := fun x hx => let ⟨items, a, b⟩ := h.key x hx; ⟨items, hs _ a, b⟩
  sem := fun x hx => by
    obtain ⟨d, o, t, e1, e2, h1, h2, h3⟩ := h.sem x hx
    refine ⟨d, o, t, e1, e2, by simp; omega, fun j hj => by have := h2 j hj; simp; omega, fun r hr => ?_⟩
    rw [val_app c h1, h3 r hr]
    exact cell_v_congr d fun j hj => (val_app c (h2 j hj)).symm
theorem OppOk.mono {prog : Program} {w : World} {cs : List Cell} {oo : Obj} {kvs : List (Int × Value)} (h : OppOk prog w cs oo kvs) (c : Cell) : OppOk prog w (cs ++ [c]) oo kvs where
  d := h.d
  len := by have := h.len; simp; omega
  sem := fun kv hkv => by
    obtain ⟨k, v, t, e, h1, h2, h3⟩ := h.sem kv hkv
    refine ⟨k, v, t, e, by simp; omega, by simp; omega, fun r hr => ?_⟩
    rw [val_app c h1, val_app c h2, h3 r hr]
theorem stored_len {K : Type} [DecidableEq K] (kvs : List (K × Value)) (k : K) (v : Value) : (stored kvs k v).length ≤ kvs.length + 1 := by
  unfold stored
  split
  · simp
  · simp
theorem stored_mem {K : Type} [DecidableEq K] {kvs : List (K × Value)} {k : K} {v : Value} {p : K × Value} (h : p ∈ stored kvs k v) : p = (k, v) ∨ p ∈ kvs := by
  unfold stored at h
  split at h
  · obtain ⟨q, hq, e⟩ := List.mem_map.mp h
    split at e
    · rename_i hk; left; rw [← e, hk]
    · right; rw [← e]; exact hq
  · rcases List.mem_append.mp h with h | h
    · exact .inr h
    · exact .inl (List.mem_singleton.mp h)
theorem stored_same {K : Type} [DecidableEq K] (kvs : List (K × Value)) (k : K) (v : Value) : valueAt (stored kvs k v) k = some v := by
  unfold stored valueAt
  split
  · rename_i h
    induction kvs with
    | nil => simp at h
    | cons q r ih =>
      by_cases hq : q.1 = k
      · simp [hq]
      · simp only [List.map_cons, hq, if_false, List.find?_cons, decide_false]
        exact ih (by simpa [hq] using h)
  · rename_i h
    rw [List.find?_append]
    have : (kvs.find? fun kv => decide (kv.1 = k)) = none := by
      rw [List.find?_eq_none]
      intro q hq hk
      exact h (List.any_eq_true.mpr ⟨q, hq, hk⟩)
    simp [this]
theorem stored_ne {K : Type} [DecidableEq K] (kvs : List (K × Value)) {k k' : K} (v : Value) (hne : k' ≠ k) : valueAt (stored kvs k v) k' = valueAt kvs k' := by
  unfold stored valueAt
  split
  · rename_i h
    clear h
    induction kvs with
    | nil => rfl
    | cons q r ih =>
      by_cases hq : q.1 = k
      · have hq' : ¬ k = k' := fun e => hne e.symm
        simp only [List.map_cons, hq, if_true, List.find?_cons, hq', decide_false]
        exact ih
      · simp only [List.map_cons, hq, if_false, List.find?_cons]
        split
        · rfl
        · exact ih
  · rw [List.find?_append]
    have hk : ¬ k = k' := fun e => hne e.symm
    simp [hk]
theorem OppOk.step {prog : Program} {w : World} {cs : List Cell} {oo oo' : Obj} {kvs : List (Int × Value)} {a : Nat} {t t' : Tok} (h : OppOk prog w cs oo kvs) (ha : a < 4 + cs.length)
    (hd : oo'.IsDictOf (intKind prog w) (stored (stored kvs (a : Int) (.int ((4 + cs.length : Nat) : Int) t)) ((4 + cs.length : Nat) : Int) (.int (a : Int) t'))) :
    OppOk prog w (cs ++ [.inv a]) oo' (stored (stored kvs (a : Int) (.int ((4 + cs.length : Nat) : Int) t)) ((4 + cs.length : Nat) : Int) (.int (a : Int) t')) where
  d := hd
  len := by
    have h1 := stored_len kvs (a : Int) (.int ((4 + cs.length : Nat) : Int) t)
    have h2 := stored_len (stored kvs (a : Int) (.int ((4 + cs.length : Nat) : Int) t)) ((4 + cs.length : Nat) : Int) (.int (a : Int) t')
    have := h.len
    rw [List.length_append, List.length_singleton]; omega
  sem := fun kv hkv => by
    rcases stored_mem hkv with e | hkv
    · refine ⟨4 + cs.length, a, t', e, by simp, by simp; omega, fun r hr => ?_⟩
      rw [val_app _ ha, val_new, Cell.v]; omega
    · rcases stored_mem hkv with e | hkv
      · refine ⟨a, 4 + cs.length, t, e, by simp; omega, by simp, fun r hr => ?_⟩
        rw [val_app _ ha, val_new, Cell.v]
      · exact (h.mono (.inv a)).sem kv hkv
theorem valueAt_mem {kvs : List (Int × Value)} {k : Int} {v : Value} (h : valueAt kvs k = some v) : (k, v) ∈ kvs := by
  unfold valueAt at h
  obtain ⟨kv, hf, rfl⟩ := Option.map_eq_some_iff.mp h
  have h1 := List.find?_some hf
  have h2 := List.mem_of_find?_eq_some hf
  simp only [decide_eq_true_eq] at h1
  rw [← h1]; exact h2
theorem opp_found {prog : Program} {w : World} {cs : List Cell} {oo : Obj} {kvs : List (Int × Value)} {a : Nat} (opp : OppOk prog w cs oo kvs) (h : (valueAt kvs (a : Int)).isSome = true) :
    ∃ (v : Nat) (t : Tok), valueAt kvs (a : Int) = some (.int (v : Int) t) ∧ v < 4 + cs.length ∧ ∀ r, r < 4 → val r cs v = 1 - val r cs a := by
  obtain ⟨v, hv⟩ := Option.isSome_iff_exists.mp h
  obtain ⟨k, v', t, e, h1, h2, h3⟩ := opp.sem _ (valueAt_mem hv)
  injection e with e1 e2
  have : a = k := by omega
  subst this
  exact ⟨v', t, by rw [hv, e2], h2, h3⟩
/-- the memory, as an object -/
def MadeRaw (prog : Program) (w : World) (o : Obj) (xs : List (MKey × Addr × Value)) : Prop := o.ExactDict ∧ (∃ es ep, o.data = .dict es ep ∧ es.toList = xs.map (entryOfKey (tupleKind (mixKind prog w)))) ∧ (xs.map (·.1)).Nodup
section
variable {prog : Program} {w : World} {A : Around} {E : Value → Shared → Prop} {s : Shared} {h₀ h : Heap} {L d D : Addr} {m : Str → Option Value} {news : List (Addr × Obj)} {gg : Obj → List (Addr × Obj)} {o : Obj} {xs : List (MKey × Addr × Value)} {ks : MKey} {R : List (Addr × Obj)} {cs : List Cell} {mo : Obj} {v : Value}
theorem MadeOk.raw (M : MadeOk prog w R cs mo xs) : MadeRaw prog w mo xs := ⟨M.ex, M.da, M.nd⟩
def KeysAt (prog : Program) (w : World) (h : Heap) (xs : List (MKey × Addr × Value)) : Prop := ∀ x ∈ xs, IsTupleKey (mixKind prog w) h x.1 x.2.1
theorem MadeOk.keysAt (M : MadeOk prog w R cs mo xs) (hR : ∀ p ∈ R, h.get? p.1 = some p.2) : KeysAt prog w h xs := fun x hx => by
  obtain ⟨items, hm, hi⟩ := M.key x hx
  exact ⟨_, items.toArray, 0, hR _ hm, rfl, rfl, by simpa using hi⟩
theorem MadeRaw.dict (M : MadeRaw prog w o xs) (ho : h.get? d = some o) (k : KeysAt prog w h xs) : h.DictOfH (tupleKind (mixKind prog w)) d xs := let ⟨a, ⟨es, ep, b, c⟩, e⟩ := M; ⟨o, es, ep, ho, a, b, c, k, e⟩
theorem key_at (N : News h₀ L h news) (hm : (D, tupOf items) ∈ news) (hi : ItemsAre (mixKind prog w) ks items) : IsTupleKey (mixKind prog w) h ks D := ⟨_, items.toArray, 0, (N _ hm).1, rfl, rfl, by simpa using hi⟩
theorem key3 {k : Str} {a b : Int} {t1 t2 t3 : Tok} : ItemsAre (mixKind prog w) [.inl k, .inr a, .inr b] [.str k t1, .int a t2, .int b t3] :=
  .cons (by simp [mixKind, mixIs, Value.isStrOf]) (.cons (by simp [mixKind, mixIs, Value.isInt]) (.cons (by simp [mixKind, mixIs, Value.isInt]) .nil))
theorem notIn_of_in {M : Model} {a b : Value} {Q : Value → Shared → Prop} (h : wpAny M A (compareOp .In a b) (fun v s' => ∀ x, v = .bool x → Q (.bool (!x)) s') E s) : wpAny M A (compareOp .NotIn a b) Q E s := fun Γ p hΓ => by
  have h1 := h Γ p hΓ
  have e1 : compareOp .In a b = (contains b a >>= fun x => pure (.bool x)) := rfl
  have e2 : compareOp .NotIn a b = (contains b a >>= fun x => pure (.bool (!x))) := rfl
  rw [e1, Sem.wp_bind'] at h1
  rw [e2, Sem.wp_bind']
  exact Sem.wp_mono M Γ _ (fun x p' s' hx => hx x rfl) (fun _ _ _ e => e) p s h1
theorem made_notIn {Q : Value → Shared → Prop} (hu : A.units + 1 < cLine) (N : News h₀ L s.heap news) (hp : (d, o) ∈ news) (M : MadeRaw prog w o xs) (k : KeysAt prog w s.heap xs) (lo : (d == sysModules) = false) (hk : IsTupleKey (mixKind prog w) s.heap ks D)
    (h : Q (.bool (!(atKey xs ks).isSome)) { s with toks := s.toks + (tupleKind (mixKind prog w)).draws ks }) : wpAny (model prog w) A (compareOp .NotIn (.ref D) (.ref d)) Q E s :=
  notIn_of_in (wpAny_in_heap (knd := tupleKind (mixKind prog w)) (tupleKind_room_in1 hu) hk lo (M.dict (N _ hp).1 k) fun x e => by injection e with e; rw [← e]; exact h)
theorem none_of {α : Type} {x : Option α} (h : x.isSome = false) : x = none := by cases x with | none => rfl | some _ => cases h
structure MkOk (k : Str) (mk : Nat → Nat → Cell) : Prop where
  str : ∀ a b, (mk a b).str = k
  ins : ∀ a b, (mk a b).ins = [a, b]
  comm : ∀ a b f, (mk b a).v f = (mk a b).v f
theorem key3m {k : Str} {mk : Nat → Nat → Cell} (H : MkOk k mk) {a b : Nat} {t1 t2 t3 : Tok} : ItemsAre (mixKind prog w) (keyOf (mk a b)) [.str k t1, .int (a : Int) t2, .int (b : Int) t3] := by
  unfold keyOf; rw [H.str, H.ins]; exact key3
theorem made_get {Q : Value → Shared → Prop} {p : Addr × Value} (hu : A.units + 1 < cLine) (N : News h₀ L s.heap news) (hp : (d, o) ∈ news) (M : MadeRaw prog w o xs) (k : KeysAt prog w s.heap xs) (hk : IsTupleKey (mixKind prog w) s.heap ks D) (e : atKey xs ks = some p) (ev : p.2 = v)
    (h : Q v { s with toks := s.toks + (tupleKind (mixKind prog w)).draws ks }) : wpAny (model prog w) A (getItem (.ref d) (.ref D)) Q E s :=
  wpAny_getItem_heap (knd := tupleKind (mixKind prog w)) (tupleKind_room_in1 hu) hk (M.dict (N _ hp).1 k) e (ev ▸ h)
theorem made_item {value slice : PySem.Expr} {Q : Value → Shared → Prop} {p : Addr × Value} (hu : A.units + 1 < cLine) (N : News h₀ L s.heap news) (hp : (d, o) ∈ news) (M : MadeRaw prog w o xs) (k : KeysAt prog w s.heap xs) (hk : IsTupleKey (mixKind prog w) s.heap ks D) (e : atKey xs ks = some p) (ev : p.2 = v)
    (h : Q v { s with toks := s.toks + (tupleKind (mixKind prog w)).draws ks })
    (hs : subscripted slice false (.ref d) (.ref D) = operate [.ref d, .ref D] (getItem (.ref d) (.ref D)) := by with_unfolding_all rfl) (hg : ∀ r, letTemporaryGo value (.ref d) r = pure () := by intro _; with_unfolding_all rfl) :
    wpAny (model prog w) A (subscriptTail value slice (.ref d) (.ref D)) Q E s :=
  subscriptTail_builtin (M.dict (N _ hp).1 k).typeIs slot_dict_getitem.lookup (made_get hu N hp M k hk e ev h) hs hg
theorem made_set {Q : Unit → Shared → Prop} (hu : A.units + 1 < cLine) (F : Fr h₀ L s.heap m) (N : News h₀ L s.heap news) (U : UpdF d o news gg) (M : MadeRaw prog w o xs) (k : KeysAt prog w s.heap xs) (hk : IsTupleKey (mixKind prog w) s.heap ks D) (e : atKey xs ks = none) (hz : xs.length ≤ sizeLine)
    (h : ∀ h' o' tk, Fr h₀ L h' m → News h₀ L h' (gg o') → MadeRaw prog w o' (xs ++ [(ks, D, v)]) → KeysAt prog w h' (xs ++ [(ks, D, v)]) → IsTupleKey (mixKind prog w) h' ks D → Q () { s with heap := h', toks := tk }) : wpAny (model prog w) A (setItem (.ref d) (.ref D) v) Q E s := by
  obtain ⟨pre, post, rfl, hg, a, b⟩ := U.split
  have hm := N (d, o) (List.mem_append_right _ (.head _))
  refine wpAny_setItem_heap (knd := tupleKind (mixKind prog w)) (hsz := hz) (tupleKind_room_in1 hu) hk (M.dict hm.1 k) fun h' hd hs => ?_
  rw [storedH_new e] at hd
  obtain ⟨o', es, ep, ho', h1, h2, h3, h4, h5⟩ := hd
  exact h h' o' _ (F.change hs hm.2.1 hm.2.2) (hg o' ▸ N.setIn a b hs ho') ⟨h1, ⟨es, ep, h2, h3⟩, h5⟩ h4 (h4 _ (List.mem_append_right _ (.head _)))
theorem atKey_mem {p : Addr × Value} (h : atKey xs ks = some p) : (ks, p) ∈ xs := by
  unfold atKey at h
  obtain ⟨x, hf, rfl⟩ := Option.map_eq_some_iff.mp h
  have h1 := List.find?_some hf
  have h2 := List.mem_of_find?_eq_some hf
  simp only [decide_eq_true_eq] at h1
  rw [← h1]; exact h2
theorem atKey_snoc (h : atKey xs ks = none) (p : Addr × Value) : atKey (xs ++ [(ks, p)]) ks = some p := by
  unfold atKey at *
  rw [Option.map_eq_none_iff] at h
  rw [List.find?_append, h]; simp
theorem keyOf_inj {c d : Cell} (h : keyOf c = keyOf d) : c = d := by
  have hs : ∀ c d : Cell, c.str = d.str → (∀ f : Nat → Nat, True) → c.ins = d.ins → c = d := by
    intro c d h1 _ h2
    cases c <;> cases d <;> simp only [Cell.str, Cell.ins, List.cons.injEq, and_true, reduceCtorEq, and_false] at h1 h2 <;> first | (rw [h2]; done) | (rw [h2.1, h2.2]; done) | (exact absurd h1 (by decide))
  unfold keyOf at h
  injection h with h1 h2
  injection h1 with h1
  refine hs c d h1 (fun _ => trivial) ?_
  have : ∀ l l' : List Nat, (l.map fun j : Nat => (Sum.inr (j : Int) : Str ⊕ Int)) = l'.map (fun j : Nat => Sum.inr (j : Int)) → l = l' := by
    intro l
    induction l with
    | nil => intro l' e; cases l' with
      | nil => rfl
      | cons _ _ => simp at e
    | cons x l ih => intro l' e; cases l' with
      | nil => simp at e
      | cons y l' =>
        simp only [List.map_cons, List.cons.injEq, Sum.inr.injEq] at e
        rw [ih l' e.2, Int.ofNat_inj.mp e.1]
  exact this _ _ h2
theorem made_found (M : MadeOk prog w R cs mo xs) {c : Cell} (h : (atKey xs (keyOf c)).isSome = true) : ∃ p o t, atKey xs (keyOf c) = some p ∧ p.2 = .int ((o : Nat) : Int) t ∧ o < 4 + cs.length ∧ ∀ r, r < 4 → val r cs o = c.v (val r cs) := by
  obtain ⟨p, hp⟩ := Option.isSome_iff_exists.mp h
  obtain ⟨c', o, t, e1, e2, h1, h2, h3⟩ := M.sem _ (atKey_mem hp)
  obtain rfl := keyOf_inj e1
  exact ⟨p, o, t, hp, e2, h1, h3⟩
end
theorem mk_minmax {k : Str} {mk : Nat → Nat → Cell} (H : MkOk k mk) (a b : Nat) (f : Nat → Int) : (mk (min a b) (max a b)).v f = (mk a b).v f := by
  rcases Nat.le_total a b with h | h
  · rw [Nat.min_eq_left h, Nat.max_eq_right h]
  · rw [Nat.min_eq_right h, Nat.max_eq_left h, H.comm]
theorem mkOk_and : MkOk (Str.ofString "and") Cell.and := ⟨fun _ _ => rfl, fun _ _ => rfl, fun a b f => by simp only [Cell.v]; omega⟩
theorem mkOk_xor : MkOk (Str.ofString "xor") Cell.xor := ⟨fun _ _ => rfl, fun _ _ => rfl, fun a b f => by simp only [Cell.v]; omega⟩
/-- the network's addresses stand in this order -/
structure Ap (ad : Ad) : Prop where
  o1 : @LT.lt Nat _ ad.nd ad.nl
  o2 : @LT.lt Nat _ ad.nl ad.ca
  o3 : @LT.lt Nat _ ad.ca ad.gd
  o4 : @LT.lt Nat _ ad.gd ad.g
  o5 : @LT.lt Nat _ ad.g ad.ma
  o6 : @LT.lt Nat _ ad.ma ad.oa
/-- x is none of the four that turn -/
structure NeT (ad : Ad) (x : Addr) : Prop where
  nd : x ≠ ad.nd
  ca : x ≠ ad.ca
  ma : x ≠ ad.ma
  oa : x ≠ ad.oa
theorem lt3 {a b c : Nat} (h : a < b) (g : b < c) : a < c := Nat.lt_trans h g
theorem Ap.nc {ad : Ad} (h : Ap ad) : @LT.lt Nat _ ad.nd ad.ca := lt3 h.o1 h.o2
theorem Ap.cg {ad : Ad} (h : Ap ad) : @LT.lt Nat _ ad.ca ad.g := lt3 h.o3 h.o4
theorem Ap.gm {ad : Ad} (h : Ap ad) : @LT.lt Nat _ ad.gd ad.ma := lt3 h.o4 h.o5
theorem Ap.cm {ad : Ad} (h : Ap ad) : @LT.lt Nat _ ad.ca ad.ma := lt3 h.cg h.o5
theorem Ap.g {ad : Ad} (h : Ap ad) : NeT ad ad.g := ⟨Nat.ne_of_gt (lt3 h.nc h.cg), Nat.ne_of_gt h.cg, Nat.ne_of_lt h.o5, Nat.ne_of_lt (lt3 h.o5 h.o6)⟩
theorem Ap.gd {ad : Ad} (h : Ap ad) : NeT ad ad.gd := ⟨Nat.ne_of_gt (lt3 h.nc h.o3), Nat.ne_of_gt h.o3, Nat.ne_of_lt h.gm, Nat.ne_of_lt (lt3 h.gm h.o6)⟩
theorem Ap.nl {ad : Ad} (h : Ap ad) : NeT ad ad.nl := ⟨Nat.ne_of_gt h.o1, Nat.ne_of_lt h.o2, Nat.ne_of_lt (lt3 h.o2 h.cm), Nat.ne_of_lt (lt3 h.o2 (lt3 h.cm h.o6))⟩
/-- the four differ -/
structure ApT (ad : Ad) : Prop where
  ndca : ad.nd ≠ ad.ca
  ndma : ad.nd ≠ ad.ma
  ndoa : ad.nd ≠ ad.oa
  cama : ad.ca ≠ ad.ma
  caoa : ad.ca ≠ ad.oa
  maoa : ad.ma ≠ ad.oa
theorem Ap.t {ad : Ad} (h : Ap ad) : ApT ad := ⟨Nat.ne_of_lt h.nc, Nat.ne_of_lt (lt3 h.nc h.cm), Nat.ne_of_lt (lt3 h.nc (lt3 h.cm h.o6)), Nat.ne_of_lt h.cm, Nat.ne_of_lt (lt3 h.cm h.o6), Nat.ne_of_lt h.o6⟩
structure SyD where
  (t1 t2 t3 u1 u2 u3 u4 u5 uc : Tok)
  (v1 v3 v4 : Value)
  (cv : List Value)
  (nc : Nat)
  (mo : Obj)
  (xs : List (MKey × Addr × Value))
  (oo : Obj)
  (kvs : List (Int × Value))
/-- the network of gates, in the ledger S -/
structure SyM (w : World) (ad : Ad) (S : Led) (cs : List Cell) (d : SyD) : Prop where
  ap : Ap ad
  mg : InstS S ad.g 94 ad.gd (gdEs w d.t1 d.t2 d.t3 ad.nl ad.ma ad.oa) 3
  mn : InstS S ad.nl 211 ad.nd (ndEs w d.u1 d.u2 d.u3 d.u4 d.u5 d.v1 d.v3 d.v4 ((4 + cs.length : Nat) : Int) d.uc ad.ca) 5
  mc : (ad.ca, listOf d.cv.toArray d.nc) ∈ S
  mm : (ad.ma, d.mo) ∈ S
  mo : (ad.oa, d.oo) ∈ S
  lm : (ad.ma == sysModules) = false
  lo : (ad.oa == sysModules) = false
  ce : CellsIn S 0 d.cv cs
  made : MadeOk PR w S cs d.mo d.xs
  opp : OppOk PR w cs d.oo d.kvs
  wf : Wf cs
def Sy (w : World) (ad : Ad) (S : Led) (cs : List Cell) : Prop := ∃ d, SyM w ad S cs d
section
variable {w : World} {ad : Ad} {S S' : Led} {cs : List Cell} {d : SyD}
theorem tup_ne {a q : Addr} {o : Obj} {vs : List Value} (fn : FunL S) (h1 : (a, o) ∈ S) (h2 : (q, tupOf vs) ∈ S) (hc : o.cls ≠ .type "tuple") : q ≠ a := fun e => hc (by rw [show o = tupOf vs from fn _ h1 _ h2 e.symm])
theorem SyM.tup (M : SyM w ad S cs d) (fn : FunL S) {q : Addr} {vs : List Value} (h : (q, tupOf vs) ∈ S) : NeT ad q := by
  have h1 := M.opp.d
  have h2 := M.made.ex
  obtain ⟨_, _, h1, _⟩ := h1
  exact ⟨tup_ne fn M.mn.d h (by simp), tup_ne fn M.mc h (by simp), tup_ne fn M.mm h (by rw [h2.1]; simp), tup_ne fn M.mo h (by rw [h1.1]; simp)⟩
theorem CellsIn.tups {R R' : Led} {i : Nat} {vs : List Value} {cs : List Cell} (h : CellsIn R i vs cs) (hs : ∀ q us, (q, tupOf us) ∈ R → (q, tupOf us) ∈ R') : CellsIn R' i vs cs := by
  induction h with
  | nil => exact .nil
  | cons a b c _ ih => exact .cons (hs _ _ a) (hs _ _ b) c ih
theorem MadeOk.tups {R R' : Led} {mo : Obj} {xs : List (MKey × Addr × Value)} (h : MadeOk PR w R cs mo xs) (hs : ∀ q us, (q, tupOf us) ∈ R → (q, tupOf us) ∈ R') : MadeOk PR w R' cs mo xs :=
  ⟨h.ex, h.da, h.nd, h.len, fun x hx => let ⟨items, a, b⟩ := h.key x hx; ⟨items, hs _ _ a, b⟩, h.sem⟩
/-- all but the four is kept -/
def KeptT (ad : Ad) (S S' : Led) : Prop := ∀ p ∈ S, NeT ad p.1 → p ∈ S'
/-- a cell more -/
theorem SyM.step {c : Cell} {q ti : Addr} {t2 t3 uc' : Tok} {ivs : List Value} {mo' oo' : Obj} {xs' : List (MKey × Addr × Value)} {kvs' : List (Int × Value)} (M : SyM w ad S cs d) (fn : FunL S) (hc : ∀ j ∈ c.ins, j < 4 + cs.length) (kp : KeptT ad S S')
    (hnd : (ad.nd, dictOf (ndEs w d.u1 d.u2 d.u3 d.u4 d.u5 d.v1 d.v3 d.v4 (((4 + cs.length : Nat) : Int) + 1) uc' ad.ca) 5) ∈ S') (hca : (ad.ca, listOf (d.cv ++ [Value.ref q]).toArray (d.nc + 1)) ∈ S') (hma : (ad.ma, mo') ∈ S') (hoa : (ad.oa, oo') ∈ S')
    (hq : (q, tupOf [.str c.str t2, .int ((4 + cs.length : Nat) : Int) t3, .ref ti, .none]) ∈ S') (hti : (ti, tupOf ivs) ∈ S') (hi : IntsAre ivs (c.ins.map fun j => ((j : Nat) : Int)))
    (made : MadeOk PR w S' (cs ++ [c]) mo' xs') (opp : OppOk PR w (cs ++ [c]) oo' kvs') :
    SyM w ad S' (cs ++ [c]) { d with uc := uc', cv := d.cv ++ [.ref q], nc := d.nc + 1, mo := mo', xs := xs', oo := oo', kvs := kvs' } where
  ap := M.ap
  mg := ⟨kp _ M.mg.i M.ap.g, kp _ M.mg.d M.ap.gd⟩
  mn := ⟨kp _ M.mn.i M.ap.nl, by
    have e : ((4 + (cs ++ [c]).length : Nat) : Int) = ((4 + cs.length : Nat) : Int) + 1 := by rw [List.length_append, List.length_singleton]; rfl
    rw [e]; exact hnd⟩
  mc := hca
  mm := hma
  mo := hoa
  lm := M.lm
  lo := M.lo
  ce := (M.ce.tups fun q us h => kp _ h (M.tup fn h)).snoc (by rw [Nat.zero_add]; exact hq) hti hi
  made := made
  opp := opp
  wf := M.wf.snoc hc
theorem MadeOk.step {R R' : Led} {mo mo' : Obj} {xs : List (MKey × Addr × Value)} {c : Cell} {D : Addr} {t : Tok} (M : MadeOk PR w R cs mo xs) (hs : ∀ q us, (q, tupOf us) ∈ R → (q, tupOf us) ∈ R') (hc : ∀ j ∈ c.ins, j < 4 + cs.length) (hk : KeyIn PR w R' (keyOf c) D)
    (hd : MadeRaw PR w mo' (xs ++ [(keyOf c, D, .int ((4 + cs.length : Nat) : Int) t)])) : MadeOk PR w R' (cs ++ [c]) mo' (xs ++ [(keyOf c, D, .int ((4 + cs.length : Nat) : Int) t)]) := by
  have M' := (M.tups hs).mono (fun p h => h) c
  refine ⟨hd.1, hd.2.1, hd.2.2, ?_, fun x hx => ?_, fun x hx => ?_⟩
  · rw [List.length_append, List.length_append]; exact Nat.add_le_add_right M.len _
  · rcases List.mem_append.mp hx with hx | hx
    · exact M'.key x hx
    · rw [List.mem_singleton.mp hx]; exact hk
  · rcases List.mem_append.mp hx with hx | hx
    · exact M'.sem x hx
    · rw [List.mem_singleton.mp hx]
      exact ⟨c, 4 + cs.length, t, rfl, rfl, by rw [List.length_append]; exact Nat.lt_succ_self _, fun j hj => by rw [List.length_append]; exact Nat.lt_succ_of_lt (hc j hj), fun r hr => by
        rw [val_new]
        exact cell_v_congr c fun j hj => (val_app c (hc j hj)).symm⟩
end
section
variable {C : Cx} {m : Loc} {S S' : Led} {P : Value → Led → Prop} {v : Value} {d D : Addr} {ks : MKey} {cs : List Cell} {mo : Obj} {xs : List (MKey × Addr × Value)}
theorem Op.madeNotIn (hm : (d, mo) ∈ S) (M : MadeOk PR C.w S cs mo xs) (lo : (d == sysModules) = false) (hk : KeyIn PR C.w S ks D) (hu : 1 ≤ C.un) : Op C m S (compareOp .NotIn (.ref D) (.ref d)) fun r S' => S' = S ∧ r = .bool (!(atKey xs ks).isSome) := fun A env L Rel s F R =>
  F.same R fun L mm news f N hs back => by
    obtain ⟨items, hi, hk⟩ := hk
    exact made_notIn (Nat.lt_of_le_of_lt (Nat.add_le_add_left hu _) F.unit) N (hs _ hm) M.raw (M.keysAt fun p hp => (N p (hs p hp)).1) lo (key_at N (hs _ hi) hk) ⟨_, _, S, rfl, R, rfl, rfl⟩
theorem Op.madeItem {value slice : Expr} {p : Addr × Value} (hm : (d, mo) ∈ S) (M : MadeRaw PR C.w mo xs) (hkeys : ∀ x ∈ xs, KeyIn PR C.w S x.1 x.2.1) (hk : KeyIn PR C.w S ks D) (e : atKey xs ks = some p) (hu : 1 ≤ C.un) (h1 : SubOk slice := by intro _ _; rfl) (h2 : GoOk value := by intro _ _; rfl) :
    Op C m S (subscriptTail value slice (.ref d) (.ref D)) fun r S' => S' = S ∧ r = p.2 := fun A env L Rel s F R =>
  F.same R fun L mm news f N hs back => by
    obtain ⟨items, hi, hk⟩ := hk
    exact made_item (Nat.lt_of_le_of_lt (Nat.add_le_add_left hu _) F.unit) N (hs _ hm) M (fun x hx => by
      obtain ⟨items, a, b⟩ := hkeys x hx
      exact key_at N (hs _ a) b) (key_at N (hs _ hi) hk) e rfl ⟨_, _, S, rfl, R, rfl, rfl⟩ (h1 _ _) (h2 _)
theorem Op.madeSet (hm : (d, mo) ∈ S) (M : MadeOk PR C.w S cs mo xs) (hk : KeyIn PR C.w S ks D) (e : atKey xs ks = none) (hz : xs.length ≤ sizeLine) (hu : 1 ≤ C.un) (St : Obj → Led) (hc : ∀ o', Chg d o' S (St o')) {P : Unit → Led → Prop} (h : ∀ o', MadeRaw PR C.w o' (xs ++ [(ks, D, v)]) → P () (St o')) : Op C m S (setItem (.ref d) (.ref D) v) P := fun A env L Rel s F R =>
  F.same R fun L0 mm0 news0 f0 N0 hs0 _ => by
    have kAt : KeysAt PR C.w s.heap xs := M.keysAt fun p hp => (N0 p (hs0 p hp)).1
    obtain ⟨items, hi, hk⟩ := hk
    have kD := key_at N0 (hs0 _ hi) hk
    exact F.upd R hm fun L mm rest f N hr hs back => made_set (Nat.lt_of_le_of_lt (Nat.add_le_add_left hu _) F.unit) f N (.head hr) M.raw kAt kD e hz fun h' o' tk f' N' ho' _ _ => ⟨h', tk, _, rfl, back h' o' _ f' N' (hc o'), h o' ho'⟩
end
theorem at_count {w : World} : AttrIs w 211 (Str.ofString "count") := ⟨rfl, rfl, _, rfl, rfl⟩
theorem at_cells {w : World} : AttrIs w 211 (Str.ofString "cells") := ⟨rfl, rfl, _, rfl, rfl⟩
theorem st_count {w : World} : SetIs w 211 (Str.ofString "count") := ⟨rfl, rfl, rfl, rfl⟩
theorem me_new {w : World} : MethIs w 211 (Str.ofString "new_net") 159 := ⟨rfl, rfl, rfl, rfl⟩
theorem me_drive {w : World} : MethIs w 211 (Str.ofString "drive") 194 := ⟨rfl, rfl, rfl, rfl⟩
section
variable {C : Cx} {m : Loc} {S : Led} {e : Expr} {es : List Expr} {pos : Pos} {v : Value} {z : Int} {x : Str} {P : List Value → Led → Prop}
theorem Evs.vl (h : Pu C m S e (Is v)) (k : Evs C m S pos es fun vs S2 => P (v :: vs) S2) (hn : noStar (e :: es) = true := by rfl) : Evs C m S pos (e :: es) P := Evs.cons hn (h.is k)
theorem Evs.it (h : Pu C m S e (IsI z)) (k : ∀ t, Evs C m S pos es fun vs S2 => P (.int z t :: vs) S2) (hn : noStar (e :: es) = true := by rfl) : Evs C m S pos (e :: es) P := Evs.cons hn (h.i k)
theorem Evs.sr (h : Pu C m S e (IsS x)) (k : ∀ t, Evs C m S pos es fun vs S2 => P (.str x t :: vs) S2) (hn : noStar (e :: es) = true := by rfl) : Evs C m S pos (e :: es) P := Evs.cons hn (h.s k)
theorem Op.eqs {α : Type} {X : Sem α} {Q : α → Led → Prop} {q : α → Prop} (h : Op C m S X fun r S' => S' = S ∧ q r) (k : ∀ r, q r → Q r S) : Op C m S X Q := Tr.mono h fun r S' ⟨e, hq⟩ => e ▸ k r hq
end
section
variable {w : World} {h : Heap} {S : Led} {nl nd ca : Addr} {u1 u2 u3 u4 u5 uc tk : Tok} {v1 v3 v4 vp : Value} {cnt : Int} {cv : List Value} {nc : Nat} {k : Str} {ti : Addr} {us : List Value} {n : Nat}
set_option maxRecDepth 100000 in
theorem newnet_tell (I : InstS S nl 211 nd (ndEs w u1 u2 u3 u4 u5 v1 v3 v4 cnt uc ca) 5) : Tell w 159 [.ref nl] 1 3 S h fun r S' _ => ∃ t uc', r = .int cnt t ∧ S' = setL nd (dictOf (ndEs w u1 u2 u3 u4 u5 v1 v3 v4 (cnt + 1) uc' ca) 5) S := by
  refine tell_def [(Str.ofString "self", .ref nl)] (by rfl) (by rfl) (fun g X s k => BindsTo.of_eq rfl) (by rfl) (by rfl) (by rfl) rfl rfl rfl fun g hg => ?_
  refine Go.assign (Pu.is (v := .int cnt uc) (Pu.attr (Pu.var rfl rfl) at_count I rfl rfl rfl) ?_)
  refine Go.aug (Pu.var rfl rfl) at_count I rfl rfl (Pu.i .int fun t => Op.eqs Op.iadd ?_)
  rintro _ ⟨t2, rfl⟩
  refine Op.setAttr st_count I rfl (fun _ => setL nd (dictOf (ndEs w u1 u2 u3 u4 u5 v1 v3 v4 (cnt + 1) t2 ca) 5) _) (fun _ => Nat.le_of_ble_eq_true rfl) (fun _ => chg_set) fun _ => ?_
  exact Go.ret (Pu.is (Pu.var rfl rfl) fun h' _ _ => ⟨_, t2, rfl, rfl⟩)
set_option maxRecDepth 100000 in
theorem drive_tell (I : InstS S nl 211 nd (ndEs w u1 u2 u3 u4 u5 v1 v3 v4 cnt uc ca) 5) (hc : (ca, listOf cv.toArray nc) ∈ S) (hz : cv.length ≤ 1000) (ht : (ti, tupOf us) ∈ S) {z : Int} {tz : Tok} :
    Tell w 194 [.ref nl, .int z tz, .str k tk, .ref ti, vp] 1 3 S h fun r S' _ => ∃ q, S' = setL ca (listOf (cv ++ [Value.ref q]).toArray (nc + 1)) ((q, tupOf [.str k tk, .int z tz, .ref ti, vp]) :: S) ∧ ∀ p ∈ S, p.1 < q := by
  refine tell_def [(Str.ofString "self", .ref nl), (Str.ofString "out", .int z tz), (Str.ofString "kind", .str k tk), (Str.ofString "ins", .ref ti), (Str.ofString "param", vp)] (by rfl) (by rfl) (fun g X s k => binds_K (X.keeps k) rfl rfl rfl rfl rfl) (by rfl) (by rfl) (by rfl) rfl rfl rfl fun g hg => ?_
  refine Go.append (l := ca) (vs := cv) (n := nc) (Pu.attr (Pu.var rfl rfl) at_cells I rfl rfl rfl) hc (Nat.le_trans hz (by decide)) (Ev.tuple (Evs.vl (Pu.var rfl rfl) (Evs.vl (Pu.var rfl rfl) (Evs.cons rfl (Ev.callT (Pu.blt rfl (by boot_by_name) (by decide)) (Evs.vl (Pu.var rfl rfl) (Evs.nil (Op.eqs (Op.tupleSame (.inl ⟨0, ht⟩)) ?_))))))))
  rintro _ rfl
  refine Evs.vl (Pu.var rfl rfl) (Evs.nil (Op.tuple fun q lt => ⟨.tail _ hc, _, chg_set, Go.nil fun h' _ _ => ⟨q, rfl, lt⟩⟩))
set_option maxRecDepth 100000 in
theorem addcell_tell (I : InstS S nl 211 nd (ndEs w u1 u2 u3 u4 u5 v1 v3 v4 cnt uc ca) 5) (hc : (ca, listOf cv.toArray nc) ∈ S) (hz : cv.length ≤ 1000) (ht : (ti, tupOf us) ∈ S) (n1 : nl ≠ nd) (n2 : ca ≠ nd) (n3 : ti ≠ nd) :
    Tell w 186 [.ref nl, .str k tk, .ref ti] 2 6 S h fun r S' _ => ∃ t q uc', r = .int cnt t ∧
      S' = setL ca (listOf (cv ++ [Value.ref q]).toArray (nc + 1)) ((q, tupOf [.str k tk, .int cnt t, .ref ti, .none]) :: setL nd (dictOf (ndEs w u1 u2 u3 u4 u5 v1 v3 v4 (cnt + 1) uc' ca) 5) S) ∧ ∀ p ∈ S, p.1 < q := by
  refine tell_def [(Str.ofString "self", .ref nl), (Str.ofString "kind", .str k tk), (Str.ofString "ins", .ref ti), (Str.ofString "param", .none)] (by rfl) (by rfl) (fun g X s k => binds_K (X.keeps k) rfl rfl rfl rfl rfl) (by rfl) (by rfl) (by rfl) rfl rfl rfl fun g hg => ?_
  refine Go.assign (Ev.meth0 (Pu.var rfl rfl) me_new I rfl (Op.tellA (fun h _ _ => newnet_tell I) ?_))
  rintro _ _ _ ⟨t, uc', rfl, rfl⟩
  have I2 : InstS (setL nd (dictOf (ndEs w u1 u2 u3 u4 u5 v1 v3 v4 (cnt + 1) uc' ca) 5) S) nl 211 nd (ndEs w u1 u2 u3 u4 u5 v1 v3 v4 (cnt + 1) uc' ca) 5 := ⟨mem_set_ne I.i n1, mem_set I.d⟩
  refine Go.expr (Ev.meth (Pu.var rfl rfl) me_drive I2 rfl (Evs.vl (Pu.var rfl rfl) (Evs.vl (Pu.var rfl rfl) (Evs.vl (Pu.var rfl rfl) (Evs.vl (Pu.var rfl rfl) (Evs.nil (Op.tellA (fun h _ _ => drive_tell I2 (mem_set_ne hc n2) hz (mem_set_ne ht n3)) ?_)))))))
  rintro _ _ _ ⟨q, rfl, lt⟩
  refine Go.ret (Pu.is (Pu.var rfl rfl) fun h' _ _ => ⟨t, q, uc', rfl, rfl, fun p hp => ?_⟩)
  by_cases e : p.1 = nd
  · rw [e]; exact lt _ (mem_set I.d)
  · exact lt p (mem_set_ne hp e)
end
theorem at_netlist {w : World} : AttrIs w 94 (Str.ofString "netlist") := ⟨rfl, rfl, _, rfl, rfl⟩
theorem at_made {w : World} : AttrIs w 94 (Str.ofString "made") := ⟨rfl, rfl, _, rfl, rfl⟩
theorem at_opp {w : World} : AttrIs w 94 (Str.ofString "opposite") := ⟨rfl, rfl, _, rfl, rfl⟩
theorem me_add {w : World} : MethIs w 211 (Str.ofString "add_cell") 186 := ⟨rfl, rfl, rfl, rfl⟩
theorem me_pair {w : World} : MethIs w 94 (Str.ofString "pair") 42 := ⟨rfl, rfl, rfl, rfl⟩
theorem me_are {w : World} : MethIs w 94 (Str.ofString "are_opposite") 49 := ⟨rfl, rfl, rfl, rfl⟩
theorem me_inv {w : World} : MethIs w 94 (Str.ofString "inv") 56 := ⟨rfl, rfl, rfl, rfl⟩
theorem me_both {w : World} : MethIs w 94 (Str.ofString "both") 63 := ⟨rfl, rfl, rfl, rfl⟩
theorem me_differ {w : World} : MethIs w 94 (Str.ofString "differ") 77 := ⟨rfl, rfl, rfl, rfl⟩
/-- a cell was added, nothing noted of it yet -/
structure Added (w : World) (ad : Ad) (S S' : Led) (cs : List Cell) (d : SyD) (k : Str) (tk t uc : Tok) (q ti : Addr) : Prop where
  kp : KeptT ad S S'
  mm : (ad.ma, d.mo) ∈ S'
  mo : (ad.oa, d.oo) ∈ S'
  nd : (ad.nd, dictOf (ndEs w d.u1 d.u2 d.u3 d.u4 d.u5 d.v1 d.v3 d.v4 (((4 + cs.length : Nat) : Int) + 1) uc ad.ca) 5) ∈ S'
  ca : (ad.ca, listOf (d.cv ++ [Value.ref q]).toArray (d.nc + 1)) ∈ S'
  q : (q, tupOf [.str k tk, .int ((4 + cs.length : Nat) : Int) t, .ref ti, .none]) ∈ S'
def GateP (w : World) (ad : Ad) (cs : List Cell) (f : Nat → Int) (r : Value) (S' : Led) : Prop :=
  ∃ (o : Nat) (t : Tok) (c2 : List Cell), r = .int (o : Int) t ∧ Sy w ad S' c2 ∧ Grown cs c2 1 ∧ o < 4 + c2.length ∧ ∀ r, r < 4 → val r c2 o = f r
theorem Tell.weak {w : World} {f : Addr} {vs : List Value} {dn un' : Nat} {S : Led} {h : Heap} {Post Post' : Value → Led → Heap → Prop} (C : Tell w f vs dn un' S h Post)
    (hp : ∀ r S' h', Post r S' h' → Post' r S' h') : Tell w f vs dn un' S h Post' := fun mean mg mb dp un gd cn cs a ccd cl outer A₀ base h₀ L m s Q E e B F X N T k hd hu hret =>
  C mean mg mb dp un gd cn cs a ccd cl outer A₀ base h₀ L m s Q E e B F X N T k hd hu fun r S' h' tk F' b p => hret r S' h' tk F' b (hp r S' h' p)
section
variable {w : World} {ad : Ad} {S S' : Led} {cs : List Cell} {d : SyD} {h : Heap} {k : Str} {tk ta tb : Tok} {ti : Addr} {us : List Value} {a b : Nat}
theorem SyM.cv_le (M : SyM w ad S cs d) (hn : cs.length ≤ 200) : d.cv.length ≤ 1000 := by rw [M.ce.len]; exact Nat.le_trans hn (by decide)
theorem SyM.addcell (M : SyM w ad S cs d) (hS : ∀ p ∈ S, p ∈ S') (fn : FunL S') (hn : cs.length ≤ 200) (ht : (ti, tupOf us) ∈ S') :
    Tell w 186 [.ref ad.nl, .str k tk, .ref ti] 2 6 S' h fun r S2 _ => ∃ t uc q, r = .int ((4 + cs.length : Nat) : Int) t ∧ Added w ad S S2 cs d k tk t uc q ti ∧ (ti, tupOf us) ∈ S2 ∧ (∀ p ∈ S', NeT ad p.1 → p ∈ S2) := by
  have n3 : ti ≠ ad.nd := tup_ne fn (hS _ M.mn.d) ht (by simp)
  have n4 : ti ≠ ad.ca := tup_ne fn (hS _ M.mc) ht (by simp)
  refine (addcell_tell (M.mn.mono hS) (hS _ M.mc) (M.cv_le hn) ht M.ap.nl.nd M.ap.t.ndca.symm n3).weak ?_
  rintro r _ h' ⟨t, q, uc', rfl, rfl, lt⟩
  have e : ∀ p ∈ S', p.1 ≠ ad.nd → p.1 ≠ ad.ca → p ∈ setL ad.ca (listOf (d.cv ++ [Value.ref q]).toArray (d.nc + 1)) ((q, tupOf [.str k tk, .int ((4 + cs.length : Nat) : Int) t, .ref ti, .none]) :: setL ad.nd (dictOf (ndEs w d.u1 d.u2 d.u3 d.u4 d.u5 d.v1 d.v3 d.v4 (((4 + cs.length : Nat) : Int) + 1) uc' ad.ca) 5) S') :=
    fun p hp h1 h2 => mem_set_ne (.tail _ (mem_set_ne hp h1)) h2
  exact ⟨t, uc', q, rfl, ⟨fun p hp hne => e p (hS p hp) hne.nd hne.ca, e _ (hS _ M.mm) M.ap.t.ndma.symm M.ap.t.cama.symm, e _ (hS _ M.mo) M.ap.t.ndoa.symm M.ap.t.caoa.symm, mem_set_ne (.tail _ (mem_set (hS _ M.mn.d))) M.ap.t.ndca,
    mem_set (.tail _ (mem_set_ne (hS _ M.mc) M.ap.t.ndca.symm)), mem_set_ne (.head _) (Nat.ne_of_gt (lt _ (hS _ M.mc)))⟩, e _ ht n3 n4, fun p hp hne => e p hp hne.nd hne.ca⟩
theorem GateP.here {f : Nat → Int} {o : Nat} {t : Tok} (hS : Sy w ad S cs) (ho : o < 4 + cs.length) (hf : ∀ r, r < 4 → val r cs o = f r) : GateP w ad cs f (.int (o : Int) t) S := ⟨o, t, cs, rfl, hS, .rfl _ _, ho, hf⟩
theorem GateP.f {f f' : Nat → Int} {r : Value} (h : GateP w ad cs f r S) (hf : ∀ r, r < 4 → f r = f' r) : GateP w ad cs f' r S := let ⟨o, t, c2, e, y, g, ho, hv⟩ := h; ⟨o, t, c2, e, y, g, ho, fun r hr => (hv r hr).trans (hf r hr)⟩
theorem SyM.more (M : SyM w ad S cs d) (hs : ∀ p ∈ S, p ∈ S') : SyM w ad S' cs d := ⟨M.ap, M.mg.mono hs, M.mn.mono hs, hs _ M.mc, hs _ M.mm, hs _ M.mo, M.lm, M.lo, M.ce.mono hs, M.made.tups fun _ _ => hs _, M.opp, M.wf⟩
theorem lt4 {n k : Nat} (h : k < 4) : k < 4 + n := Nat.lt_of_lt_of_le h (Nat.le_add_right _ _)
/-- an item of a temporary base -/
theorem Op.base {C : Cx} {m : Loc} {S : Led} {value slice : Expr} {o i : Value} {P : Value → Led → Prop} (h : Op C m S (subscriptTail (.Name (Str.ofString "_") ⟨0, 0, 0, 0⟩) slice o i) P) : Op C m S (subscriptTail value slice o i) P := fun A env L Rel s F R =>
  kba_turn (fun _ => rfl) (h A env L Rel s F R)
theorem ieq {a b : Nat} (h : ((a : Int) == (b : Int)) = true) : a = b := Int.ofNat_inj.mp (by simpa using h)
theorem ine {a b : Nat} (h : ((a : Int) == (b : Int)) = false) : a ≠ b := fun e => by rw [e] at h; simp at h
theorem KeptT.inst {x c e : Addr} {es : List DictEntry} {n : Nat} (kp : KeptT ad S S') (I : InstS S x c e es n) (h1 : NeT ad x) (h2 : NeT ad e) : InstS S' x c e es n := ⟨kp _ I.i h1, kp _ I.d h2⟩
theorem Added.set2 {t uc : Tok} {q : Addr} {o1 o2 : Obj} (M : SyM w ad S cs d) (X : Added w ad S S' cs d k tk t uc q ti) : KeptT ad S (setL ad.oa o2 (setL ad.oa o1 S')) := fun p hp n => mem_set_ne (mem_set_ne (X.kp p hp n) n.oa) n.oa
theorem SyM.invStep {t t' uc : Tok} {q : Addr} {o1 o2 : Obj} (M : SyM w ad S cs d) (fn : FunL S) (ha : a < 4 + cs.length) (X : Added w ad S S' cs d (Str.ofString "not") tk t uc q ti) (fn' : FunL S') (ht : (ti, tupOf [.int (a : Int) ta]) ∈ S')
    (ho : o2.IsDictOf (intKind PR w) (stored (stored d.kvs (a : Int) (.int ((4 + cs.length : Nat) : Int) t)) ((4 + cs.length : Nat) : Int) (.int (a : Int) t'))) : Sy w ad (setL ad.oa o2 (setL ad.oa o1 S')) (cs ++ [.inv a]) := by
  have e : ∀ p ∈ S', p.1 ≠ ad.oa → p ∈ setL ad.oa o2 (setL ad.oa o1 S') := fun p hp h => mem_set_ne (mem_set_ne hp h) h
  have hc : ∀ j ∈ (Cell.inv a).ins, j < 4 + cs.length := fun j hj => by rw [List.mem_singleton.mp hj]; exact ha
  have oc : d.oo.cls ≠ .type "tuple" := by
    obtain ⟨_, _, h1, _⟩ := M.opp.d
    rw [h1.1]; simp
  refine ⟨_, M.step (c := .inv a) (xs' := d.xs) fn hc (X.set2 M) (e _ X.nd M.ap.t.ndoa) (e _ X.ca M.ap.t.caoa) (e _ X.mm M.ap.t.maoa) (mem_set (mem_set X.mo)) (e _ X.q (tup_ne fn' X.mo X.q oc)) (e _ ht (tup_ne fn' X.mo ht oc)) (.cons _ _ .nil) ?_ (M.opp.step ha ho)⟩
  exact (M.made.tups fun q us h => X.set2 M _ h (M.tup fn h)).mono (fun p h => h) _
set_option maxRecDepth 100000 in
theorem inv_tell (hS : Sy w ad S cs) (ha : a < 4 + cs.length) (hn : cs.length ≤ 200) : Tell w 56 [.ref ad.g, .int (a : Int) ta] 3 9 S h fun r S' _ => GateP w ad cs (fun r => 1 - val r cs a) r S' := by
  obtain ⟨d, M⟩ := id hS
  refine tell_def [(Str.ofString "self", .ref ad.g), (Str.ofString "a", .int (a : Int) ta)] (by rfl) (by rfl) (fun g X s k => BindsTo.of_eq rfl) (by rfl) (by rfl) (by rfl) rfl rfl rfl fun g hg => Go.fun fun fn => ?_
  refine Go.ifE (Tt.te (Tt.orP (Tp.cmp (Pu.var rfl ⟨_, rfl⟩) .int Cm.eqI) (fun e => ?_) fun e0 => Tt.orP (Tp.cmp (Pu.var rfl ⟨_, rfl⟩) .int Cm.eqI) (fun e => ?_) fun e1 => Tt.or_nil ?_))
  · obtain rfl := ieq (b := 0) e
    exact Go.ret (Pu.i (Pu.sub .int (Pu.var rfl ⟨_, rfl⟩)) fun t h' _ _ => GateP.here (o := 1) hS (lt4 (by decide)) fun r hr => by rw [val_0, val_1]; rfl)
  · obtain rfl := ieq (b := 1) e
    exact Go.ret (Pu.i (Pu.sub .int (Pu.var rfl ⟨_, rfl⟩)) fun t h' _ _ => GateP.here (o := 0) hS (lt4 (by decide)) fun r hr => by rw [val_0, val_1]; rfl)
  · refine Go.ifP (Tp.cmp (Pu.var rfl rfl) (Pu.attr (v := .ref ad.oa) (Pu.var rfl rfl) at_opp M.mg rfl rfl rfl) (fun v u e e' => by cases e; cases e'; exact Op.dNotIn M.mo M.opp.d M.lo (intKind_is _ _ _ _))) (fun e => ?_) fun e => ?_
    · refine Go.assign (Ev.meth (l := ad.nl) (Pu.attr (v := .ref ad.nl) (Pu.var rfl rfl) at_netlist M.mg rfl rfl rfl) me_add M.mn rfl (Evs.sr .str fun t1 => Evs.cons rfl (Ev.tuple (Evs.vl (Pu.var rfl rfl) (Evs.nil (Op.tuple fun D lt => Evs.nil ?_))))))
      refine Tr.fun fun fn1 => Op.tellA (fun h _ _ => M.addcell (us := [.int (a : Int) ta]) (fun _ => .tail _) fn1 hn (.head _)) ?_
      rintro _ S1 _ ⟨t, uc, q, rfl, X, hD, _⟩
      refine Go.fun fun fn2 => ?_
      have kp0 : KeptT ad S S1 := X.kp
      refine Go.setItem (Pu.is (Pu.var rfl rfl) (Pu.is (Pu.attr (v := .ref ad.oa) (Pu.var rfl rfl) at_opp (kp0.inst M.mg M.ap.g M.ap.gd) rfl rfl rfl) (Pu.is (Pu.var rfl rfl) (Op.dSet X.mo M.opp.d (intKind_is _ _ _ _) ?z1 (fun o' => setL ad.oa o' S1) (fun _ => chg_set) fun o1 h1 => ?_))))
      case z1 => exact Nat.le_trans M.opp.len (Nat.le_trans (Nat.mul_le_mul_left 2 hn) (by decide))
      have kp1 : KeptT ad S (setL ad.oa o1 S1) := fun p hp n => mem_set_ne (X.kp p hp n) n.oa
      refine Go.setItem (Pu.is (Pu.var rfl rfl) (Pu.is (Pu.attr (v := .ref ad.oa) (Pu.var rfl rfl) at_opp (kp1.inst M.mg M.ap.g M.ap.gd) rfl rfl rfl) (Pu.is (Pu.var rfl rfl) (Op.dSet (mem_set X.mo) h1 (intKind_is _ _ _ _) ?z2 (fun o' => setL ad.oa o' (setL ad.oa o1 S1)) (fun _ => chg_set) fun o2 h2 => ?_))))
      case z2 => exact Nat.le_trans (stored_len _ _ _) (Nat.le_trans (Nat.succ_le_succ (Nat.le_trans M.opp.len (Nat.mul_le_mul_left 2 hn))) (by decide))
      refine Go.nil (Go.ret (Ev.sub (Pu.is (Pu.attr (v := .ref ad.oa) (Pu.var rfl rfl) at_opp ((X.set2 M).inst M.mg M.ap.g M.ap.gd) rfl rfl rfl) ?_)))
      refine Pu.is (Pu.var rfl rfl) (Op.eqs (Op.base (Op.dItem (mem_set (mem_set X.mo)) h2 (intKind_is _ _ _ _) ((stored_ne _ _ fun e => Nat.ne_of_lt ha (Int.ofNat_inj.mp e)).trans (stored_same _ _ _)))) ?_)
      rintro _ rfl h' _ _
      exact ⟨_, t, _, rfl, M.invStep fn ha X fn2 hD h2, .one _ _, by rw [List.length_append]; exact Nat.lt_succ_self _, fun r hr => val_new _ _ _⟩
    · obtain ⟨v, t, hv, hl, hs⟩ := opp_found M.opp (by simpa using e)
      refine Go.ret (Ev.sub (Pu.is (Pu.attr (v := .ref ad.oa) (Pu.var rfl rfl) at_opp M.mg rfl rfl rfl) (Pu.is (Pu.var rfl rfl) (Op.eqs (Op.base (Op.dItem M.mo M.opp.d (intKind_is _ _ _ _) hv)) ?_))))
      rintro _ rfl h' _ _
      exact GateP.here hS hl hs
theorem SyM.pairStep {mk : Nat → Nat → Cell} {t uc : Tok} {q D : Addr} {o1 : Obj} {t2 ta' tb' : Tok} (hmk : MkOk k mk) (M : SyM w ad S cs d) (fn : FunL S) (ha : a < 4 + cs.length) (hb : b < 4 + cs.length) (X : Added w ad S S' cs d k tk t uc q ti) (fn' : FunL S') (ht : (ti, tupOf [.int (a : Int) ta, .int (b : Int) tb]) ∈ S')
    (hD : (D, tupOf [.str k t2, .int (a : Int) ta', .int (b : Int) tb']) ∈ S') (ho : MadeRaw PR w o1 (d.xs ++ [(keyOf (mk a b), D, .int ((4 + cs.length : Nat) : Int) t)])) : Sy w ad (setL ad.ma o1 S') (cs ++ [mk a b]) := by
  have e : ∀ p ∈ S', p.1 ≠ ad.ma → p ∈ setL ad.ma o1 S' := fun p hp h => mem_set_ne hp h
  have hc : ∀ j ∈ (mk a b).ins, j < 4 + cs.length := fun j hj => by
    rw [hmk.ins] at hj
    rcases List.mem_cons.mp hj with rfl | hj
    · exact ha
    · rw [List.mem_singleton.mp hj]; exact hb
  have oc : d.mo.cls ≠ .type "tuple" := by rw [M.made.ex.1]; simp
  have kp : KeptT ad S (setL ad.ma o1 S') := fun p hp n => mem_set_ne (X.kp p hp n) n.ma
  have hD' : KeyIn PR w (setL ad.ma o1 S') (keyOf (mk a b)) D := ⟨_, e _ hD (tup_ne fn' X.mm hD oc), key3m hmk⟩
  refine ⟨_, M.step (c := mk a b) (xs' := d.xs ++ [(keyOf (mk a b), D, .int ((4 + cs.length : Nat) : Int) t)]) fn hc kp (e _ X.nd M.ap.t.ndma) (e _ X.ca M.ap.t.cama) (mem_set X.mm) (e _ X.mo M.ap.t.maoa.symm) (by rw [hmk.str]; exact e _ X.q (tup_ne fn' X.mm X.q oc)) (e _ ht (tup_ne fn' X.mm ht oc)) (by rw [hmk.ins]; exact .cons _ _ (.cons _ _ .nil)) ?_ (M.opp.mono _)⟩
  exact M.made.step (fun q us h => kp _ h (M.tup fn h)) hc hD' ho
set_option maxRecDepth 100000 in
theorem pair_tell {mk : Nat → Nat → Cell} (hmk : MkOk k mk) (hS : Sy w ad S cs) (ha : a < 4 + cs.length) (hb : b < 4 + cs.length) (hn : cs.length ≤ 200) :
    Tell w 42 [.ref ad.g, .str k tk, .int (a : Int) ta, .int (b : Int) tb] 3 9 S h fun r S' _ => GateP w ad cs (fun r => (mk a b).v (val r cs)) r S' := by
  obtain ⟨d, M⟩ := id hS
  refine tell_def [(Str.ofString "self", .ref ad.g), (Str.ofString "kind", .str k tk), (Str.ofString "first", .int (a : Int) ta), (Str.ofString "second", .int (b : Int) tb)] (by rfl) (by rfl) (fun g X s k => BindsTo.of_eq rfl) (by rfl) (by rfl) (by rfl) rfl rfl rfl fun g hg => Go.fun fun fn => ?_
  refine Go.assign (Ev.callB (Pu.blt rfl (by boot_by_name) (by decide)) (Evs.vl (Pu.var rfl rfl) (Evs.vl (Pu.var rfl rfl) (Evs.nil (Op.eqs Op.min2 ?_)))))
  rintro _ ⟨t1, rfl⟩
  refine Go.assign (Ev.callB (Pu.blt rfl (by boot_by_name) (by decide)) (Evs.vl (Pu.var rfl rfl) (Evs.vl (Pu.var rfl rfl) (Evs.nil (Op.eqs Op.max2 ?_)))))
  rintro _ ⟨t2, rfl⟩
  have e1 : (if (b : Int) < (a : Int) then (b : Int) else (a : Int)) = ((min a b : Nat) : Int) := by
    rw [Nat.min_def]; split <;> split <;> omega
  have e2 : (if (b : Int) > (a : Int) then (b : Int) else (a : Int)) = ((max a b : Nat) : Int) := by
    rw [Nat.max_def]; split <;> split <;> omega
  rw [e1, e2]
  have hlo : min a b < 4 + cs.length := Nat.lt_of_le_of_lt (Nat.min_le_left _ _) ha
  have hhi : max a b < 4 + cs.length := Nat.max_lt.mpr ⟨ha, hb⟩
  refine Go.assign (Ev.tuple (Evs.vl (Pu.var rfl rfl) (Evs.vl (Pu.var rfl rfl) (Evs.vl (Pu.var rfl rfl) (Evs.nil (Op.tuple fun D lt => ?_))))))
  refine Go.fun fun fn1 => ?_
  have hD : KeyIn PR w ((D, tupOf [.str k tk, .int ((min a b : Nat) : Int) t1, .int ((max a b : Nat) : Int) t2]) :: S) (keyOf (mk (min a b) (max a b))) D := ⟨_, .head _, key3m hmk⟩
  have M1 : MadeOk PR w ((D, tupOf [.str k tk, .int ((min a b : Nat) : Int) t1, .int ((max a b : Nat) : Int) t2]) :: S) cs d.mo d.xs := M.made.tups fun _ _ => .tail _
  refine Go.ifP (Tp.cmp (Pu.var rfl rfl) (Pu.attr (v := .ref ad.ma) (Pu.var rfl rfl) at_made M.mg.tail rfl rfl rfl) (fun v u e e' => by cases e; cases e'; exact Op.madeNotIn (.tail _ M.mm) M1 M.lm hD (Nat.le_of_ble_eq_true rfl))) (fun e => ?_) fun e => ?_
  · refine Go.setItem (Ev.meth (l := ad.nl) (Pu.attr (v := .ref ad.nl) (Pu.var rfl rfl) at_netlist M.mg.tail rfl rfl rfl) me_add M.mn.tail rfl (Evs.vl (Pu.var rfl rfl) (Evs.cons rfl (Ev.tuple (Evs.vl (Pu.var rfl rfl) (Evs.vl (Pu.var rfl rfl) (Evs.nil (Op.tuple fun D2 lt2 => Evs.nil ?_))))))))
    refine Tr.fun fun fn2 => Op.tellA (fun h _ _ => M.addcell (us := [.int ((min a b : Nat) : Int) t1, .int ((max a b : Nat) : Int) t2]) (fun _ h => .tail _ (.tail _ h)) fn2 hn (.head _)) ?_
    rintro _ S1 _ ⟨t, uc, q, rfl, X, hD2, kp2⟩
    refine Tr.fun fun fn3 => ?_
    have ne1 : NeT ad D := ⟨Nat.ne_of_gt (lt _ M.mn.d), Nat.ne_of_gt (lt _ M.mc), Nat.ne_of_gt (lt _ M.mm), Nat.ne_of_gt (lt _ M.mo)⟩
    have hD1 := kp2 _ (.tail _ (.head _)) ne1
    have none := none_of (x := atKey d.xs (keyOf (mk (min a b) (max a b)))) (by simpa using e)
    have M2 : MadeOk PR w S1 cs d.mo d.xs := M.made.tups fun q us h => X.kp _ h (M.tup fn h)
    refine Pu.is (Pu.attr (v := .ref ad.ma) (Pu.var rfl rfl) at_made (X.kp.inst M.mg M.ap.g M.ap.gd) rfl rfl rfl) (Pu.is (Pu.var rfl rfl) (Op.madeSet X.mm M2 ⟨_, hD1, key3m hmk⟩ none ?z (Nat.le_of_ble_eq_true rfl) (fun o' => setL ad.ma o' S1) (fun _ => chg_set) fun o1 h1 => ?_))
    case z => exact Nat.le_trans M.made.len (Nat.le_trans hn (by decide))
    have kp1 : KeptT ad S (setL ad.ma o1 S1) := fun p hp n => mem_set_ne (X.kp p hp n) n.ma
    have oc : d.mo.cls ≠ .type "tuple" := by rw [M.made.ex.1]; simp
    have kD : KeyIn PR w (setL ad.ma o1 S1) (keyOf (mk (min a b) (max a b))) D := ⟨_, mem_set_ne hD1 (tup_ne fn3 X.mm hD1 oc), key3m hmk⟩
    refine Go.nil (Go.ret (Ev.sub (Pu.is (Pu.attr (v := .ref ad.ma) (Pu.var rfl rfl) at_made (kp1.inst M.mg M.ap.g M.ap.gd) rfl rfl rfl) (Pu.is (Pu.var rfl rfl) (Op.eqs (Op.base (Op.madeItem (mem_set X.mm) h1 (fun x hx => ?_) kD (atKey_snoc none _) (Nat.le_of_ble_eq_true rfl))) ?_)))))
    · rcases List.mem_append.mp hx with hx | hx
      · exact (M.made.tups fun q us h => kp1 _ h (M.tup fn h)).key x hx
      · rw [List.mem_singleton.mp hx]; exact kD
    · rintro _ rfl h' _ _
      exact ⟨_, t, _, rfl, M.pairStep hmk fn hlo hhi X fn3 hD2 hD1 h1, .one _ _, by rw [List.length_append]; exact Nat.lt_succ_self _, fun r hr => (val_new _ _ _).trans (mk_minmax hmk _ _ _)⟩
  · obtain ⟨p, o, t, hv, e2, hl, hs⟩ := made_found M.made (by simpa using e)
    refine Go.ret (Ev.sub (Pu.is (Pu.attr (v := .ref ad.ma) (Pu.var rfl rfl) at_made M.mg.tail rfl rfl rfl) (Pu.is (Pu.var rfl rfl) (Op.eqs (Op.base (Op.madeItem (.tail _ M.mm) M1.raw M1.key hD hv (Nat.le_of_ble_eq_true rfl))) ?_))))
    rintro _ rfl h' _ _
    rw [e2]
    exact GateP.here ⟨d, M.more fun _ => .tail _⟩ hl fun r hr => (hs r hr).trans (mk_minmax hmk _ _ _)
theorem opp_tell (hS : Sy w ad S cs) : Tell w 49 [.ref ad.g, .int (a : Int) ta, .int (b : Int) tb] 1 3 S h fun r S' _ => ∃ c, r = .bool c ∧ S' = S ∧ (c = true → ∀ r, r < 4 → val r cs b = 1 - val r cs a) := by
  obtain ⟨d, M⟩ := id hS
  refine tell_def [(Str.ofString "self", .ref ad.g), (Str.ofString "first", .int (a : Int) ta), (Str.ofString "second", .int (b : Int) tb)] (by rfl) (by rfl) (fun g X s k => BindsTo.of_eq rfl) (by rfl) (by rfl) (by rfl) rfl rfl rfl fun g hg => ?_
  refine Go.ret (Ev.cmp (Ev.dget (Pu.attr (v := .ref ad.oa) (Pu.var rfl rfl) at_opp M.mg rfl rfl rfl) M.mo M.opp.d (Evs.vl (Pu.var rfl rfl) (Evs.it (Pu.neg .int) fun t => Evs.nil (Op.eqs (Op.dGet2 M.mo M.opp.d M.lo (intKind_is _ _ _ _)) ?_)))))
  rintro _ rfl
  cases hv : valueAt d.kvs (a : Int) with
  | none =>
    refine Pu.is (Pu.var rfl rfl) (Op.eqs (Cm.eqI _ _ ⟨t, rfl⟩ ⟨tb, rfl⟩) ?_)
    rintro _ rfl h' _ _
    refine ⟨_, rfl, rfl, fun e => ?_⟩
    have := of_decide_eq_true e
    omega
  | some v =>
    obtain ⟨v', t', e, _, hs⟩ := opp_found M.opp (by rw [hv]; rfl)
    obtain rfl := Option.some.inj (hv.symm.trans e)
    refine Pu.is (Pu.var rfl rfl) (Op.eqs (Cm.eqI _ _ ⟨t', rfl⟩ ⟨tb, rfl⟩) ?_)
    rintro _ rfl h' _ _
    refine ⟨_, rfl, rfl, fun e r hr => ?_⟩
    rw [← hs r hr, ieq e]
end
section
variable {w : World} {ad : Ad} {S S' : Led} {cs : List Cell} {d : SyD} {h : Heap} {k : Str} {tk ta tb : Tok} {ti : Addr} {us : List Value} {a b : Nat}
theorem ite2 {c : Bool} {X Y : Prop} (ht : c = true → X) (hf : c = false → Y) : if c = true then X else Y := by
  cases c with
  | true => exact ht rfl
  | false => exact hf rfl
theorem mod_same (z : Int) : 0 = (z + z) % 2 := by omega
theorem mod_opp (z : Int) : 1 = (z + (1 - z)) % 2 := by omega
theorem mod_0l {z : Int} (h : 0 ≤ z ∧ z ≤ 1) : z = (0 + z) % 2 := by omega
theorem mod_0r {z : Int} (h : 0 ≤ z ∧ z ≤ 1) : z = (z + 0) % 2 := by omega
theorem mod_1l {z : Int} (h : 0 ≤ z ∧ z ≤ 1) : 1 - z = (1 + z) % 2 := by omega
theorem mod_1r {z : Int} (h : 0 ≤ z ∧ z ≤ 1) : 1 - z = (z + 1) % 2 := by omega
theorem min_opp {z : Int} (h : 0 ≤ z ∧ z ≤ 1) : 0 = min z (1 - z) := by omega
set_option maxRecDepth 100000 in
theorem both_tell (hS : Sy w ad S cs) (ha : a < 4 + cs.length) (hb : b < 4 + cs.length) (hn : cs.length ≤ 200) :
    Tell w 63 [.ref ad.g, .int (a : Int) ta, .int (b : Int) tb] 4 12 S h fun r S' _ => GateP w ad cs (fun r => min (val r cs a) (val r cs b)) r S' := by
  obtain ⟨d, M⟩ := id hS
  refine tell_def [(Str.ofString "self", .ref ad.g), (Str.ofString "a", .int (a : Int) ta), (Str.ofString "b", .int (b : Int) tb)] (by rfl) (by rfl) (fun g X s k => BindsTo.of_eq rfl) (by rfl) (by rfl) (by rfl) rfl rfl rfl fun g hg => ?_
  refine Go.ifE (Tt.te (Tt.orP (Tp.cmp (Pu.var rfl ⟨_, rfl⟩) .int Cm.eqI) (fun e => ?_) fun e0 => Tt.orP (Tp.cmp (Pu.var rfl ⟨_, rfl⟩) .int Cm.eqI) (fun e => ?_) fun e1 =>
    Tt.or (Te.plain (Ev.meth (Pu.var rfl rfl) me_are M.mg rfl (Evs.vl (Pu.var rfl rfl) (Evs.vl (Pu.var rfl rfl) (Evs.nil (Op.tellA (fun _ _ _ => opp_tell hS) ?_))))))))
  · obtain rfl := ieq (b := 0) e
    exact Go.ret (Pu.i .int fun t h' _ _ => GateP.here (o := 0) hS (lt4 (by decide)) fun r hr => by rw [val_0]; exact (Int.min_eq_left (val_bit hr cs b).1).symm)
  · obtain rfl := ieq (b := 0) e
    exact Go.ret (Pu.i .int fun t h' _ _ => GateP.here (o := 0) hS (lt4 (by decide)) fun r hr => by rw [val_0]; exact (Int.min_eq_right (val_bit hr cs a).1).symm)
  · rintro _ _ _ ⟨c, rfl, rfl, hc⟩
    refine ⟨c, rfl, ite2 (fun e => ?_) fun _ => Tt.or_nil ?_⟩
    · exact Go.ret (Pu.i .int fun t h' _ _ => GateP.here (o := 0) hS (lt4 (by decide)) fun r hr => by rw [val_0, hc e r hr]; exact min_opp (val_bit hr cs a))
    refine Go.ifE (Tt.te (Tt.orP (Tp.cmp (Pu.var rfl ⟨_, rfl⟩) .int Cm.eqI) (fun e => ?_) fun e0 => Tt.orP (Tp.cmp (Pu.var rfl ⟨_, rfl⟩) (Pu.var rfl ⟨_, rfl⟩) Cm.eqI) (fun e => ?_) fun e1 => Tt.or_nil ?_))
    · obtain rfl := ieq (b := 1) e
      exact Go.ret (Pu.is (Pu.var rfl rfl) fun h' _ _ => GateP.here hS hb fun r hr => by rw [val_1]; exact (Int.min_eq_right (val_bit hr cs b).2).symm)
    · obtain rfl := ieq e
      exact Go.ret (Pu.is (Pu.var rfl rfl) fun h' _ _ => GateP.here hS hb fun r hr => (Int.min_self _).symm)
    refine Go.ifP (Tp.cmp (Pu.var rfl ⟨_, rfl⟩) .int Cm.eqI) (fun e => ?_) fun e => ?_
    · obtain rfl := ieq (b := 1) e
      exact Go.ret (Pu.is (Pu.var rfl rfl) fun h' _ _ => GateP.here hS ha fun r hr => by rw [val_1]; exact (Int.min_eq_left (val_bit hr cs a).2).symm)
    · refine Go.ret (Ev.meth (Pu.var rfl rfl) me_pair M.mg rfl (Evs.sr .str fun t => Evs.vl (Pu.var rfl rfl) (Evs.vl (Pu.var rfl rfl) (Evs.nil (Op.tellA (fun _ _ _ => pair_tell mkOk_and hS ha hb hn) ?_)))))
      exact fun r S' h' P _ _ _ => P
set_option maxRecDepth 100000 in
theorem differ_tell (hS : Sy w ad S cs) (ha : a < 4 + cs.length) (hb : b < 4 + cs.length) (hn : cs.length ≤ 200) :
    Tell w 77 [.ref ad.g, .int (a : Int) ta, .int (b : Int) tb] 4 12 S h fun r S' _ => GateP w ad cs (fun r => (val r cs a + val r cs b) % 2) r S' := by
  obtain ⟨d, M⟩ := id hS
  refine tell_def [(Str.ofString "self", .ref ad.g), (Str.ofString "a", .int (a : Int) ta), (Str.ofString "b", .int (b : Int) tb)] (by rfl) (by rfl) (fun g X s k => BindsTo.of_eq rfl) (by rfl) (by rfl) (by rfl) rfl rfl rfl fun g hg => ?_
  refine Go.ifP (Tp.cmp (Pu.var rfl ⟨_, rfl⟩) (Pu.var rfl ⟨_, rfl⟩) Cm.eqI) (fun e => ?_) fun eab => ?_
  · obtain rfl := ieq e
    exact Go.ret (Pu.i .int fun t h' _ _ => GateP.here (o := 0) hS (lt4 (by decide)) fun r hr => by rw [val_0]; exact mod_same _)
  refine Go.ifE (Te.plain (Ev.meth (Pu.var rfl rfl) me_are M.mg rfl (Evs.vl (Pu.var rfl rfl) (Evs.vl (Pu.var rfl rfl) (Evs.nil (Op.tellA (fun _ _ _ => opp_tell hS) ?_))))))
  rintro _ _ _ ⟨c, rfl, rfl, hc⟩
  refine ⟨c, rfl, ite2 (fun e => ?_) fun _ => ?_⟩
  · exact Go.ret (Pu.i .int fun t h' _ _ => GateP.here (o := 1) hS (lt4 (by decide)) fun r hr => by rw [val_1, hc e r hr]; exact mod_opp _)
  refine Go.ifE (Tt.te (Tt.orP (Tp.cmp (Pu.var rfl ⟨_, rfl⟩) .int Cm.eqI) (fun e => ?_) fun e0 => Tt.orP (Tp.cmp (Pu.var rfl ⟨_, rfl⟩) .int Cm.eqI) (fun e => ?_) fun e1 => Tt.or_nil ?_))
  · obtain rfl := ieq (b := 0) e
    exact Go.ret (Ev.ifP (Tp.cmp (Pu.var rfl ⟨_, rfl⟩) .int Cm.eqI) (fun e => absurd e (by decide)) fun _ => Pu.is (Pu.var rfl rfl) fun h' _ _ => GateP.here hS hb fun r hr => by rw [val_0]; exact mod_0l (val_bit hr cs b))
  · obtain rfl := ieq (b := 1) e
    refine Go.ret (Ev.ifP (Tp.cmp (Pu.var rfl ⟨_, rfl⟩) .int Cm.eqI) (fun _ => Ev.meth (Pu.var rfl rfl) me_inv M.mg rfl (Evs.vl (Pu.var rfl rfl) (Evs.nil (Op.tellA (fun _ _ _ => inv_tell hS hb hn) ?_)))) fun e => absurd e (by decide))
    exact fun r S' h' P _ _ _ => P.f fun r hr => by rw [val_1]; exact mod_1l (val_bit hr cs b)
  refine Go.ifE (Tt.te (Tt.orP (Tp.cmp (Pu.var rfl ⟨_, rfl⟩) .int Cm.eqI) (fun e => ?_) fun e0 => Tt.orP (Tp.cmp (Pu.var rfl ⟨_, rfl⟩) .int Cm.eqI) (fun e => ?_) fun e1 => Tt.or_nil ?_))
  · obtain rfl := ieq (b := 0) e
    exact Go.ret (Ev.ifP (Tp.cmp (Pu.var rfl ⟨_, rfl⟩) .int Cm.eqI) (fun e => absurd e (by decide)) fun _ => Pu.is (Pu.var rfl rfl) fun h' _ _ => GateP.here hS ha fun r hr => by rw [val_0]; exact mod_0r (val_bit hr cs a))
  · obtain rfl := ieq (b := 1) e
    refine Go.ret (Ev.ifP (Tp.cmp (Pu.var rfl ⟨_, rfl⟩) .int Cm.eqI) (fun _ => Ev.meth (Pu.var rfl rfl) me_inv M.mg rfl (Evs.vl (Pu.var rfl rfl) (Evs.nil (Op.tellA (fun _ _ _ => inv_tell hS ha hn) ?_)))) fun e => absurd e (by decide))
    exact fun r S' h' P _ _ _ => P.f fun r hr => by rw [val_1]; exact mod_1r (val_bit hr cs a)
  · refine Go.ret (Ev.meth (Pu.var rfl rfl) me_pair M.mg rfl (Evs.sr .str fun t => Evs.vl (Pu.var rfl rfl) (Evs.vl (Pu.var rfl rfl) (Evs.nil (Op.tellA (fun _ _ _ => pair_tell mkOk_xor hS ha hb hn) ?_)))))
    exact fun r S' h' P _ _ _ => P
end
theorem lt_item {ms : List Nat} {k n b b' : Nat} (h : ms[k]? = some n) (ha : ∀ n ∈ ms, n < b) (hb : b ≤ b') : n < b' :=
  Nat.lt_of_lt_of_le (ha n (List.mem_of_getElem? h)) hb
theorem fold_le (l : List Int) : l.foldr min 1 ≤ 1 := by
  induction l with
  | nil => exact Int.le_refl _
  | cons a l ih => exact Int.le_trans (Int.min_le_right _ _) ih
theorem fold_app (a b : List Int) : (a ++ b).foldr min 1 = min (a.foldr min 1) (b.foldr min 1) := by
  induction a with
  | nil => simp only [List.nil_append, List.foldr_nil]; exact (Int.min_eq_right (fold_le b)).symm
  | cons x a ih => simp only [List.cons_append, List.foldr_cons, ih, Int.min_assoc]
theorem take_two {ms : List Nat} {i a b : Nat} (ha : ms[2 * i]? = some a) (hb : ms[2 * i + 1]? = some b) : ms.take (2 * (i + 1)) = ms.take (2 * i) ++ [a, b] := by
  rw [Nat.mul_succ, List.take_add_one, List.take_add_one, ha, hb, List.append_assoc]; rfl
theorem take_one {ms : List Nat} {i a : Nat} (ha : ms[i]? = some a) : ms.take (i + 1) = ms.take i ++ [a] := by
  rw [List.take_add_one, ha]; rfl
theorem take_odd {ms : List Nat} {a : Nat} (h : ms.length % 2 = 1) (ha : ms[ms.length - 1]? = some a) : ms = ms.take (2 * (ms.length / 2)) ++ [a] := by
  have e : 2 * (ms.length / 2) = ms.length - 1 := by omega
  have e2 : ms.take (ms.length - 1 + 1) = ms := by rw [Nat.sub_add_cancel (by omega)]; exact List.take_length
  rw [e]
  conv => lhs; rw [← e2, List.take_add_one, ha]
  rfl
theorem ints_snocZ {ys : List Value} {zs : List Int} (h : IntsAre ys zs) (z : Int) (t : Tok) : IntsAre (ys ++ [.int z t]) (zs ++ [z]) := by
  induction h with
  | nil => exact .cons z t .nil
  | cons a t' _ ih => exact .cons a t' ih
abbrev natsI (ns : List Nat) : List Int := ns.map fun n => ((n : Nat) : Int)
/-- nets at hand -/
structure Nts (cs : List Cell) (ns : List Nat) (vs : List Value) : Prop where
  i : IntsAre vs (natsI ns)
  b : ∀ n ∈ ns, n < 4 + cs.length
theorem Nts.len {cs : List Cell} {ns : List Nat} {vs : List Value} (h : Nts cs ns vs) : vs.length = ns.length := ints_len h.i
theorem Nts.grow {cs c2 : List Cell} {ns : List Nat} {vs : List Value} {k : Nat} (h : Nts cs ns vs) (g : Grown cs c2 k) : Nts c2 ns vs := ⟨h.i, fun n hn => Nat.lt_of_lt_of_le (h.b n hn) (Nat.add_le_add_left g.len.1 4)⟩
theorem Nts.snoc {cs : List Cell} {ns : List Nat} {vs : List Value} {o : Nat} {t : Tok} (h : Nts cs ns vs) (ho : o < 4 + cs.length) : Nts cs (ns ++ [o]) (vs ++ [.int (o : Int) t]) := ⟨ints_snoc h.i _ _, fun n hn => by
  rcases List.mem_append.mp hn with hn | hn
  · exact h.b n hn
  · rw [List.mem_singleton.mp hn]; exact ho⟩
theorem Nts.nil {cs : List Cell} : Nts cs [] [] := ⟨.nil, fun _ h => nomatch h⟩
theorem grown_vals {cs c2 : List Cell} {k : Nat} {ns : List Nat} (g : Grown cs c2 k) (r : Nat) (h : ∀ n ∈ ns, n < 4 + cs.length) : ns.map (val r c2) = ns.map (val r cs) := List.map_congr_left fun n hn => g.val r (h n hn)
def GateK (w : World) (ad : Ad) (cs : List Cell) (k : Nat) (f : Nat → Int) (r : Value) (S' : Led) : Prop :=
  ∃ (o : Nat) (t : Tok) (c2 : List Cell), r = .int (o : Int) t ∧ Sy w ad S' c2 ∧ Grown cs c2 k ∧ o < 4 + c2.length ∧ ∀ r, r < 4 → val r c2 o = f r
theorem GateK.mono {w : World} {ad : Ad} {cs : List Cell} {k k' : Nat} {f f' : Nat → Int} {r : Value} {S' : Led} (h : GateK w ad cs k f r S') (hk : k ≤ k') (hf : ∀ r, r < 4 → f r = f' r) : GateK w ad cs k' f' r S' :=
  let ⟨o, t, c2, e, y, g, ho, hv⟩ := h; ⟨o, t, c2, e, y, g.le hk, ho, fun r hr => (hv r hr).trans (hf r hr)⟩
theorem gsub_list {g h : Heap} {S : Led} {l : Addr} {vs : Array Value} (G : GSub h g (S.map (·.1))) (hl : h.IsList l vs) (hoff : ∀ q ∈ S, q.1 ≠ l) : g.IsList l vs := hl.at fun o e => G _ _ e fun hm => by
  obtain ⟨q, hq, e⟩ := List.mem_map.mp hm
  exact hoff q hq e
section
variable {α : Type} {C : Cx} {m : Loc} {S : Led} {l : Addr} {vs : List Value}
/-- what a for loop's block owes -/
structure ForP (C : Cx) (m : Loc) (S1 : Led) (v : Value) (x : Str) (body rest : List Stmt) (P : Flow → Loc → Led → Prop) (n : Nat) (Pv : Nat → Value → Prop) (Fx : Led) (J : Nat → Loc → Led → Prop) : Prop where
  it : Itr C m S1 v n Pv Fx
  h0 : J 0 m S1
  fx : ∀ i m' l, J i m' l → ∀ p ∈ Fx, p ∈ l
  turn : ∀ i u m1 S2, i < n → Pv i u → J i m1 S2 → Go C ((x, u) :: m1) S2 body (Lp (J (i + 1)) (Th C rest P))
  done : ∀ m1 S2, J n m1 S2 → Go C m1 S2 rest P
theorem Go.forS {px pos : Pos} {x : Str} {iter : Expr} {body rest : List Stmt} {P : Flow → Loc → Led → Prop} (h : Ev C m S iter fun v S1 => ∃ n Pv Fx J, ForP C m S1 v x body rest P n Pv Fx J)
    (hx : (C.D.cs.names.lookup x == some .local) = true := by rfl) (hf : ∀ env v, foldedSetIterable iter env v = pure v := by intro _ _; rfl) : Go C m S (.For (.Name x px) iter body [] pos :: rest) P :=
  Go.for_ (h.mono fun v S1 ⟨n, Pv, Fx, J, f⟩ => ⟨n, Pv, Fx, J, f.it, f.h0, f.fx, f.turn, f.done⟩) hx hf
theorem nofx {α : Type} {Q : α → Loc → Led → Prop} : ∀ i m l, Q i m l → ∀ p ∈ ([] : Led), p ∈ l := fun _ _ _ _ _ hp => nomatch hp
theorem nofx2 {α β : Type} {Q : α → β → Led → Prop} : ∀ i m l, Q i m l → ∀ p ∈ ([] : Led), p ∈ l := fun _ _ _ _ _ hp => nomatch hp
theorem nats_getD {ms : List Nat} {k : Nat} (h : k < ms.length) : ∃ n, ms[k]? = some n ∧ (natsI ms).getD k 0 = (n : Int) := ⟨ms[k], List.getElem?_eq_getElem h, by
  rw [List.getD_eq_getElem?_getD, List.getElem?_map, List.getElem?_eq_getElem h]; rfl⟩
theorem Op.itemN {value slice : Expr} {t : Tok} {ms : List Nat} {i : Nat} (hl : LsAt C.g S l vs) (hi : IntsAre vs (natsI ms)) (h1 : i < ms.length) (h2 : ms.length ≤ 100000) (hs : SubOk slice := by intro _ _; rfl) (hg : GoOk value := by intro _ _; rfl) :
    Op C m S (subscriptTail value slice (.ref l) (.int (i : Int) t)) fun r S' => S' = S ∧ ∃ n, ms[i]? = some n ∧ IsI (n : Int) r :=
  Tr.mono (Op.item hl hi (Int.natCast_nonneg _) (by rw [List.length_map]; exact Int.ofNat_lt.mpr h1) (by rw [List.length_map]; exact h2) hs hg) fun r S' ⟨e, h⟩ => by
    obtain ⟨n, hn, e2⟩ := nats_getD h1
    rw [Int.toNat_natCast, e2] at h
    exact ⟨e, n, hn, h⟩
end
section
variable {w : World} {ad : Ad} {S S' : Led} {cs : List Cell} {h : Heap} {lu : Addr} {vs : List Value} {ns : List Nat}
theorem par_step (l : List Int) (z : Int) : (l.sum % 2 + z) % 2 = (l ++ [z]).sum % 2 := by
  rw [List.sum_append, List.sum_cons, List.sum_nil, Int.emod_add_emod, Int.add_zero]
set_option maxRecDepth 100000 in
theorem parity_tell (hS : Sy w ad S cs) (hl : h.IsList lu vs.toArray) (hoff : ∀ q ∈ S, q.1 ≠ lu) (hi : Nts cs ns vs) (hn : cs.length + ns.length ≤ 200) :
    Tell w 131 [.ref ad.g, .ref lu] 5 15 S h fun r S' _ => GateK w ad cs ns.length (fun r => (ns.map (val r cs)).sum % 2) r S' := by
  refine tell_def [(Str.ofString "g", .ref ad.g), (Str.ofString "u", .ref lu)] (by rfl) (by rfl) (fun g X s k => BindsTo.of_eq rfl) (by rfl) (by rfl) (by rfl) rfl rfl rfl fun g hg => ?_
  refine Go.assign (Pu.i .int fun t0 => ?_)
  refine Go.forS (Pu.is (Pu.var rfl rfl) ⟨_, _, _, fun i m1 S1 => ∃ (o : Nat) (t : Tok) (c2 : List Cell), m1.lookup (Str.ofString "total") = some (.int (o : Int) t) ∧ m1.lookup (Str.ofString "g") = some (.ref ad.g) ∧ Sy w ad S1 c2 ∧ Grown cs c2 i ∧ o < 4 + c2.length ∧ ∀ r, r < 4 → val r c2 o = ((ns.take i).map (val r cs)).sum % 2,
    itr_listB (gsub_list hg hl hoff), ⟨0, t0, cs, rfl, rfl, hS, .rfl _ _, lt4 (by decide), fun r hr => val_0 r cs⟩, nofx, ?_, ?_⟩)
  · rintro i u m1 S1 hin hu ⟨o, t, c2, h1, h2, hS2, hG, ho, hv⟩
    obtain ⟨n, tn, rfl, hni⟩ := ints_at hi.i hu
    have hl2 := hG.len
    have hnb := hi.b n (List.mem_of_getElem? hni)
    obtain ⟨d, M⟩ := id hS2
    refine Go.assign (Ev.meth (Pu.var h2 rfl) me_differ M.mg rfl (Evs.vl (Pu.var h1 rfl) (Evs.vl (Pu.var rfl rfl) (Evs.nil (Op.tellA (fun _ _ _ => differ_tell hS2 ho (Nat.lt_of_lt_of_le hnb (Nat.add_le_add_left hl2.1 4)) ?_) ?_)))))
    · exact Nat.le_trans hl2.2 (Nat.le_trans (Nat.add_le_add_left (Nat.le_of_lt (hi.len ▸ hin)) _) hn)
    · rintro _ S3 _ ⟨o3, t3, c3, rfl, hS3, hG3, ho3, hv3⟩
      refine Go.nil ⟨o3, t3, c3, rfl, h2, hS3, hG.trans hG3, ho3, fun r hr => ?_⟩
      refine (hv3 r hr).trans ?_
      show (val r c2 o + val r c2 n) % 2 = _
      rw [hv r hr, hG.val r hnb, take_one hni, List.map_append]
      exact par_step _ _
  · rintro m1 S1 ⟨o, t, c2, h1, h2, hS2, hG, ho, hv⟩
    rw [hi.len] at hG hv
    exact Go.ret (Pu.is (Pu.var h1 rfl) fun h' _ _ => ⟨o, t, c2, rfl, hS2, hG, ho, fun r hr => by rw [hv r hr, List.take_length]⟩)
set_option maxRecDepth 100000 in
theorem wordnot_tell (hS : Sy w ad S cs) (hl : h.IsList lu vs.toArray) (hoff : ∀ q ∈ S, q.1 ≠ lu) (hi : Nts cs ns vs) (hn : cs.length + ns.length ≤ 200) :
    Tell w 103 [.ref ad.g, .ref lu] 4 12 S h fun r S' _ => ∃ D k ys S2 c2 ms, r = .ref D ∧ S' = (D, listOf ys.toArray k) :: S2 ∧ Sy w ad S2 c2 ∧ (∀ q ∈ S2, q.1 ≠ D) ∧ Grown cs c2 ns.length ∧ Nts c2 ms ys ∧ ms.length = ns.length ∧ ∀ r, r < 4 → ms.map (val r c2) = ns.map fun n => 1 - val r cs n := by
  refine tell_def [(Str.ofString "g", .ref ad.g), (Str.ofString "u", .ref lu)] (by rfl) (by rfl) (fun g X s k => BindsTo.of_eq rfl) (by rfl) (by rfl) (by rfl) rfl rfl rfl fun g hg => ?_
  refine Go.ret (Ev.comp (Pu.is (Pu.var rfl rfl) ⟨_, _, _, fun i ys S1 => ∃ c2 ms, Sy w ad S1 c2 ∧ Grown cs c2 i ∧ Nts c2 ms ys ∧ ms.length = i ∧ ∀ r, r < 4 → ms.map (val r c2) = (ns.take i).map fun n => 1 - val r cs n,
    itr_listB (gsub_list hg hl hoff), ?_, ⟨cs, [], hS, .rfl _ _, .nil, rfl, fun _ _ => rfl⟩, nofx2, ?_, ?_⟩))
  · exact Nat.le_trans (Nat.le_of_eq hi.len) (Nat.le_trans (Nat.le_trans (Nat.le_add_left _ _) hn) (by decide))
  · rintro i u ys S2 hin hu ⟨c2, ms, hS2, hG, hm, hlm, hv⟩
    obtain ⟨n, tn, rfl, hni⟩ := ints_at hi.i hu
    have hl2 := hG.len
    have hnb := hi.b n (List.mem_of_getElem? hni)
    obtain ⟨d, M⟩ := id hS2
    refine Ev.meth (Pu.var rfl rfl) me_inv M.mg rfl (Evs.vl (Pu.var rfl rfl) (Evs.nil (Op.tellA (fun _ _ _ => inv_tell hS2 (Nat.lt_of_lt_of_le hnb (Nat.add_le_add_left hl2.1 4)) ?_) ?_)))
    · exact Nat.le_trans hl2.2 (Nat.le_trans (Nat.add_le_add_left (Nat.le_of_lt (hi.len ▸ hin)) _) hn)
    · rintro _ S3 _ ⟨o3, t3, c3, rfl, hS3, hG3, ho3, hv3⟩
      refine ⟨c3, ms ++ [o3], hS3, hG.trans hG3, (hm.grow hG3).snoc ho3, by rw [List.length_append, hlm]; rfl, fun r hr => ?_⟩
      rw [take_one hni, List.map_append, List.map_append, grown_vals hG3 r hm.b, hv r hr]
      exact congrArg (fun z => _ ++ [z]) ((hv3 r hr).trans (congrArg (fun z => 1 - z) (hG.val r hnb)))
  · rintro D k ys S2 ⟨c2, ms, hS2, hG, hm, hlm, hv⟩ hlen hlt hD h' _ _
    rw [hi.len] at hG hv hlm
    exact ⟨D, k, ys, S2, c2, ms, rfl, rfl, hS2, hD, hG, hm, hlm, fun r hr => by rw [hv r hr, List.take_length]⟩
end
theorem Op.itemLast {C : Cx} {m : Loc} {S : Led} {value slice : Expr} {l : Addr} {vs : List Value} {t : Tok} {ms : List Nat} (hl : LsAt C.g S l vs) (hi : IntsAre vs (natsI ms)) (h1 : 1 ≤ ms.length) (h2 : ms.length ≤ 100000) (hs : SubOk slice := by intro _ _; rfl) (hg : GoOk value := by intro _ _; rfl) :
    Op C m S (subscriptTail value slice (.ref l) (.int (-1) t)) fun r S' => S' = S ∧ ∃ n, ms[ms.length - 1]? = some n ∧ IsI (n : Int) r :=
  Tr.mono (Op.itemNeg hl hi (by decide) (by rw [List.length_map]; exact Int.neg_le_neg (Int.ofNat_le.mpr h1)) (by rw [List.length_map]; exact h2) hs hg) fun r S' ⟨e, h⟩ => by
    obtain ⟨n, hn, e2⟩ := nats_getD (ms := ms) (k := ms.length - 1) (Nat.sub_lt h1 (by decide))
    have e3 : (-1 + ((natsI ms).length : Int)).toNat = ms.length - 1 := by rw [List.length_map, Int.add_comm]; exact Int.toNat_sub _ 1
    rw [e3, e2] at h
    exact ⟨e, n, hn, h⟩
section
variable {w : World} {ad : Ad} {S S' : Led} {cs : List Cell} {h : Heap} {lu : Addr} {vs : List Value} {ns : List Nat}
theorem rng_half (n : Nat) : Builtin.Range.rangeSize 0 ((n : Int) - 1) 2 = ((n / 2 : Nat) : Int) := by
  unfold Builtin.Range.rangeSize
  rw [if_pos (by decide)]
  split <;> omega
theorem rng_small2 (n : Nat) (h : n ≤ 1000) : Builtin.Range.small 0 ((n : Int) - 1) 2 = true := by
  unfold Builtin.Range.small
  rw [rng_half]
  simp only [Builtin.Range.rangeFitsLong]
  simp
  omega
theorem idx2 (i : Nat) : (0 + (i : Int) * 2) = ((2 * i : Nat) : Int) := by omega
theorem all_step {cs c3 c4 : List Cell} {ks ms : List Nat} {i r a b o : Nat} {k j : Nat} (hG3 : Grown cs c3 k) (hG : Grown c3 c4 j) (hb : ∀ n ∈ ms, n < 4 + cs.length) (hk : ∀ n ∈ ks, n < 4 + c3.length) (ea : ms[2 * i]? = some a) (eb : ms[2 * i + 1]? = some b)
    (hv : (ks.map (val r c3)).foldr min 1 = ((ms.take (2 * i)).map (val r cs)).foldr min 1) (ho : val r c4 o = min (val r c3 a) (val r c3 b)) : ((ks ++ [o]).map (val r c4)).foldr min 1 = ((ms.take (2 * (i + 1))).map (val r cs)).foldr min 1 := by
  rw [take_two ea eb, List.map_append, List.map_append, fold_app, fold_app, ← hv, grown_vals hG r hk]
  congr 1
  simp only [List.map_cons, List.map_nil, List.foldr_cons, List.foldr_nil]
  rw [ho, hG3.val r (hb _ (List.mem_of_getElem? ea)), hG3.val r (hb _ (List.mem_of_getElem? eb)), Int.min_assoc]
theorem all_odd {cs c3 : List Cell} {ks ms : List Nat} {r a k : Nat} (hG : Grown cs c3 k) (hb : ∀ n ∈ ms, n < 4 + cs.length) (ho : ms.length % 2 = 1) (ea : ms[ms.length - 1]? = some a)
    (hv : (ks.map (val r c3)).foldr min 1 = ((ms.take (2 * (ms.length / 2))).map (val r cs)).foldr min 1) : ((ks ++ [a]).map (val r c3)).foldr min 1 = (ms.map (val r cs)).foldr min 1 := by
  conv => rhs; rw [take_odd ho ea]
  rw [List.map_append, List.map_append, fold_app, fold_app, hv]
  congr 1
  simp only [List.map_cons, List.map_nil, List.foldr_cons, List.foldr_nil]
  rw [hG.val r (hb _ (List.mem_of_getElem? ea))]
/-- all_of's word between the rounds: rows is the list at r -/
structure AllJ (w : World) (ad : Ad) (cs : List Cell) (ns : List Nat) (n : Nat) (m : Loc) (S : Led) (r k d : Nat) (ys : List Value) (ms : List Nat) (S2 : Led) (c2 : List Cell) : Prop where
  en : n = ms.length
  h1 : m.lookup (Str.ofString "rows") = some (.ref r)
  h2 : m.lookup (Str.ofString "g") = some (.ref ad.g)
  eS : S = (r, listOf ys.toArray k) :: S2
  sy : Sy w ad S2 c2
  off : ∀ q ∈ S2, q.1 ≠ r
  gr : Grown cs c2 d
  le : d + ms.length ≤ ns.length
  nt : Nts c2 ms ys
  pos : 1 ≤ ms.length
  v : ∀ r, r < 4 → (ms.map (val r c2)).foldr min 1 = (ns.map (val r cs)).foldr min 1
theorem Sy.more (h : Sy w ad S cs) (hs : ∀ p ∈ S, p ∈ S') : Sy w ad S' cs := let ⟨d, M⟩ := h; ⟨d, M.more hs⟩
/-- and within a round: joined is the list at j -/
structure AllI (w : World) (ad : Ad) (c2 : List Cell) (ms : List Nat) (R : Addr × Obj) (j : Addr) (i : Nat) (m : Loc) (S : Led) (k : Nat) (zs : List Value) (ks : List Nat) (S3 : Led) (c3 : List Cell) : Prop where
  h0 : m.lookup (Str.ofString "joined") = some (.ref j)
  h1 : m.lookup (Str.ofString "rows") = some (.ref R.1)
  h2 : m.lookup (Str.ofString "g") = some (.ref ad.g)
  eS : ∀ p ∈ (j, listOf zs.toArray k) :: R :: S3, p ∈ S
  sy : Sy w ad S3 c3
  off : ∀ q ∈ S3, q.1 ≠ j
  offr : ∀ q ∈ S3, q.1 ≠ R.1
  gr : Grown c2 c3 i
  nt : Nts c3 ks zs
  len : ks.length = i
  v : ∀ r, r < 4 → (ks.map (val r c3)).foldr min 1 = ((ms.take (2 * i)).map (val r c2)).foldr min 1
theorem off2 {a b : Addr × Obj} (h1 : ∀ q ∈ S, q.1 ≠ a.1) (h2 : ∀ q ∈ S, q.1 ≠ b.1) : Off [a, b] S := off_cons h1 (off_cons h2 off_nil)
theorem ne_cons {a : Addr × Obj} {j : Addr} (h1 : a.1 ≠ j) (h2 : ∀ q ∈ S, q.1 ≠ j) : ∀ q ∈ a :: S, q.1 ≠ j := fun q hq => by
  rcases List.mem_cons.mp hq with rfl | hq
  · exact h1
  · exact h2 q hq
theorem half1 {n : Nat} (h : 1 < n) (o : n % 2 = 1) : n / 2 + 1 < n := by omega
theorem half0 {n : Nat} (h : 1 < n) : n / 2 < n := by omega
theorem half2 {n : Nat} (h : 1 < n) : 1 ≤ n / 2 := by omega
theorem half3 {n d k : Nat} (h : d + n ≤ k) : d + n / 2 + n / 2 ≤ k := by omega
theorem half4 {n d k : Nat} (h : d + n ≤ k) (o : n % 2 = 1) : d + n / 2 + (n / 2 + 1) ≤ k := by omega
theorem half5 {n : Nat} (o : ¬ n % 2 = 1) : n ≤ 2 * (n / 2) := by omega
theorem half6 {n i : Nat} (h : i < n / 2) : 2 * i < n ∧ 2 * i + 1 < n := by omega
theorem bound1 {a b d n k i : Nat} (h1 : b ≤ a + d) (h2 : d + n ≤ k) (h3 : a + k ≤ 200) (hi : i < n / 2) {c : Nat} (h4 : c ≤ b + i) : c ≤ 200 := by omega
theorem odd_iff (n : Nat) : (Int.fmod (n : Int) 2 == 1) = true ↔ n % 2 = 1 := by
  rw [Int.fmod_eq_emod_of_nonneg _ (by decide), beq_iff_eq]; omega
set_option maxRecDepth 100000 in
theorem allof_tell (hS : Sy w ad S cs) (hl : h.IsList lu vs.toArray) (hoff : ∀ q ∈ S, q.1 ≠ lu) (hi : Nts cs ns vs) (hn : cs.length + ns.length ≤ 200) (hpos : 1 ≤ ns.length) :
    Tell w 117 [.ref ad.g, .ref lu] 5 15 S h fun r S' _ => GateK w ad cs ns.length (fun r => (ns.map (val r cs)).foldr min 1) r S' := by
  refine tell_def [(Str.ofString "g", .ref ad.g), (Str.ofString "u", .ref lu)] (by rfl) (by rfl) (fun g X s k => BindsTo.of_eq rfl) (by rfl) (by rfl) (by rfl) rfl rfl rfl fun g hg => ?_
  have hns : ns.length ≤ 200 := Nat.le_trans (Nat.le_add_left _ _) hn
  refine Go.assign (Ev.callT (Pu.blt rfl (by boot_by_name) (by decide)) (Evs.vl (Pu.var rfl rfl) (Evs.nil (Op.copy (.inr (gsub_list hg hl hoff)) (by rw [hi.len]; exact Nat.le_trans hns (by decide)) fun D kD lt => ?_))))
  refine Go.while_ (fun n m1 S1 => ∃ r k d ys ms S2 c2, AllJ w ad cs ns n m1 S1 r k d ys ms S2 c2) (n₀ := ns.length) ⟨D, kD, 0, vs, ns, S, cs, rfl, rfl, rfl, rfl, hS, fun q hq => Nat.ne_of_lt (lt q hq), .rfl _ _, Nat.le_of_eq (Nat.zero_add _), hi, hpos, fun _ _ => rfl⟩ fun n m1 S1 ⟨r, k, d, ys, ms, S2, c2, J⟩ => ?_
  obtain ⟨rfl, h1, h2, rfl, hS2, hr, hG, hle, hm, hp, hv⟩ := J
  have hms : ms.length ≤ 200 := Nat.le_trans (Nat.le_trans (Nat.le_add_left _ _) hle) hns
  have hyl : ys.length ≤ 100000 := by rw [hm.len]; exact Nat.le_trans hms (by decide)
  have hc2 := hG.len
  refine Te.cmp (Ev.callB (Pu.blt rfl (by boot_by_name) (by decide)) (Evs.vl (Pu.var h1 rfl) (Evs.nil (Op.eqs (Op.len .head hyl) ?_))))
  rintro _ ⟨t, rfl⟩
  refine Pu.i .int fun t' => Op.eqs (Cm.gtI _ _ ⟨t, rfl⟩ ⟨t', rfl⟩) ?_
  rintro _ rfl
  refine ⟨_, rfl, ite2 (fun e => ?_) fun e => ?_⟩
  · have hgt : 1 < ms.length := by have := of_decide_eq_true e; rw [hm.len] at this; exact Int.ofNat_lt.mp this
    refine Go.assign (Ev.list (Evs.nil (Op.list fun j lj => ?_)))
    refine Go.forS (Ev.callT (Pu.blt rfl (by boot_by_name) (by decide)) (Evs.it .int fun t1 => Evs.it (Pu.sub (Ev.callB (Pu.blt rfl (by boot_by_name) (by decide)) (Evs.vl (Pu.var h1 rfl) (Evs.nil (Op.len (.tail .head) hyl)))) .int) fun t2 => Evs.it .int fun t3 => Evs.nil (Op.range3 (by decide) ?dv fun r9 t4 t5 t6 l9 => ?_)))
    case dv => exact PyProof.noPylong_small (by decide)
    rw [hm.len]
    have lj2 := lj _ (.head _)
    refine ⟨_, _, _, fun i m2 S4 => ∃ kz zs ks S3 c3, AllI w ad c2 ms (r, listOf ys.toArray k) j i m2 S4 kz zs ks S3 c3, itr_range (.head _) (rng_small2 _ (Nat.le_trans hms (by decide))) (rng_half _), ?_, nofx, ?_, ?_⟩
    · exact ⟨0, [], [], S2, c2, rfl, h1, h2, fun p hp => .tail _ hp, hS2, fun q hq => Nat.ne_of_lt (lj q (.tail _ hq)), hr, .rfl _ _, .nil, rfl, fun _ _ => rfl⟩
    · rintro i u m2 S4 hin ⟨_, tv, rfl⟩ ⟨kz, zs, ks, S3, c3, I⟩
      obtain ⟨g0, g1, g2, eS, hS3, ho3, hor, hG3, hk, hlk, hv3⟩ := I
      rw [idx2]
      refine Go.weak (fun _ _ h => h) eS ?_
      obtain ⟨d3, M⟩ := id hS3
      have hx := half6 hin
      have hc3 := hG3.len
      have hz : zs.length ≤ sizeLine := by rw [hk.len, hlk]; exact Nat.le_trans (Nat.le_of_lt (Nat.lt_of_lt_of_le hin (Nat.div_le_self _ _))) (Nat.le_trans hms (by decide))
      refine Go.append (Pu.var g0 rfl) (.head _) hz (Ev.meth (Pu.var g2 rfl) me_both M.mg.tail.tail rfl (Evs.cons rfl (Ev.sub (Pu.is (Pu.var g1 rfl) (Pu.i (Pu.var rfl ⟨_, rfl⟩) fun t7 => Op.eqs (Op.itemN (.tail .head) hm.i hx.1 (Nat.le_trans hms (by decide))) ?_)))))
      rintro _ ⟨a, ea, ta, rfl⟩
      refine Evs.cons rfl (Ev.sub (Pu.is (Pu.var g1 rfl) (Pu.i (Pu.add (z := ((2 * i : Nat) : Int)) (y := 1) (Pu.var rfl ⟨_, rfl⟩) .int) fun t7 => Op.eqs (Op.itemN (i := 2 * i + 1) (.tail .head) hm.i hx.2 (Nat.le_trans hms (by decide))) ?_)))
      rintro _ ⟨b, eb, tb, rfl⟩
      refine Evs.nil (Op.tell (pre := [(j, listOf zs.toArray kz), (r, listOf ys.toArray k)]) (S1 := S3) (fun _ _ _ => both_tell hS3 (lt_item ea hm.b (Nat.add_le_add_left hc3.1 4)) (lt_item eb hm.b (Nat.add_le_add_left hc3.1 4)) (bound1 hc2.2 hle hn hin hc3.2)) (fun p hp => List.mem_append_left S3 hp) (fun p hp => .tail _ (.tail _ hp)) (fun _ => off2 ho3 hor) ?_)
      rintro _ S5 _ off5 ⟨o, t8, c5, rfl, hS5, hG5, ho5, hv5⟩
      refine ⟨.head _, _, chg_head (ne_cons (Nat.ne_of_lt lj2) off5.head), Go.nil ⟨kz + 1, _, ks ++ [o], S5, c5, g0, g1, g2, fun p hp => hp, hS5, off5.head, off5.tail.head, hG3.trans hG5, (hk.grow hG5).snoc ho5, by rw [List.length_append, hlk]; rfl, fun r hr => ?_⟩⟩
      exact all_step hG3 hG5 hm.b hk.b ea eb (hv3 r hr) (hv5 r hr)
    · rintro m2 S4 ⟨kz, zs, ks, S3, c3, I⟩
      obtain ⟨g0, g1, g2, eS, hS3, ho3, hor, hG3, hk, hlk, hv3⟩ := I
      refine Go.weak (fun _ _ h => h) eS ?_
      have hz : zs.length ≤ sizeLine := by rw [hk.len, hlk]; exact Nat.le_trans (Nat.div_le_self _ _) (Nat.le_trans hms (by decide))
      refine Go.ifP (Tp.cmp (Pu.mod (Ev.callB (Pu.blt rfl (by boot_by_name) (by decide)) (Evs.vl (Pu.var g1 rfl) (Evs.nil (Op.len (.tail .head) hyl)))) .int (by decide)) .int Cm.eqI) (fun eo => ?_) fun eo => ?_
      · rw [hm.len] at eo
        have eo := (odd_iff _).mp eo
        refine Go.append (Pu.var g0 rfl) (.head _) hz (Ev.sub (Pu.is (Pu.var g1 rfl) (Pu.i (Pu.neg (z := 1) .int) fun t7 => Op.eqs (Op.itemLast (.tail .head) hm.i hp (Nat.le_trans hms (by decide))) ?_)))
        rintro _ ⟨a, ea, ta, rfl⟩
        refine ⟨.head _, _, chg_head (ne_cons (Nat.ne_of_lt lj2) ho3), Go.nil (Go.assign (Pu.is (Pu.var g0 rfl) (Go.weak (S' := (j, listOf (zs ++ [Value.int (a : Int) ta]).toArray (kz + 1)) :: S3) (fun _ _ h => h) (fun p hp => ?_) (Go.nil ⟨rfl, ms.length / 2 + 1, half1 hgt eo, j, kz + 1, d + ms.length / 2, zs ++ [Value.int (a : Int) ta], ks ++ [a], S3, c3, ?_⟩))))⟩
        · exact (List.mem_cons.mp hp).elim (fun e => e ▸ .head _) fun h => .tail _ (.tail _ h)
        · have hl : (ks ++ [a]).length = ms.length / 2 + 1 := by rw [List.length_append, hlk]; rfl
          exact ⟨hl.symm, rfl, g2, rfl, hS3, ho3, hG.trans hG3, hl ▸ half4 hle eo, hk.snoc (lt_item ea hm.b (Nat.add_le_add_left hG3.len.1 4)), hl ▸ Nat.succ_le_succ (Nat.zero_le _), fun r hr => (all_odd hG3 hm.b eo ea (hv3 r hr)).trans (hv r hr)⟩
      · rw [hm.len] at eo
        have eo : ¬ ms.length % 2 = 1 := fun h => by rw [(odd_iff _).mpr h] at eo; cases eo
        refine Go.assign (Pu.is (Pu.var g0 rfl) (Go.weak (S' := (j, listOf zs.toArray kz) :: S3) (fun _ _ h => h) (fun p hp => ?_) (Go.nil ⟨rfl, ms.length / 2, half0 hgt, j, kz, d + ms.length / 2, zs, ks, S3, c3, ?_⟩)))
        · exact (List.mem_cons.mp hp).elim (fun e => e ▸ .head _) fun h => .tail _ (.tail _ h)
        · exact ⟨hlk.symm, rfl, g2, rfl, hS3, ho3, hG.trans hG3, hlk ▸ half3 hle, hk, hlk ▸ half2 hgt, fun r hr => by rw [hv3 r hr, List.take_of_length_le (half5 eo)]; exact hv r hr⟩
  · have e1 : ms.length = 1 := by have := of_decide_eq_false e; rw [hm.len] at this; exact Nat.le_antisymm (Int.ofNat_le.mp (Int.not_lt.mp this)) hp
    refine Go.ret (Ev.ifP (Tp.cmp (Ev.callB (Pu.blt rfl (by boot_by_name) (by decide)) (Evs.vl (Pu.var h1 rfl) (Evs.nil (Op.len .head hyl)))) .int Cm.eqI) (fun _ => ?_) fun e => ?_)
    · refine Ev.sub (Pu.is (Pu.var h1 rfl) (Pu.i (z := 0) .int fun t7 => Op.eqs (Op.itemN (i := 0) .head hm.i hp (Nat.le_trans hms (by decide))) ?_))
      rintro _ ⟨a, ea, ta, rfl⟩ h' _ _
      match ms, e1, ea, hv, hm, hle with
      | [x], _, ea, hv, hm, hle =>
        obtain rfl : x = a := Option.some.inj ea
        exact ⟨x, ta, c2, rfl, hS2.more fun _ => .tail _, hG.le (Nat.le_trans (Nat.le_add_right _ _) hle), hm.b x (.head _), fun r hr => (Int.min_eq_left (val_bit hr c2 x).2).symm.trans (hv r hr)⟩
    · rw [hm.len, e1] at e; cases e
end
def gateV (k : Str) (l : List Int) : Int :=
  if (k == Str.ofString "and") = true then l.foldr min 1 else if (k == Str.ofString "nand") = true then 1 - l.foldr min 1
  else if (k == Str.ofString "or") = true then 1 - (l.map fun n => 1 - n).foldr min 1 else if (k == Str.ofString "nor") = true then 1 - (1 - (l.map fun n => 1 - n).foldr min 1)
  else if (k == Str.ofString "xor") = true then l.sum % 2 else if (k == Str.ofString "xnor") = true then 1 - l.sum % 2
  else if (k == Str.ofString "buf") = true then l.headD 0 else 1 - l.headD 0
def isEight (k : Str) : Bool := k == Str.ofString "and" || k == Str.ofString "nand" || k == Str.ofString "or" || k == Str.ofString "nor" || k == Str.ofString "xor" || k == Str.ofString "xnor" || k == Str.ofString "buf" || k == Str.ofString "not"
theorem gv_or (l : List Int) : gateV (Str.ofString "or") l = 1 - (l.map fun n => 1 - n).foldr min 1 := rfl
theorem gv_nor (l : List Int) : gateV (Str.ofString "nor") l = 1 - (1 - (l.map fun n => 1 - n).foldr min 1) := rfl
theorem head_at {ns : List Nat} {n : Nat} {f : Nat → Int} (h : ns[0]? = some n) : (ns.map f).headD 0 = f n := by
  cases ns with
  | nil => cases h
  | cons a l => cases h; rfl
section
variable {w : World} {ad : Ad} {S S' : Led} {cs : List Cell} {h g : Heap} {lu : Addr} {vs : List Value} {ns : List Nat}
theorem list_later (hl : g.IsList lu vs.toArray) (k : Keeps g h) : h.IsList lu vs.toArray := hl.at fun o e => k _ o e
theorem list_here {k : Nat} (hs : ∀ p ∈ S, h.get? p.1 = some p.2) (hm : (lu, listOf vs.toArray k) ∈ S) : h.IsList lu vs.toArray := ⟨_, hs _ hm, rfl, k, rfl⟩
theorem GateK.more {k : Nat} {f : Nat → Int} {r : Value} (h : GateK w ad cs k f r S) (hs : ∀ p ∈ S, p ∈ S') : GateK w ad cs k f r S' := let ⟨o, t, c2, e, y, g, ho, hv⟩ := h; ⟨o, t, c2, e, y.more hs, g, ho, hv⟩
theorem GateK.le {k k' : Nat} {f : Nat → Int} {r : Value} (h : GateK w ad cs k f r S) (hk : k ≤ k') : GateK w ad cs k' f r S := h.mono hk fun _ _ => rfl
/-- g.inv of what a call gave -/
theorem Op.invK {C : Cx} {m : Loc} {P : Value → Led → Prop} {pre : Led} {k : Nat} {f : Nat → Int} {o : Nat} {t : Tok} {c2 : List Cell} (hS : Sy C.w ad S c2) (hG : Grown cs c2 k) (ho : o < 4 + c2.length) (hv : ∀ r, r < 4 → val r c2 o = f r) (hn : cs.length + k ≤ 200) (off : Off pre S)
    (h : ∀ r S', GateK C.w ad cs (k + 1) (fun r => 1 - f r) r S' → P r (pre ++ S')) (hd : 3 ≤ C.dn := by exact Nat.le_of_ble_eq_true rfl) (hu : 9 ≤ C.un := by exact Nat.le_of_ble_eq_true rfl) : Op C m (pre ++ S) (call (.ref 56) [.ref ad.g, .int (o : Int) t]) P :=
  Op.tell (fun _ _ _ => inv_tell hS ho (Nat.le_trans hG.len.2 hn)) (fun p hp => List.mem_append_left _ hp) (fun p hp => List.mem_append_right _ hp) (fun _ => off)
    (fun r S' _ _ ⟨o', t', c', e, y, g, ho', hv'⟩ => h r S' ⟨o', t', c', e, y, hG.trans g, ho', fun r hr => (hv' r hr).trans (congrArg (fun z => 1 - z) (hv r hr))⟩) hd hu
set_option maxRecDepth 100000 in
theorem anyof_tell (hS : Sy w ad S cs) (hl : h.IsList lu vs.toArray) (hoff : ∀ q ∈ S, q.1 ≠ lu) (hi : Nts cs ns vs) (hn : cs.length + (ns.length + ns.length) ≤ 200) (hpos : 1 ≤ ns.length) :
    Tell w 124 [.ref ad.g, .ref lu] 6 18 S h fun r S' _ => GateK w ad cs (ns.length + ns.length + 1) (fun r => 1 - (ns.map fun n => 1 - val r cs n).foldr min 1) r S' := by
  refine tell_def [(Str.ofString "g", .ref ad.g), (Str.ofString "u", .ref lu)] (by rfl) (by rfl) (fun g X s k => BindsTo.of_eq rfl) (by rfl) (by rfl) (by rfl) rfl rfl rfl fun g hg => ?_
  have hn1 : cs.length + ns.length ≤ 200 := Nat.le_trans (Nat.add_le_add_left (Nat.le_add_right _ _) _) hn
  obtain ⟨d, M⟩ := id hS
  refine Go.ret (Ev.meth (Pu.var rfl rfl) me_inv M.mg rfl (Evs.cons rfl (Ev.callK (Pu.glob rfl) (by rfl) (Evs.vl (Pu.var rfl rfl) (Evs.cons rfl (Ev.callK (Pu.glob rfl) (by rfl) (Evs.vl (Pu.var rfl rfl) (Evs.vl (Pu.var rfl rfl) (Evs.nil
    (Op.tellA (fun h k _ => wordnot_tell hS (list_later (gsub_list hg hl hoff) k) hoff hi hn1) ?_))))))))))
  rintro _ _ _ ⟨D, k, ys, S2, c2, ms, rfl, rfl, hS2, hD, hG, hm, hlm, hv⟩
  have hc := hG.len
  refine Evs.nil (Op.tell (pre := [(D, listOf ys.toArray k)]) (S1 := S2) (fun h _ hs => allof_tell hS2 (list_here hs (.head _)) hD hm (by rw [hlm]; exact Nat.le_trans (Nat.add_le_add_right hc.2 _) (by rw [Nat.add_assoc]; exact hn)) (by rw [hlm]; exact hpos)) (fun p hp => List.mem_append_left S2 hp) (fun p hp => .tail _ hp) (fun _ => off_cons hD off_nil) ?_)
  rintro _ S3 _ off3 ⟨o, t, c3, rfl, hS3, hG3, ho3, hv3⟩
  rw [hlm] at hG3
  refine Evs.nil (Op.invK hS3 (hG.trans hG3) ho3 (fun r hr => (hv3 r hr).trans (congrArg (fun l => List.foldr min 1 l) (hv r hr))) hn off3 fun r S4 h h' _ _ => ?_)
  exact h.more fun _ => .tail _
/-- what gate_net gives back -/
def GateN (w : World) (ad : Ad) (cs : List Cell) (ns : List Nat) (kd : Str) (r : Value) (S' : Led) : Prop :=
  (isEight kd = true → GateK w ad cs (2 * ns.length + 2) (fun r => gateV kd (ns.map (val r cs))) r S') ∧ (isEight kd = false → r = .none)
theorem GateN.of {kd : Str} {r : Value} (h8 : isEight kd = true) (h : GateK w ad cs (2 * ns.length + 2) (fun r => gateV kd (ns.map (val r cs))) r S) : GateN w ad cs ns kd r S := ⟨fun _ => h, fun e => by rw [h8] at e; cases e⟩
theorem seq {a b : Str} (h : (a == b) = true) : a = b := by simpa using h
theorem two_le (n : Nat) : n + n = 2 * n := (Nat.two_mul n).symm
set_option maxRecDepth 100000 in
theorem gate_tell {kd : Str} {tkd : Tok} (hS : Sy w ad S cs) (hl : h.IsList lu vs.toArray) (hoff : ∀ q ∈ S, q.1 ≠ lu) (hi : Nts cs ns vs) (hn : cs.length + (2 * ns.length + 1) ≤ 200) (hpos : 1 ≤ ns.length) :
    Tell w 138 [.ref ad.g, .str kd tkd, .ref lu] 7 21 S h fun r S' _ => GateN w ad cs ns kd r S' := by
  refine tell_def [(Str.ofString "g", .ref ad.g), (Str.ofString "kind", .str kd tkd), (Str.ofString "ins", .ref lu)] (by rfl) (by rfl) (fun g X s k => BindsTo.of_eq rfl) (by rfl) (by rfl) (by rfl) rfl rfl rfl fun g hg => ?_
  have hl1 := gsub_list hg hl hoff
  have hle : ns.length ≤ 2 * ns.length + 1 := Nat.le_trans (Nat.le_mul_of_pos_left _ (by decide)) (Nat.le_succ _)
  have hn1 : cs.length + ns.length ≤ 200 := Nat.le_trans (Nat.add_le_add_left hle _) hn
  have hns : ns.length ≤ 100000 := Nat.le_trans (Nat.le_trans (Nat.le_add_left _ _) hn1) (by decide)
  have hn2 : cs.length + (ns.length + ns.length) ≤ 200 := by rw [two_le]; exact Nat.le_trans (Nat.add_le_add_left (Nat.le_succ _) _) hn
  have w1 : ns.length ≤ 2 * ns.length + 2 := Nat.le_succ_of_le hle
  obtain ⟨d, M⟩ := id hS
  have alof : ∀ h, Keeps g h → Tell w 117 [.ref ad.g, .ref lu] 5 15 S h fun r S' _ => GateK w ad cs ns.length (fun r => (ns.map (val r cs)).foldr min 1) r S' := fun h k => allof_tell hS (list_later hl1 k) hoff hi hn1 hpos
  have anof : ∀ h, Keeps g h → Tell w 124 [.ref ad.g, .ref lu] 6 18 S h fun r S' _ => GateK w ad cs (ns.length + ns.length + 1) (fun r => 1 - (ns.map fun n => 1 - val r cs n).foldr min 1) r S' := fun h k => anyof_tell hS (list_later hl1 k) hoff hi hn2 hpos
  have paof : ∀ h, Keeps g h → Tell w 131 [.ref ad.g, .ref lu] 5 15 S h fun r S' _ => GateK w ad cs ns.length (fun r => (ns.map (val r cs)).sum % 2) r S' := fun h k => parity_tell hS (list_later hl1 k) hoff hi hn1
  refine Go.ifP (Tp.cmp (Pu.var rfl ⟨_, rfl⟩) .str Cm.eqS) (fun e => ?_) fun e1 => Go.ifP (Tp.cmp (Pu.var rfl ⟨_, rfl⟩) .str Cm.eqS) (fun e => ?_) fun e2 => Go.ifP (Tp.cmp (Pu.var rfl ⟨_, rfl⟩) .str Cm.eqS) (fun e => ?_) fun e3 => Go.ifP (Tp.cmp (Pu.var rfl ⟨_, rfl⟩) .str Cm.eqS) (fun e => ?_) fun e4 =>
    Go.ifP (Tp.cmp (Pu.var rfl ⟨_, rfl⟩) .str Cm.eqS) (fun e => ?_) fun e5 => Go.ifP (Tp.cmp (Pu.var rfl ⟨_, rfl⟩) .str Cm.eqS) (fun e => ?_) fun e6 => Go.ifP (Tp.cmp (Pu.var rfl ⟨_, rfl⟩) .str Cm.eqS) (fun e => ?_) fun e7 => Go.ifP (Tp.cmp (Pu.var rfl ⟨_, rfl⟩) .str Cm.eqS) (fun e => ?_) fun e8 => ?_
  · obtain rfl := seq e
    exact Go.ret (Ev.callK (Pu.glob rfl) (by rfl) (Evs.vl (Pu.var rfl rfl) (Evs.vl (Pu.var rfl rfl) (Evs.nil (Op.tellA (fun h k _ => alof h k) fun r S' h P _ _ _ => .of rfl (P.le w1))))))
  · obtain rfl := seq e
    refine Go.ret (Ev.meth (Pu.var rfl rfl) me_inv M.mg rfl (Evs.cons rfl (Ev.callK (Pu.glob rfl) (by rfl) (Evs.vl (Pu.var rfl rfl) (Evs.vl (Pu.var rfl rfl) (Evs.nil (Op.tellA (fun h k _ => alof h k) ?_)))))))
    rintro _ S3 _ ⟨o, t, c3, rfl, hS3, hG3, ho3, hv3⟩
    exact Evs.nil (Op.invK (pre := []) hS3 hG3 ho3 hv3 hn1 off_nil fun r S4 P h' _ _ => .of rfl (P.le (Nat.succ_le_succ hle)))
  · obtain rfl := seq e
    exact Go.ret (Ev.callK (Pu.glob rfl) (by rfl) (Evs.vl (Pu.var rfl rfl) (Evs.vl (Pu.var rfl rfl) (Evs.nil (Op.tellA (fun h k _ => anof h k) fun r S' h P _ _ _ => .of rfl (P.mono (by rw [two_le]; exact Nat.le_succ _) fun r _ => by rw [gv_or, List.map_map]; rfl))))))
  · obtain rfl := seq e
    refine Go.ret (Ev.meth (Pu.var rfl rfl) me_inv M.mg rfl (Evs.cons rfl (Ev.callK (Pu.glob rfl) (by rfl) (Evs.vl (Pu.var rfl rfl) (Evs.vl (Pu.var rfl rfl) (Evs.nil (Op.tellA (fun h k _ => anof h k) ?_)))))))
    rintro _ S3 _ ⟨o, t, c3, rfl, hS3, hG3, ho3, hv3⟩
    exact Evs.nil (Op.invK (pre := []) hS3 hG3 ho3 hv3 (by rw [two_le]; exact hn) off_nil fun r S4 P h' _ _ => .of rfl (P.mono (by rw [two_le]; exact Nat.le_refl _) fun r _ => by rw [gv_nor, List.map_map]; rfl))
  · obtain rfl := seq e
    exact Go.ret (Ev.callK (Pu.glob rfl) (by rfl) (Evs.vl (Pu.var rfl rfl) (Evs.vl (Pu.var rfl rfl) (Evs.nil (Op.tellA (fun h k _ => paof h k) fun r S' h P _ _ _ => .of rfl (P.le w1))))))
  · obtain rfl := seq e
    refine Go.ret (Ev.meth (Pu.var rfl rfl) me_inv M.mg rfl (Evs.cons rfl (Ev.callK (Pu.glob rfl) (by rfl) (Evs.vl (Pu.var rfl rfl) (Evs.vl (Pu.var rfl rfl) (Evs.nil (Op.tellA (fun h k _ => paof h k) ?_)))))))
    rintro _ S3 _ ⟨o, t, c3, rfl, hS3, hG3, ho3, hv3⟩
    exact Evs.nil (Op.invK (pre := []) hS3 hG3 ho3 hv3 hn1 off_nil fun r S4 P h' _ _ => .of rfl (P.le (Nat.succ_le_succ hle)))
  · obtain rfl := seq e
    refine Go.ret (Ev.sub (Pu.is (Pu.var rfl rfl) (Pu.i (z := 0) .int fun t7 => Op.eqs (Op.itemN (i := 0) (.inr hl1) hi.i hpos hns) ?_)))
    rintro _ ⟨a, ea, ta, rfl⟩ h' _ _
    exact .of rfl ⟨a, ta, cs, rfl, hS, .rfl _ _, hi.b a (List.mem_of_getElem? ea), fun r hr => (head_at ea).symm⟩
  · obtain rfl := seq e
    refine Go.ret (Ev.meth (Pu.var rfl rfl) me_inv M.mg rfl (Evs.cons rfl (Ev.sub (Pu.is (Pu.var rfl rfl) (Pu.i (z := 0) .int fun t7 => Op.eqs (Op.itemN (i := 0) (.inr hl1) hi.i hpos hns) ?_)))))
    rintro _ ⟨a, ea, ta, rfl⟩
    exact Evs.nil (Op.invK (pre := []) hS (.rfl cs 0) (hi.b a (List.mem_of_getElem? ea)) (fun _ _ => rfl) (Nat.le_trans (Nat.le_add_right _ _) hn) off_nil fun r S4 P h' _ _ => .of rfl (P.mono (Nat.le_add_left _ _) fun r _ => congrArg (fun z => 1 - z) (head_at ea).symm))
  · refine Go.ret (Pu.is .none fun h' _ _ => ⟨fun h => ?_, fun _ => rfl⟩)
    unfold isEight at h
    rw [e1, e2, e3, e4, e5, e6, e7, e8] at h
    cases h
end
section
variable {prog : Program} {w : World} {A : Around} {K : Frag} {C : Addr} {s : Shared} {h₀ : Heap} {L : Addr} {m : Str → Option Value} {news : List (Addr × Obj)} {Q E : Value → Shared → Prop}
/-- an own class called: what stood stays -/
theorem call_made {pos : List Value} {kw : List (Str × Value)} {fI : Addr} (F : Fr h₀ L s.heap m) (X : K.In h₀) (N : News h₀ L s.heap news) (hm : makesIn K C = true) (hi : findIn K (.ref C) "__init__" = some (some (.ref fI))) (hf : isFn K (.ref fI) = true)
    (h : ∀ x dx h', Fr h₀ L h' m → News h₀ L h' ((x, instObj C dx) :: (dx, dictOf [] 0) :: news) → (∀ p ∈ news, p.1 < dx) → dx < x → (∀ l g, GSub h' g (x :: dx :: l) → GSub s.heap g l) →
      codeAny (model prog w) (A.under (.builtin "type.__call__" ⟨.ref C :: pos, kw⟩)) (.call (.ref fI) ⟨.ref x :: pos, kw⟩) (InitBack x fun r s' => match r with | .ok (.ret v) => Q v s' | .ok _ => False | .error e => E e s') { s with heap := h' }) :
    wpAny (model prog w) A (call (.ref C) pos kw) Q E s := by
  have X' := X.keeps F.keep
  obtain ⟨hp, gn, dr, tk, os⟩ := s
  have sz := Heap.size_push hp emptyDict
  have N2 := (N.push F emptyDict).push (F.push _) (instObj C hp.objs.size)
  rw [sz] at N2
  refine wpAny_call (make_core (makes_of X' hm) (looks_findIn X' hi) (fun v => bind_fn X' v (beq_iff_eq.mp hf)) (.inl rfl) (h _ _ _ ((F.push _).push _) N2 (fun p hp => Heap.lt_size (N p hp).1) (Nat.lt_succ_self _) fun l g G b o e n => ?_))
  have hb := Heap.lt_size e
  refine G b o (Heap.get?_push_of_some _ (Heap.get?_push_of_some _ e)) fun hm => ?_
  rcases List.mem_cons.mp hm with rfl | hm
  · exact absurd (Nat.lt_trans (Nat.lt_succ_self _) hb) (Nat.lt_irrefl _)
  · rcases List.mem_cons.mp hm with rfl | hm
    · exact absurd hb (Nat.lt_irrefl _)
    · exact n hm
end
theorem cells_above {names : List (Str × NameKind)} {n L : Nat} {acc : List (Str × Addr)} (hn : L ≤ n) (hacc : ∀ c ∈ acc.map (·.2), L ≤ c) : ∀ c ∈ (cellsFrom n names acc).map (·.2), L ≤ c := by
  induction names generalizing n acc with
  | nil => exact hacc
  | cons y r ih =>
    rw [cellsFrom]
    split
    · refine ih (Nat.le_succ_of_le hn) fun c hc => ?_
      rw [List.map_cons, List.mem_cons] at hc
      rcases hc with rfl | hc
      · exact hn
      · exact hacc c hc
    · exact ih hn hacc
/-- a class's contract by its __init__ -/
theorem tell_cls {w : World} {c f : Addr} {vs : List Value} {dn un : Nat} {S : Led} {h : Heap} {Post : Value → Led → Heap → Prop} {name qual : Str} {params : Arguments} {body : List Stmt} {scope : Scope} {dV kV doc pm cdv ct oc : Value} {an od : Option Addr} {osl : Array (Option Value)} (binds : Addr → Loc)
    (hmk : makesIn (KK w) c = true) (hini : findIn (KK w) (.ref c) "__init__" = some (some (.ref f))) (hfn : isFn (KK w) (.ref f) = true) (ho : (KK w).lookup f = some ⟨oc, od, .func (fnOf name qual params body scope dV kV doc pm an cdv ct), osl⟩) (hcd : codeIn (KK w) cdv qual = true)
    (hbind : ∀ (s : Shared) x, BindsTo s (fnOf name qual params body scope dV kV doc pm an cdv ct) ⟨.ref x :: vs, []⟩ (binds x)) (hkind : ∀ x, ((binds x).all fun y => scope.names.lookup y.1 == some .local || scope.names.lookup y.1 == some .cell) = true) (hm : ∀ x, nodS ((binds x).map (·.1)) = true)
    (hnd : nodS ((cellsFrom 0 scope.names []).map (·.1)) = true) (hco : scope.isCoroutine = false) (hgen : scope.isGenerator = false) (hk : scope.kind = .function)
    (H : ∀ g x dx, dx < x → (∀ p ∈ S, p.1 < dx) → Go (cx w ⟨qual, scope, f, cdv⟩ dn un g) (binds x) ((x, instObj c dx) :: (dx, dictOf [] 0) :: S) body (Fin fun r S' => r = .none ∧ ∀ h', Keeps g h' → (∀ p ∈ S', h'.get? p.1 = some p.2) → Post (.ref x) S' h')) :
    Tell w c vs (dn + 4) (un + 20) S h Post := by
  intro mean mg mb dp un' gd cn cs₀ a₀ ccd cl outer A₀ base h₀ L m s Q E hh B F X N T hk0 hd hu hret
  replace hnd := nod_of hnd
  obtain ⟨_, _, T⟩ := T
  refine call_made F X N hmk hini hfn fun x dx h1 F1 N1 l1 l2 GG => ?_
  refine code_defGC (s := { s with heap := h1 }) B F1 X N1 T rfl rfl hk0 ho hcd (Nat.lt_of_le_of_lt (show dp + 1 ≤ dp + (dn + 4) from Nat.add_le_add_left (Nat.succ_le_succ (Nat.zero_le _)) _) hd) (hbind _ x) (hkind x) hnd ?_ hco hgen hk
  intro g L' h₂ tk cells FG F' N' Y B' X' T' lt G
  refine wpAny_mono (H g x dx l2 l1 _ L' [] { s with heap := h₂, toks := tk } ⟨rfl, rfl, hk, ⟨(cells_keys2 _ _ [] [] rfl 0) ▸ hnd, cells_nodup2 _ _ _ .nil (fun _ h => nomatch h)⟩, mean, mg, mb, dp + 2, un' + 4, gd, _, _, base, rfl, B', X', ⟨_, _, T'⟩, ?r1, ?r2⟩
    ⟨_, _, cells, F', Y, N', fun p hp q hq e => ?_, off_nil, know_entry (D := ⟨qual, scope, f, cdv⟩) (hkind x) (nod_of (hm x))⟩) ?_ fun _ _ e => e.elim
  case r1 => exact Nat.lt_of_le_of_lt (show dp + 2 + dn ≤ dp + (dn + 4) by rw [Nat.add_assoc, Nat.add_comm 2 dn]; exact Nat.add_le_add_left (Nat.add_le_add_left (by decide) _) _) hd
  case r2 => exact Nat.lt_of_le_of_lt (show un' + 4 + un ≤ un' + (un + 20) by rw [Nat.add_assoc, Nat.add_comm 4 un]; exact Nat.add_le_add_left (Nat.add_le_add_left (by decide) _) _) hu
  · have := cells_above (Nat.le_refl (L' + 1)) (fun _ h => by cases h) _ (cells_keys Y ▸ List.mem_map_of_mem hp)
    have l2 := lt q hq
    rw [← e] at l2
    exact Nat.lt_irrefl _ (Nat.lt_of_lt_of_le (Nat.lt_succ_of_lt l2) this)
  · rintro fl _ ⟨h', tk', m', S', rfl, ⟨mm, cm, ce, F2, Y2, N2, o2, oc2, kn2⟩, p⟩
    have N3 : News g L' h' S' := fun q hq => N2 q (List.mem_append_right _ hq)
    have key : ∀ v, (v = .none ∧ ∀ h', Keeps g h' → (∀ p ∈ S', h'.get? p.1 = some p.2) → Post (.ref x) S' h') → LeaveK h₀ L m g (InitBack x fun r s' => match r with | .ok (.ret v) => Q v s' | .ok _ => False | .error e => E e s') v { s with heap := h', toks := tk' } := fun v hv =>
      leaveK_ F2 N3 fun kF kN => ⟨hv.1, hret (.ref x) S' h' tk' kF ⟨kN, gsub_of (GG _ _ G) F2, fresh_of (GG _ _ G) N3⟩ (hv.2 h' F2.keep fun q hq => (N3 q hq).1)⟩
    cases fl with
    | ret v => exact key v p
    | next => exact key .none p
    | brk => exact p.elim
    | cont => exact p.elim
theorem st_net {w : World} (x : String) (h : takerIn (KK w) 211 (Str.ofString x) = some none := by rfl) : SetIs w 211 (Str.ofString x) := ⟨rfl, rfl, h, rfl⟩
theorem st_gat {w : World} (x : String) (h : takerIn (KK w) 94 (Str.ofString x) = some none := by rfl) : SetIs w 94 (Str.ofString x) := ⟨rfl, rfl, h, rfl⟩
theorem Go.put {C : Cx} {m : Loc} {S : Led} {e a : Expr} {rest : List Stmt} {pos apos : Pos} {Pf : Flow → Loc → Led → Prop} {name : Str} {l c d : Addr} (M : SetIs C.w c name) (he : Ev C m S e fun v S1 => ∃ (es : List DictEntry) (n : Nat) (St : Obj → Led), InstS S1 l c d es n ∧ (getL name es).isSome = true ∧ (∀ t, (putL name (PyData.keyHash C.w.params name) (.str name t) v es).length ≤ 1000) ∧ Pu C m S1 a (Is (.ref l)) ∧ (∀ o, Chg d o S1 (St o)) ∧
    ∀ t, Go C m (St (dictOf (putL name (PyData.keyHash C.w.params name) (.str name t) v es) (putN name es n))) rest Pf) (hw : ∀ env, swapsWith e (some (.Attribute a name apos)) pos.line env = pure false := by intro _; rfl) : Go C m S (.Assign [.Attribute a name apos] e pos :: rest) Pf :=
  Go.setAttr (he.mono fun v S1 ⟨es, n, St, I, hg, hz, ha, hc, k⟩ => ha.is (Op.setAttr M I hg (fun t => St (dictOf (putL name (PyData.keyHash C.w.params name) (.str name t) v es) (putN name es n))) hz (fun t => hc _) k)) hw
theorem chg1 {x d : Addr} {o o' : Obj} {X : Obj} {S : Led} (h : x ≠ d) (hS : ∀ p ∈ S, p.1 ≠ d) : Chg d o' ((x, X) :: (d, o) :: S) ((x, X) :: (d, o') :: S) := chg_tail h (chg_head hS)
/-- a netlist, new -/
structure NetS (w : World) (S : Led) (nl nd il ol ca : Addr) (u1 u2 u3 u4 u5 uc : Tok) (v1 : Value) (cnt : Int) : Prop where
  i : InstS S nl 211 nd (ndEs w u1 u2 u3 u4 u5 v1 (.ref il) (.ref ol) cnt uc ca) 5
  mi : (il, listOf #[] 0) ∈ S
  mc : (ca, listOf #[] 0) ∈ S
  o1 : @LT.lt Nat _ nd nl
  o2 : @LT.lt Nat _ nl il
  o3 : @LT.lt Nat _ il ca
theorem ne_lt {a b : Addr} (h : @LT.lt Nat _ a b) : a ≠ b := Nat.ne_of_lt h
theorem ne_gt {a b : Addr} (h : @LT.lt Nat _ b a) : a ≠ b := Nat.ne_of_gt h
set_option maxRecDepth 100000 in
theorem netlist_tell {w : World} {h : Heap} {t1 : Tok} : Tell w 211 [.str (Str.ofString "top") t1] 5 23 [] h fun r S' _ => ∃ nl nd il ol ca u1 u2 u3 u4 u5 uc v1, r = .ref nl ∧ NetS w S' nl nd il ol ca u1 u2 u3 u4 u5 uc v1 2 := by
  refine tell_cls (fun x => [(Str.ofString "self", .ref x), (Str.ofString "name", .str (Str.ofString "top") t1)]) (by rfl) (by rfl) (by rfl) (by rfl) (by rfl) (fun s x => BindsTo.of_eq rfl) (fun _ => by rfl) (fun _ => by rfl) (by rfl) rfl rfl rfl fun g x dx lx _ => ?_
  have C0 : ∀ o o', Chg dx o' ((x, instObj 211 dx) :: (dx, o) :: []) ((x, instObj 211 dx) :: (dx, o') :: []) := fun o o' => chg1 (ne_gt lx) fun _ h => nomatch h
  refine Go.put (l := x) (d := dx) (st_net "name") (Pu.is (Pu.var rfl rfl) ⟨[], 0, fun o => [(x, _), (dx, o)], ⟨.head _, .tail _ (.head _)⟩, rfl, fun _ => Nat.le_of_ble_eq_true rfl, Pu.var rfl rfl, C0 _, fun u1 => ?_⟩)
  refine Go.put (l := x) (d := dx) (st_net "count") (Pu.i .int fun uc => ⟨_, _, fun o => [(x, _), (dx, o)], ⟨.head _, .tail _ (.head _)⟩, rfl, fun _ => Nat.le_of_ble_eq_true rfl, Pu.var rfl rfl, C0 _, fun u2 => ?_⟩)
  refine Go.put (l := x) (d := dx) (st_net "inputs") (Ev.list (Evs.nil (Op.list fun il l1 => ⟨_, _, fun o => [(il, _), (x, _), (dx, o)], ⟨.tail _ (.head _), .tail _ (.tail _ (.head _))⟩, rfl, fun _ => Nat.le_of_ble_eq_true rfl, Pu.var rfl rfl, fun o => chg_tail (ne_gt (l1 _ (.tail _ (.head _)))) (C0 _ _), fun u3 => ?_⟩)))
  refine Go.put (l := x) (d := dx) (st_net "outputs") (Ev.list (Evs.nil (Op.list fun ol l2 => ⟨_, _, fun o => [(ol, _), (il, _), (x, _), (dx, o)], ⟨.tail _ (.tail _ (.head _)), .tail _ (.tail _ (.tail _ (.head _)))⟩, rfl, fun _ => Nat.le_of_ble_eq_true rfl, Pu.var rfl rfl, fun o => chg_tail (ne_gt (l2 _ (.tail _ (.tail _ (.head _))))) (chg_tail (ne_gt (l1 _ (.tail _ (.head _)))) (C0 _ _)), fun u4 => ?_⟩)))
  refine Go.put (l := x) (d := dx) (st_net "cells") (Ev.list (Evs.nil (Op.list fun ca l3 => ⟨_, _, fun o => [(ca, _), (ol, _), (il, _), (x, _), (dx, o)], ⟨.tail _ (.tail _ (.tail _ (.head _))), .tail _ (.tail _ (.tail _ (.tail _ (.head _))))⟩, rfl, fun _ => Nat.le_of_ble_eq_true rfl, Pu.var rfl rfl, fun o => chg_tail (ne_gt (l3 _ (.tail _ (.tail _ (.tail _ (.head _)))))) (chg_tail (ne_gt (l2 _ (.tail _ (.tail _ (.head _))))) (chg_tail (ne_gt (l1 _ (.tail _ (.head _)))) (C0 _ _))), fun u5 => ?_⟩)))
  exact Go.nil ⟨rfl, fun h' _ _ => ⟨x, dx, il, ol, ca, u1, u2, u3, u4, u5, uc, .str (Str.ofString "top") t1, rfl, ⟨.tail _ (.tail _ (.tail _ (.head _))), .tail _ (.tail _ (.tail _ (.tail _ (.head _))))⟩, .tail _ (.tail _ (.head _)), .head _, lx, l1 _ (.head _), l3 _ (.tail _ (.head _))⟩⟩
def Prs (C : Cx) (m : Loc) (S : Led) (pos : Pos) (keys : List (Option Expr)) (values : List Expr) (P : List (Value × Value) → Led → Prop) : Prop := Tr C m S (fun env => evalPairs (pairTrees keys values env pos)) P
section
variable {C : Cx} {m : Loc} {S : Led} {P : Value → Led → Prop} {pos : Pos} {keys : List (Option Expr)} {values : List Expr} {k v : Expr} {Pp : List (Value × Value) → Led → Prop}
theorem Ev.dict0 (h : ∀ d o, (∀ p ∈ S, p.1 < d) → (d == sysModules) = false → o.IsDictOf (strKind PR C.w) [] → o.IsDictOf (intKind PR C.w) [] → P (.ref d) ((d, o) :: S)) : Ev C m S (.Dict [] [] pos) P := fun A env L Rel s F R => by
  obtain ⟨_, _, _, _, _, T⟩ := F.T
  exact F.new R fun L mm news f N hs back => newDict_K f N T.nolimit fun d h' o f' N' lt lo hs' _ hi' _ => ⟨_, _, _, rfl, back h' d o f' N' lt, h d o (fun p hp => lt p (hs p hp)) lo hs' hi'⟩
theorem Prs.nil (h : Pp [] S) : Prs C m S pos [] [] Pp := fun A env L Rel s F R => evalPairs_nil ⟨_, _, S, rfl, R, h⟩
theorem Prs.cons (h : Ev C m S k fun kv S1 => Ev C m S1 v fun vv S2 => Prs C m S2 pos keys values fun vs S3 => Pp ((kv, vv) :: vs) S3) : Prs C m S pos (some k :: keys) (v :: values) Pp := fun A env L Rel s F R =>
  evalPairs_cons (Tr.then h F R fun kv h1 t1 S1 R1 g1 => wpAny_bind (Tr.then (s := { s with heap := h1, toks := t1 }) g1 F R1 fun vv h2 t2 S2 R2 g2 => wpAny_bind (wpAny_standAt (wpAny_pure (Tr.then (s := { s with heap := h2, toks := t2 }) g2 F R2 fun vs h3 t3 S3 R3 g3 => ⟨h3, t3, S3, rfl, R3, g3⟩)))))
theorem Ev.dict {K : Type} [DecidableEq K] {knd : KeyKind PR C.w K} (h : ∀ d o, (∀ p ∈ S, p.1 < d) → (d == sysModules) = false → Prs C m ((d, o) :: S) pos keys values fun vs S' => ∃ kvs S2, S' = (d, o) :: S2 ∧ (∀ p ∈ S2, p.1 ≠ d) ∧ Carries knd vs kvs ∧ ∀ o', o'.IsDictOf knd (merged [] kvs) → P (.ref d) ((d, o') :: S2))
    (hall : keys.all (·.isSome) = true := by rfl) (hl : keys.length = values.length := by rfl) (h0 : keys ≠ [] := by exact List.cons_ne_nil _ _) (hlen : keys.length ≤ 15 := by exact Nat.le_of_ble_eq_true rfl) : Ev C m S (.Dict keys values pos) P := fun A env L Rel s F R => by
  obtain ⟨_, _, _, _, _, T⟩ := F.T
  refine F.new R fun L mm news f N hs back => kdn_eval (knd := knd) f N T.nolimit hall hl h0 hlen fun d h' o f' N' lt lo hd => ?_
  refine Tr.then (s := { s with heap := h' }) (h d o (fun p hp => lt p (hs p hp)) lo) F (back h' d o f' N' lt) fun vs h1 t1 S1 R1 ⟨kvs, S2, e, hne, hc, k⟩ => ?_
  subst e
  refine F.upd R1 (.head _) fun L mm rest f N hr hs back2 => ⟨kvs, hc, Heap.dictOf_iff.mpr ⟨o, (N _ (.head _)).1, hd⟩, fun h2 hm hsb => ?_⟩
  obtain ⟨o', ho', hd'⟩ := Heap.dictOf_iff.mp hm
  have z := N _ (.head _)
  exact ⟨h2, _, _, rfl, back2 h2 o' _ (f.change hsb z.2.1 z.2.2) (News.setIn (own := []) (show News C.g L h1 ([] ++ (d, o) :: rest) from N) (fun _ h => nomatch h) hr hsb ho') (chg_head hne), k o' hd'⟩
end
theorem at_inputs {w : World} : AttrIs w 211 (Str.ofString "inputs") := ⟨rfl, rfl, _, rfl, rfl⟩
theorem me_nets {w : World} : MethIs w 211 (Str.ofString "new_nets") 164 := ⟨rfl, rfl, rfl, rfl⟩
theorem me_input {w : World} : MethIs w 211 (Str.ofString "add_input") 171 := ⟨rfl, rfl, rfl, rfl⟩
theorem pairs_nil {w : World} {K : Type} [DecidableEq K] {knd : KeyKind PR w K} {es : List DictEntry} (h : Pairs knd es []) : es = [] := by cases h; rfl
theorem raw_nil {w : World} {o : Obj} (h : o.IsDictOf (intKind PR w) []) : MadeRaw PR w o [] := by
  obtain ⟨es, ep, hex, hda, _, hpa, _⟩ := h
  exact ⟨hex, ⟨es, ep, hda, pairs_nil hpa⟩, List.nodup_nil⟩
section
variable {w : World} {S : Led} {h : Heap} {nl nd il ol ca : Addr} {u1 u2 u3 u4 u5 uc : Tok} {v1 v3 v4 : Value}
/-- its gates, new -/
structure GatS (w : World) (S : Led) (nl ca g gd ma oa : Addr) (t1 t2 t3 : Tok) (mo oo : Obj) : Prop where
  i : InstS S g 94 gd (gdEs w t1 t2 t3 nl ma oa) 3
  m1 : (ma, mo) ∈ S
  m2 : (oa, oo) ∈ S
  o4 : @LT.lt Nat _ ca gd
  o5 : @LT.lt Nat _ gd g
  o6 : @LT.lt Nat _ g ma
  o7 : @LT.lt Nat _ ma oa
  lm : (ma == sysModules) = false
  lo : (oa == sysModules) = false
  d1 : MadeRaw PR w mo []
  d2 : oo.IsDictOf (intKind PR w) []
set_option maxRecDepth 100000 in
theorem gates_tell {o : Obj} (hc : (ca, o) ∈ S) : Tell w 94 [.ref nl] 5 23 S h fun r S' _ => ∃ g gd ma oa t1 t2 t3 mo oo, r = .ref g ∧ GatS w S' nl ca g gd ma oa t1 t2 t3 mo oo ∧ (∀ p ∈ S, p.1 < gd) ∧ ∀ p ∈ S, p ∈ S' := by
  refine tell_cls (fun x => [(Str.ofString "self", .ref x), (Str.ofString "netlist", .ref nl)]) (by rfl) (by rfl) (by rfl) (by rfl) (by rfl) (fun s x => BindsTo.of_eq rfl) (fun _ => by rfl) (fun _ => by rfl) (by rfl) rfl rfl rfl fun g x dx lx ls => ?_
  have C0 : ∀ o o', Chg dx o' ((x, instObj 94 dx) :: (dx, o) :: S) ((x, instObj 94 dx) :: (dx, o') :: S) := fun o o' => chg1 (ne_gt lx) fun p hp => ne_lt (ls p hp)
  refine Go.put (l := x) (d := dx) (st_gat "netlist") (Pu.is (Pu.var rfl rfl) ⟨[], 0, fun o => (x, _) :: (dx, o) :: S, ⟨.head _, .tail _ (.head _)⟩, rfl, fun _ => Nat.le_of_ble_eq_true rfl, Pu.var rfl rfl, C0 _, fun t1 => ?_⟩)
  refine Go.put (l := x) (d := dx) (st_gat "made") (Ev.dict0 fun ma mo l1 lm _ hm => ⟨_, _, fun o => (ma, mo) :: (x, _) :: (dx, o) :: S, ⟨.tail _ (.head _), .tail _ (.tail _ (.head _))⟩, rfl, fun _ => Nat.le_of_ble_eq_true rfl, Pu.var rfl rfl, fun o => chg_tail (ne_gt (l1 _ (.tail _ (.head _)))) (C0 _ _), fun t2 => ?_⟩)
  refine Go.put (l := x) (d := dx) (st_gat "opposite") (Ev.dict0 fun oa oo l2 lo _ ho => ⟨_, _, fun o => (oa, oo) :: (ma, mo) :: (x, _) :: (dx, o) :: S, ⟨.tail _ (.tail _ (.head _)), .tail _ (.tail _ (.tail _ (.head _)))⟩, rfl, fun _ => Nat.le_of_ble_eq_true rfl, Pu.var rfl rfl, fun o => chg_tail (ne_gt (l2 _ (.tail _ (.tail _ (.head _))))) (chg_tail (ne_gt (l1 _ (.tail _ (.head _)))) (C0 _ _)), fun t3 => ?_⟩)
  exact Go.nil ⟨rfl, fun h' _ _ => ⟨x, dx, ma, oa, t1, t2, t3, mo, oo, rfl, ⟨⟨.tail _ (.tail _ (.head _)), .tail _ (.tail _ (.tail _ (.head _)))⟩, .tail _ (.head _), .head _, ls _ hc, lx, l1 _ (.head _), l2 _ (.head _), lm, lo, raw_nil hm, ho⟩, ls, fun p hp => .tail _ (.tail _ (.tail _ (.tail _ hp)))⟩⟩
theorem take23 {i : Nat} (h : i < 2) : ([2, 3] : List Int).take i ++ [2 + (i : Int)] = ([2, 3] : List Int).take (i + 1) := by
  match i, h with
  | 0, _ => rfl
  | 1, _ => rfl
set_option maxRecDepth 100000 in
theorem newnets_tell {t : Tok} (I : InstS S nl 211 nd (ndEs w u1 u2 u3 u4 u5 v1 v3 v4 2 uc ca) 5) (hne : nl ≠ nd) :
    Tell w 164 [.ref nl, .int 2 t] 2 6 S h fun r S' _ => ∃ D k ys uc', r = .ref D ∧ (D, listOf ys.toArray k) ∈ S' ∧ IntsAre ys [2, 3] ∧ InstS S' nl 211 nd (ndEs w u1 u2 u3 u4 u5 v1 v3 v4 4 uc' ca) 5 ∧ (∀ p ∈ S, p.1 < D) ∧ ∀ p ∈ S, p.1 ≠ nd → p ∈ S' := by
  refine tell_def [(Str.ofString "self", .ref nl), (Str.ofString "width", .int 2 t)] (by rfl) (by rfl) (fun g X s k => BindsTo.of_eq rfl) (by rfl) (by rfl) (by rfl) rfl rfl rfl fun g hg => ?_
  refine Go.ret (Ev.comp (Ev.callT (Pu.blt rfl (by boot_by_name) (by decide)) (Evs.vl (Pu.var rfl rfl) (Evs.nil (Op.range1 fun r9 t4 t5 t6 l9 => ⟨2, _, _, fun i ys S1 => ∃ uc', InstS S1 nl 211 nd (ndEs w u1 u2 u3 u4 u5 v1 v3 v4 (2 + (i : Int)) uc' ca) 5 ∧ (∀ p ∈ S, p.1 ≠ nd → p ∈ S1) ∧ IntsAre ys (([2, 3] : List Int).take i),
    itr_range (.head _) (by decide) (by decide), by decide, ⟨uc, I.tail, fun p hp _ => .tail _ hp, .nil⟩, nofx2, ?_, ?_⟩)))))
  · rintro i u ys S2 hin hu ⟨uc', I2, kp, hy⟩
    refine Ev.meth0 (Pu.var rfl rfl) me_new I2 rfl (Op.tellA (fun h _ _ => newnet_tell I2) ?_)
    rintro _ _ _ ⟨t7, uc2, rfl, rfl⟩
    refine ⟨uc2, ?_, fun p hp hn => mem_set_ne (kp p hp hn) hn, take23 hin ▸ ints_snocZ hy _ _⟩
    have e : 2 + ((i + 1 : Nat) : Int) = 2 + (i : Int) + 1 := (Int.add_assoc 2 i 1).symm
    rw [e]
    exact ⟨mem_set_ne I2.i hne, mem_set I2.d⟩
  · rintro D k ys S2 ⟨uc', I2, kp, hy⟩ hlen hlt hD h' _ _
    exact ⟨D, k, ys, uc', rfl, .head _, hy, I2.tail, fun p hp => hlt p (.tail _ hp), fun p hp hn => .tail _ (kp p hp hn)⟩
set_option maxRecDepth 100000 in
theorem addin_tell {t1 t2 : Tok} (I : InstS S nl 211 nd (ndEs w u1 u2 u3 u4 u5 v1 (.ref il) v4 2 uc ca) 5) (hi : (il, listOf #[] 0) ∈ S) (hne : nl ≠ nd) (h2 : il ≠ nd) (h3 : nl ≠ il) :
    Tell w 171 [.ref nl, .str (Str.ofString "i") t1, .int 2 t2] 3 9 S h fun r S' _ => ∃ D k ys uc', r = .ref D ∧ (D, listOf ys.toArray k) ∈ S' ∧ IntsAre ys [2, 3] ∧ InstS S' nl 211 nd (ndEs w u1 u2 u3 u4 u5 v1 (.ref il) v4 4 uc' ca) 5 ∧ ∀ p ∈ S, p.1 ≠ nd → p.1 ≠ il → p ∈ S' := by
  refine tell_def [(Str.ofString "self", .ref nl), (Str.ofString "name", .str (Str.ofString "i") t1), (Str.ofString "width", .int 2 t2)] (by rfl) (by rfl) (fun g X s k => BindsTo.of_eq rfl) (by rfl) (by rfl) (by rfl) rfl rfl rfl fun g hg => ?_
  refine Go.assign (Ev.meth (Pu.var rfl rfl) me_nets I rfl (Evs.vl (Pu.var rfl rfl) (Evs.nil (Op.tellA (fun h _ _ => newnets_tell I hne) ?_))))
  rintro _ S2 _ ⟨D, k, ys, uc', rfl, hD, hy, I2, lD, kp⟩
  have hi2 := kp _ hi h2
  have hl := hy.length
  refine Go.append (l := il) (vs := []) (n := 0) (Pu.attr (v := .ref il) (Pu.var rfl rfl) at_inputs I2 rfl rfl rfl) hi2 (by decide) (Ev.tuple (Evs.vl (Pu.var rfl rfl) (Evs.cons rfl (Ev.callT (Pu.blt rfl (by boot_by_name) (by decide)) (Evs.vl (Pu.var rfl rfl) (Evs.nil (Op.copy (.inl ⟨k, hD⟩) (by rw [hl]; decide) fun E n lE => Evs.nil (Op.tuple fun q lq => ⟨.tail _ (.tail _ hi2), _, chg_set, ?_⟩))))))))
  refine Go.ret (Pu.is (Pu.var rfl rfl) fun h' _ _ => ⟨D, k, ys, uc', rfl, mem_set_ne (.tail _ (.tail _ hD)) (ne_gt (lD _ hi)), hy, ⟨mem_set_ne (.tail _ (.tail _ I2.i)) h3, mem_set_ne (.tail _ (.tail _ I2.d)) h2.symm⟩, fun p hp n1 n2 => mem_set_ne (.tail _ (.tail _ (kp p hp n1))) n2⟩)
end
section
variable {C : Cx} {m : Loc} {S : Led} {vs us : List Value} {ns ms : List Int} {a b : Addr} {z y : Int}
theorem Op.neL (ha : LsAt C.g S a vs) (hb : LsAt C.g S b us) (hi : IntsAre vs ns) (hj : IntsAre us ms) (hu : 64 ≤ C.un := by exact Nat.le_of_ble_eq_true rfl) : Op C m S (compareOp .NotEq (.ref a) (.ref b)) fun r S' => S' = S ∧ r = .bool (!decide (ns = ms)) := fun A env L Rel s F R =>
  F.same R fun L mm news f N hs back => ne_intsK (ha.at f N hs) hi (hb.at f N hs) hj (Nat.lt_of_le_of_lt (Nat.add_le_add_left hu _) F.unit) ⟨_, _, S, rfl, R, rfl, rfl⟩
theorem Op.mod {t u : Tok} (h0 : y ≠ 0) : Op C m S (binaryOp .Mod (.int z t) (.int y u)) fun r S' => S' = S ∧ IsI (Int.fmod z y) r := fun A env L Rel s F R => mod_int' h0 ⟨_, _, S, rfl, R, rfl, _, rfl⟩
end
/-- the coals -/
def Hearth (H : Addr) (S : Led) : Prop := ∃ vs k ns, (H, listOf vs.toArray k) ∈ S ∧ IntsAre vs ns ∧ vs.length ≤ 1000
/-- all but the coals stands -/
def Kept (H : Addr) (S S' : Led) : Prop := ∀ p ∈ S, p.1 ≠ H → p ∈ S'
section
variable {w : World} {S : Led} {h : Heap} {H lw : Addr} {vs : List Value} {ns : List Int} {most : Int} {tk : Tok}
theorem Hearth.mono {S' : Led} (h : Hearth H S) (hs : ∀ p ∈ S, p ∈ S') : Hearth H S' := let ⟨vs, k, ns, a, b, c⟩ := h; ⟨vs, k, ns, hs _ a, b, c⟩
set_option maxRecDepth 100000 in
theorem coal_tell (hH : Hearth H S) (hm : 0 < most) : Tell w 257 [.ref H, .int most tk] 1 67 S h fun r S' _ => ∃ z t, r = .int z t ∧ Hearth H S' ∧ Kept H S S' ∧ 0 ≤ z ∧ z < most := by
  obtain ⟨vs, k, ns, hl, hi, hz⟩ := hH
  refine tell_def [(Str.ofString "hearth", .ref H), (Str.ofString "most", .int most tk)] (by rfl) (by rfl) (fun g X s k => BindsTo.of_eq rfl) (by rfl) (by rfl) (by rfl) rfl rfl rfl fun g hg => ?_
  refine Go.ret (Ev.ifx (Te.cmp (Pu.is (Pu.var rfl rfl) (Ev.list (Evs.nil (Op.list fun D lt => Op.eqs (Op.neL (.inl ⟨k, .tail _ hl⟩) .head hi .nil) ?_))))))
  rintro _ rfl
  refine ⟨_, rfl, ite2 (fun e => ?_) fun e => ?_⟩
  · cases hi with
    | nil => cases e
    | @cons z t vs' ns' hi' =>
      refine Ev.bin (Ev.lmeth (Pu.var rfl rfl) (.tail _ hl) PySem.F.slot_list_pop PySem.F.type_list_pop (Evs.it .int fun t1 => Evs.nil (Op.pop0 (.tail _ hl) chg_set (Nat.le_trans hz (by decide)) (Pu.is (Pu.var rfl rfl) (Op.eqs (Op.mod (Int.ne_of_gt hm)) ?_)))))
      rintro _ ⟨t2, rfl⟩ h' _ _
      exact ⟨_, t2, rfl, ⟨vs', _, ns', mem_set (.tail _ hl), hi', Nat.le_trans (Nat.le_succ _) hz⟩, fun p hp hn => mem_set_ne (.tail _ hp) hn, Int.fmod_nonneg_of_pos _ hm, Int.fmod_lt_of_pos _ hm⟩
  · refine Pu.i .int fun t h' _ _ => ⟨0, t, rfl, ⟨vs, k, ns, .tail _ hl, hi, hz⟩, fun p hp _ => .tail _ hp, Int.le_refl _, hm⟩
theorem int_at {vs : List Value} {ns : List Int} (h : IntsAre vs ns) {i : Nat} {v : Value} (hv : vs[i]? = some v) : ∃ z, IsI z v := by
  induction h generalizing i with
  | nil => cases hv
  | cons n t _ ih =>
    cases i with
    | zero => cases hv; exact ⟨n, t, rfl⟩
    | succ i => exact ih hv
/-- what the coals' loops keep -/
structure CoJ (Hd SL : Addr) (ws : List Value) (b : Nat) (m : Loc) (S : Led) (ys : List Value) (k : Nat) (zs : List Int) : Prop where
  h1 : m.lookup (Str.ofString "hearth") = some (.ref Hd)
  mh : (Hd, listOf ys.toArray k) ∈ S
  ms : (SL, listOf ws.toArray 0) ∈ S
  i : IntsAre ys zs
  l : ys.length ≤ b
set_option maxRecDepth 100000 in
theorem coals_tell (hl : h.IsList lw vs.toArray) (hi : IntsAre vs ns) (hlen : vs.length ≤ 63) : Tell w 250 [.ref lw] 1 3 [] h fun r S' _ => ∃ D, r = .ref D ∧ Hearth D S' := by
  refine tell_def [(Str.ofString "script", .ref lw)] (by rfl) (by rfl) (fun g X s k => BindsTo.of_eq rfl) (by rfl) (by rfl) (by rfl) rfl rfl rfl fun g hg => ?_
  have hl1 : g.IsList lw vs.toArray := gsub_list hg hl fun _ h => nomatch h
  have hnl : ns.length ≤ 63 := hi.length ▸ hlen
  refine Go.assign (Ev.list (Evs.nil (Op.list fun Hd _ => ?_)))
  refine Go.forS (Ev.upto (Pu.is (Pu.var rfl rfl) ⟨lw, vs, ns, 30, rfl, .inr hl1, hi, Nat.le_trans hnl (by decide), by decide, .int, fun SL ws lS hw => ⟨_, _, _, fun i m1 S1 => ∃ ys k zs, CoJ Hd SL ws (9 * i) m1 S1 ys k zs, itr_list (.head _), ⟨[], 0, [], rfl, .tail _ (.head _), .head _, .nil, Nat.zero_le _⟩, ?_, ?_, ?_⟩⟩))
  · rintro i m1 S1 ⟨ys, k, zs, J⟩ p hp
    rw [List.mem_singleton.mp hp]; exact J.ms
  · have hne := ne_gt (lS _ (.head _))
    have hwl : ws.length ≤ 30 := by rw [hw.length, List.length_take]; exact Nat.min_le_left _ _
    rintro i u m1 S1 hin hu ⟨ys, k, zs, J⟩
    obtain ⟨z, tz, rfl⟩ := int_at hw hu
    refine Go.assign (Pu.ev (p := fun v => ∃ z, IsI z v) (Ev.ifP (Tp.cmp (Pu.var rfl ⟨_, rfl⟩) .int Cm.geI) (fun _ => Pu.var rfl ⟨_, _, rfl⟩) fun _ => Pu.mono (Pu.sub .int (Pu.var rfl ⟨_, rfl⟩)) fun v h => ⟨_, h⟩) ?_)
    rintro _ ⟨z0, t0, rfl⟩
    have hb : ∀ j, j < 9 → 9 * i + j ≤ 1000 := fun j hj => Nat.le_trans (Nat.add_le_add (Nat.mul_le_mul_left 9 (Nat.le_of_lt (Nat.lt_of_lt_of_le hin hwl))) (Nat.le_of_lt hj)) (by decide)
    refine Go.forS (Ev.callT (Pu.blt rfl (by boot_by_name) (by decide)) (Evs.it .int fun t1 => Evs.nil (Op.range1 fun r9 t4 t5 t6 l9 => ⟨9, _, _, fun j m2 S2 => ∃ z t ys k zs, m2.lookup (Str.ofString "left") = some (.int z t) ∧ CoJ Hd SL ws (9 * i + j) m2 S2 ys k zs, itr_range (.head _) (by decide) (by decide), ⟨z0, t0, ys, k, zs, rfl, J.h1, .tail _ J.mh, .tail _ J.ms, J.i, J.l⟩, nofx, ?_, ?_⟩)))
    · rintro j u m2 S2 hj ⟨_, tj, rfl⟩ ⟨z, t, ys, k, zs, e1, J⟩
      refine Go.append (Pu.var J.h1 rfl) J.mh (Nat.le_trans J.l (Nat.le_trans (hb j hj) (by decide))) (Pu.i (Pu.mod (Pu.var e1 ⟨_, rfl⟩) .int (by decide)) fun t7 => ⟨J.mh, _, chg_set, ?_⟩)
      refine Go.assign (Pu.i (Pu.fdiv (Pu.var e1 ⟨_, rfl⟩) .int (by decide) (PyProof.noPylong_small (by decide))) fun t8 => ?_)
      have J2 : ∀ b v, 9 * i + j + 1 ≤ b → CoJ Hd SL ws b ((Str.ofString "left", v) :: (Str.ofString "hop", .int (0 + (j : Int) * 1) tj) :: m2) (setL Hd (listOf (ys ++ [Value.int (Int.fmod z 107) t7]).toArray (k + 1)) S2) (ys ++ [Value.int (Int.fmod z 107) t7]) (k + 1) (zs ++ [Int.fmod z 107]) := fun b v h =>
        ⟨J.h1, mem_set J.mh, mem_set_ne J.ms hne, ints_snocZ J.i _ _, by rw [List.length_append]; exact Nat.le_trans (Nat.succ_le_succ J.l) h⟩
      refine Go.ifP (Tp.cmp (Pu.var rfl ⟨_, rfl⟩) .int Cm.eqI) (fun e => Go.brk (Go.nil ⟨_, _, _, J2 (9 * (i + 1)) _ ?_⟩)) fun e => Go.nil ⟨_, t8, _, _, _, rfl, J2 _ _ (Nat.le_refl _)⟩
      rw [Nat.mul_succ]; exact Nat.add_le_add_left hj _
    · rintro m2 S2 ⟨z, t, ys, k, zs, e1, J⟩
      exact Go.nil ⟨ys, k, zs, J.h1, J.mh, J.ms, J.i, J.l⟩
  · rintro m1 S1 ⟨ys, k, zs, J⟩
    have hwl : ws.length ≤ 30 := by rw [hw.length, List.length_take]; exact Nat.min_le_left _ _
    have hz : zs.length ≤ 100000 := J.i.length ▸ Nat.le_trans J.l (Nat.le_trans (Nat.mul_le_mul_left 9 hwl) (by decide))
    refine Go.ret (Ev.upto (Pu.is (Pu.var J.h1 rfl) ⟨Hd, ys, zs, 70, rfl, .inl ⟨k, J.mh⟩, J.i, hz, by decide, .int, fun D us lD hu h' _ _ => ⟨D, rfl, us, 0, _, .head _, hu, ?_⟩⟩))
    rw [hu.length, List.length_take]; exact Nat.le_trans (Nat.min_le_left _ _) (by decide)
end
theorem fold_is {l : List Int} {M : Int} (hm : M ∈ l) (hb : ∀ a ∈ l, M ≤ a) (h1 : M ≤ 1) : l.foldr min 1 = M := by
  have hle : ∀ l : List Int, (∀ a ∈ l, M ≤ a) → M ≤ l.foldr min 1 := by
    intro l hb
    induction l with
    | nil => exact h1
    | cons a l ih => exact Int.le_min.mpr ⟨hb a (.head _), ih fun b hb' => hb b (.tail _ hb')⟩
  have hge : ∀ l : List Int, M ∈ l → l.foldr min 1 ≤ M := by
    intro l hm
    induction l with
    | nil => cases hm
    | cons a l ih =>
      rcases List.mem_cons.mp hm with rfl | hm
      · exact Int.min_le_left _ _
      · exact Int.le_trans (Int.min_le_right _ _) (ih hm)
  exact Int.le_antisymm (hge l hm) (hle l hb)
theorem sub_sub1 (M : Int) : 1 - (1 - M) = M := Int.sub_sub_self 1 M
theorem max_is {l : List Int} {M : Int} (hm : M ∈ l) (hb : ∀ a ∈ l, a ≤ M) (h1 : 0 ≤ M) : 1 - (l.map fun n => 1 - n).foldr min 1 = M := by
  rw [fold_is (M := 1 - M) (List.mem_map.mpr ⟨M, hm, rfl⟩) (fun a ha => ?_) (Int.sub_le_self _ h1)]
  · exact sub_sub1 M
  · obtain ⟨b, hb', rfl⟩ := List.mem_map.mp ha
    exact Int.sub_le_sub_left (hb b hb') _
theorem bits_mem {xs : List Nat} (hx : ∀ x ∈ xs, x ≤ 1) {M : Int} (hm : M ∈ natsI xs) : 0 ≤ M ∧ M ≤ 1 := by
  obtain ⟨x, h, rfl⟩ := List.mem_map.mp hm
  exact ⟨Int.natCast_nonneg _, Int.ofNat_le.mpr (hx x h)⟩
theorem two_of {kd : Str} (h : ([Str.ofString "buf", Str.ofString "not"].any fun x => x == kd) = true) : kd = Str.ofString "buf" ∨ kd = Str.ofString "not" := by
  rw [List.any_cons, List.any_cons, List.any_nil, Bool.or_false, Bool.or_eq_true] at h
  exact h.imp (fun e => (seq e).symm) fun e => (seq e).symm
def isNeg (kd : Str) : Bool := [Str.ofString "nand", Str.ofString "nor", Str.ofString "xnor"].any fun x => x == kd
theorem six_of {kd : Str} (h8 : isEight kd = true) (hn : ([Str.ofString "buf", Str.ofString "not"].any fun x => x == kd) = false) {P : Str → Prop} (h1 : P (Str.ofString "and")) (h2 : P (Str.ofString "nand")) (h3 : P (Str.ofString "or")) (h4 : P (Str.ofString "nor")) (h5 : P (Str.ofString "xor")) (h6 : P (Str.ofString "xnor")) : P kd := by
  unfold isEight at h8
  simp only [Bool.or_eq_true] at h8
  rcases h8 with (((((((h | h) | h) | h) | h) | h) | h) | h) <;> obtain rfl := seq h
  · exact h1
  · exact h2
  · exact h3
  · exact h4
  · exact h5
  · exact h6
  · exact absurd hn (by decide)
  · exact absurd hn (by decide)
section
variable {K : Type} [DecidableEq K] {C : Cx} {m : Loc} {S : Led} {P : Value → Led → Prop} {a e : Expr} {es : List Expr} {pos apos : Pos} {knd : KeyKind PR C.w K}
theorem Ev.dgetD {pl : Env → Sem Bool} (ha : Ev C m S a fun v S1 => ∃ d o kvs, v = .ref d ∧ (d, o) ∈ S1 ∧ o.IsDictOf knd kvs ∧ Evs C m S1 pos (e :: es) fun ws S2 => Op C m S2 (call (.builtin "dict.get") (.ref d :: ws)) P)
    (hn : noStar (e :: es) = true := by rfl) (hc : MethOk a (Str.ofString "get") apos (e :: es) pos pl := by intro _; rfl) : Ev C m S (.Call (.Attribute a (Str.ofString "get") apos) (e :: es) [] pos) P := fun A env L Rel s F R =>
  MethodCall_ (Tr.then ha F R fun v h1 t1 S1 R1 ⟨d, o, kvs, ev, hd, ho, h⟩ => by
    subst ev
    exact F.same (h := h1) R1 fun L mm news f N hs back => kdg_method (s := { s with heap := h1, toks := t1 }) N (hs _ hd) ho (callWith_method1 (s := { s with heap := h1, toks := t1 }) (Tr.then h F R1 fun ws h1 t1 S1 R1 h2 => Op.run h2 F R1) (noStar_each hn).1 (noStar_any (noStar_each (env := env) hn).2))) (hc env)
theorem Op.sub2 {z y : Int} {t u : Tok} : Op C m S (binaryOp .Sub (.int z t) (.int y u)) fun r S' => S' = S ∧ IsI (z - y) r := fun A env L Rel s F R => sub_int ⟨_, _, S, rfl, R, rfl, _, rfl⟩
/-- one more pair of a display, its key a written text -/
theorem Prs.s {k v : Expr} {x : Str} {keys : List (Option Expr)} {values : List Expr} {Pp : List (Value × Value) → Led → Prop} (h : Pu C m S k (IsS x)) (k' : ∀ t, Ev C m S v fun vv S2 => Prs C m S2 pos keys values fun vs S3 => Pp ((.str x t, vv) :: vs) S3) : Prs C m S pos (some k :: keys) (v :: values) Pp := Prs.cons (h.s k')
end
theorem carry_nil {prog : Program} {w : World} : Carries (PySem.strKind prog w) [] [] := trivial
theorem carry_s {prog : Program} {w : World} {x : Str} {t : Tok} {v : Value} {vs : List (Value × Value)} {kvs : List (Str × Value)} (h : Carries (PySem.strKind prog w) vs kvs) : Carries (PySem.strKind prog w) ((.str x t, v) :: vs) ((x, v) :: kvs) := ⟨strKind_is _ _ _ _, rfl, h⟩
section
variable {w : World} {h : Heap} {lb : Addr} {bs : List Value} {xs : List Nat} {kd : Str} {tkd : Tok}
abbrev negKvs (k1 k2 k3 : Tok) : List (Str × Value) := [(Str.ofString "nand", .str (Str.ofString "and") k1), (Str.ofString "nor", .str (Str.ofString "or") k2), (Str.ofString "xnor", .str (Str.ofString "xor") k3)]
abbrev opKvs (M1 M2 X : Int) (t1 t2 t3 : Tok) : List (Str × Value) := [(Str.ofString "and", .int M1 t1), (Str.ofString "or", .int M2 t2), (Str.ofString "xor", .int X t3)]
theorem found_of {l : List Int} {M1 M2 X : Int} {t1 t2 t3 k1 k2 k3 : Tok} (h8 : isEight kd = true) (hn : ([Str.ofString "buf", Str.ofString "not"].any fun x => x == kd) = false) (e1 : l.foldr min 1 = M1) (e2 : 1 - (l.map fun n => 1 - n).foldr min 1 = M2) (e3 : X = l.sum % 2) :
    ∃ x tx f t, (valueAt (merged [] (negKvs k1 k2 k3)) kd).getD (.str kd tkd) = .str x tx ∧ valueAt (merged [] (opKvs M1 M2 X t1 t2 t3)) x = some (.int f t) ∧ (isNeg kd = true → 1 - f = gateV kd l) ∧ (isNeg kd = false → f = gateV kd l) := by
  subst e1 e2 e3
  refine six_of (P := fun kd => ∃ x tx f t, (valueAt (merged [] (negKvs k1 k2 k3)) kd).getD (.str kd tkd) = .str x tx ∧ valueAt (merged [] (opKvs _ _ _ t1 t2 t3)) x = some (.int f t) ∧ (isNeg kd = true → 1 - f = gateV kd l) ∧ (isNeg kd = false → f = gateV kd l)) h8 hn ?_ ?_ ?_ ?_ ?_ ?_
  · exact ⟨_, _, _, _, rfl, rfl, fun h => absurd h (by decide), fun _ => rfl⟩
  · exact ⟨_, _, _, _, rfl, rfl, fun _ => rfl, fun h => absurd h (by decide)⟩
  · exact ⟨_, _, _, _, rfl, rfl, fun h => absurd h (by decide), fun _ => rfl⟩
  · exact ⟨_, _, _, _, rfl, rfl, fun _ => rfl, fun h => absurd h (by decide)⟩
  · exact ⟨_, _, _, _, rfl, rfl, fun h => absurd h (by decide), fun _ => rfl⟩
  · exact ⟨_, _, _, _, rfl, rfl, fun _ => rfl, fun h => absurd h (by decide)⟩
set_option maxRecDepth 100000 in
set_option maxHeartbeats 4000000 in
theorem lawgate_tell (hl : h.IsList lb bs.toArray) (h8 : isEight kd = true) (hi : IntsAre bs (natsI xs)) (hx : ∀ x ∈ xs, x ≤ 1) (hn : xs.length ≤ 200) (hpos : 1 ≤ xs.length) :
    Tell w 269 [.str kd tkd, .ref lb] 1 3 [] h fun r _ _ => ∃ t, r = .int (gateV kd (natsI xs)) t := by
  refine tell_def [(Str.ofString "kind", .str kd tkd), (Str.ofString "bits", .ref lb)] (by rfl) (by rfl) (fun g X s k => BindsTo.of_eq rfl) (by rfl) (by rfl) (by rfl) rfl rfl rfl fun g hg => ?_
  have hl1 : g.IsList lb bs.toArray := gsub_list hg hl fun _ h => nomatch h
  have h0 : 0 < (natsI xs).length := by rw [List.length_map]; exact hpos
  have hz : xs.length ≤ 100000 := Nat.le_trans hn (by decide)
  refine Go.ifE (Te.cmp (Pu.is (Pu.var rfl rfl) (Ev.tuple (Evs.sr .str fun t1 => Evs.sr .str fun t2 => Evs.nil (Op.tuple fun q _ => Op.eqs (Op.inStrs (ys := [Str.ofString "buf", Str.ofString "not"]) (.inl ⟨0, .head _⟩) (.cons _ _ (.cons _ _ .nil))) ?_)))))
  rintro _ rfl
  refine ⟨_, rfl, ite2 (fun e => ?_) fun e => ?_⟩
  · rcases two_of e with rfl | rfl
    · refine Go.ret (Ev.ifP (Tp.cmp (Pu.var rfl ⟨_, rfl⟩) .str Cm.eqS) (fun _ => Ev.sub (Pu.is (Pu.var rfl rfl) (Pu.i (z := 0) .int fun t7 => Op.eqs (Op.itemN (i := 0) (.inr hl1) hi hpos hz) ?_))) fun e => absurd e (by decide))
      rintro _ ⟨a, ea, ta, rfl⟩ h' _ _
      exact ⟨ta, congrArg (fun z => Value.int z ta) (head_at (f := fun n => (n : Int)) ea).symm⟩
    · refine Go.ret (Ev.ifP (Tp.cmp (Pu.var rfl ⟨_, rfl⟩) .str Cm.eqS) (fun e => absurd e (by decide)) fun _ => Ev.bin (Pu.i .int fun t8 => Ev.sub (Pu.is (Pu.var rfl rfl) (Pu.i (z := 0) .int fun t7 => Op.eqs (Op.itemN (i := 0) (.inr hl1) hi hpos hz) ?_))))
      rintro _ ⟨a, ea, ta, rfl⟩
      refine Op.eqs Op.sub2 ?_
      rintro _ ⟨tr, rfl⟩ h' _ _
      exact ⟨tr, congrArg (fun z => Value.int z tr) (congrArg (fun z => 1 - z) (head_at (f := fun n => (n : Int)) ea).symm)⟩
  · refine Go.assign (Ev.sub (Ev.dict (knd := PySem.strKind PR w) fun d o lt lo => Prs.s .str fun k1 => Ev.callB (Pu.blt rfl (by boot_by_name) (by decide)) (Evs.vl (Pu.var rfl rfl) (Evs.nil (Op.eqs (Op.minL (.inr hl1) hi h0) ?_)))))
    rintro _ ⟨M1, ⟨t1, rfl⟩, hm1, hb1⟩
    refine Prs.s .str fun k2 => Ev.callB (Pu.blt rfl (by boot_by_name) (by decide)) (Evs.vl (Pu.var rfl rfl) (Evs.nil (Op.eqs (Op.maxL (.inr hl1) hi h0) ?_)))
    rintro _ ⟨M2, ⟨t2, rfl⟩, hm2, hb2⟩
    refine Prs.s .str fun k3 => Pu.i (Pu.mod (Ev.callB (Pu.blt rfl (by boot_by_name) (by decide)) (Evs.vl (Pu.var rfl rfl) (Evs.nil (Op.sumL (.inr hl1) hi)))) .int (by decide)) fun t3 => Prs.nil ⟨_, _, rfl, fun p hp => ne_lt (lt p hp), carry_s (carry_s (carry_s carry_nil)), fun o1 hd1 => ?_⟩
    refine Ev.dgetD (knd := PySem.strKind PR w) (Ev.dict (knd := PySem.strKind PR w) fun d2 o2 lt2 lo2 => Prs.s .str fun q1 => Pu.s .str fun q2 => Prs.s .str fun q3 => Pu.s .str fun q4 => Prs.s .str fun q5 => Pu.s .str fun q6 => Prs.nil ⟨_, _, rfl, fun p hp => ne_lt (lt2 p hp), carry_s (carry_s (carry_s carry_nil)), fun o3 hd3 => ⟨d2, o3, _, rfl, .head _, hd3, ?_⟩⟩)
    obtain ⟨x, tx, f, tf, e1, e2, e3, e4⟩ := found_of (kd := kd) (tkd := tkd) (t1 := t1) (t2 := t2) (t3 := t3) (k1 := q2) (k2 := q4) (k3 := q6) h8 e (fold_is hm1 hb1 (bits_mem hx hm1).2) (max_is hm2 hb2 (bits_mem hx hm2).1) (Int.fmod_eq_emod_of_nonneg _ (by decide))
    refine Evs.vl (Pu.var rfl rfl) (Evs.vl (Pu.var rfl rfl) (Evs.nil (Op.eqs (Op.dGet2 (.head _) hd3 lo2 (strKind_is _ _ _ _)) ?_)))
    rintro _ rfl
    rw [e1]
    refine Op.eqs (Op.base (Op.dItem (.tail _ (.head _)) hd1 (strKind_is _ _ _ _) e2)) ?_
    rintro _ rfl
    refine Go.ret (Ev.ifx (Te.cmp (Pu.is (Pu.var rfl rfl) (Ev.tuple (Evs.sr .str fun t1 => Evs.sr .str fun t2 => Evs.sr .str fun t3 => Evs.nil (Op.tuple fun q _ => Op.eqs (Op.inStrs (ys := [Str.ofString "nand", Str.ofString "nor", Str.ofString "xnor"]) (.inl ⟨0, .head _⟩) (.cons _ _ (.cons _ _ (.cons _ _ .nil)))) ?_))))))
    rintro _ rfl
    refine ⟨_, rfl, ite2 (fun en => ?_) fun en => ?_⟩
    · exact Pu.i (Pu.sub .int (Pu.var rfl ⟨_, rfl⟩)) fun tr h' _ _ => ⟨tr, congrArg (fun z => Value.int z tr) (e3 en)⟩
    · exact Pu.is (Pu.var rfl rfl) fun h' _ _ => ⟨tf, congrArg (fun z => Value.int z tf) (e4 en)⟩
end
section
variable {C : Cx} {m : Loc} {S : Led} {l : Addr} {vs : List Value} {k : Nat}
theorem itr_tup (hl : (l, tupOf vs) ∈ S) : Itr C m S (.ref l) vs.length (fun i v => vs[i]? = some v) [(l, tupOf vs)] where
  fx := fun p hp => (List.mem_singleton.mp hp) ▸ hl
  go := fun A env L Rel s F R Q K => F.same R fun L mm news f N hs _ => by
    have hls : s.heap.IsTuple l vs.toArray := ⟨_, (N _ (hs _ hl)).1, rfl, 0, rfl⟩
    have W := Walks.tuple (prog := PR) (w := C.w) F.hand s.heap.objs.size l (Nat.ne_of_lt (Heap.lt_size (N _ (hs _ hl)).1)) vs.toArray
    rw [List.size_toArray] at W
    simp only [List.getElem?_toArray] at W
    exact wpAny_pyIter_tuple hls (K s.heap s.toks _ _ _ R rfl W (fun b hb => .inr ((List.mem_singleton.mp hb) ▸ ⟨_, .head _⟩)) (fun i h st => let ⟨o, ho, _⟩ := st.1; ⟨o, ho⟩) ⟨⟨_, Heap.get?_push_size _ rfl, rfl, rfl⟩, Heap.IsTuple.at hls fun o e => Heap.get?_push_of_some _ e⟩)
end
/-- the known nets of a row -/
structure KnOk (w : World) (kn : Addr) (ko : Obj) (r : Nat) (kvs : List (Int × Value)) : Prop where
  lo : (kn == sysModules) = false
  d : ko.IsDictOf (PySem.intKind PR w) kvs
  in4 : ∀ n : Nat, n < 4 → ∃ t, valueAt kvs (n : Int) = some (.int (val r [] n) t)
  out : ∀ n : Nat, 4 ≤ n → valueAt kvs (n : Int) = none
theorem CellsIn.at {R : Led} {j : Nat} {cv : List Value} {cs : List Cell} (h : CellsIn R j cv cs) : ∀ {i v}, cv[i]? = some v → ∃ c q ti t1 t2 ivs, cs[i]? = some c ∧ v = .ref q ∧ (q, tupOf [.str c.str t1, .int ((4 + (j + i) : Nat) : Int) t2, .ref ti, .none]) ∈ R ∧ (ti, tupOf ivs) ∈ R ∧ IntsAre ivs (natsI c.ins) := by
  induction h with
  | nil => intro i v hv; cases hv
  | @cons j q ti t1 t2 ivs c vs cs a b e _ ih =>
    intro i v hv
    cases i with
    | zero => exact ⟨c, q, ti, t1, t2, ivs, rfl, (Option.some.inj hv).symm, a, b, e⟩
    | succ i =>
      obtain ⟨c', q', ti', t1', t2', ivs', e1, e2, e3, e4, e5⟩ := ih hv
      exact ⟨c', q', ti', t1', t2', ivs', e1, e2, Nat.succ_add_eq_add_succ j i ▸ e3, e4, e5⟩
theorem min2_of {x y M : Int} (hm : M ∈ [x, y]) (hb : ∀ a ∈ [x, y], M ≤ a) : M = min x y := by
  refine Int.le_antisymm (Int.le_min.mpr ⟨hb x (.head _), hb y (.tail _ (.head _))⟩) ?_
  rcases List.mem_cons.mp hm with rfl | hm
  · exact Int.min_le_left _ _
  · rw [List.mem_singleton.mp hm]; exact Int.min_le_right _ _
theorem sum2 (x y : Int) : Int.fmod [x, y].sum 2 = (x + y) % 2 := by
  rw [Int.fmod_eq_emod_of_nonneg _ (by decide), List.sum_cons, List.sum_cons, List.sum_nil, Int.add_zero]
theorem know_sub {m m' : Loc} (h : ∀ p ∈ m', m.lookup p.1 = some p.2) : ∀ x v, m'.lookup x = some v → m.lookup x = some v := fun x v hx => h _ (mem_lookup hx)
theorem all5 {α : Type} {P : α → Prop} {a b c d e : α} (h1 : P a) (h2 : P b) (h3 : P c) (h4 : P d) (h5 : P e) : ∀ x ∈ [a, b, c, d, e], P x :=
  List.forall_mem_cons.mpr ⟨h1, List.forall_mem_cons.mpr ⟨h2, List.forall_mem_cons.mpr ⟨h3, List.forall_mem_cons.mpr ⟨h4, List.forall_mem_cons.mpr ⟨h5, fun _ h => nomatch h⟩⟩⟩⟩⟩
def readNames : List Str := [Str.ofString "kind", Str.ofString "out", Str.ofString "ins", Str.ofString "param"]
/-- what the cells' loop keeps -/
structure RdJ (S : Led) (nl n kn : Nat) (tn : Tok) (i : Nat) (m : Loc) (S1 : Led) : Prop where
  kp : ∀ p ∈ S, p ∈ S1
  le : i + 4 ≤ n
  h1 : m.lookup (Str.ofString "netlist") = some (.ref nl)
  h2 : m.lookup (Str.ofString "net") = some (.int (n : Int) tn)
  h3 : m.lookup (Str.ofString "known") = some (.ref kn)
set_option maxRecDepth 100000 in
set_option maxHeartbeats 4000000 in
theorem read_tell {w : World} {ad : Ad} {cs : List Cell} {r : Nat} (hr : r < 4) (n : Nat) : ∀ {S : Led} {h : Heap} {kn : Addr} {ko : Obj} {kvs : List (Int × Value)} {tn : Tok}, Sy w ad S cs → (kn, ko) ∈ S → KnOk w kn ko r kvs → n < 4 + cs.length →
    Tell w 262 [.ref ad.nl, .int (n : Int) tn, .ref kn] (n + 1) (3 * n + 3) S h fun r' S' _ => (∀ p ∈ S, p ∈ S') ∧ ∃ t, r' = .int (val r cs n) t := by
  induction n using Nat.strongRecOn with
  | ind n ih =>
  intro S h kn ko kvs tn hS hk K hlt
  obtain ⟨d, M⟩ := id hS
  refine tell_def [(Str.ofString "netlist", .ref ad.nl), (Str.ofString "net", .int (n : Int) tn), (Str.ofString "known", .ref kn)] (by rfl) (by rfl) (fun g X s k => BindsTo.of_eq rfl) (by rfl) (by rfl) (by rfl) rfl rfl rfl fun g hg => ?_
  refine Go.ifP (Tp.cmp (Pu.var rfl rfl) (Pu.var rfl rfl) (fun v u e e' => by cases e; cases e'; exact Op.dIn hk K.d K.lo (intKind_is _ _ _ _))) (fun e => ?_) fun e => ?_
  · have h4 : n < 4 := Nat.lt_of_not_le fun h => by rw [K.out n h] at e; cases e
    obtain ⟨t, e1⟩ := K.in4 n h4
    refine Go.ret (Ev.sub (Pu.is (Pu.var rfl rfl) (Pu.is (Pu.var rfl rfl) (Op.eqs (Op.dItem hk K.d (intKind_is _ _ _ _) e1) ?_))))
    rintro _ rfl h' _ _
    exact ⟨fun _ h => h, t, congrArg (fun x => Value.int x t) (val_mono r [] cs h4).symm⟩
  · have h4 : 4 ≤ n := Nat.le_of_not_lt fun h => by obtain ⟨t, e1⟩ := K.in4 n h; rw [e1] at e; cases e
    refine Go.forUn (xs := readNames) (RdJ S ad.nl n kn tn) (Pu.attr (v := .ref ad.ca) (Pu.var rfl rfl) at_cells M.mn rfl rfl rfl) M.mc ⟨fun _ h => h, (Nat.zero_add 4).symm ▸ h4, rfl, rfl, rfl⟩ (fun i m' l' J => J.kp _ M.mc) (fun i u m1 S1 hu J => ?_) fun m1 S1 J => ?_
    · obtain ⟨c, q, ti, t1, t2, ivs, hc, rfl, mq, mti, hiv⟩ := M.ce.at hu
      rw [Nat.zero_add] at mq
      refine ⟨q, _, rfl, .inl ⟨0, J.kp _ mq⟩, rfl, ?_⟩
      refine Go.ifP (Tp.cmp (Pu.var rfl ⟨_, rfl⟩) (Pu.var J.h2 ⟨_, rfl⟩) Cm.eqI) (fun e => ?_) fun e => ?_
      · have hin := ieq e
        have hcn : val r cs n = c.v (val r cs) := hin ▸ val_cell r M.wf hc
        have hcl := List.getElem?_eq_some_iff.mp hc
        have hci := M.wf i c hc
        refine Go.weak (m' := [(Str.ofString "ins", .ref ti), (Str.ofString "kind", .str c.str t1), (Str.ofString "netlist", .ref ad.nl), (Str.ofString "net", .int (n : Int) tn), (Str.ofString "known", .ref kn)]) (know_sub (all5 rfl rfl J.h1 J.h2 J.h3)) (fun _ h => h) ?_
        refine Go.assignComp (Pu.is (Pu.var rfl rfl) ⟨_, _, _, fun i' ys S3 => (∀ p ∈ S, p ∈ S3) ∧ IntsAre ys ((c.ins.take i').map (val r cs)), itr_tup (J.kp _ mti), ?_, ⟨J.kp, .nil⟩, fun i' ys l hJ p hp => (List.mem_singleton.mp hp) ▸ hJ.1 _ mti, ?_, ?_⟩)
        · rw [hiv.length]; cases c <;> exact Nat.le_of_ble_eq_true rfl
        · rintro i' v ys S3 hi' hv ⟨kp, hy⟩
          obtain ⟨j, tj, rfl, hj⟩ := ints_at hiv hv
          have hjn : j < n := hin ▸ hci j (List.mem_of_getElem? hj)
          refine Ev.callK (Pu.glob rfl) (by rfl) (Evs.vl (Pu.var rfl rfl) (Evs.vl (Pu.var rfl rfl) (Evs.vl (Pu.var rfl rfl) (Evs.nil (Op.tellA (fun h _ _ => ih j hjn ⟨d, M.more kp⟩ (kp _ hk) K (Nat.lt_trans hjn hlt)) ?_ hjn (Nat.mul_le_mul_left 3 hjn))))))
          rintro _ S4 _ ⟨kp2, t, rfl⟩
          refine ⟨fun p hp => kp2 p (kp p hp), ?_⟩
          rw [take_one hj, List.map_append]
          exact ints_snocZ hy _ _
        · rintro D k ys S3 ⟨kp, hy⟩ hlen hlt hD
          rw [hiv.length, List.length_map, List.take_length] at hy
          have kp2 : ∀ p ∈ S, p ∈ (D, listOf ys.toArray k) :: S3 := fun p hp => .tail _ (kp p hp)
          rw [hcn]
          match c, hy with
          | .inv a, hy =>
            refine Go.ifP (Tp.cmp (Pu.var rfl ⟨_, rfl⟩) .str Cm.eqS) (fun _ => ?_) fun e => absurd (show (Str.ofString "not" == Str.ofString "not") = false from e) (by decide)
            refine Go.ret (Ev.bin (Pu.i .int fun t => Ev.sub (Pu.is (Pu.var rfl rfl) (Pu.i (z := 0) .int fun t7 => Op.eqs (Op.item (ns := [val r cs a]) .head hy (Int.le_refl _) (show (0 : Int) < 1 by decide) (show 1 ≤ 100000 by decide)) ?_))))
            rintro _ ⟨t9, rfl⟩
            refine Op.eqs Op.sub2 ?_
            rintro _ ⟨t8, rfl⟩ h' _ _
            exact ⟨kp2, t8, rfl⟩
          | .and a b, hy =>
            refine Go.ifP (Tp.cmp (Pu.var rfl ⟨_, rfl⟩) .str Cm.eqS) (fun e => absurd (show (Str.ofString "and" == Str.ofString "not") = true from e) (by decide)) fun _ => Go.ifP (Tp.cmp (Pu.var rfl ⟨_, rfl⟩) .str Cm.eqS) (fun e => absurd (show (Str.ofString "and" == Str.ofString "mux") = true from e) (by decide)) fun _ => ?_
            refine Go.ret (Ev.sub (Ev.dict (knd := PySem.strKind PR w) fun d o lt lo => Prs.s .str fun k1 => Ev.callB (Pu.blt rfl (by boot_by_name) (by decide)) (Evs.vl (Pu.var rfl rfl) (Evs.nil (Op.eqs (Op.minL (.tail .head) (ns := [val r cs a, val r cs b]) hy (show 0 < 2 by decide)) ?_)))))
            rintro _ ⟨M1, ⟨t1, rfl⟩, hm1, hb1⟩
            refine Prs.s .str fun k2 => Ev.callB (Pu.blt rfl (by boot_by_name) (by decide)) (Evs.vl (Pu.var rfl rfl) (Evs.nil (Op.eqs (Op.maxL (.tail .head) (ns := [val r cs a, val r cs b]) hy (show 0 < 2 by decide)) ?_)))
            rintro _ ⟨M2, ⟨t2, rfl⟩, hm2, hb2⟩
            refine Prs.s .str fun k3 => Pu.i (Pu.mod (Ev.callB (Pu.blt rfl (by boot_by_name) (by decide)) (Evs.vl (Pu.var rfl rfl) (Evs.nil (Op.sumL (.tail .head) (ns := [val r cs a, val r cs b]) hy)))) .int (by decide)) fun t3 => Prs.nil ⟨_, _, rfl, fun p hp => ne_lt (lt p hp), carry_s (carry_s (carry_s carry_nil)), fun o1 hd1 => ?_⟩
            refine Pu.is (Pu.var rfl rfl) (Op.eqs (Op.base (Op.dItem (.head _) hd1 (strKind_is _ _ _ _) rfl)) ?_)
            rintro _ rfl h' _ _
            exact ⟨fun p hp => .tail _ (kp2 p hp), _, congrArg (fun x => Value.int x _) (min2_of hm1 hb1)⟩
          | .xor a b, hy =>
            refine Go.ifP (Tp.cmp (Pu.var rfl ⟨_, rfl⟩) .str Cm.eqS) (fun e => absurd (show (Str.ofString "xor" == Str.ofString "not") = true from e) (by decide)) fun _ => Go.ifP (Tp.cmp (Pu.var rfl ⟨_, rfl⟩) .str Cm.eqS) (fun e => absurd (show (Str.ofString "xor" == Str.ofString "mux") = true from e) (by decide)) fun _ => ?_
            refine Go.ret (Ev.sub (Ev.dict (knd := PySem.strKind PR w) fun d o lt lo => Prs.s .str fun k1 => Ev.callB (Pu.blt rfl (by boot_by_name) (by decide)) (Evs.vl (Pu.var rfl rfl) (Evs.nil (Op.eqs (Op.minL (.tail .head) (ns := [val r cs a, val r cs b]) hy (show 0 < 2 by decide)) ?_)))))
            rintro _ ⟨M1, ⟨t1, rfl⟩, hm1, hb1⟩
            refine Prs.s .str fun k2 => Ev.callB (Pu.blt rfl (by boot_by_name) (by decide)) (Evs.vl (Pu.var rfl rfl) (Evs.nil (Op.eqs (Op.maxL (.tail .head) (ns := [val r cs a, val r cs b]) hy (show 0 < 2 by decide)) ?_)))
            rintro _ ⟨M2, ⟨t2, rfl⟩, hm2, hb2⟩
            refine Prs.s .str fun k3 => Pu.i (Pu.mod (Ev.callB (Pu.blt rfl (by boot_by_name) (by decide)) (Evs.vl (Pu.var rfl rfl) (Evs.nil (Op.sumL (.tail .head) (ns := [val r cs a, val r cs b]) hy)))) .int (by decide)) fun t3 => Prs.nil ⟨_, _, rfl, fun p hp => ne_lt (lt p hp), carry_s (carry_s (carry_s carry_nil)), fun o1 hd1 => ?_⟩
            refine Pu.is (Pu.var rfl rfl) (Op.eqs (Op.base (Op.dItem (.head _) hd1 (strKind_is _ _ _ _) rfl)) ?_)
            rintro _ rfl h' _ _
            exact ⟨fun p hp => .tail _ (kp2 p hp), _, congrArg (fun x => Value.int x _) (sum2 _ _)⟩
      · have hne := ine e
        exact Go.nil ⟨J.kp, Nat.lt_of_le_of_ne J.le fun e => hne (by rw [← e, Nat.add_comm]), J.h1, J.h2, J.h3⟩
    · exact absurd hlt (Nat.not_lt.mpr (by have := J.le; rw [M.ce.len] at this; rw [Nat.add_comm]; exact this))
set_option maxRecDepth 100000
theorem owner_rev : Manifest.owners.lookup (String.ofList ['d', 'e', 's', 'r', 'e', 'v', 'e', 'r'].reverse) = some Manifest.sig_reversed := by kernel_rfl
theorem slot_rev_init : Slot "reversed" "__init__" "object.__init__" :=
  .of (owner := "object") (n := "__init__") (by rw [typeLookup_type, builtinLookup_eq_fast]; kernel_rfl) (by decide +kernel) (by decide +kernel) (by decide +kernel)
    (by first | exact .inl (by decide +kernel) | exact .inr (by decide +kernel)) (by rw [isSubtype_type]; kernel_rfl)
theorem slot_rev_iter : Slot "reversed" "__iter__" "reversed.__iter__" :=
  .of (owner := "reversed") (n := "__iter__") (by rw [typeLookup_type, builtinLookup_eq_fast]; kernel_rfl) (by decide +kernel) (by decide +kernel) (by decide +kernel)
    (by first | exact .inl (by decide +kernel) | exact .inr (by decide +kernel)) (by rw [isSubtype_type]; kernel_rfl)
theorem slot_rev_next : Slot "reversed" "__next__" "reversed.__next__" :=
  .of (owner := "reversed") (n := "__next__") (by rw [typeLookup_type, builtinLookup_eq_fast]; kernel_rfl) (by decide +kernel) (by decide +kernel) (by decide +kernel)
    (by first | exact .inl (by decide +kernel) | exact .inr (by decide +kernel)) (by rw [isSubtype_type]; kernel_rfl)
theorem args_rev_next (a : Value) : argsOk "reversed.__next__" ⟨[a], []⟩ := by
  unfold argsOk; rw [signature?_of (id := "reversed.__next__") (n := ['_', '_', 't', 'x', 'e', 'n', '_', '_']) (o := ['d', 'e', 's', 'r', 'e', 'v', 'e', 'r']) (by kernel_rfl) owner_rev]; kernel_rfl
theorem args_rev_iter (a : Value) : argsOk "reversed.__iter__" ⟨[a], []⟩ := by
  unfold argsOk; rw [signature?_of (id := "reversed.__iter__") (n := ['_', '_', 'r', 'e', 't', 'i', '_', '_']) (o := ['d', 'e', 's', 'r', 'e', 'v', 'e', 'r']) (by kernel_rfl) owner_rev]; kernel_rfl
theorem entry_rev_iter : entryFor table "reversed.__iter__" = some Builtin.«dict_keyiterator.__iter__» :=
  entryFor_alias (id' := "dict_keyiterator.__iter__") (by kernel_rfl) (by first | rfl | decide +kernel | (unfold String.splitOn; simp +decide [String.splitOnAux])) (by decide +kernel) (by kernel_rfl)
theorem entry_rev_next : entryFor table "reversed.__next__" = some Builtin.«reversed.__next__» := entryFor_of_tree (by kernel_rfl)
theorem called_rev : TypeCalled "reversed" "reversed.__new__" "object.__init__" :=
  ⟨by decide +kernel, F.create_reversed, ⟨_, _, F.mro_reversed⟩, F.made_reversed, F.plain_reversed_new, F.sub_reversed_self, slot_rev_init⟩
theorem no_rev_tuple : typeLookup (.type "tuple") "__reversed__" = pure none := by rw [typeLookup_type, builtinLookup_eq_fast]; kernel_rfl
theorem not_dict_tuple : isSubtype (.type "tuple") (.type "dict") = pure false := by rw [isSubtype_type]; kernel_rfl
def rtObj (t : Addr) (i : Int) : Obj := { cls := .type "reversed", data := .fields #[.ref t, rawInt i] }
theorem meets_rev (t : Addr) (items : Array Value) (n : Nat) (dct : Option Addr) (sl : Array (Option Value)) :
    Meets (Builtin.«reversed.__new__» ⟨[.type "reversed", .ref t], []⟩) (fun _ R s => (s.heap.get? t = some { cls := .type "tuple", dict := dct, data := .seq items n, slots := sl } ∧ (items.size : Int) < 2 ^ 63) ∧
      R (.ok (.ret (.ref s.heap.objs.size))) { s with heap := s.heap.push (rtObj t ((items.size : Int) - 1)), toks := s.toks + 1 + 1 }) :=
  .of_wp fun prog w A R s h => by
    obtain ⟨⟨hl, hsz⟩, h⟩ := h
    have hT : s.TypeIs (.ref t) "tuple" := ⟨_, hl, rfl⟩
    have htup : IsTup s.heap t items := ⟨_, hl, rfl, n, rfl⟩
    unfold Builtin.«reversed.__new__»
    refine wpAny_bind (wpAny_of_eq (newClass_reversed _) ?_)
    try dsimp only
    refine wpAny_bind (wpAny_of_eq (a := ()) (by first | rfl | kernel_rfl) ?_)
    refine wpAny_bind (wpAny_of_eq (a := ()) (by first | rfl | kernel_rfl) ?_)
    try dsimp only
    refine wpAny_bind (wpAny_specialOf hT no_rev_tuple ?_)
    try dsimp only
    refine wpAny_bind ?_
    show wpAny _ _ (isInstance (.ref t) (.type "dict") >>= _) _ _ s
    refine wpAny_bind (wpAny_isInstance hT not_dict_tuple ?_)
    show wpAny _ _ (specialOf (.ref t) "__getitem__" >>= _) _ _ s
    refine wpAny_bind (wpAny_specialOf hT slot_tuple_getitem.lookup ?_)
    try dsimp only
    rw [if_pos (by decide)]
    refine wpAny_pure ?_
    show wpAny _ _ (call (.builtin "len") [.ref t] >>= _) _ _ _
    refine wpAny_bind (len_tuple htup hsz ?_)
    refine wpAny_bind (wpAny_of_eq (a := some (items.size : Int)) rfl ?_)
    try dsimp only
    unfold Builtin.SmallTypes.newRecord
    exact wpAny_bind (wpAny_newObj_type (wpAny_pure ⟨_, rfl, h⟩))
section
variable {prog : Program} {w : World} {A : Around} {E : Value → Shared → Prop} {s : Shared}
theorem call_rev {t : Addr} {items : Array Value} {Q : Value → Shared → Prop} (ht : IsTup s.heap t items) (hsz : (items.size : Int) < 2 ^ 63)
    (h : Q (.ref s.heap.objs.size) { s with heap := s.heap.push (rtObj t ((items.size : Int) - 1)), toks := s.toks + 1 + 1 }) : wpAny (model prog w) A (call (.type "reversed") [.ref t]) Q E s := by
  obtain ⟨⟨c, dct, dt, sl⟩, hl, hc, n, hd⟩ := ht
  replace hc : c = .type "tuple" := hc
  replace hd : dt = .seq items n := hd
  subst hc hd
  refine callType_new called_rev (by decide) (F.typeCall_reversed_1 _) (F.newCall_reversed_1 _) (fun obj => F.args_object_init_2 obj _) F.entry_reversed_new
    (meets_rev t items n dct sl) ⟨⟨hl, hsz⟩, ?_⟩
  exact ⟨⟨_, Heap.get?_push_size _ rfl, rfl⟩, h⟩
def IsRt (h : Heap) (a t : Addr) (i : Int) : Prop := ∃ o, h.get? a = some o ∧ o.cls = .type "reversed" ∧ o.data = .fields #[.ref t, rawInt i]
theorem IsRt.typeIs {a t : Addr} {i : Int} (x : IsRt s.heap a t i) : s.TypeIs (.ref a) "reversed" := let ⟨o, ho, hc, _⟩ := x; ⟨o, ho, hc⟩
theorem pyIter_rt {a t : Addr} {i : Int} {Q : Value → Shared → Prop} (hit : IsRt s.heap a t i) (h : Q (.ref a) s) : wpAny (model prog w) A (pyIter (.ref a)) Q E s := by
  refine wpAny_pyIter_slot hit.typeIs slot_rev_iter (wpAny_call_entry slot_rev_iter hit.typeIs entry_rev_iter ?_ (args_rev_iter _))
  show wpAny _ _ (ret (.ref a)) _ _ s
  exact wpAny_pure ⟨_, rfl, "reversed", _, hit.typeIs, slot_rev_next.lookup, h⟩
theorem pyNext_rt {it t : Addr} {i : Nat} {items : Array Value} {x : Value} {Q : Option Value → Shared → Prop} (hit : IsRt s.heap it t (i : Int)) (hl : IsTup s.heap t items) (hne : t ≠ it) (hsz : items.size ≤ 1000) (hx : items[i]? = some x)
    (hQ : ∀ h' tk, IsRt h' it t ((i : Int) - 1) → Heap.SameBut it s.heap h' → Q (some x) { s with heap := h', toks := tk }) : wpAny (model prog w) A (pyNext (.ref it)) Q E s := by
  obtain ⟨o, ho, hc, hd⟩ := id hit
  have hT : s.TypeIs (.ref t) "tuple" := let ⟨o, ho, hc, _⟩ := hl; ⟨o, ho, hc⟩
  unfold pyNext
  refine wpAny_bind (wpAny_attempt (wpAny_callSpecial?_slot (name := Str.ofString "__next__") hit.typeIs slot_rev_next
    (wpAny_call_entry slot_rev_next hit.typeIs entry_rev_next ?_ (args_rev_next _))))
  unfold Builtin.«reversed.__next__»
  refine wpAny_bind (wpAny_of_eq (a := (Value.ref it, [])) rfl ?_)
  try dsimp only
  refine wpAny_bind (wpAny_field ho hd (x := .ref t) rfl ?_)
  refine wpAny_bind (wpAny_field ho hd (x := rawInt (i : Int)) rfl ?_)
  show wpAny _ _ (if (i : Int) < 0 then _ else _) _ _ s
  rw [if_neg (by omega)]
  refine wpAny_bind (wpAny_specialOf hT slot_tuple_getitem.lookup ?_)
  try dsimp only
  rw [if_neg (by decide)]
  refine wpAny_bind (wpAny_mkInt ?_)
  have hxi : i < items.size := (Array.getElem?_eq_some_iff.mp hx).1
  refine wpAny_bind (wpAny_attempt (getItem_tuple (j := i) hl (by omega) (by omega) (by unfold seqIndex?; simp; omega) hx ?_))
  try dsimp only
  refine wpAny_bind (wpAny_field ho hd (x := rawInt (i : Int)) rfl ?_)
  try dsimp only [rawInt]
  refine wpAny_bind (wpAny_setField ho hd (by simp) ?_)
  refine wpAny_pure ⟨x, rfl, wpAny_pure (hQ _ _ ?_ (Heap.SameBut.update ..))⟩
  exact ⟨_, Heap.get?_update_self _ ho (Obj.isFreed_of_fields (Obj.data_mapFields hd _)), (Obj.cls_mapFields ..).trans hc, by
    rw [Obj.data_mapFields hd]; simp [rawInt]⟩
theorem pyNext_rt_end {it t : Addr} {Q : Option Value → Shared → Prop} (hh : A.handled = none) (hit : IsRt s.heap it t (-1))
    (hQ : ∀ h', Heap.ExtBut it s.heap h' → Q none { s with heap := h' }) : wpAny (model prog w) A (pyNext (.ref it)) Q E s := by
  obtain ⟨o, ho, hc, hd⟩ := id hit
  unfold pyNext
  refine wpAny_bind (wpAny_attempt (wpAny_callSpecial?_slot (name := Str.ofString "__next__") hit.typeIs slot_rev_next
    (wpAny_call_entry slot_rev_next hit.typeIs entry_rev_next ?_ (args_rev_next _))))
  unfold Builtin.«reversed.__next__»
  refine wpAny_bind (wpAny_of_eq (a := (Value.ref it, [])) rfl ?_)
  try dsimp only
  refine wpAny_bind (wpAny_field ho hd (x := .ref t) rfl ?_)
  refine wpAny_bind (wpAny_field ho hd (x := rawInt (-1)) rfl ?_)
  show wpAny _ _ (if (-1 : Int) < 0 then _ else _) _ _ s
  rw [if_pos (by decide)]
  refine wpAny_bind (wpAny_rule ?_)
  refine wpAny_bind ?_
  show wpAny _ _ (setField (.ref it) 1 (rawInt (-1)) >>= _) _ _ s
  refine wpAny_bind (wpAny_setField ho hd (by simp) ?_)
  have ho2 := Heap.get?_update_self (Obj.mapFields (·.setIfInBounds 1 (rawInt (-1)))) ho (Obj.isFreed_of_fields (Obj.data_mapFields hd _))
  refine wpAny_setField ho2 (Obj.data_mapFields hd _) (by simp) ?_
  have hx : Heap.ExtBut it s.heap ((s.heap.update it (Obj.mapFields (·.setIfInBounds 1 (rawInt (-1))))).update it (Obj.mapFields (·.setIfInBounds 0 Value.none))) := fun b o hb e =>
    ((Heap.SameBut.update (a := it) ..).2 b hb).trans (((Heap.SameBut.update (a := it) ..).2 b hb).trans e)
  first
  | show wpAny _ _ (newExc (.type "StopIteration") [] >>= _) _ _ _
  | (refine wpAny_bind ?_; show wpAny _ _ (newExc (.type "StopIteration") [] >>= _) _ _ _)
  refine wpAny_bind ?_
  simp only [newExc, newTuple]
  refine wpAny_bind (wpAny_newObj_type ?_ (by size_fits))
  refine wpAny_bind (m := firstArgMember _ _) (wpAny_of_eq (a := Value.none) (by first | rfl | (simp only [firstArgMember]; rfl)) ?_)
  refine wpAny_newObj_type ?_ (by size_fits)
  simp only [raiseNew]
  refine wpAny_bind (wpAny_handled ?_)
  first | rw [show A.in1.handled = none from hh] | rw [hh]
  refine wpAny_bind (wpAny_pure (wpAny_throw ?_))
  refine wpAny_bind (wpAny_isInstance (T := "StopIteration") (b := true) ⟨_, Heap.get?_push_size _ rfl, rfl⟩ isSubtype_stop ?_)
  exact wpAny_pure (hQ _ ((hx.push _).push _))
end
/-- the walk of a reversed tuple -/
theorem walks_rt {prog : Program} {w : World} {A : Around} (hh : A.handled = none) (I t : Addr) (hne : t ≠ I) (items : Array Value) (hsz : items.size ≤ 1000) :
    Walks prog w A I [I, t] [I] items.size (fun i v => items[items.size - 1 - i]? = some v) (fun i h => i ≤ items.size ∧ IsRt h I t ((items.size : Int) - 1 - (i : Int)) ∧ IsTup h t items) where
  sub := fun b hb => by simp at hb; simp [hb]
  frame := fun _ _ _ x hk => ⟨x.1, (let ⟨o, ho, r⟩ := x.2.1; ⟨o, hk I (by simp) o ho, r⟩), (let ⟨o, ho, r⟩ := x.2.2; ⟨o, hk t (by simp) o ho, r⟩)⟩
  item := fun i s Q E hi x hQ => by
    have e : (items.size : Int) - 1 - (i : Int) = ((items.size - 1 - i : Nat) : Int) := by omega
    have hit := x.2.1
    rw [e] at hit
    have hx : items[items.size - 1 - i]? = some (items[items.size - 1 - i]'(by omega)) := Array.getElem?_eq_getElem (by omega)
    refine pyNext_rt hit x.2.2 hne hsz hx fun h' tk hit' hs' => ?_
    have e2 : ((items.size - 1 - i : Nat) : Int) - 1 = (items.size : Int) - 1 - ((i + 1 : Nat) : Int) := by omega
    rw [e2] at hit'
    exact hQ _ h' tk hx ⟨hi, hit', (let ⟨o, ho, r⟩ := x.2.2; ⟨o, (hs'.2 t hne).trans ho, r⟩)⟩ fun b o hb eo => hs'.extBut b o (fun h => hb (by simp [h])) eo
  done := fun s Q E x hQ => by
    have e : (items.size : Int) - 1 - (items.size : Int) = -1 := by omega
    have hit := x.2.1
    rw [e] at hit
    exact pyNext_rt_end hh hit fun h' he' => hQ h' s.toks fun b o hb eo => he' b o (fun h => hb (by simp [h])) eo
  self := fun _ _ _ _ x hQ => pyIter_rt x.2.1 hQ
section
variable {prog : Program} {w : World} {A : Around} {E : Value → Shared → Prop} {s : Shared} {h₀ : Heap} {L : Addr}
/-- a reversed tuple of the ground, gone over -/
theorem rev_src {m : Str → Option Value} {news : List (Addr × Obj)} {t : Addr} {vs : List Value} {QI : Value → Shared → Prop} (hh : A.handled = none) (ht : h₀.get? t = some (tupOf vs)) (hsz : vs.length ≤ 1000) (F : Fr h₀ L s.heap m) (N : News h₀ L s.heap news)
    (K : ∀ I h' tk, Src prog w A h₀ L h' news [] I vs.length (fun i v => vs[vs.length - 1 - i]? = some v) → Fr h₀ L h' m → News h₀ L h' news → QI (.ref I) { s with heap := h', toks := tk }) :
    wpAny (model prog w) A (call (.type "reversed") [.ref t]) (fun xv s₁ => wpAny (model prog w) A (pyIter xv) QI E s₁) E s := by
  have hz : vs.toArray.size = vs.length := by simp
  have hts : IsTup s.heap t vs.toArray := ⟨_, F.keep _ _ ht, rfl, _, rfl⟩
  have hne : t ≠ s.heap.objs.size := Nat.ne_of_lt (Heap.lt_size (F.keep _ _ ht))
  refine call_rev hts (by rw [hz]; omega) ?_
  rw [hz]
  have W := walks_rt (prog := prog) (w := w) hh s.heap.objs.size t hne vs.toArray (by rw [hz]; exact hsz)
  rw [hz] at W
  simp only [List.getElem?_toArray] at W
  have hrt : IsRt (s.heap.push (rtObj t ((vs.length : Int) - 1))) s.heap.objs.size t ((vs.length : Int) - 1) := ⟨_, Heap.get?_push_size _ rfl, rfl, rfl⟩
  obtain ⟨a, b, c⟩ := src_of (Fx := []) (o := rtObj t ((vs.length : Int) - 1)) rfl F N W (fun b hb => .inl ((List.mem_singleton.mp hb) ▸ ⟨_, ht⟩)) (fun i h st => let ⟨o, ho, _⟩ := st.2.1; ⟨o, ho⟩)
    ⟨Nat.zero_le _, by rw [show (vs.length : Int) - 1 - ((0 : Nat) : Int) = (vs.length : Int) - 1 from by omega]; exact hrt, ⟨_, Heap.get?_push_of_some _ (F.keep _ _ ht), rfl, _, rfl⟩⟩
  exact pyIter_rt hrt (K _ _ _ a b c)
end
/-- for x in reversed(t) : t a tuple of the ground -/
theorem Go.forRev {C : Cx} {m : Loc} {S : Led} {P : Flow → Loc → Led → Prop} {rest body : List Stmt} {func a : Expr} {x : Str} {pos px cpos : Pos} {t : Addr} {vs : List Value} (J : Nat → Loc → Led → Prop) (hfn : Pu C m S func (Is (.type "reversed"))) (ha : Pu C m S a (Is (.ref t))) (ht : C.g.get? t = some (tupOf vs)) (hsz : vs.length ≤ 1000) (h0 : J 0 m S)
    (turn : ∀ i u m1 S2, i < vs.length → vs[vs.length - 1 - i]? = some u → J i m1 S2 → Go C ((x, u) :: m1) S2 body (Lp (J (i + 1)) (Th C rest P))) (done : ∀ m1 S2, J vs.length m1 S2 → Go C m1 S2 rest P)
    (hn : noStar [a] = true := by rfl) (hc : CallOk func [a] cpos := by intro _; rfl) (hx : (C.D.cs.names.lookup x == some .local) = true := by rfl) (hf : ∀ env v, foldedSetIterable (.Call func [a] [] cpos) env v = pure v := by intro _ _; rfl) :
    Go C m S (.For (.Name x px) (.Call func [a] [] cpos) body [] pos :: rest) P :=
  Go.cons fun A L hid s H R => by
    have hx' : C.D.cs.names.lookup x = some .local := by simpa using hx
    obtain ⟨mm, cm, ce, F, _⟩ := id R
    refine For_invVF F hx' (by show (C.D.cs.kind == _ || C.D.cs.kind == _ && _) = false; rw [H.kind]; rfl) (Call_ (Tr.at hfn H R fun v h1 t1 S1 R1 ⟨e1, e2⟩ => ?_) (hc _)) (hf _) PassesOwn.never
    subst e1; cases e2
    refine Pv.callWith_type1 (s := { s with heap := h1, toks := t1 }) (Tr.at (s := { s with heap := h1, toks := t1 }) (Evs.cons (P := fun us S' => S' = S1 ∧ us = [.ref t]) hn (ha.ev fun v hv => Evs.nil ⟨rfl, by cases hv; rfl⟩)) H R1 fun us h2 t2 S2 R2 ⟨e1, e2⟩ => ?_) (noStar_each hn).1 (noStar_any (noStar_each (env := C.D.env L) hn).2)
    subst e1 e2
    obtain ⟨mm0, cm0, ce0, F0, Y0, N0, o0, oc0, kn0⟩ := R2
    exact rev_src (s := { s with heap := h2, toks := t2 }) (fnFm H hid).hand ht hsz F0 N0 fun I h' tk Z F2 N2 => for_tail (s := s) (tI := tk) H hx' Z F2 N2 Y0 o0 oc0 kn0 h0 (fun _ _ _ _ _ hp => nomatch hp) turn done
/-- the expressions that the law grows -/
inductive Ex where
  | const (a b : Int)
  | sig
  | cond (x y : Ex)
  | slice (x : Ex) (lo : Int)
  | ext (x : Ex) (sg : Bool)
  | cat (x y : Ex)
def Ex.dep : Ex → Nat
  | .const _ _ => 0
  | .sig => 0
  | .cond x y => max x.dep y.dep + 1
  | .slice x _ => x.dep + 1
  | .ext x _ => x.dep + 1
  | .cat x y => max x.dep y.dep + 1
def Ex.ok : Ex → Prop
  | .const a b => 0 ≤ a ∧ a < 4 ∧ 0 ≤ b ∧ b < 4
  | .sig => True
  | .cond x y => x.ok ∧ y.ok
  | .slice x lo => x.ok ∧ -1 ≤ lo ∧ lo < 3
  | .ext x _ => x.ok
  | .cat x y => x.ok ∧ y.ok
def cbit (a b : Int) (i : Nat) : Int := a / 2 ^ i % 2 + 2 * (b / 2 ^ i % 2)
def sbit (l : List Int) (p : Int) : Int := if 0 ≤ p ∧ p < l.length then l.getD p.toNat 0 else 3
def fitw (l : List Int) (w : Nat) (f : Int) : List Int := l.take w ++ List.replicate (w - l.length) f
def fillOf (l : List Int) (sg : Bool) : Int := if sg then l.getD (l.length - 1) 0 else 0
def bits (z : Int) : Ex → List Int
  | .const a b => [cbit a b 0, cbit a b 1]
  | .sig => [z, z]
  | .cond _ _ => [z, z]
  | .slice x lo => [sbit (bits z x) lo, sbit (bits z x) (lo + 1)]
  | .ext x sg => fitw (bits z x) 3 (fillOf (bits z x) sg)
  | .cat x y => bits z y ++ bits z x
def fl (z : Int) : Ex → Bool
  | .cond x y => (bits z x).any (fun v => v == 2) || ((bits z y).any (fun v => v == 2) || (fl z x || fl z y))
  | .cat x y => fl z x || fl z y
  | .ext x _ => fl z x
  | .slice x _ => fl z x
  | _ => false
theorem bits_pos (z : Int) : ∀ x : Ex, 1 ≤ (bits z x).length
  | .const _ _ => by simp [bits]
  | .sig => by simp [bits]
  | .cond _ _ => by simp [bits]
  | .slice _ _ => by simp [bits]
  | .ext x _ => by
    have := bits_pos z x
    simp [bits, fitw]; omega
  | .cat x y => by
    have := bits_pos z x
    simp [bits]; omega
theorem bits_len (z : Int) : ∀ x : Ex, (bits z x).length ≤ 3 * 2 ^ x.dep
  | .const _ _ => by simp [bits, Ex.dep]
  | .sig => by simp [bits, Ex.dep]
  | .cond x y => by
    have : 1 ≤ 2 ^ (Ex.cond x y).dep := Nat.one_le_two_pow
    simp only [bits, List.length_cons, List.length_nil]; omega
  | .slice x l => by
    have : 1 ≤ 2 ^ (Ex.slice x l).dep := Nat.one_le_two_pow
    simp only [bits, List.length_cons, List.length_nil]; omega
  | .ext x s => by
    have h1 := bits_pos z x
    have h2 : 1 ≤ 2 ^ (Ex.ext x s).dep := Nat.one_le_two_pow
    simp only [bits, fitw, List.length_append, List.length_take, List.length_replicate]; omega
  | .cat x y => by
    have h1 := bits_len z x
    have h2 := bits_len z y
    have e1 : 2 ^ x.dep ≤ 2 ^ max x.dep y.dep := Nat.pow_le_pow_right (by decide) (Nat.le_max_left _ _)
    have e2 : 2 ^ y.dep ≤ 2 ^ max x.dep y.dep := Nat.pow_le_pow_right (by decide) (Nat.le_max_right _ _)
    have e3 : 2 ^ (Ex.cat x y).dep = 2 ^ max x.dep y.dep * 2 := by rw [Ex.dep, Nat.pow_succ]
    simp only [bits, List.length_append]
    rw [e3]; omega
/-- the two ways to say an open bit -/
def conv (v : Int) : Int := if v = 4 then 9 else v
theorem conv_lo {v : Int} (h : v < 4) : conv v = v := by unfold conv; rw [if_neg (by omega)]
theorem cbit_lo {a b : Int} (i : Nat) : cbit a b i < 4 := by
  unfold cbit
  have := Int.emod_lt_of_pos (a / 2 ^ i) (show (0 : Int) < 2 by decide)
  have := Int.emod_lt_of_pos (b / 2 ^ i) (show (0 : Int) < 2 by decide)
  omega
theorem getD_map {l : List Int} {i : Nat} (h : i < l.length) : (l.map conv).getD i 0 = conv (l.getD i 0) := by
  rw [List.getD_eq_getElem?_getD, List.getD_eq_getElem?_getD, List.getElem?_map, List.getElem?_eq_getElem h]; rfl
theorem sbit_map (l : List Int) (p : Int) : sbit (l.map conv) p = conv (sbit l p) := by
  unfold sbit
  rw [List.length_map]
  by_cases h : 0 ≤ p ∧ p < l.length
  · rw [if_pos h, if_pos h, getD_map (by omega)]
  · rw [if_neg h, if_neg h]; rfl
theorem fill_map {l : List Int} (hl : 1 ≤ l.length) (sg : Bool) : fillOf (l.map conv) sg = conv (fillOf l sg) := by
  unfold fillOf
  cases sg with
  | false => rfl
  | true => simp only [if_true, List.length_map]; exact getD_map (by omega)
theorem bits_conv : ∀ x : Ex, bits 9 x = (bits 4 x).map conv
  | .const a b => by simp only [bits, List.map, conv_lo (cbit_lo _)]
  | .sig => rfl
  | .cond _ _ => rfl
  | .slice x lo => by simp only [bits, List.map, bits_conv x, sbit_map]
  | .ext x sg => by simp only [bits, fitw, bits_conv x, fill_map (bits_pos 4 x), List.map_append, List.map_take, List.map_replicate, List.length_map]
  | .cat x y => by simp only [bits, bits_conv x, bits_conv y, List.map_append]
theorem two_conv (l : List Int) : (l.map conv).any (fun v => v == 2) = l.any (fun v => v == 2) := by
  induction l with
  | nil => rfl
  | cons a l ih =>
    simp only [List.map_cons, List.any_cons, ih]
    congr 1
    unfold conv
    by_cases h : a = 4
    · rw [if_pos h, h]; rfl
    · rw [if_neg h]
theorem fl_conv : ∀ x : Ex, fl 9 x = fl 4 x
  | .const _ _ => rfl
  | .sig => rfl
  | .cond x y => by simp only [fl, bits_conv, two_conv, fl_conv x, fl_conv y]
  | .slice x _ => by simp only [fl, fl_conv x]
  | .ext x _ => by simp only [fl, fl_conv x]
  | .cat x y => by simp only [fl, fl_conv x, fl_conv y]
/-- an expression's tuples, wherever they lie -/
def ExG (G : Addr → Obj → Prop) : Ex → Addr → Prop
  | .const a b, q => ∃ t1 t2 t3 t4, G q (tupOf [.str (Str.ofString "const") t1, .int 2 t2, .int a t3, .int b t4])
  | .sig, q => ∃ t1 t2 t3, G q (tupOf [.str (Str.ofString "sig") t1, .int 2 t2, .int 0 t3])
  | .cond x y, q => ∃ t1 t2 q0 q1 q2, G q (tupOf [.str (Str.ofString "cond") t1, .int 2 t2, .ref q0, .ref q1, .ref q2]) ∧ ExG G x q1 ∧ ExG G y q2
  | .slice x lo, q => ∃ t1 t2 q1 t3, G q (tupOf [.str (Str.ofString "slice") t1, .int 2 t2, .ref q1, .int lo t3]) ∧ ExG G x q1
  | .ext x sg, q => ∃ t1 t2 q1, G q (tupOf [.str (Str.ofString "ext") t1, .int 3 t2, .ref q1, .bool sg]) ∧ ExG G x q1
  | .cat x y, q => ∃ t1 t2 qt q1 q2, G q (tupOf [.str (Str.ofString "cat") t1, .int 4 t2, .ref qt]) ∧ G qt (tupOf [.ref q1, .ref q2]) ∧ ExG G x q1 ∧ ExG G y q2
theorem ExG.mono {G G' : Addr → Obj → Prop} (h : ∀ a o, G a o → G' a o) : ∀ {x : Ex} {q : Addr}, ExG G x q → ExG G' x q
  | .const _ _, _, ⟨t1, t2, t3, t4, e⟩ => ⟨t1, t2, t3, t4, h _ _ e⟩
  | .sig, _, ⟨t1, t2, t3, e⟩ => ⟨t1, t2, t3, h _ _ e⟩
  | .cond _ _, _, ⟨t1, t2, q0, q1, q2, e, a, b⟩ => ⟨t1, t2, q0, q1, q2, h _ _ e, a.mono h, b.mono h⟩
  | .slice _ _, _, ⟨t1, t2, q1, t3, e, a⟩ => ⟨t1, t2, q1, t3, h _ _ e, a.mono h⟩
  | .ext _ _, _, ⟨t1, t2, q1, e, a⟩ => ⟨t1, t2, q1, h _ _ e, a.mono h⟩
  | .cat _ _, _, ⟨t1, t2, qt, q1, q2, e, e2, a, b⟩ => ⟨t1, t2, qt, q1, q2, h _ _ e, h _ _ e2, a.mono h, b.mono h⟩
abbrev ExAt (h : Heap) (x : Ex) (q : Addr) : Prop := ExG (fun a o => h.get? a = some o) x q
theorem ExAt.keep {h h' : Heap} {x : Ex} {q : Addr} (e : ExAt h x q) (k : ∀ a o, h.get? a = some o → h'.get? a = some o) : ExAt h' x q := e.mono k
section
variable {C : Cx} {m : Loc} {S : Led} {a b : Expr} {body rest : List Stmt} {pos pos2 : Pos} {P : Flow → Loc → Led → Prop} {x y : Str} {v : Value} {q : Addr} {vs : List Value}
theorem Go.isF (ha : Pu C m S a (IsS x)) (hb : Pu C m S b (IsS y)) (he : (x == y) = false) (h : Go C m S rest P) (hm : behindInMarks .Eq b = false := by rfl) : Go C m S (.If (.Compare a [.Eq] [b] pos) body [] pos2 :: rest) P := Go.ifF (Tp.as (Tp.cmp ha hb Cm.eqS hm) he) h
theorem Go.isT (ha : Pu C m S a (IsS x)) (hb : Pu C m S b (IsS y)) (he : (x == y) = true) (h : Go C m S body (Th C rest P)) (hm : behindInMarks .Eq b = false := by rfl) : Go C m S (.If (.Compare a [.Eq] [b] pos) body [] pos2 :: rest) P := Go.ifT (Tp.as (Tp.cmp ha hb Cm.eqS hm) he) h
/-- a tuple of the ground -/
def GT (g : Heap) (q : Addr) (vs : List Value) : Prop := g.get? q = some (tupOf vs)
theorem GT.at (h : GT C.g q vs) : TpAt C.g S q vs := .inr ⟨_, h, rfl, 0, rfl⟩
/-- e[k], k written -/
theorem Pu.el {z : Int} {j : Nat} {p : Value → Prop} (ha : Pu C m S a (Is (.ref q))) (h : GT C.g q vs) (hb : Pu C m S b (IsI z)) (hj : seqIndex? z vs.length = some j) (hv : vs[j]? = some v) (hp : p v) (h0 : -2 ^ 63 ≤ z := by decide) (h1 : z < 2 ^ 63 := by decide) (hs : SubOk b := by intro _ _; rfl) : Pu C m S (.Subscript a b pos) p :=
  Pu.item (i := 0) ha hb h.at h0 h1 hj hv hp hs
end
/-- the codes of x, a list at hand -/
def CodeP (z : Int) (x : Ex) (r : Value) (S : Led) : Prop := ∃ D k ys, r = .ref D ∧ (D, listOf ys.toArray k) ∈ S ∧ IntsAre ys (bits z x)
theorem gnil {h g : Heap} (G : GSub h g (([] : Led).map (·.1))) : Keeps h g := fun b o e => G b o e fun h => nomatch h
theorem cbit_eq (a b : Int) (i : Nat) : Builtin.bitAnd (a.fdiv (2 ^ (0 + (i : Int) * 1).toNat)) 1 + 2 * Builtin.bitAnd (b.fdiv (2 ^ (0 + (i : Int) * 1).toNat)) 1 = cbit a b i := by
  have e : (0 + (i : Int) * 1).toNat = i := by rw [Int.zero_add, Int.mul_one]; rfl
  have hp : (0 : Int) ≤ 2 ^ i := Int.le_of_lt (Int.pow_pos (by decide))
  rw [e, bitAnd_m1, bitAnd_m1, Int.fdiv_eq_ediv_of_nonneg _ hp, Int.fdiv_eq_ediv_of_nonneg _ hp]; rfl
theorem place_nn (i : Nat) : (0 : Int) ≤ 0 + (i : Int) * 1 := by rw [Int.zero_add, Int.mul_one]; exact Int.natCast_nonneg i
theorem range_snoc {α : Type} (f : Nat → α) (i : Nat) : (List.range i).map f ++ [f i] = (List.range (i + 1)).map f := by rw [List.range_succ, List.map_append]; rfl
set_option maxRecDepth 100000 in
theorem constcodes_tell {w : World} {h : Heap} {q : Addr} {a b : Int} (hE : ExAt h (.const a b) q) : Tell w 222 [.ref q] 1 3 [] h fun r S' _ => CodeP 4 (.const a b) r S' := by
  refine tell_def [(Str.ofString "e", .ref q)] (by rfl) (by rfl) (fun g X s k => BindsTo.of_eq rfl) (by rfl) (by rfl) (by rfl) rfl rfl rfl fun g hg => ?_
  obtain ⟨t1, t2, t3, t4, hq⟩ := hE.keep (gnil hg)
  have hq : GT g q _ := hq
  refine Go.assign (Ev.list (Evs.nil (Op.list fun D _ => ?_)))
  refine Go.forS (Ev.callT (Pu.blt rfl (by boot_by_name) (by decide)) (Evs.vl (Pu.el (Pu.var rfl rfl) hq .int rfl rfl rfl) (Evs.nil (Op.range1 fun r9 t5 t6 t7 _ => ⟨2, _, _, fun i m1 S1 => ∃ ys k, m1.lookup (Str.ofString "codes") = some (.ref D) ∧ m1.lookup (Str.ofString "e") = some (.ref q) ∧ (D, listOf ys.toArray k) ∈ S1 ∧ IntsAre ys ((List.range i).map (cbit a b)),
    itr_range (.head _) (by decide) (by decide), ⟨[], 0, rfl, rfl, .tail _ (.head _), .nil⟩, nofx, ?_, ?_⟩))))
  · rintro i u m1 S1 hi ⟨_, tu, rfl⟩ ⟨ys, k, h1, h2, hD, hy⟩
    have hl : ys.length ≤ sizeLine := by rw [hy.length, List.length_map, List.length_range]; exact Nat.le_trans (Nat.le_of_lt hi) (by decide)
    refine Go.append (Pu.var h1 rfl) hD hl (Pu.i (Pu.add (Pu.and (Pu.shr (Pu.el (Pu.var h2 rfl) hq .int rfl rfl ⟨t3, rfl⟩) (Pu.var rfl ⟨_, rfl⟩) (place_nn i)) .int) (Pu.mul .int (Pu.and (Pu.shr (Pu.el (Pu.var h2 rfl) hq .int rfl rfl ⟨t4, rfl⟩) (Pu.var rfl ⟨_, rfl⟩) (place_nn i)) .int) (IntMulOk.of_left (by decide)))) fun t8 => ⟨hD, _, chg_set, Go.nil ⟨_, _, h1, h2, mem_set hD, ?_⟩⟩)
    rw [cbit_eq, ← range_snoc]
    exact ints_snocZ hy _ _
  · rintro m1 S1 ⟨ys, k, h1, h2, hD, hy⟩
    exact Go.ret (Pu.is (Pu.var h1 rfl) fun h' _ _ => ⟨D, k, ys, rfl, hD, hy⟩)
theorem sub_min (a b : Nat) : a - min a b = a - b := by
  rcases Nat.le_total a b with h | h
  · rw [Nat.min_eq_left h, Nat.sub_self, Nat.sub_eq_zero_of_le h]
  · rw [Nat.min_eq_right h]
/-- fit_word's word -/
structure FitJ (D : Addr) (tw tf : Tok) (l : List Int) (f : Int) (n : Nat) (m : Loc) (S : Led) (ys : List Value) (k : Nat) : Prop where
  en : n = 3 - ys.length
  h1 : m.lookup (Str.ofString "word") = some (.ref D)
  h2 : m.lookup (Str.ofString "width") = some (.int 3 tw)
  h3 : m.lookup (Str.ofString "fill") = some (.int f tf)
  mD : (D, listOf ys.toArray k) ∈ S
  i : IntsAre ys (l.take 3 ++ List.replicate (ys.length - (l.take 3).length) f)
  lo : (l.take 3).length ≤ ys.length
  hi : ys.length ≤ 3
set_option maxRecDepth 100000 in
theorem fit_tell {w : World} {h : Heap} {lu : Addr} {us : List Value} {l : List Int} {f : Int} {tw tf : Tok} (hl : h.IsList lu us.toArray) (hi : IntsAre us l) (hlen : l.length ≤ 100000) : Tell w 110 [.ref lu, .int 3 tw, .int f tf] 1 3 [] h fun r S' _ => ∃ D k ys, r = .ref D ∧ (D, listOf ys.toArray k) ∈ S' ∧ IntsAre ys (fitw l 3 f) := by
  refine tell_def [(Str.ofString "u", .ref lu), (Str.ofString "width", .int 3 tw), (Str.ofString "fill", .int f tf)] (by rfl) (by rfl) (fun g X s k => BindsTo.of_eq rfl) (by rfl) (by rfl) (by rfl) rfl rfl rfl fun g hg => ?_
  have hl1 : g.IsList lu us.toArray := gsub_list hg hl fun _ h => nomatch h
  refine Go.assign (Ev.callT (Pu.blt rfl (by boot_by_name) (by decide)) (Evs.cons rfl (Ev.upto (Pu.is (Pu.var rfl rfl) ⟨lu, us, l, 3, rfl, .inr hl1, hi, hlen, by decide, Pu.var rfl ⟨_, rfl⟩, fun D0 ws l0 hw => Evs.nil (Op.copy .head ?_ fun D kD lD => ?_)⟩))))
  · rw [hw.length, List.length_take]; exact Nat.le_trans (Nat.min_le_left _ _) (by decide)
  have hwl : ws.length = (l.take 3).length := hw.length
  have h3 : (l.take 3).length ≤ 3 := by rw [List.length_take]; exact Nat.min_le_left _ _
  refine Go.while_ (fun n m1 S1 => ∃ ys k, FitJ D tw tf l f n m1 S1 ys k) (n₀ := 3 - ws.length) ⟨ws, kD, rfl, rfl, rfl, rfl, .head _, by rw [hwl, Nat.sub_self, List.replicate_zero, List.append_nil]; exact hw, Nat.le_of_eq hwl.symm, hwl ▸ h3⟩ fun n m1 S1 ⟨ys, k, J⟩ => ?_
  refine Te.cmp (Ev.callB (Pu.blt rfl (by boot_by_name) (by decide)) (Evs.vl (Pu.var J.h1 rfl) (Evs.nil (Op.eqs (Op.len (.inl ⟨k, J.mD⟩) (Nat.le_trans J.hi (by decide))) ?_))))
  rintro _ ⟨t, rfl⟩
  refine Pu.is (Pu.var J.h2 rfl) (Op.eqs (Cm.ltI _ _ ⟨t, rfl⟩ ⟨tw, rfl⟩) ?_)
  rintro _ rfl
  refine ⟨_, rfl, ite2 (fun e => ?_) fun e => ?_⟩
  · have hlt : ys.length < 3 := Int.ofNat_lt.mp (of_decide_eq_true e)
    have en : (ys ++ [Value.int f tf]).length = ys.length + 1 := by rw [List.length_append]; rfl
    refine Go.append (Pu.var J.h1 rfl) J.mD (Nat.le_trans J.hi (by decide)) (Pu.is (Pu.var J.h3 rfl) ⟨J.mD, _, chg_set, Go.nil ⟨rfl, 3 - (ys.length + 1), ?_, _, _, by rw [en], J.h1, J.h2, J.h3, mem_set J.mD, ?_, by rw [en]; exact Nat.le_succ_of_le J.lo, by rw [en]; exact hlt⟩⟩)
    · rw [J.en]; exact Nat.sub_lt_sub_left hlt (Nat.lt_succ_self _)
    · rw [en, Nat.succ_sub J.lo, List.replicate_succ', ← List.append_assoc]
      exact ints_snocZ J.i f tf
  · have hge : ys.length = 3 := Nat.le_antisymm J.hi (Int.ofNat_le.mp (Int.not_lt.mp (of_decide_eq_false e)))
    refine Go.ret (Pu.is (Pu.var J.h1 rfl) fun h' _ _ => ⟨D, k, ys, rfl, J.mD, ?_⟩)
    have e2 : ys.length - (l.take 3).length = 3 - l.length := by rw [hge, List.length_take]; exact sub_min 3 _
    have hy := J.i
    rw [e2] at hy
    exact hy
theorem slice_eq (z : Int) (x : Ex) (lo : Int) : ((List.range 2).map fun i : Nat => sbit (bits z x) (lo + (i : Int) * 1)) = bits z (.slice x lo) := by
  show [sbit (bits z x) (lo + 0 * 1), sbit (bits z x) (lo + 1 * 1)] = _
  rw [Int.zero_mul, Int.one_mul, Int.add_zero]; rfl
theorem bits_small (z : Int) {x : Ex} (h : x.dep ≤ 3) : (bits z x).length ≤ 24 :=
  Nat.le_trans (bits_len z x) (Nat.mul_le_mul_left 3 (Nat.pow_le_pow_right (by decide) h))
theorem range_two {lo : Int} (h0 : -1 ≤ lo) (h1 : lo < 3) : Builtin.Range.small lo (lo + 2) 1 = true ∧ Builtin.Range.rangeSize lo (lo + 2) 1 = ((2 : Nat) : Int) := by
  have e : Builtin.Range.rangeSize lo (lo + 2) 1 = ((2 : Nat) : Int) := by
    unfold Builtin.Range.rangeSize
    rw [if_pos (by decide), if_pos (by omega), Int.ediv_one]; omega
  refine ⟨?_, e⟩
  unfold Builtin.Range.small
  rw [e]
  simp only [Builtin.Range.rangeFitsLong]
  simp
  omega
def BitC (w : World) (x : Ex) : Prop := ∀ (h : Heap) (q : Addr), ExAt h x q → Tell w 236 [.ref q] (2 * x.dep + 1 + 1) (6 * x.dep + 3 + 3) [] h fun r S' _ => CodeP 4 x r S'
/-- inner[p] where p lies within, else 3 -/
theorem sbit_in {l : List Int} {p : Int} (h : (decide (0 ≤ p) && decide (p < (l.length : Int))) = true) : 0 ≤ p ∧ p < l.length ∧ l.getD p.toNat 0 = sbit l p := by
  rw [Bool.and_eq_true] at h
  have h1 := of_decide_eq_true h.1
  have h2 := of_decide_eq_true h.2
  exact ⟨h1, h2, (if_pos ⟨h1, h2⟩).symm⟩
theorem sbit_out {l : List Int} {p : Int} (h : (decide (0 ≤ p) && decide (p < (l.length : Int))) = false) : 3 = sbit l p := by
  refine (if_neg fun h2 => ?_).symm
  rw [decide_eq_true h2.1, decide_eq_true h2.2] at h; cases h
section
variable {C : Cx} {m : Loc} {S : Led} {P : Value → Led → Prop} {f : Addr} {q : Addr} {dn' un' : Nat} {x : Ex} {z : Int}
/-- a def that reads an expression and gives its codes -/
theorem Op.codes (hT : ∀ h, ExAt h x q → Tell C.w f [.ref q] dn' un' [] h fun r S' _ => CodeP z x r S') (hE : ExAt C.g x q) (k : ∀ D n ys S2, (D, listOf ys.toArray n) ∈ S2 → IntsAre ys (bits z x) → (∀ p ∈ S, p ∈ S2) → (∀ p ∈ S, p.1 ≠ D) → P (.ref D) S2) (hd : dn' ≤ C.dn) (hu : un' ≤ C.un) : Op C m S (call (.ref f) [.ref q]) P :=
  Op.tell0 (fun h kp _ => hT h (hE.keep kp)) (fun r S' h' o ⟨D, n, ys, e, hD, hy⟩ => e ▸ k D n ys (S' ++ S) (List.mem_append_left _ hD) hy (fun p hp => List.mem_append_right _ hp) fun p hp e => o _ hD p hp e.symm) hd hu
end
/-- the slice's loop -/
structure SlJ (D D0 q : Addr) (ws : List Value) (k0 : Nat) (zs : List Int) (m : Loc) (S : Led) (ys : List Value) (k : Nat) : Prop where
  h1 : m.lookup (Str.ofString "codes") = some (.ref D)
  h2 : m.lookup (Str.ofString "inner") = some (.ref D0)
  mD : (D, listOf ys.toArray k) ∈ S
  m0 : (D0, listOf ws.toArray k0) ∈ S
  i : IntsAre ys zs
set_option maxRecDepth 100000 in
theorem slicecodes_tell {w : World} {h : Heap} {q : Addr} {x : Ex} {lo : Int} (ih : BitC w x) (hE : ExAt h (.slice x lo) q) (hdep : x.dep ≤ 3) (l0 : -1 ≤ lo) (l1 : lo < 3) :
    Tell w 229 [.ref q] (2 * x.dep + 2 + 1) (6 * x.dep + 6 + 3) [] h fun r S' _ => CodeP 4 (.slice x lo) r S' := by
  refine tell_def [(Str.ofString "e", .ref q)] (by rfl) (by rfl) (fun g X s k => BindsTo.of_eq rfl) (by rfl) (by rfl) (by rfl) rfl rfl rfl fun g hg => ?_
  obtain ⟨t1, t2, q1, t3, hq, hx⟩ := hE.keep (gnil hg)
  have hq : GT g q _ := hq
  refine Go.assign (Ev.callK (Pu.glob rfl) (by rfl) (Evs.vl (Pu.el (Pu.var rfl rfl) hq .int rfl rfl rfl) (Evs.nil (Op.codes (fun h e => ih h q1 e) hx (fun D0 k0 ws S2 m0 hw _ _ => ?_) (Nat.le_refl _) (Nat.le_refl _)))))
  have hwl : ws.length = (bits 4 x).length := hw.length
  have hbl : (bits 4 x).length ≤ 100000 := Nat.le_trans (bits_small 4 hdep) (by decide)
  refine Go.assign (Ev.list (Evs.nil (Op.list fun D lD => ?_)))
  have hne : D0 ≠ D := ne_lt (lD _ m0)
  have rt := range_two l0 l1
  refine Go.forS (Ev.callT (Pu.blt rfl (by boot_by_name) (by decide)) (Evs.it (Pu.el (Pu.var rfl rfl) hq .int rfl rfl ⟨t3, rfl⟩) fun t5 => Evs.it (Pu.add (Pu.el (Pu.var rfl rfl) hq .int rfl rfl ⟨t3, rfl⟩) (Pu.el (Pu.var rfl rfl) hq .int rfl rfl ⟨t2, rfl⟩)) fun t6 => Evs.nil (Op.range2 fun r9 t7 t8 t9 _ => ⟨2, _, _, fun i m1 S1 => ∃ ys k, SlJ D D0 q ws k0 ((List.range i).map fun i : Nat => sbit (bits 4 x) (lo + (i : Int) * 1)) m1 S1 ys k,
    itr_range (.head _) rt.1 rt.2, ⟨[], 0, rfl, rfl, .tail _ (.head _), .tail _ (.tail _ m0), .nil⟩, nofx, ?_, ?_⟩)))
  · rintro i u m1 S1 hi ⟨_, tu, rfl⟩ ⟨ys, k, J⟩
    have hl : ys.length ≤ sizeLine := by rw [J.i.length, List.length_map, List.length_range]; exact Nat.le_trans (Nat.le_of_lt hi) (by decide)
    have fin : ∀ z t, z = sbit (bits 4 x) (lo + (i : Int) * 1) → ∃ ys' k', SlJ D D0 q ws k0 ((List.range (i + 1)).map fun i : Nat => sbit (bits 4 x) (lo + (i : Int) * 1)) ((Str.ofString "place", .int (lo + (i : Int) * 1) tu) :: m1) (setL D (listOf (ys ++ [Value.int z t]).toArray (k + 1)) S1) ys' k' := fun z t e =>
      ⟨_, _, J.h1, J.h2, mem_set J.mD, mem_set_ne J.m0 hne, by rw [← range_snoc, ← e]; exact ints_snocZ J.i _ _⟩
    refine Go.append (Pu.var J.h1 rfl) J.mD hl (Ev.ifx (Tt.te (Tt.andP (Tp.cmp .int (Pu.var rfl ⟨_, rfl⟩) Cm.leI) (fun c1 => Tt.andP (Tp.cmp (Pu.var rfl ⟨_, rfl⟩) (Ev.callB (Pu.blt rfl (by boot_by_name) (by decide)) (Evs.vl (Pu.var J.h2 rfl) (Evs.nil (Op.len (.inl ⟨k0, J.m0⟩) (hwl ▸ hbl))))) Cm.ltI) (fun c2 => Tt.and_nil ?_) fun c2 => ?_) fun c1 => ?_)))
    · rw [hwl] at c2
      obtain ⟨p0, p1, e⟩ := sbit_in (l := bits 4 x) (by rw [c1, c2]; rfl)
      refine Ev.sub (Pu.is (Pu.var J.h2 rfl) (Pu.i (Pu.var rfl ⟨_, rfl⟩) fun t10 => Op.eqs (Op.item (.inl ⟨k0, J.m0⟩) hw p0 p1 hbl) ?_))
      rintro _ ⟨t11, rfl⟩
      exact ⟨J.mD, _, chg_set, Go.nil (fin _ _ e)⟩
    · rw [hwl] at c2
      exact Pu.i .int fun t11 => ⟨J.mD, _, chg_set, Go.nil (fin _ _ (sbit_out (by rw [c1, c2]; rfl)))⟩
    · exact Pu.i .int fun t11 => ⟨J.mD, _, chg_set, Go.nil (fin _ _ (sbit_out (by rw [c1]; rfl)))⟩
  · rintro m1 S1 ⟨ys, k, J⟩
    exact Go.ret (Pu.is (Pu.var J.h1 rfl) fun h' _ _ => ⟨D, k, ys, rfl, J.mD, slice_eq 4 x lo ▸ J.i⟩)
theorem fill_t (l : List Int) : l.getD (-1 + (l.length : Int)).toNat 0 = fillOf l true := by
  unfold fillOf; rw [if_pos rfl, Int.add_comm]; exact congrArg (fun n => l.getD n 0) (Int.toNat_sub _ 1)
theorem bits_neg (z : Int) (x : Ex) : -((bits z x).length : Int) ≤ -1 := Int.neg_le_neg (Int.ofNat_le.mpr (bits_pos z x))
theorem dep_l {x y : Ex} : 2 * x.dep + 1 + 1 ≤ 2 * (max x.dep y.dep + 1) + 1 := Nat.le_succ_of_le (Nat.mul_le_mul_left 2 (Nat.succ_le_succ (Nat.le_max_left _ _)))
theorem dep_r {x y : Ex} : 2 * y.dep + 1 + 1 ≤ 2 * (max x.dep y.dep + 1) + 1 := Nat.le_succ_of_le (Nat.mul_le_mul_left 2 (Nat.succ_le_succ (Nat.le_max_right _ _)))
theorem un_l {x y : Ex} : 6 * x.dep + 3 + 3 ≤ 6 * (max x.dep y.dep + 1) + 3 := Nat.le_trans (Nat.mul_le_mul_left 6 (Nat.succ_le_succ (Nat.le_max_left _ _))) (Nat.le_add_right _ _)
theorem un_r {x y : Ex} : 6 * y.dep + 3 + 3 ≤ 6 * (max x.dep y.dep + 1) + 3 := Nat.le_trans (Nat.mul_le_mul_left 6 (Nat.succ_le_succ (Nat.le_max_right _ _))) (Nat.le_add_right _ _)
/-- the loop over a joining's parts: what stands at acc -/
structure CatJ (nm : Str) (l : List Int) (m : Loc) (S : Led) (D k : Nat) (ys : List Value) : Prop where
  h1 : m.lookup nm = some (.ref D)
  mD : (D, listOf ys.toArray k) ∈ S
  i : IntsAre ys l
theorem cat_step {l : List Ex} {i : Nat} {z : Ex} {f : Ex → List Int} (h : l[i]? = some z) : ((l.take (i + 1)).map f).flatten = ((l.take i).map f).flatten ++ f z := by
  rw [List.take_add_one, h, Option.toList_some, List.map_append, List.flatten_append]; exact congrArg _ (List.append_nil _)
theorem cat_len {z : Int} {a b : Ex} (ha : a.dep ≤ 3) (hb : b.dep ≤ 3) (i : Nat) : (((([a, b] : List Ex).take i).map (bits z)).flatten).length ≤ 48 := by
  match i with
  | 0 => exact Nat.zero_le _
  | 1 =>
    show (bits z a ++ []).length ≤ 48
    rw [List.append_nil]; exact Nat.le_trans (bits_small z ha) (by decide)
  | n + 2 =>
    rw [List.take_of_length_le (show ([a, b] : List Ex).length ≤ n + 2 from Nat.le_add_left 2 n)]
    show (bits z a ++ (bits z b ++ [])).length ≤ 48
    rw [List.append_nil, List.length_append]; exact Nat.add_le_add (bits_small z ha) (bits_small z hb)
theorem cat_done (z : Int) (x y : Ex) : (((([y, x] : List Ex).take 2).map (bits z)).flatten) = bits z (.cat x y) := congrArg (bits z y ++ ·) (List.append_nil (bits z x))
set_option maxRecDepth 100000 in
theorem bitcodes_tell {w : World} (x : Ex) : x.dep ≤ 3 → x.ok → BitC w x := by
  induction x with
  | const a b =>
    intro _ _ h q hE
    refine tell_def [(Str.ofString "e", .ref q)] (by rfl) (by rfl) (fun g X s k => BindsTo.of_eq rfl) (by rfl) (by rfl) (by rfl) rfl rfl rfl fun g hg => ?_
    have hE := hE.keep (gnil hg)
    obtain ⟨t1, t2, t3, t4, hq⟩ := id hE
    have hq : GT g q _ := hq
    refine Go.assign (Pu.is (Pu.el (Pu.var rfl rfl) hq .int rfl rfl rfl) ?_)
    refine Go.isT (Pu.var rfl ⟨_, rfl⟩) .str (by decide) (Go.ret (Ev.callK (Pu.glob rfl) (by rfl) (Evs.vl (Pu.var rfl rfl) (Evs.nil (Op.codes (fun h e => constcodes_tell e) hE (fun D n ys S2 hD hy _ _ h' _ _ => ⟨D, n, ys, rfl, hD, hy⟩) (Nat.le_refl _) (Nat.le_refl _))))))
  | sig =>
    intro _ _ h q hE
    refine tell_def [(Str.ofString "e", .ref q)] (by rfl) (by rfl) (fun g X s k => BindsTo.of_eq rfl) (by rfl) (by rfl) (by rfl) rfl rfl rfl fun g hg => ?_
    obtain ⟨t1, t2, t3, hq⟩ := hE.keep (gnil hg)
    have hq : GT g q _ := hq
    refine Go.assign (Pu.is (Pu.el (Pu.var rfl rfl) hq .int rfl rfl rfl) ?_)
    refine Go.isF (Pu.var rfl ⟨_, rfl⟩) .str (by decide) (Go.isF (Pu.var rfl ⟨_, rfl⟩) .str (by decide) (Go.isF (Pu.var rfl ⟨_, rfl⟩) .str (by decide) (Go.isF (Pu.var rfl ⟨_, rfl⟩) .str (by decide) ?_)))
    exact Go.ret (Ev.bin (Ev.list (Evs.vl (Pu.glob (v := Value.int 4 _) rfl) (Evs.nil (Op.list fun D0 _ => Pu.i (Pu.el (Pu.var rfl rfl) hq .int rfl rfl ⟨t2, rfl⟩) fun t6 => Op.mulL .head (.cons _ _ .nil) (by decide) (by decide) (Nat.le_of_ble_eq_true rfl) fun D us _ hu h' _ _ => ⟨D, 0, us, rfl, .head _, hu⟩)))))
  | cond x y _ _ =>
    intro _ _ h q hE
    refine tell_def [(Str.ofString "e", .ref q)] (by rfl) (by rfl) (fun g X s k => BindsTo.of_eq rfl) (by rfl) (by rfl) (by rfl) rfl rfl rfl fun g hg => ?_
    obtain ⟨t1, t2, q0, q1, q2, hq, _, _⟩ := hE.keep (gnil hg)
    have hq : GT g q _ := hq
    refine Go.assign (Pu.is (Pu.el (Pu.var rfl rfl) hq .int rfl rfl rfl) ?_)
    refine Go.isF (Pu.var rfl ⟨_, rfl⟩) .str (by decide) (Go.isF (Pu.var rfl ⟨_, rfl⟩) .str (by decide) (Go.isF (Pu.var rfl ⟨_, rfl⟩) .str (by decide) (Go.isF (Pu.var rfl ⟨_, rfl⟩) .str (by decide) ?_)))
    exact Go.ret (Ev.bin (Ev.list (Evs.vl (Pu.glob (v := Value.int 4 _) rfl) (Evs.nil (Op.list fun D0 _ => Pu.i (Pu.el (Pu.var rfl rfl) hq .int rfl rfl ⟨t2, rfl⟩) fun t6 => Op.mulL .head (.cons _ _ .nil) (by decide) (by decide) (Nat.le_of_ble_eq_true rfl) fun D us _ hu h' _ _ => ⟨D, 0, us, rfl, .head _, hu⟩)))))
  | slice x lo ih =>
    intro hdep hok h q hE
    have hdx : x.dep ≤ 3 := Nat.le_of_succ_le hdep
    refine tell_def [(Str.ofString "e", .ref q)] (by rfl) (by rfl) (fun g X s k => BindsTo.of_eq rfl) (by rfl) (by rfl) (by rfl) rfl rfl rfl fun g hg => ?_
    have hE := hE.keep (gnil hg)
    obtain ⟨t1, t2, q1, t3, hq, _⟩ := id hE
    have hq : GT g q _ := hq
    refine Go.assign (Pu.is (Pu.el (Pu.var rfl rfl) hq .int rfl rfl rfl) ?_)
    refine Go.isF (Pu.var rfl ⟨_, rfl⟩) .str (by decide) (Go.isF (Pu.var rfl ⟨_, rfl⟩) .str (by decide) (Go.isF (Pu.var rfl ⟨_, rfl⟩) .str (by decide) (Go.isT (Pu.var rfl ⟨_, rfl⟩) .str (by decide) ?_)))
    exact Go.ret (Ev.callK (Pu.glob rfl) (by rfl) (Evs.vl (Pu.var rfl rfl) (Evs.nil (Op.codes (fun h e => slicecodes_tell (ih hdx hok.1) e hdx hok.2.1 hok.2.2) hE (fun D n ys S2 hD hy _ _ h' _ _ => ⟨D, n, ys, rfl, hD, hy⟩) (Nat.le_refl _) (Nat.le_refl _)))))
  | ext x sg ih =>
    intro hdep hok h q hE
    have hdx : x.dep ≤ 3 := Nat.le_of_succ_le hdep
    refine tell_def [(Str.ofString "e", .ref q)] (by rfl) (by rfl) (fun g X s k => BindsTo.of_eq rfl) (by rfl) (by rfl) (by rfl) rfl rfl rfl fun g hg => ?_
    obtain ⟨t1, t2, q1, hq, hx⟩ := hE.keep (gnil hg)
    have hq : GT g q _ := hq
    have hbl : (bits 4 x).length ≤ 100000 := Nat.le_trans (bits_small 4 hdx) (by decide)
    refine Go.assign (Pu.is (Pu.el (Pu.var rfl rfl) hq .int rfl rfl rfl) ?_)
    refine Go.isF (Pu.var rfl ⟨_, rfl⟩) .str (by decide) (Go.isF (Pu.var rfl ⟨_, rfl⟩) .str (by decide) (Go.isT (Pu.var rfl ⟨_, rfl⟩) .str (by decide) ?_))
    refine Go.assign (Ev.callK (Pu.glob rfl) (by rfl) (Evs.vl (Pu.el (Pu.var rfl rfl) hq .int rfl rfl rfl) (Evs.nil (Op.codes (fun h e => ih hdx hok h q1 e) hx (fun D0 k0 ws S2 m0 hw _ _ => ?_) (Nat.le_succ _) (Nat.le_add_right _ _)))))
    refine Go.assign (Pu.ev (p := IsI (fillOf (bits 4 x) sg)) (Ev.ifP (c := sg) (Tp.plain (Pu.el (Pu.var rfl rfl) hq .int rfl rfl rfl)) (fun e => ?_) fun e => ?_) ?_)
    · subst e
      refine Ev.sub (Pu.is (Pu.var rfl rfl) (Pu.i (Pu.neg (z := 1) .int) fun t5 => Tr.mono (Op.itemNeg (.inl ⟨k0, m0⟩) hw (by decide) (bits_neg 4 x) hbl) ?_))
      rintro r S' ⟨e, h⟩
      rw [fill_t] at h
      exact ⟨e, h⟩
    · subst e
      exact Pu.int
    · rintro _ ⟨tf, rfl⟩
      refine Go.ret (Ev.callK (Pu.glob rfl) (by rfl) (Evs.vl (Pu.var rfl rfl) (Evs.vl (Pu.el (Pu.var rfl rfl) hq .int rfl rfl rfl) (Evs.vl (Pu.var rfl rfl) (Evs.nil (Op.tell0 (fun h _ hs => fit_tell (list_here hs m0) hw hbl) (fun r S' h' _ P h'' _ _ => ?_) (Nat.succ_le_succ (Nat.zero_le _)) (Nat.le_add_left _ _)))))))
      obtain ⟨D, k, ys, rfl, hD, hy⟩ := P
      exact ⟨D, k, ys, rfl, List.mem_append_left _ hD, hy⟩
  | cat x y ihx ihy =>
    intro hdep hok h q hE
    have hdx : x.dep ≤ 3 := Nat.le_trans (Nat.le_max_left _ _) (Nat.le_of_succ_le hdep)
    have hdy : y.dep ≤ 3 := Nat.le_trans (Nat.le_max_right _ _) (Nat.le_of_succ_le hdep)
    refine tell_def [(Str.ofString "e", .ref q)] (by rfl) (by rfl) (fun g X s k => BindsTo.of_eq rfl) (by rfl) (by rfl) (by rfl) rfl rfl rfl fun g hg => ?_
    obtain ⟨t1, t2, qt, q1, q2, hq, hqt, hx, hy⟩ := hE.keep (gnil hg)
    have hq : GT g q _ := hq
    refine Go.assign (Pu.is (Pu.el (Pu.var rfl rfl) hq .int rfl rfl rfl) ?_)
    refine Go.isF (Pu.var rfl ⟨_, rfl⟩) .str (by decide) (Go.isT (Pu.var rfl ⟨_, rfl⟩) .str (by decide) ?_)
    refine Go.assign (Ev.list (Evs.nil (Op.list fun D lD => ?_)))
    refine Go.forRev (fun i m1 S1 => ∃ D k ys, CatJ (Str.ofString "codes") (((([y, x] : List Ex).take i).map (bits 4)).flatten) m1 S1 D k ys) (Pu.blt rfl (by boot_by_name) (by decide)) (Pu.el (Pu.var rfl rfl) hq .int rfl rfl rfl) hqt (Nat.le_of_ble_eq_true rfl) ⟨D, 0, [], rfl, .head _, .nil⟩ ?_ ?_
    · rintro i u m1 S1 hi hu ⟨D, k, ys, h1, mD, hys⟩
      have part : ∃ (z : Ex) (q' : Addr), ([y, x] : List Ex)[i]? = some z ∧ u = .ref q' ∧ ExAt g z q' ∧ z.dep ≤ 3 ∧ BitC w z ∧ 2 * z.dep + 1 + 1 ≤ 2 * (max x.dep y.dep + 1) + 1 ∧ 6 * z.dep + 3 + 3 ≤ 6 * (max x.dep y.dep + 1) + 3 := by
        match i, hi, hu with
        | 0, _, hu => cases hu; exact ⟨y, q2, rfl, rfl, hy, hdy, ihy hdy hok.2, dep_r, un_r⟩
        | 1, _, hu => cases hu; exact ⟨x, q1, rfl, rfl, hx, hdx, ihx hdx hok.1, dep_l, un_l⟩
      obtain ⟨z, q', ez, rfl, hz, hdz, hb, hd, hu2⟩ := part
      refine Go.assign (Ev.bin (Pu.is (Pu.var h1 rfl) (Ev.callK (Pu.glob rfl) (by rfl) (Evs.vl (Pu.var rfl rfl) (Evs.nil (Op.codes (fun h e => hb h q' e) hz (fun D2 k2 ws S2 m2 hw kp _ => ?_) hd hu2))))))
      refine Op.addL (.inl ⟨k, kp _ mD⟩) (.inl ⟨k2, m2⟩) hys hw ?_ fun D3 us _ hus => Go.nil ⟨D3, 0, us, rfl, .head _, ?_⟩
      · exact Nat.le_trans (Nat.add_le_add (cat_len hdy hdx i) (bits_small 4 hdz)) (by decide)
      · rw [cat_step ez]; exact hus
    · rintro m1 S1 ⟨D, k, ys, h1, mD, hys⟩
      exact Go.ret (Pu.is (Pu.var h1 rfl) fun h' _ _ => ⟨D, k, ys, rfl, mD, cat_done 4 x y ▸ hys⟩)
theorem gtup {g : Heap} {q : Addr} {vs : List Value} (h : GT g q vs) : IsTup g q vs.toArray := ⟨_, h, rfl, 0, rfl⟩
theorem any_step {l : List Ex} {i : Nat} {z : Ex} {f : Ex → Bool} (h : l[i]? = some z) (h0 : (l.take i).any f = false) : (l.take (i + 1)).any f = f z := by
  rw [List.take_add_one, h, Option.toList_some, List.any_append, h0, Bool.false_or]; exact Bool.or_false _
def CanC (w : World) (x : Ex) : Prop := ∀ (h : Heap) (q : Addr), ExAt h x q → Tell w 243 [.ref q] (2 * x.dep + 1 + 1) (6 * x.dep + 3 + 3) [] h fun r _ _ => r = .bool (fl 4 x)
/-- the parts of a joining, in their order -/
theorem parts2 {g : Heap} {x y : Ex} {q1 q2 : Addr} {i : Nat} {u : Value} {P : Ex → Prop} (hi : i < 2) (hu : ([Value.ref q1, .ref q2] : List Value)[i]? = some u) (hx : ExAt g x q1) (hy : ExAt g y q2) (px : P x) (py : P y) : ∃ (z : Ex) (q' : Addr), ([x, y] : List Ex)[i]? = some z ∧ u = .ref q' ∧ ExAt g z q' ∧ P z := by
  match i, hi, hu with
  | 0, _, hu => cases hu; exact ⟨x, q1, rfl, rfl, hx, px⟩
  | 1, _, hu => cases hu; exact ⟨y, q2, rfl, rfl, hy, py⟩
theorem fl_cat {z : Int} {x y : Ex} : (([x, y] : List Ex).take 2).any (fl z) = fl z (.cat x y) := by
  show (fl z x || (fl z y || false)) = (fl z x || fl z y)
  rw [Bool.or_false]
theorem any_more {l : List Ex} {n : Nat} {f : Ex → Bool} (h : (l.take n).any f = true) : l.any f = true := by
  obtain ⟨a, ha, e⟩ := List.any_eq_true.mp h
  exact List.any_eq_true.mpr ⟨a, List.mem_of_mem_take ha, e⟩
set_option maxRecDepth 100000 in
theorem canfloat_tell {w : World} (x : Ex) : x.dep ≤ 3 → x.ok → CanC w x := by
  induction x with
  | const a b =>
    intro hdep hok h q hE
    refine tell_def [(Str.ofString "e", .ref q)] (by rfl) (by rfl) (fun g X s k => BindsTo.of_eq rfl) (by rfl) (by rfl) (by rfl) rfl rfl rfl fun g hg => ?_
    obtain ⟨t1, t2, t3, t4, hq⟩ := hE.keep (gnil hg)
    have hq : GT g q _ := hq
    refine Go.assign (Pu.is (Pu.el (Pu.var rfl rfl) hq .int rfl rfl rfl) ?_)
    refine Go.isF (Pu.var rfl ⟨_, rfl⟩) .str (by decide) (Go.isF (Pu.var rfl ⟨_, rfl⟩) .str (by decide) ?_)
    refine Go.ifE (Tt.te (Tt.orP (Tp.cmp (Pu.var rfl ⟨_, rfl⟩) .str Cm.eqS) (fun e => absurd e (by decide)) fun _ => Tt.orP (Tp.cmp (Pu.var rfl ⟨_, rfl⟩) .str Cm.eqS) (fun e => absurd e (by decide)) fun _ => Tt.or_nil ?_))
    exact Go.ret (Pu.is .bool fun h' _ _ => rfl)
  | sig =>
    intro hdep hok h q hE
    refine tell_def [(Str.ofString "e", .ref q)] (by rfl) (by rfl) (fun g X s k => BindsTo.of_eq rfl) (by rfl) (by rfl) (by rfl) rfl rfl rfl fun g hg => ?_
    obtain ⟨t1, t2, t3, hq⟩ := hE.keep (gnil hg)
    have hq : GT g q _ := hq
    refine Go.assign (Pu.is (Pu.el (Pu.var rfl rfl) hq .int rfl rfl rfl) ?_)
    refine Go.isF (Pu.var rfl ⟨_, rfl⟩) .str (by decide) (Go.isF (Pu.var rfl ⟨_, rfl⟩) .str (by decide) ?_)
    refine Go.ifE (Tt.te (Tt.orP (Tp.cmp (Pu.var rfl ⟨_, rfl⟩) .str Cm.eqS) (fun e => absurd e (by decide)) fun _ => Tt.orP (Tp.cmp (Pu.var rfl ⟨_, rfl⟩) .str Cm.eqS) (fun e => absurd e (by decide)) fun _ => Tt.or_nil ?_))
    exact Go.ret (Pu.is .bool fun h' _ _ => rfl)
  | cond x y ihx ihy =>
    intro hdep hok h q hE
    have hdx : x.dep ≤ 3 := Nat.le_trans (Nat.le_max_left _ _) (Nat.le_of_succ_le hdep)
    have hdy : y.dep ≤ 3 := Nat.le_trans (Nat.le_max_right _ _) (Nat.le_of_succ_le hdep)
    refine tell_def [(Str.ofString "e", .ref q)] (by rfl) (by rfl) (fun g X s k => BindsTo.of_eq rfl) (by rfl) (by rfl) (by rfl) rfl rfl rfl fun g hg => ?_
    obtain ⟨t1, t2, q0, q1, q2, hq, hx, hy⟩ := hE.keep (gnil hg)
    have hq : GT g q _ := hq
    refine Go.assign (Pu.is (Pu.el (Pu.var rfl rfl) hq .int rfl rfl rfl) ?_)
    refine Go.isT (Pu.var rfl ⟨_, rfl⟩) .str (by decide) ?_
    refine Go.ret (Ev.or (Ev.cmp (Pu.i .int fun t5 => Ev.callK (Pu.glob rfl) (by rfl) (Evs.vl (Pu.el (Pu.var rfl rfl) hq .int rfl rfl rfl) (Evs.nil (Op.codes (fun h e => bitcodes_tell x hdx hok.1 h q1 e) hx (fun D n ys S2 mD hys _ _ => Op.eqs (Op.inInts (.inl ⟨n, mD⟩) hys) ?_) dep_l un_l))))))
    rintro _ rfl
    refine ⟨_, rfl, ite2 (fun e1 h' _ _ => by simp only [fl, e1, Bool.true_or]) fun e1 => ?_⟩
    refine Ev.or (Ev.cmp (Pu.i .int fun t5 => Ev.callK (Pu.glob rfl) (by rfl) (Evs.vl (Pu.el (Pu.var rfl rfl) hq .int rfl rfl rfl) (Evs.nil (Op.codes (fun h e => bitcodes_tell y hdy hok.2 h q2 e) hy (fun D n ys S2 mD hys _ _ => Op.eqs (Op.inInts (.inl ⟨n, mD⟩) hys) ?_) dep_r un_r)))))
    rintro _ rfl
    refine ⟨_, rfl, ite2 (fun e2 h' _ _ => by simp only [fl, e1, e2, Bool.true_or, Bool.false_or]) fun e2 => ?_⟩
    refine Ev.or (Ev.callK (Pu.glob rfl) (by rfl) (Evs.vl (Pu.el (Pu.var rfl rfl) hq .int rfl rfl rfl) (Evs.nil (Op.tell0 (fun h k _ => ihx hdx hok.1 h q1 (ExAt.keep hx k)) (fun r S' _ _ e => ⟨_, e, ite2 (fun e3 h' _ _ => by simp only [e, fl, e1, e2, e3, Bool.true_or, Bool.false_or]) fun e3 => ?_⟩) dep_l un_l))))
    refine Ev.one (Ev.callK (Pu.glob rfl) (by rfl) (Evs.vl (Pu.el (Pu.var rfl rfl) hq .int rfl rfl rfl) (Evs.nil (Op.tell0 (fun h k _ => ihy hdy hok.2 h q2 (ExAt.keep hy k)) (fun r S' _ _ e h' _ _ => by simp only [e, fl, e1, e2, e3, Bool.false_or]) dep_r un_r))))
  | slice x lo ih =>
    intro hdep hok h q hE
    have hdx : x.dep ≤ 3 := Nat.le_of_succ_le hdep
    refine tell_def [(Str.ofString "e", .ref q)] (by rfl) (by rfl) (fun g X s k => BindsTo.of_eq rfl) (by rfl) (by rfl) (by rfl) rfl rfl rfl fun g hg => ?_
    obtain ⟨t1, t2, q1, t3, hq, hx⟩ := hE.keep (gnil hg)
    have hq : GT g q _ := hq
    refine Go.assign (Pu.is (Pu.el (Pu.var rfl rfl) hq .int rfl rfl rfl) ?_)
    refine Go.isF (Pu.var rfl ⟨_, rfl⟩) .str (by decide) (Go.isF (Pu.var rfl ⟨_, rfl⟩) .str (by decide) ?_)
    refine Go.ifE (Tt.te (Tt.orP (Tp.cmp (Pu.var rfl ⟨_, rfl⟩) .str Cm.eqS) (fun e => absurd e (by decide)) fun _ => Tt.orP (Tp.cmp (Pu.var rfl ⟨_, rfl⟩) .str Cm.eqS) (fun _ => ?_) fun e => absurd e (by decide)))
    exact Go.ret (Ev.callK (Pu.glob rfl) (by rfl) (Evs.vl (Pu.el (Pu.var rfl rfl) hq .int rfl rfl rfl) (Evs.nil (Op.tell0 (fun h k _ => ih hdx hok.1 h q1 (ExAt.keep hx k)) (fun r S' _ _ e h' _ _ => e) (Nat.le_succ _) (Nat.le_add_right _ _)))))
  | ext x sg ih =>
    intro hdep hok h q hE
    have hdx : x.dep ≤ 3 := Nat.le_of_succ_le hdep
    refine tell_def [(Str.ofString "e", .ref q)] (by rfl) (by rfl) (fun g X s k => BindsTo.of_eq rfl) (by rfl) (by rfl) (by rfl) rfl rfl rfl fun g hg => ?_
    obtain ⟨t1, t2, q1, hq, hx⟩ := hE.keep (gnil hg)
    have hq : GT g q _ := hq
    refine Go.assign (Pu.is (Pu.el (Pu.var rfl rfl) hq .int rfl rfl rfl) ?_)
    refine Go.isF (Pu.var rfl ⟨_, rfl⟩) .str (by decide) (Go.isF (Pu.var rfl ⟨_, rfl⟩) .str (by decide) ?_)
    refine Go.ifE (Tt.te (Tt.orP (Tp.cmp (Pu.var rfl ⟨_, rfl⟩) .str Cm.eqS) (fun _ => ?_) fun e => absurd e (by decide)))
    exact Go.ret (Ev.callK (Pu.glob rfl) (by rfl) (Evs.vl (Pu.el (Pu.var rfl rfl) hq .int rfl rfl rfl) (Evs.nil (Op.tell0 (fun h k _ => ih hdx hok h q1 (ExAt.keep hx k)) (fun r S' _ _ e h' _ _ => e) (Nat.le_succ _) (Nat.le_add_right _ _)))))
  | cat x y ihx ihy =>
    intro hdep hok h q hE
    have hdx : x.dep ≤ 3 := Nat.le_trans (Nat.le_max_left _ _) (Nat.le_of_succ_le hdep)
    have hdy : y.dep ≤ 3 := Nat.le_trans (Nat.le_max_right _ _) (Nat.le_of_succ_le hdep)
    refine tell_def [(Str.ofString "e", .ref q)] (by rfl) (by rfl) (fun g X s k => BindsTo.of_eq rfl) (by rfl) (by rfl) (by rfl) rfl rfl rfl fun g hg => ?_
    obtain ⟨t1, t2, qt, q1, q2, hq, hqt, hx, hy⟩ := hE.keep (gnil hg)
    have hq : GT g q _ := hq
    refine Go.assign (Pu.is (Pu.el (Pu.var rfl rfl) hq .int rfl rfl rfl) ?_)
    refine Go.isF (Pu.var rfl ⟨_, rfl⟩) .str (by decide) (Go.isT (Pu.var rfl ⟨_, rfl⟩) .str (by decide) ?_)
    refine Go.forS (Pu.is (Pu.el (Pu.var rfl rfl) hq .int rfl rfl rfl) ⟨_, _, _, fun i m1 S1 => (([x, y] : List Ex).take i).any (fl 4) = false, itr_tupB (gtup hqt), rfl, nofx, ?_, ?_⟩)
    · rintro i u m1 S1 hi hu h0
      obtain ⟨z, q', ez, rfl, hz, hb, hd, hu2⟩ := parts2 (P := fun z => CanC w z ∧ 2 * z.dep + 1 + 1 ≤ 2 * (max x.dep y.dep + 1) + 1 ∧ 6 * z.dep + 3 + 3 ≤ 6 * (max x.dep y.dep + 1) + 3) hi hu hx hy ⟨ihx hdx hok.1, dep_l, un_l⟩ ⟨ihy hdy hok.2, dep_r, un_r⟩
      refine Go.ifE (Te.plain (Ev.callK (Pu.glob rfl) (by rfl) (Evs.vl (Pu.var rfl rfl) (Evs.nil (Op.tell0 (fun h k _ => hb h q' (hz.keep k)) (fun r S' _ _ e => ⟨_, e, ite2 (fun e1 => ?_) fun e1 => ?_⟩) hd hu2)))))
      · refine Go.ret (Pu.is .bool fun h' _ _ => ?_)
        rw [← fl_cat, any_more (l := ([x, y] : List Ex).take 2) (n := i + 1) ((any_step ez h0).trans e1)]
      · exact Go.nil ((any_step ez h0).trans e1)
    · rintro m1 S1 h0
      exact Go.ret (Pu.is .bool fun h' _ _ => congrArg Value.bool (h0.symm.trans fl_cat))
theorem pow_small {i : Nat} (h : i < 2) : ((2 : Int) ^ (0 + (i : Int) * 1).toNat).natAbs < 1073741824 := by
  match i, h with
  | 0, _ => decide
  | 1, _ => decide
theorem place_le {i : Nat} (h : i < 2) : 0 + (i : Int) * 1 ≤ 1000000 := by
  match i, h with
  | 0, _ => decide
  | 1, _ => decide
theorem pow_ne (n : Nat) : (2 : Int) ^ n ≠ 0 := Int.ne_of_gt (Int.pow_pos (by decide))
theorem cbit_eq2 (a b : Int) (i : Nat) : Int.fmod (a.fdiv (2 ^ (0 + (i : Int) * 1).toNat)) 2 + 2 * Int.fmod (b.fdiv (2 ^ (0 + (i : Int) * 1).toNat)) 2 = cbit a b i := by
  rw [← cbit_eq, bitAnd_m1, bitAnd_m1, Int.fmod_eq_emod_of_nonneg _ (by decide), Int.fmod_eq_emod_of_nonneg _ (by decide)]
abbrev cacc (z : Int) (l : List Ex) : List Int := l.foldl (fun l x => bits z x ++ l) []
theorem cacc_step {l : List Ex} {i : Nat} {x : Ex} {z : Int} (h : l[i]? = some x) : cacc z (l.take (i + 1)) = bits z x ++ cacc z (l.take i) := by
  unfold cacc; rw [List.take_add_one, h, Option.toList_some, List.foldl_append]; rfl
theorem cacc_done (z : Int) (x y : Ex) : cacc z (([x, y] : List Ex).take 2) = bits z (.cat x y) := congrArg (bits z y ++ ·) (List.append_nil (bits z x))
theorem ext_eq (l : List Int) (f : Int) : (l ++ (List.replicate (3 : Int).toNat [f]).flatten).take (3 : Int).toNat = fitw l 3 f := by
  unfold fitw
  show (l ++ [f, f, f]).take 3 = _
  match l with
  | [] => rfl
  | [a] => rfl
  | [a, b] => rfl
  | a :: b :: c :: r => rw [show 3 - (a :: b :: c :: r).length = 0 from Nat.sub_eq_zero_of_le (Nat.le_add_left 3 _)]; rfl
def LawCC (w : World) (x : Ex) : Prop := ∀ (h : Heap) (q : Addr), ExAt h x q → Tell w 274 [.ref q] (x.dep + 1) (3 * x.dep + 3) [] h fun r S' _ => CodeP 9 x r S'
theorem ldep_l {x y : Ex} : x.dep + 1 ≤ max x.dep y.dep + 1 := Nat.succ_le_succ (Nat.le_max_left _ _)
theorem ldep_r {x y : Ex} : y.dep + 1 ≤ max x.dep y.dep + 1 := Nat.succ_le_succ (Nat.le_max_right _ _)
theorem lun_l {x y : Ex} : 3 * x.dep + 3 ≤ 3 * (max x.dep y.dep + 1) := Nat.mul_le_mul_left 3 ldep_l
theorem lun_r {x y : Ex} : 3 * y.dep + 3 ≤ 3 * (max x.dep y.dep + 1) := Nat.mul_le_mul_left 3 ldep_r
set_option maxRecDepth 100000 in
theorem lawcodes_tell {w : World} (x : Ex) : x.dep ≤ 3 → x.ok → LawCC w x := by
  induction x with
  | const a b =>
    intro hdep hok h q hE
    refine tell_def [(Str.ofString "e", .ref q)] (by rfl) (by rfl) (fun g X s k => BindsTo.of_eq rfl) (by rfl) (by rfl) (by rfl) rfl rfl rfl fun g hg => ?_
    obtain ⟨t1, t2, t3, t4, hq⟩ := hE.keep (gnil hg)
    have hq : GT g q _ := hq
    refine Go.isT (Pu.el (Pu.var rfl rfl) hq .int rfl rfl ⟨_, rfl⟩) .str (by decide) ?_
    refine Go.ret (Ev.comp (Ev.callT (Pu.blt rfl (by boot_by_name) (by decide)) (Evs.vl (Pu.el (Pu.var rfl rfl) hq .int rfl rfl rfl) (Evs.nil (Op.range1 fun r9 t5 t6 t7 _ => ⟨2, _, _, fun i ys S1 => IntsAre ys ((List.range i).map (cbit a b)), itr_range (.head _) (by decide) (by decide), by decide, .nil, nofx2, ?_, ?_⟩)))))
    · rintro i u ys S2 hi ⟨_, tu, rfl⟩ hy
      refine Pu.i (Pu.add (Pu.mod (Pu.fdiv (Pu.el (Pu.var rfl rfl) hq .int rfl rfl ⟨t3, rfl⟩) (Pu.pow .int (Pu.var rfl ⟨_, rfl⟩) (place_nn i) (place_le hi) (by decide)) (pow_ne _) (PyProof.noPylong_small (pow_small hi))) .int (by decide))
        (Pu.mul .int (Pu.mod (Pu.fdiv (Pu.el (Pu.var rfl rfl) hq .int rfl rfl ⟨t4, rfl⟩) (Pu.pow .int (Pu.var rfl ⟨_, rfl⟩) (place_nn i) (place_le hi) (by decide)) (pow_ne _) (PyProof.noPylong_small (pow_small hi))) .int (by decide)) (IntMulOk.of_left (by decide)))) fun t8 => ?_
      rw [cbit_eq2, ← range_snoc]
      exact ints_snocZ hy _ _
    · rintro D k ys S2 hy _ _ _ h' _ _
      exact ⟨D, k, ys, rfl, .head _, hy⟩
  | sig =>
    intro hdep hok h q hE
    refine tell_def [(Str.ofString "e", .ref q)] (by rfl) (by rfl) (fun g X s k => BindsTo.of_eq rfl) (by rfl) (by rfl) (by rfl) rfl rfl rfl fun g hg => ?_
    obtain ⟨t1, t2, t3, hq⟩ := hE.keep (gnil hg)
    have hq : GT g q _ := hq
    refine Go.isF (Pu.el (Pu.var rfl rfl) hq .int rfl rfl ⟨_, rfl⟩) .str (by decide) (Go.isF (Pu.el (Pu.var rfl rfl) hq .int rfl rfl ⟨_, rfl⟩) .str (by decide) (Go.isF (Pu.el (Pu.var rfl rfl) hq .int rfl rfl ⟨_, rfl⟩) .str (by decide) (Go.isF (Pu.el (Pu.var rfl rfl) hq .int rfl rfl ⟨_, rfl⟩) .str (by decide) ?_)))
    exact Go.ret (Ev.bin (Ev.list (Evs.it .int fun t5 => Evs.nil (Op.list fun D0 _ => Pu.i (Pu.el (Pu.var rfl rfl) hq .int rfl rfl ⟨t2, rfl⟩) fun t6 => Op.mulL .head (.cons _ _ .nil) (by decide) (by decide) (Nat.le_of_ble_eq_true rfl) fun D us _ hu h' _ _ => ⟨D, 0, us, rfl, .head _, hu⟩))))
  | cond x y _ _ =>
    intro hdep hok h q hE
    refine tell_def [(Str.ofString "e", .ref q)] (by rfl) (by rfl) (fun g X s k => BindsTo.of_eq rfl) (by rfl) (by rfl) (by rfl) rfl rfl rfl fun g hg => ?_
    obtain ⟨t1, t2, q0, q1, q2, hq, _, _⟩ := hE.keep (gnil hg)
    have hq : GT g q _ := hq
    refine Go.isF (Pu.el (Pu.var rfl rfl) hq .int rfl rfl ⟨_, rfl⟩) .str (by decide) (Go.isF (Pu.el (Pu.var rfl rfl) hq .int rfl rfl ⟨_, rfl⟩) .str (by decide) (Go.isF (Pu.el (Pu.var rfl rfl) hq .int rfl rfl ⟨_, rfl⟩) .str (by decide) (Go.isF (Pu.el (Pu.var rfl rfl) hq .int rfl rfl ⟨_, rfl⟩) .str (by decide) ?_)))
    exact Go.ret (Ev.bin (Ev.list (Evs.it .int fun t5 => Evs.nil (Op.list fun D0 _ => Pu.i (Pu.el (Pu.var rfl rfl) hq .int rfl rfl ⟨t2, rfl⟩) fun t6 => Op.mulL .head (.cons _ _ .nil) (by decide) (by decide) (Nat.le_of_ble_eq_true rfl) fun D us _ hu h' _ _ => ⟨D, 0, us, rfl, .head _, hu⟩))))
  | cat x y ihx ihy =>
    intro hdep hok h q hE
    have hdx : x.dep ≤ 3 := Nat.le_trans (Nat.le_max_left _ _) (Nat.le_of_succ_le hdep)
    have hdy : y.dep ≤ 3 := Nat.le_trans (Nat.le_max_right _ _) (Nat.le_of_succ_le hdep)
    refine tell_def [(Str.ofString "e", .ref q)] (by rfl) (by rfl) (fun g X s k => BindsTo.of_eq rfl) (by rfl) (by rfl) (by rfl) rfl rfl rfl fun g hg => ?_
    obtain ⟨t1, t2, qt, q1, q2, hq, hqt, hx, hy⟩ := hE.keep (gnil hg)
    have hq : GT g q _ := hq
    refine Go.isF (Pu.el (Pu.var rfl rfl) hq .int rfl rfl ⟨_, rfl⟩) .str (by decide) (Go.isT (Pu.el (Pu.var rfl rfl) hq .int rfl rfl ⟨_, rfl⟩) .str (by decide) ?_)
    refine Go.assign (Ev.list (Evs.nil (Op.list fun D lD => ?_)))
    refine Go.forS (Pu.is (Pu.el (Pu.var rfl rfl) hq .int rfl rfl rfl) ⟨_, _, _, fun i m1 S1 => ∃ D k ys, CatJ (Str.ofString "found") (cacc 9 (([x, y] : List Ex).take i)) m1 S1 D k ys ∧ (cacc 9 (([x, y] : List Ex).take i)).length ≤ 24 * i, itr_tupB (gtup hqt), ⟨D, 0, [], ⟨rfl, .head _, .nil⟩, Nat.le_refl _⟩, nofx, ?_, ?_⟩)
    · rintro i u m1 S1 hi hu ⟨D, k, ys, ⟨h1, mD, hys⟩, hlen⟩
      obtain ⟨z, q', ez, rfl, hz, hb, hdz, hd, hu2⟩ := parts2 (P := fun z => LawCC w z ∧ z.dep ≤ 3 ∧ z.dep + 1 ≤ max x.dep y.dep + 1 ∧ 3 * z.dep + 3 ≤ 3 * (max x.dep y.dep + 1)) hi hu hx hy ⟨ihx hdx hok.1, hdx, ldep_l, lun_l⟩ ⟨ihy hdy hok.2, hdy, ldep_r, lun_r⟩
      refine Go.assign (Ev.bin (Ev.callK (Pu.glob rfl) (by rfl) (Evs.vl (Pu.var rfl rfl) (Evs.nil (Op.codes (fun h e => hb h q' e) hz (fun D2 k2 ws S2 m2 hw kp _ => Pu.is (Pu.var h1 rfl) ?_) hd hu2)))))
      have hl2 := Nat.add_le_add (bits_small 9 hdz) hlen
      refine Op.addL (.inl ⟨k2, m2⟩) (.inl ⟨k, kp _ mD⟩) hw hys (Nat.le_trans hl2 (Nat.le_trans (Nat.add_le_add_left (Nat.mul_le_mul_left 24 (Nat.le_of_lt hi)) 24) (Nat.le_of_ble_eq_true rfl))) fun D3 us _ hus => Go.nil ⟨D3, 0, us, ⟨rfl, .head _, ?_⟩, ?_⟩
      · rw [cacc_step ez]; exact hus
      · rw [cacc_step ez, List.length_append, Nat.mul_succ, Nat.add_comm (24 * i)]; exact hl2
    · rintro m1 S1 ⟨D, k, ys, ⟨h1, mD, hys⟩, _⟩
      exact Go.ret (Pu.is (Pu.var h1 rfl) fun h' _ _ => ⟨D, k, ys, rfl, mD, cacc_done 9 x y ▸ hys⟩)
  | ext x sg ih =>
    intro hdep hok h q hE
    have hdx : x.dep ≤ 3 := Nat.le_of_succ_le hdep
    refine tell_def [(Str.ofString "e", .ref q)] (by rfl) (by rfl) (fun g X s k => BindsTo.of_eq rfl) (by rfl) (by rfl) (by rfl) rfl rfl rfl fun g hg => ?_
    obtain ⟨t1, t2, q1, hq, hx⟩ := hE.keep (gnil hg)
    have hq : GT g q _ := hq
    have hbl := bits_small 9 hdx
    refine Go.isF (Pu.el (Pu.var rfl rfl) hq .int rfl rfl ⟨_, rfl⟩) .str (by decide) (Go.isF (Pu.el (Pu.var rfl rfl) hq .int rfl rfl ⟨_, rfl⟩) .str (by decide) (Go.isT (Pu.el (Pu.var rfl rfl) hq .int rfl rfl ⟨_, rfl⟩) .str (by decide) ?_))
    refine Go.assign (Ev.callK (Pu.glob rfl) (by rfl) (Evs.vl (Pu.el (Pu.var rfl rfl) hq .int rfl rfl rfl) (Evs.nil (Op.codes (fun h e => ih hdx hok h q1 e) hx (fun D0 k0 ws S2 m0 hw _ _ => ?_) (Nat.le_refl _) (Nat.le_refl _)))))
    refine Go.ret (Ev.upto (base := .Name (Str.ofString "_") ⟨0, 0, 0, 0⟩) (Ev.bin (Pu.is (Pu.var rfl rfl) (Ev.bin (Ev.list (Evs.it (z := fillOf (bits 9 x) sg) (Ev.ifP (c := sg) (Tp.plain (Pu.el (Pu.var rfl rfl) hq .int rfl rfl rfl)) (fun e => ?_) fun e => ?_) fun tf => Evs.nil (Op.list fun D1 _ => Pu.i (Pu.el (Pu.var rfl rfl) hq .int rfl rfl ⟨t2, rfl⟩) fun t5 => Op.mulL .head (.cons _ _ .nil) (by decide) (by decide) (Nat.le_of_ble_eq_true rfl) fun D2 us _ hus => ?_)))))))
    · subst e
      refine Ev.sub (Pu.is (Pu.var rfl rfl) (Pu.i (Pu.neg (z := 1) .int) fun t5 => Tr.mono (Op.itemNeg (.inl ⟨k0, m0⟩) hw (by decide) (bits_neg 9 x) (Nat.le_trans hbl (by decide))) ?_))
      rintro r S' ⟨e, h⟩
      rw [fill_t] at h
      exact ⟨e, h⟩
    · subst e
      exact Pu.int
    · refine Op.addL (.inl ⟨k0, .tail _ (.tail _ m0)⟩) .head hw hus (Nat.le_trans (Nat.add_le_add_right hbl 3) (by decide)) fun D3 us3 _ hu3 => ⟨D3, us3, _, 3, rfl, .head, hu3, ?_, by decide, Pu.el (Pu.var rfl rfl) hq .int rfl rfl ⟨t2, rfl⟩, fun D4 ws4 _ hw4 h' _ _ => ⟨D4, 0, ws4, rfl, .head _, ?_⟩⟩
      · rw [List.length_append]; exact Nat.le_trans (Nat.add_le_add_right hbl 3) (by decide)
      · rw [ext_eq] at hw4; exact hw4
  | slice x lo ih =>
    intro hdep hok h q hE
    have hdx : x.dep ≤ 3 := Nat.le_of_succ_le hdep
    refine tell_def [(Str.ofString "e", .ref q)] (by rfl) (by rfl) (fun g X s k => BindsTo.of_eq rfl) (by rfl) (by rfl) (by rfl) rfl rfl rfl fun g hg => ?_
    obtain ⟨t1, t2, q1, t3, hq, hx⟩ := hE.keep (gnil hg)
    have hq : GT g q _ := hq
    have hbl : (bits 9 x).length ≤ 100000 := Nat.le_trans (bits_small 9 hdx) (by decide)
    refine Go.isF (Pu.el (Pu.var rfl rfl) hq .int rfl rfl ⟨_, rfl⟩) .str (by decide) (Go.isF (Pu.el (Pu.var rfl rfl) hq .int rfl rfl ⟨_, rfl⟩) .str (by decide) (Go.isF (Pu.el (Pu.var rfl rfl) hq .int rfl rfl ⟨_, rfl⟩) .str (by decide) (Go.isT (Pu.el (Pu.var rfl rfl) hq .int rfl rfl ⟨_, rfl⟩) .str (by decide) ?_)))
    refine Go.assign (Ev.callK (Pu.glob rfl) (by rfl) (Evs.vl (Pu.el (Pu.var rfl rfl) hq .int rfl rfl rfl) (Evs.nil (Op.codes (fun h e => ih hdx hok.1 h q1 e) hx (fun D0 k0 ws S2 m0 hw _ _ => ?_) (Nat.le_refl _) (Nat.le_refl _)))))
    have hwl : ws.length = (bits 9 x).length := hw.length
    have rt := range_two hok.2.1 hok.2.2
    refine Go.ret (Ev.comp (Ev.callT (Pu.blt rfl (by boot_by_name) (by decide)) (Evs.it (Pu.el (Pu.var rfl rfl) hq .int rfl rfl ⟨t3, rfl⟩) fun t5 => Evs.it (Pu.add (Pu.el (Pu.var rfl rfl) hq .int rfl rfl ⟨t3, rfl⟩) (Pu.el (Pu.var rfl rfl) hq .int rfl rfl ⟨t2, rfl⟩)) fun t6 => Evs.nil (Op.range2 fun r9 t7 t8 t9 _ => ⟨2, _, _, fun i ys S1 => (D0, listOf ws.toArray k0) ∈ S1 ∧ IntsAre ys ((List.range i).map fun i : Nat => sbit (bits 9 x) (lo + (i : Int) * 1)), itr_range (.head _) rt.1 rt.2, by decide, ⟨.tail _ m0, .nil⟩, nofx2, ?_, ?_⟩))))
    · rintro i u ys S3 hi ⟨_, tu, rfl⟩ ⟨m0, hy⟩
      refine Ev.ifx (Te.chain .int (Pu.var rfl ⟨_, rfl⟩) (Ev.callB (Pu.blt rfl (by boot_by_name) (by decide)) (Evs.vl (Pu.var rfl rfl) (Evs.nil (Op.len (.inl ⟨k0, m0⟩) (hwl ▸ hbl))))) (ite2 (fun c => ?_) fun c => ?_))
      · rw [hwl] at c
        obtain ⟨p0, p1, e⟩ := sbit_in (l := bits 9 x) c
        refine Ev.sub (Pu.is (Pu.var rfl rfl) (Pu.i (Pu.var rfl ⟨_, rfl⟩) fun t10 => Op.eqs (Op.item (.inl ⟨k0, m0⟩) hw p0 p1 hbl) ?_))
        rintro _ ⟨t11, rfl⟩
        exact ⟨m0, by rw [← range_snoc, e]; exact ints_snocZ hy _ _⟩
      · rw [hwl] at c
        exact Pu.i .int fun t11 => ⟨m0, by rw [← range_snoc, ← sbit_out c]; exact ints_snocZ hy _ _⟩
    · rintro D k ys S3 ⟨_, hy⟩ _ _ _ h' _ _
      exact ⟨D, k, ys, rfl, .head _, slice_eq 9 x lo ▸ hy⟩
def isBool (b : Bool) : Value → Bool
  | .bool c => c == b
  | _ => false
theorem eqg_bool (a b : Bool) : MeetsSeq.EqGives (.bool a) (.bool b) (a == b) := fun prog w A E s Q h => by
  unfold eqBool
  show wpAny _ _ (if (Value.bool a == Value.bool b) = true then _ else _) Q E s
  by_cases hab : (Value.bool a == Value.bool b) = true
  · rw [if_pos hab]
    have e : a = b := by have := eq_of_beq hab; injection this
    subst e
    exact wpAny_bind (wpAny_rule (wpAny_pure (by simpa using h)))
  · rw [if_neg hab]
    exact wpAny_bind (eq_bool (wpAny_truthy_bool h))
theorem any_bools (zs : List Bool) : (zs.map Value.bool).any (isBool true) = zs.any fun b => b := by
  rw [List.any_map]
  exact congrArg (fun f => zs.any f) (funext fun b => by cases b <;> rfl)
theorem Op.inBools {C : Cx} {m : Loc} {S : Led} {l : Addr} {zs : List Bool} (hl : LsAt C.g S l (zs.map Value.bool)) : Op C m S (compareOp .In (.bool true) (.ref l)) fun r S' => S' = S ∧ r = .bool (zs.any fun b => b) := fun A env L Rel s F R =>
  F.same R fun L mm news f N hs back => SeqInW.in_listW (isBool true) (fun y hy => by
    obtain ⟨b, _, rfl⟩ := List.mem_map.mp (List.mem_toArray.mp hy)
    exact eqg_bool b true) (hl.at f N hs) ⟨_, _, S, rfl, R, rfl, by rw [List.any_toArray, any_bools]⟩
theorem fl_cond (z : Int) (x y : Ex) : fl z (.cond x y) = ((bits z x ++ bits z y).any (fun v => v == 2) || (fl z x || fl z y)) := by
  simp only [fl, List.any_append, Bool.or_assoc]
def LawFC (w : World) (x : Ex) : Prop := ∀ (h : Heap) (q : Addr), ExAt h x q → Tell w 279 [.ref q] (x.dep + 1 + 1) (3 * x.dep + 3 + 3) [] h fun r _ _ => r = .bool (fl 9 x)
theorem fdep_l {x y : Ex} : x.dep + 1 + 1 ≤ max x.dep y.dep + 1 + 1 := Nat.succ_le_succ ldep_l
theorem fdep_r {x y : Ex} : y.dep + 1 + 1 ≤ max x.dep y.dep + 1 + 1 := Nat.succ_le_succ ldep_r
theorem fun_l {x y : Ex} : 3 * x.dep + 3 + 3 ≤ 3 * (max x.dep y.dep + 1) + 3 := Nat.add_le_add_right lun_l 3
theorem fun_r {x y : Ex} : 3 * y.dep + 3 + 3 ≤ 3 * (max x.dep y.dep + 1) + 3 := Nat.add_le_add_right lun_r 3
set_option maxRecDepth 100000 in
theorem lawfloats_tell {w : World} (x : Ex) : x.dep ≤ 3 → x.ok → LawFC w x := by
  induction x with
  | const a b =>
    intro hdep hok h q hE
    refine tell_def [(Str.ofString "e", .ref q)] (by rfl) (by rfl) (fun g X s k => BindsTo.of_eq rfl) (by rfl) (by rfl) (by rfl) rfl rfl rfl fun g hg => ?_
    obtain ⟨t1, t2, t3, t4, hq⟩ := hE.keep (gnil hg)
    have hq : GT g q _ := hq
    refine Go.isF (Pu.el (Pu.var rfl rfl) hq .int rfl rfl ⟨_, rfl⟩) .str (by decide) (Go.isF (Pu.el (Pu.var rfl rfl) hq .int rfl rfl ⟨_, rfl⟩) .str (by decide) ?_)
    refine Go.ret (Ev.and (Ev.cmp (Pu.is (Pu.el (Pu.var rfl rfl) hq .int rfl rfl rfl) (Ev.tuple (Evs.sr .str fun t5 => Evs.sr .str fun t6 => Evs.nil (Op.tuple fun qq _ => Op.eqs (Op.inStrs (ys := [Str.ofString "ext", Str.ofString "slice"]) (.inl ⟨0, .head _⟩) (.cons _ _ (.cons _ _ .nil))) ?_))))))
    rintro _ rfl
    exact ⟨_, rfl, ite2 (fun e => absurd e (by decide)) fun e h' _ _ => congrArg Value.bool e⟩
  | sig =>
    intro hdep hok h q hE
    refine tell_def [(Str.ofString "e", .ref q)] (by rfl) (by rfl) (fun g X s k => BindsTo.of_eq rfl) (by rfl) (by rfl) (by rfl) rfl rfl rfl fun g hg => ?_
    obtain ⟨t1, t2, t3, hq⟩ := hE.keep (gnil hg)
    have hq : GT g q _ := hq
    refine Go.isF (Pu.el (Pu.var rfl rfl) hq .int rfl rfl ⟨_, rfl⟩) .str (by decide) (Go.isF (Pu.el (Pu.var rfl rfl) hq .int rfl rfl ⟨_, rfl⟩) .str (by decide) ?_)
    refine Go.ret (Ev.and (Ev.cmp (Pu.is (Pu.el (Pu.var rfl rfl) hq .int rfl rfl rfl) (Ev.tuple (Evs.sr .str fun t5 => Evs.sr .str fun t6 => Evs.nil (Op.tuple fun qq _ => Op.eqs (Op.inStrs (ys := [Str.ofString "ext", Str.ofString "slice"]) (.inl ⟨0, .head _⟩) (.cons _ _ (.cons _ _ .nil))) ?_))))))
    rintro _ rfl
    exact ⟨_, rfl, ite2 (fun e => absurd e (by decide)) fun e h' _ _ => congrArg Value.bool e⟩
  | slice x lo ih =>
    intro hdep hok h q hE
    have hdx : x.dep ≤ 3 := Nat.le_of_succ_le hdep
    refine tell_def [(Str.ofString "e", .ref q)] (by rfl) (by rfl) (fun g X s k => BindsTo.of_eq rfl) (by rfl) (by rfl) (by rfl) rfl rfl rfl fun g hg => ?_
    obtain ⟨t1, t2, q1, t3, hq, hx⟩ := hE.keep (gnil hg)
    have ih := ih hdx hok.1
    have hq : GT g q _ := hq
    refine Go.isF (Pu.el (Pu.var rfl rfl) hq .int rfl rfl ⟨_, rfl⟩) .str (by decide) (Go.isF (Pu.el (Pu.var rfl rfl) hq .int rfl rfl ⟨_, rfl⟩) .str (by decide) ?_)
    refine Go.ret (Ev.and (Ev.cmp (Pu.is (Pu.el (Pu.var rfl rfl) hq .int rfl rfl rfl) (Ev.tuple (Evs.sr .str fun t5 => Evs.sr .str fun t6 => Evs.nil (Op.tuple fun qq _ => Op.eqs (Op.inStrs (ys := [Str.ofString "ext", Str.ofString "slice"]) (.inl ⟨0, .head _⟩) (.cons _ _ (.cons _ _ .nil))) ?_))))))
    rintro _ rfl
    refine ⟨_, rfl, ite2 (fun _ => ?_) fun e => absurd e (by decide)⟩
    exact Ev.one (Ev.callK (Pu.glob rfl) (by rfl) (Evs.vl (Pu.el (Pu.var rfl rfl) hq .int rfl rfl rfl) (Evs.nil (Op.tell0 (fun h k _ => ih h q1 (ExAt.keep hx k)) (fun r S' _ _ e h' _ _ => e) (Nat.le_refl _) (Nat.le_refl _)))))
  | ext x sg ih =>
    intro hdep hok h q hE
    have hdx : x.dep ≤ 3 := Nat.le_of_succ_le hdep
    refine tell_def [(Str.ofString "e", .ref q)] (by rfl) (by rfl) (fun g X s k => BindsTo.of_eq rfl) (by rfl) (by rfl) (by rfl) rfl rfl rfl fun g hg => ?_
    obtain ⟨t1, t2, q1, hq, hx⟩ := hE.keep (gnil hg)
    have ih := ih hdx hok
    have hq : GT g q _ := hq
    refine Go.isF (Pu.el (Pu.var rfl rfl) hq .int rfl rfl ⟨_, rfl⟩) .str (by decide) (Go.isF (Pu.el (Pu.var rfl rfl) hq .int rfl rfl ⟨_, rfl⟩) .str (by decide) ?_)
    refine Go.ret (Ev.and (Ev.cmp (Pu.is (Pu.el (Pu.var rfl rfl) hq .int rfl rfl rfl) (Ev.tuple (Evs.sr .str fun t5 => Evs.sr .str fun t6 => Evs.nil (Op.tuple fun qq _ => Op.eqs (Op.inStrs (ys := [Str.ofString "ext", Str.ofString "slice"]) (.inl ⟨0, .head _⟩) (.cons _ _ (.cons _ _ .nil))) ?_))))))
    rintro _ rfl
    refine ⟨_, rfl, ite2 (fun _ => ?_) fun e => absurd e (by decide)⟩
    exact Ev.one (Ev.callK (Pu.glob rfl) (by rfl) (Evs.vl (Pu.el (Pu.var rfl rfl) hq .int rfl rfl rfl) (Evs.nil (Op.tell0 (fun h k _ => ih h q1 (ExAt.keep hx k)) (fun r S' _ _ e h' _ _ => e) (Nat.le_refl _) (Nat.le_refl _)))))
  | cond x y ihx ihy =>
    intro hdep hok h q hE
    have hdx : x.dep ≤ 3 := Nat.le_trans (Nat.le_max_left _ _) (Nat.le_of_succ_le hdep)
    have hdy : y.dep ≤ 3 := Nat.le_trans (Nat.le_max_right _ _) (Nat.le_of_succ_le hdep)
    refine tell_def [(Str.ofString "e", .ref q)] (by rfl) (by rfl) (fun g X s k => BindsTo.of_eq rfl) (by rfl) (by rfl) (by rfl) rfl rfl rfl fun g hg => ?_
    obtain ⟨t1, t2, q0, q1, q2, hq, hx, hy⟩ := hE.keep (gnil hg)
    have hq : GT g q _ := hq
    have hlx := bits_small 9 hdx
    have hly := bits_small 9 hdy
    refine Go.isT (Pu.el (Pu.var rfl rfl) hq .int rfl rfl ⟨_, rfl⟩) .str (by decide) ?_
    refine Go.ret (Ev.or (Ev.cmp (Pu.i .int fun t5 => Ev.bin (Ev.callK (Pu.glob rfl) (by rfl) (Evs.vl (Pu.el (Pu.var rfl rfl) hq .int rfl rfl rfl) (Evs.nil (Op.codes (fun h e => lawcodes_tell x hdx hok.1 h q1 e) hx (fun D n ys S2 mD hys _ _ => ?_) (Nat.le_succ_of_le ldep_l) (Nat.le_trans (Nat.le_add_right _ 3) fun_l))))))))
    refine Ev.callK (Pu.glob rfl) (by rfl) (Evs.vl (Pu.el (Pu.var rfl rfl) hq .int rfl rfl rfl) (Evs.nil (Op.codes (fun h e => lawcodes_tell y hdy hok.2 h q2 e) hy (fun D2 n2 ys2 S3 mD2 hys2 kp _ => ?_) (Nat.le_succ_of_le ldep_r) (Nat.le_trans (Nat.le_add_right _ 3) fun_r))))
    refine Op.addL (.inl ⟨n, kp _ mD⟩) (.inl ⟨n2, mD2⟩) hys hys2 (Nat.le_trans (Nat.add_le_add hlx hly) (by decide)) fun D3 us _ hus => Op.eqs (Op.inInts .head hus) ?_
    rintro _ rfl
    refine ⟨_, rfl, ite2 (fun e1 h' _ _ => by rw [fl_cond, e1, Bool.true_or]) fun e1 => ?_⟩
    refine Ev.or (Ev.callK (Pu.glob rfl) (by rfl) (Evs.vl (Pu.el (Pu.var rfl rfl) hq .int rfl rfl rfl) (Evs.nil (Op.tell0 (fun h k _ => ihx hdx hok.1 h q1 (ExAt.keep hx k)) (fun r S' _ _ e => ⟨_, e, ite2 (fun e3 h' _ _ => by rw [e, fl_cond, e1, e3]; rfl) fun e3 => ?_⟩) fdep_l fun_l))))
    refine Ev.one (Ev.callK (Pu.glob rfl) (by rfl) (Evs.vl (Pu.el (Pu.var rfl rfl) hq .int rfl rfl rfl) (Evs.nil (Op.tell0 (fun h k _ => ihy hdy hok.2 h q2 (ExAt.keep hy k)) (fun r S' _ _ e h' _ _ => by rw [e, fl_cond, e1, e3]; rfl) fdep_r fun_r))))
  | cat x y ihx ihy =>
    intro hdep hok h q hE
    have hdx : x.dep ≤ 3 := Nat.le_trans (Nat.le_max_left _ _) (Nat.le_of_succ_le hdep)
    have hdy : y.dep ≤ 3 := Nat.le_trans (Nat.le_max_right _ _) (Nat.le_of_succ_le hdep)
    refine tell_def [(Str.ofString "e", .ref q)] (by rfl) (by rfl) (fun g X s k => BindsTo.of_eq rfl) (by rfl) (by rfl) (by rfl) rfl rfl rfl fun g hg => ?_
    obtain ⟨t1, t2, qt, q1, q2, hq, hqt, hx, hy⟩ := hE.keep (gnil hg)
    have hq : GT g q _ := hq
    refine Go.isF (Pu.el (Pu.var rfl rfl) hq .int rfl rfl ⟨_, rfl⟩) .str (by decide) (Go.isT (Pu.el (Pu.var rfl rfl) hq .int rfl rfl ⟨_, rfl⟩) .str (by decide) ?_)
    refine Go.ret (Ev.cmp (Pu.is .bool (Ev.comp (Pu.is (Pu.el (Pu.var rfl rfl) hq .int rfl rfl rfl) ⟨_, _, _, fun i ys S1 => ys = (([x, y] : List Ex).take i).map (fun z => Value.bool (fl 9 z)), itr_tupB (gtup hqt), Nat.le_of_ble_eq_true rfl, rfl, nofx2, ?_, ?_⟩))))
    · rintro i u ys S2 hi hu rfl
      obtain ⟨z, q', ez, rfl, hz, hb, hd, hu2⟩ := parts2 (P := fun z => LawFC w z ∧ z.dep + 1 + 1 ≤ max x.dep y.dep + 1 + 1 ∧ 3 * z.dep + 3 + 3 ≤ 3 * (max x.dep y.dep + 1) + 3) hi hu hx hy ⟨ihx hdx hok.1, fdep_l, fun_l⟩ ⟨ihy hdy hok.2, fdep_r, fun_r⟩
      refine Ev.callK (Pu.glob rfl) (by rfl) (Evs.vl (Pu.var rfl rfl) (Evs.nil (Op.tell0 (fun h k _ => hb h q' (ExAt.keep hz k)) (fun r S' _ _ e => ?_) hd hu2)))
      rw [e, List.take_add_one, ez, Option.toList_some, List.map_append]; rfl
    · rintro D k ys S2 rfl _ _ _
      refine Op.eqs (Op.inBools (zs := [fl 9 x, fl 9 y]) .head) ?_
      rintro _ rfl h' _ _
      exact congrArg Value.bool (fl_cat (z := 9) (x := x) (y := y))
abbrev ExH (S : List (Addr × Obj)) (x : Ex) (q : Addr) : Prop := ExG (fun a o => (a, o) ∈ S ∧ o.cls = .type "tuple") x q
theorem exh_const {S : List (Addr × Obj)} {q : Addr} {a b : Int} {t1 t2 t3 t4 : Tok} (h : (q, tupOf [.str (Str.ofString "const") t1, .int 2 t2, .int a t3, .int b t4]) ∈ S) : ExH S (.const a b) q := by
  unfold ExH ExG; exact ⟨_, _, _, _, h, rfl⟩
theorem exh_sig {S : List (Addr × Obj)} {q : Addr} {t1 t2 t3 : Tok} (h : (q, tupOf [.str (Str.ofString "sig") t1, .int 2 t2, .int 0 t3]) ∈ S) : ExH S .sig q := by
  unfold ExH ExG; exact ⟨_, _, _, h, rfl⟩
theorem exh_cond {S : List (Addr × Obj)} {q q0 q1 q2 : Addr} {x y : Ex} {t1 t2 : Tok} (h : (q, tupOf [.str (Str.ofString "cond") t1, .int 2 t2, .ref q0, .ref q1, .ref q2]) ∈ S) (hx : ExH S x q1) (hy : ExH S y q2) : ExH S (.cond x y) q := by
  unfold ExH ExG; exact ⟨_, _, _, _, _, ⟨h, rfl⟩, hx, hy⟩
theorem exh_slice {S : List (Addr × Obj)} {q q1 : Addr} {x : Ex} {lo : Int} {t1 t2 t3 : Tok} (h : (q, tupOf [.str (Str.ofString "slice") t1, .int 2 t2, .ref q1, .int lo t3]) ∈ S) (hx : ExH S x q1) : ExH S (.slice x lo) q := by
  unfold ExH ExG; exact ⟨_, _, _, _, ⟨h, rfl⟩, hx⟩
theorem exh_ext {S : List (Addr × Obj)} {q q1 : Addr} {x : Ex} {sg : Bool} {t1 t2 : Tok} (h : (q, tupOf [.str (Str.ofString "ext") t1, .int 3 t2, .ref q1, .bool sg]) ∈ S) (hx : ExH S x q1) : ExH S (.ext x sg) q := by
  unfold ExH ExG; exact ⟨_, _, _, ⟨h, rfl⟩, hx⟩
theorem exh_cat {S : List (Addr × Obj)} {q qt q1 q2 : Addr} {x y : Ex} {t1 t2 : Tok} (h : (q, tupOf [.str (Str.ofString "cat") t1, .int 4 t2, .ref qt]) ∈ S) (ht : (qt, tupOf [.ref q1, .ref q2]) ∈ S) (hx : ExH S x q1) (hy : ExH S y q2) : ExH S (.cat x y) q := by
  unfold ExH ExG; exact ⟨_, _, _, _, _, ⟨h, rfl⟩, ⟨ht, rfl⟩, hx, hy⟩
local macro_rules | `(tactic| ktr_enter) => `(tactic| (refine' code_defG ?k1 ?k2 ?k3 ?k4 ?k5 ?kA ?kF ?kK ?k6 ?k7 ?k8 ?k9 ?kB ?_ ?c2 ?c3 ?c4 ?c5; (case kA => exact rfl); (case kF => exact rfl); (case kK => assumption); (case k1 => k_asm); (case k2 => k_asm); (case k3 => k_asm); (case k4 => k_asm); (case k5 => k_asm); (case k6 => k_is); (case k7 => k_is); (case k8 => ktr_room); (case k9 => exact BindsTo.of_eq rfl); (case c5 => decide); (case kB => exact locs rfl); (case c2 => exact rfl); (case c3 => exact rfl); (case c4 => exact rfl); k_whole))
local macro_rules | `(tactic| k_room) => `(tactic| ktr_room)
local macro_rules | `(tactic| k_mem) => `(tactic| first | exact List.Mem.head _ | assumption | (refine' List.Mem.tail _ ?_; k_mem))
/-- the coals stand, and every tuple -/
structure Gr (H : Addr) (S S' : Led) : Prop where
  h : Hearth H S'
  t : ∀ p ∈ S, p.2.cls = .type "tuple" → p ∈ S'
theorem Gr.trans {H : Addr} {S S1 S2 : Led} (a : Gr H S S1) (b : Gr H S1 S2) : Gr H S S2 := ⟨b.h, fun p hp hc => b.t p (a.t p hp hc) hc⟩
theorem Gr.cons {H : Addr} {S S1 : Led} {p : Addr × Obj} (a : Gr H S S1) : Gr H S (p :: S1) := ⟨a.h.mono fun _ => .tail _, fun q hq hc => .tail _ (a.t q hq hc)⟩
theorem Gr.ex {H : Addr} {S S1 : Led} {x : Ex} {q : Addr} (a : Gr H S S1) (e : ExH S x q) : ExH S1 x q := e.mono fun b o m => ⟨a.t _ m.1 m.2, m.2⟩
theorem ExH.cons {S : Led} {x : Ex} {q : Addr} {p : Addr × Obj} (e : ExH S x q) : ExH (p :: S) x q := ExG.mono (fun b o m => ⟨.tail _ m.1, m.2⟩) e
theorem Tell.fun {w : World} {f : Addr} {vs : List Value} {dn un' : Nat} {S : Led} {h : Heap} {Post : Value → Led → Heap → Prop} (C : FunL S → Tell w f vs dn un' S h Post) : Tell w f vs dn un' S h Post := fun mean mg mb dp un gd cn cs a ccd cl outer A₀ base h₀ L m s Q E e B F X N T k hd hu hret =>
  C (news_fun N) mean mg mb dp un gd cn cs a ccd cl outer A₀ base h₀ L m s Q E e B F X N T k hd hu hret
theorem coalG_tell {w : World} {S : Led} {h : Heap} {H : Addr} {most : Int} {tk : Tok} (hH : Hearth H S) (hm : 0 < most) : Tell w 257 [.ref H, .int most tk] 1 67 S h fun r S' _ => ∃ z t, r = .int z t ∧ Gr H S S' ∧ 0 ≤ z ∧ z < most :=
  Tell.fun fun fn => (coal_tell hH hm).weak fun r S' h' ⟨z, t, e, hH', k, z0, z1⟩ => ⟨z, t, e, ⟨hH', fun p hp hc => k p hp fun e => by
    obtain ⟨vs, n, ns, hl, _⟩ := hH
    have := fn _ hp _ hl e
    rw [this] at hc; simp at hc⟩, z0, z1⟩
section
variable {C : Cx} {m : Loc} {S : Led} {P : Value → Led → Prop} {H : Addr} {most : Int} {tk : Tok} {e : Expr} {z y : Int}
theorem Op.coal (hH : Hearth H S) (hm : 0 < most) (k : ∀ z t S', Gr H S S' → 0 ≤ z → z < most → P (.int z t) S') (hd : 1 ≤ C.dn) (hu : 67 ≤ C.un) : Op C m S (call (.ref 257) [.ref H, .int most tk]) P :=
  Op.tellA (fun h _ _ => coalG_tell hH hm) (fun r S' h' ⟨z, t, e, a, b, c⟩ => e ▸ k z t S' a b c) hd hu
theorem Pu.to (h : Pu C m S e (IsI z)) (he : z = y) : Pu C m S e (IsI y) := he ▸ h
end
def mostOf (d : Nat) : Int := if 0 < d then 6 else 2
theorem most_pos (d : Nat) : 0 < mostOf d := by unfold mostOf; split <;> decide
theorem most_t {d : Nat} (h : decide ((0 : Int) < (d : Int)) = true) : mostOf d = 6 := if_pos (Int.ofNat_lt.mp (of_decide_eq_true h))
theorem most_f {d : Nat} (h : decide ((0 : Int) < (d : Int)) = false) : mostOf d = 2 := if_neg fun h2 => of_decide_eq_false h (Int.ofNat_lt.mpr h2)
theorem most_hi {d : Nat} {z : Int} (h : z < mostOf d) (h2 : 2 ≤ z) : (∃ d', d = d' + 1) ∧ z < 6 := by
  unfold mostOf at h
  split at h
  · rename_i h3; exact ⟨⟨d - 1, (Nat.succ_pred_eq_of_pos h3).symm⟩, h⟩
  · exact absurd h (Int.not_lt.mpr h2)
theorem ge_two {z : Int} (h : 0 ≤ z) (h0 : (z == 0) = false) (h1 : (z == 1) = false) : 2 ≤ z := by
  have := ne_of_beq_false h0; have := ne_of_beq_false h1; omega
theorem pred_int (d : Nat) : ((d + 1 : Nat) : Int) - 1 = (d : Int) := Int.add_sub_cancel (d : Int) 1
theorem lo_of {z : Int} (h0 : 0 ≤ z) (h1 : z < 4) : -1 ≤ z - 1 ∧ z - 1 < 3 := by omega
theorem le_max2 {a b d : Nat} (h1 : a ≤ d) (h2 : b ≤ d) : max a b + 1 ≤ d + 1 := Nat.succ_le_succ (Nat.max_le.mpr ⟨h1, h2⟩)
def GrowP (H : Addr) (d : Nat) (S : Led) (r : Value) (S' : Led) : Prop := ∃ x q, r = .ref q ∧ Gr H S S' ∧ ExH S' x q ∧ x.ok ∧ x.dep ≤ d
set_option maxRecDepth 100000 in
set_option maxHeartbeats 4000000 in
theorem grown_tell {w : World} (d : Nat) : ∀ {S : Led} {h : Heap} {H : Addr} {tz : Tok}, Hearth H S → Tell w 286 [.ref H, .int (d : Int) tz] (d + 1 + 1) (3 * d + 67 + 3) S h fun r S' _ => GrowP H d S r S' := by
  induction d using Nat.strongRecOn with
  | ind d ih =>
  intro S h H tz hH
  refine tell_def [(Str.ofString "hearth", .ref H), (Str.ofString "deep", .int (d : Int) tz)] (by rfl) (by rfl) (fun g X s k => BindsTo.of_eq rfl) (by rfl) (by rfl) (by rfl) rfl rfl rfl fun g hg => ?_
  have hd : 1 ≤ d + 1 := Nat.succ_le_succ (Nat.zero_le _)
  have hu : 67 ≤ 3 * d + 67 := Nat.le_add_left _ _
  refine Go.assign (Ev.callK (Pu.glob rfl) (by rfl) (Evs.vl (Pu.var rfl rfl) (Evs.it (z := mostOf d) (Ev.ifP (Tp.cmp (Pu.var rfl ⟨_, rfl⟩) .int Cm.gtI) (fun e => Pu.to .int (most_t e).symm) fun e => Pu.to .int (most_f e).symm) fun t0 => Evs.nil (Op.coal hH (most_pos d) (fun z t S1 g1 z0 z1 => ?_) hd hu))))
  refine Go.ifP (Tp.cmp (Pu.var rfl ⟨_, rfl⟩) .int Cm.eqI) (fun e => ?_) fun e0 => ?_
  · refine Go.ret (Ev.tuple (Evs.sr .str fun t1 => Evs.it .int fun t2 => Evs.cons rfl (Ev.callK (Pu.glob rfl) (by rfl) (Evs.vl (Pu.var rfl rfl) (Evs.it .int fun t3 => Evs.nil (Op.coal g1.h (by decide) (fun a ta S2 g2 a0 a1 => ?_) hd hu))))))
    refine Evs.cons rfl (Ev.mono (P := fun v S' => ∃ b tb, v = .int b tb ∧ Gr H S2 S' ∧ 0 ≤ b ∧ b < 4) ?_ ?_)
    · refine Ev.ifx (Te.cmp (Ev.callK (Pu.glob rfl) (by rfl) (Evs.vl (Pu.var rfl rfl) (Evs.it .int fun t4 => Evs.nil (Op.coal g2.h (by decide) (fun c tc S3 g3 _ _ => Pu.i .int fun t5 => Op.eqs (Cm.eqI _ _ ⟨tc, rfl⟩ ⟨t5, rfl⟩) ?_) hd hu)))))
      rintro _ rfl
      refine ⟨_, rfl, ite2 (fun _ => ?_) fun _ => ?_⟩
      · exact Ev.callK (Pu.glob rfl) (by rfl) (Evs.vl (Pu.var rfl rfl) (Evs.it .int fun t4 => Evs.nil (Op.coal g3.h (by decide) (fun b tb S4 g4 b0 b1 => ⟨b, tb, rfl, g3.trans g4, b0, b1⟩) hd hu)))
      · exact Pu.i .int fun tb => ⟨0, tb, rfl, g3, by decide, by decide⟩
    · rintro _ S4 ⟨b, tb, rfl, g4, b0, b1⟩
      exact Evs.nil (Op.tuple fun q lq h' _ _ => ⟨.const a b, q, rfl, ((g1.trans g2).trans g4).cons, exh_const (.head _), ⟨a0, a1, b0, b1⟩, Nat.zero_le _⟩)
  refine Go.ifP (Tp.cmp (Pu.var rfl ⟨_, rfl⟩) .int Cm.eqI) (fun e => ?_) fun e1 => ?_
  · exact Go.ret (Ev.tuple (Evs.sr .str fun t1 => Evs.it .int fun t2 => Evs.it .int fun t3 => Evs.nil (Op.tuple fun q lq h' _ _ => ⟨.sig, q, rfl, g1.cons, exh_sig (.head _), trivial, Nat.zero_le _⟩)))
  obtain ⟨⟨d, rfl⟩, z6⟩ := most_hi z1 (ge_two z0 e0 e1)
  have hd2 : d + 1 + 1 ≤ d + 1 + 1 := Nat.le_refl _
  have hu2 : 3 * d + 67 + 3 ≤ 3 * (d + 1) + 67 := Nat.le_of_eq (Nat.add_right_comm (3 * d) 67 3)
  refine Go.ifP (Tp.cmp (Pu.var rfl ⟨_, rfl⟩) .int Cm.ltI) (fun e4 => ?_) fun e4 => ?_
  · refine Go.assign (Ev.callK (Pu.glob rfl) (by rfl) (Evs.vl (Pu.var rfl rfl) (Evs.it (Pu.to (Pu.sub (Pu.var rfl ⟨_, rfl⟩) .int) (pred_int d)) fun t1 => Evs.nil (Op.tellA (fun h _ _ => ih d (Nat.lt_succ_self d) g1.h) (fun r S2 _ ⟨x, q1, er, g2, ex, okx, dx⟩ => er ▸ ?_) hd2 hu2))))
    refine Go.ret (Ev.ifP (Tp.cmp (Pu.var rfl ⟨_, rfl⟩) .int Cm.eqI) (fun _ => ?_) fun _ => ?_)
    · refine Ev.tuple (Evs.sr .str fun t2 => Evs.it .int fun t3 => Evs.cons rfl (Ev.tuple (Evs.sr .str fun t4 => Evs.it .int fun t5 => Evs.it .int fun t6 => Evs.nil (Op.tuple fun q0 _ => Evs.vl (Pu.var rfl rfl) (Evs.cons rfl (Ev.callK (Pu.glob rfl) (by rfl) (Evs.vl (Pu.var rfl rfl) (Evs.it (Pu.to (Pu.sub (Pu.var rfl ⟨_, rfl⟩) .int) (pred_int d)) fun t7 => Evs.nil (Op.tellA (fun h _ _ => ih d (Nat.lt_succ_self d) (g2.cons).h) (fun r S3 _ ⟨y, q2, er, g3, ey, oky, dy⟩ => er ▸ ?_) hd2 hu2)))))))))
      exact Evs.nil (Op.tuple fun q lq h' _ _ => ⟨.cond x y, q, rfl, ((g1.trans g2.cons).trans g3).cons, exh_cond (.head _) (ExH.cons (g3.ex (ExH.cons ex))) (ExH.cons ey), ⟨okx, oky⟩, le_max2 dx dy⟩)
    · refine Ev.tuple (Evs.sr .str fun t2 => Evs.it .int fun t3 => Evs.vl (Pu.var rfl rfl) (Evs.cons rfl (Ev.bin (Ev.callK (Pu.glob rfl) (by rfl) (Evs.vl (Pu.var rfl rfl) (Evs.it .int fun t4 => Evs.nil (Op.coal g2.h (by decide) (fun c tc S3 g3 c0 c1 => Pu.i .int fun t5 => Op.eqs Op.sub2 ?_) (Nat.succ_le_succ (Nat.zero_le _)) (Nat.le_add_left _ _))))))))
      rintro _ ⟨tl, rfl⟩
      exact Evs.nil (Op.tuple fun q lq h' _ _ => ⟨.slice x (c - 1), q, rfl, ((g1.trans g2).trans g3).cons, exh_slice (.head _) (ExH.cons (g3.ex ex)), ⟨okx, lo_of c0 c1⟩, Nat.succ_le_succ dx⟩)
  refine Go.ifP (Tp.cmp (Pu.var rfl ⟨_, rfl⟩) .int Cm.eqI) (fun _ => ?_) fun e5 => ?_
  · refine Go.ret (Ev.tuple (Evs.sr .str fun t2 => Evs.it .int fun t3 => Evs.cons rfl (Ev.callK (Pu.glob rfl) (by rfl) (Evs.vl (Pu.var rfl rfl) (Evs.it (Pu.to (Pu.sub (Pu.var rfl ⟨_, rfl⟩) .int) (pred_int d)) fun t1 => Evs.nil (Op.tellA (fun h _ _ => ih d (Nat.lt_succ_self d) g1.h) (fun r S2 _ ⟨x, q1, er, g2, ex, okx, dx⟩ => er ▸ ?_) hd2 hu2))))))
    refine Evs.cons rfl (Ev.cmp (Ev.callK (Pu.glob rfl) (by rfl) (Evs.vl (Pu.var rfl rfl) (Evs.it .int fun t4 => Evs.nil (Op.coal g2.h (by decide) (fun c tc S3 g3 c0 c1 => Pu.i .int fun t5 => Op.eqs (Cm.eqI _ _ ⟨tc, rfl⟩ ⟨t5, rfl⟩) ?_) (Nat.succ_le_succ (Nat.zero_le _)) (Nat.le_add_left _ _))))))
    rintro _ rfl
    exact Evs.nil (Op.tuple fun q lq h' _ _ => ⟨.ext x _, q, rfl, ((g1.trans g2).trans g3).cons, exh_ext (.head _) (ExH.cons (g3.ex ex)), okx, Nat.succ_le_succ dx⟩)
  · refine Go.assign (Ev.callK (Pu.glob rfl) (by rfl) (Evs.vl (Pu.var rfl rfl) (Evs.it (Pu.to (Pu.sub (Pu.var rfl ⟨_, rfl⟩) .int) (pred_int d)) fun t1 => Evs.nil (Op.tellA (fun h _ _ => ih d (Nat.lt_succ_self d) g1.h) (fun r S2 _ ⟨x, q1, er, g2, ex, okx, dx⟩ => er ▸ ?_) hd2 hu2))))
    refine Go.ret (Ev.tuple (Evs.sr .str fun t2 => Evs.it .int fun t3 => Evs.cons rfl (Ev.tuple (Evs.vl (Pu.var rfl rfl) (Evs.cons rfl (Ev.callK (Pu.glob rfl) (by rfl) (Evs.vl (Pu.var rfl rfl) (Evs.it (Pu.to (Pu.sub (Pu.var rfl ⟨_, rfl⟩) .int) (pred_int d)) fun t7 => Evs.nil (Op.tellA (fun h _ _ => ih d (Nat.lt_succ_self d) g2.h) (fun r S3 _ ⟨y, q2, er, g3, ey, oky, dy⟩ => er ▸ ?_) hd2 hu2)))))))))
    exact Evs.nil (Op.tuple fun qt _ => Evs.nil (Op.tuple fun q lq h' _ _ => ⟨.cat x y, q, rfl, ((g1.trans g2).trans g3).cons.cons, exh_cat (.head _) (.tail _ (.head _)) (ExH.cons (ExH.cons (g3.ex ex))) (ExH.cons (ExH.cons ey)), ⟨okx, oky⟩, le_max2 dx dy⟩))
theorem le63 {vs : List Value} {ns : List Int} (h : IntsAre vs ns) (h2 : ¬ ((63 : Nat) : Int) < ((ns.length : Nat) : Int)) : vs.length ≤ 63 := h.length ▸ Nat.le_of_not_lt fun h3 => h2 (Int.ofNat_lt.mpr h3)
theorem top_law {w : World} {qual : Str} {scope : Scope} {fa : Addr} {cdv : Value} {dn un dp un0 : Nat} {A A₀ : Around} {L : Addr} {g base h₁ : Heap} {s : Shared} {tk : Nat} {binds : Loc} (binds' : Loc) {cells : Led} {body : List Stmt} {Q : Flow → Shared → Prop} {E : Value → Shared → Prop} {mean : ExcName → Option Value} {mg mb : Str → Option Value} {gd : Option (List Code)} {outer : List Env}
    (F : Fr g L h₁ (bindL (envOfC qual scope L fa cdv).kindOf binds fun _ => none)) (N : News g L h₁ cells) (Y : CellsAre (bindC (envOfC qual scope L fa cdv).kindOf binds fun _ => none) (cellsFrom (L + 1) scope.names []) cells) (B : Below A₀ base outer g) (K : (KK w).In g) (T : TopX mean mg mb g)
    (hA : A = ktrTop dp un0 gd qual scope L fa cdv (cellsFrom (L + 1) scope.names []) outer) (hd : dp + dn < recursionLimit) (hu : un0 + un < cLine) (hb : binds = binds') (hk : scope.kind = .function) (hkind : (binds'.all fun y => scope.names.lookup y.1 == some .local || scope.names.lookup y.1 == some .cell) = true) (hm : nodS (binds'.map (·.1)) = true) (hnd : nodS ((cellsFrom 0 scope.names []).map (·.1)) = true)
    (hg : Go (cx w ⟨qual, scope, fa, cdv⟩ dn un g) binds' [] body (Fin fun r _ => r = .bool true)) (k : ∀ mm h' tk', Fr g L h' mm → Q (.ret (.bool true)) { s with heap := h', toks := tk' }) : wpAny (model PR w) A (execs body (envOfC qual scope L fa cdv)) Q E { s with heap := h₁, toks := tk } := by
  subst hb hA
  refine wpAny_mono (hg _ L [] { s with heap := h₁, toks := tk } ⟨rfl, rfl, hk, ⟨(cells_keys2 _ _ [] [] rfl 0) ▸ nod_of hnd, cells_nodup2 _ _ _ .nil (fun _ h => nomatch h)⟩, mean, mg, mb, dp, un0, gd, outer, A₀, base, rfl, B, K, T, hd, hu⟩ ⟨_, _, cells, F, Y, (by rw [List.append_nil]; exact N), (fun p _ q hq => nomatch hq), off_nil, know_entry (D := ⟨qual, scope, fa, cdv⟩) hkind (nod_of hm)⟩) ?_ fun _ _ e => e.elim
  rintro f _ ⟨h', tk', m', S', rfl, ⟨mm, cm, ce, F2, Y2, N2, o2, oc2, kn2⟩, p⟩
  cases f with
  | ret v => cases p; exact k mm h' tk' F2
  | next => cases p
  | brk => exact p.elim
  | cont => exact p.elim
section
variable {w : World} {S : Led} {nl nd il ol ca g gd ma oa H : Addr} {u1 u2 u3 u4 u5 uc t1 t2 t3 : Tok} {v1 v3 v4 : Value} {mo oo : Obj}
theorem all7 {P : Addr × Obj → Prop} {a b c d e f h : Addr × Obj} (h1 : P a) (h2 : P b) (h3 : P c) (h4 : P d) (h5 : P e) (h6 : P f) (h7 : P h) : ∀ x ∈ [a, b, c, d, e, f, h], P x :=
  List.forall_mem_cons.mpr ⟨h1, List.forall_mem_cons.mpr ⟨h2, all5 h3 h4 h5 h6 h7⟩⟩
/-- the network as it begins -/
theorem net_start (i : InstS S nl 211 nd (ndEs w u1 u2 u3 u4 u5 v1 v3 v4 4 uc ca) 5) (mc : (ca, listOf #[] 0) ∈ S) (G : GatS w S nl ca g gd ma oa t1 t2 t3 mo oo) (o1 : @LT.lt Nat _ nd nl) (o2 : @LT.lt Nat _ nl ca) (h1 : nd ≠ H) (h2 : nl ≠ H) (h3 : ca ≠ H) (h4 : @LT.lt Nat _ H gd) :
    ∃ Sn, Sy w ⟨g, gd, nl, nd, ca, ma, oa⟩ Sn [] ∧ (∀ p ∈ Sn, p ∈ S) ∧ ∀ p ∈ Sn, p.1 ≠ H := by
  have h5 := lt3 h4 G.o5
  have h6 := lt3 h5 G.o6
  have h7 := lt3 h6 G.o7
  refine ⟨[(g, instObj 94 gd), (gd, dictOf (gdEs w t1 t2 t3 nl ma oa) 3), (nl, instObj 211 nd), (nd, dictOf (ndEs w u1 u2 u3 u4 u5 v1 v3 v4 4 uc ca) 5), (ca, listOf #[] 0), (ma, mo), (oa, oo)], ⟨⟨t1, t2, t3, u1, u2, u3, u4, u5, uc, v1, v3, v4, [], 0, mo, [], oo, []⟩, ?_⟩, all7 G.i.i G.i.d i.i i.d mc G.m1 G.m2, all7 (ne_gt h5) (ne_gt h4) h2 h1 h3 (ne_gt h6) (ne_gt h7)⟩
  exact ⟨⟨o1, o2, G.o4, G.o5, G.o6, G.o7⟩, ⟨.head _, .tail _ (.head _)⟩, ⟨.tail _ (.tail _ (.head _)), .tail _ (.tail _ (.tail _ (.head _)))⟩, .tail _ (.tail _ (.tail _ (.tail _ (.head _)))), .tail _ (.tail _ (.tail _ (.tail _ (.tail _ (.head _))))), .tail _ (.tail _ (.tail _ (.tail _ (.tail _ (.tail _ (.head _)))))), G.lm, G.lo, .nil,
    ⟨G.d1.1, G.d1.2.1, G.d1.2.2, Nat.le_refl _, (fun _ h => nomatch h), fun _ h => nomatch h⟩, ⟨G.d2, Nat.zero_le _, fun _ h => nomatch h⟩, Wf.nil⟩
end
section
variable {C : Cx} {m : Loc} {S : Led} {l : Addr} {vs : List Value} {P : Value → Led → Prop} {H : Addr} {most : Int} {tk : Tok}
theorem Op.itemV {value slice : Expr} {t : Tok} {z : Int} {x : Value} (hl : LsAt C.g S l vs) (h0 : 0 ≤ z) (h1 : z < 2 ^ 63) (hx : vs[z.toNat]? = some x) (hs : SubOk slice := by intro _ _; rfl) (hg : GoOk value := by intro _ _; rfl) : Op C m S (subscriptTail value slice (.ref l) (.int z t)) fun r S' => S' = S ∧ r = x := fun A env L Rel s F R =>
  F.same R fun L mm news f N hn back => item_listL (hl.at f N hn) h0 h1 hx ⟨_, _, S, rfl, R, rfl, rfl⟩ (hs _ _) (hg _)
theorem Op.coalK (hH : Hearth H S) (hm : 0 < most) (k : ∀ n t S', Hearth H S' → Kept H S S' → ((n : Nat) : Int) < most → P (.int (n : Int) t) S') (hd : 1 ≤ C.dn := by exact Nat.le_of_ble_eq_true rfl) (hu : 67 ≤ C.un := by exact Nat.le_of_ble_eq_true rfl) : Op C m S (call (.ref 257) [.ref H, .int most tk]) P :=
  Op.tellA (fun h _ _ => coal_tell hH hm) (fun r S' h' ⟨z, t, e, a, b, c, d⟩ => by
    obtain ⟨n, rfl⟩ := Int.eq_ofNat_of_zero_le c
    exact e ▸ k n t S' a b d) hd hu
end
theorem two_ints {ys : List Value} (h : IntsAre ys [2, 3]) : ∃ ta tb, ys = [.int 2 ta, .int 3 tb] := by
  cases h with
  | cons _ ta h => cases h with
    | cons _ tb h => cases h; exact ⟨ta, tb, rfl⟩
theorem GatS.keep {w : World} {S S' : Led} {nl nd il ca g gd ma oa : Addr} {t1 t2 t3 : Tok} {mo oo : Obj} (G : GatS w S nl ca g gd ma oa t1 t2 t3 mo oo) (k : ∀ p ∈ S, p.1 ≠ nd → p.1 ≠ il → p ∈ S') (h1 : @LT.lt Nat _ nd ca) (h2 : @LT.lt Nat _ il ca) : GatS w S' nl ca g gd ma oa t1 t2 t3 mo oo := by
  have e : ∀ p ∈ S, @LT.lt Nat _ ca p.1 → p ∈ S' := fun p hp h => k p hp (ne_gt (lt3 h1 h)) (ne_gt (lt3 h2 h))
  have g2 := lt3 G.o4 G.o5
  have g3 := lt3 g2 G.o6
  exact ⟨⟨e _ G.i.i g2, e _ G.i.d G.o4⟩, e _ G.m1 g3, e _ G.m2 (lt3 g3 G.o7), G.o4, G.o5, G.o6, G.o7, G.lm, G.lo, G.d1, G.d2⟩
theorem range_up {n : Nat} (h : n < 5) : Builtin.Range.small 0 (1 + (n : Int)) 1 = true ∧ Builtin.Range.rangeSize 0 (1 + (n : Int)) 1 = ((n + 1 : Nat) : Int) := by
  match n, h with
  | 0, _ => decide
  | 1, _ => decide
  | 2, _ => decide
  | 3, _ => decide
  | 4, _ => decide
abbrev kinds8 (t0 t1 t2 t3 t4 t5 t6 t7 : Tok) : List Value := [.str (Str.ofString "and") t0, .str (Str.ofString "nand") t1, .str (Str.ofString "or") t2, .str (Str.ofString "nor") t3, .str (Str.ofString "xor") t4, .str (Str.ofString "xnor") t5, .str (Str.ofString "buf") t6, .str (Str.ofString "not") t7]
theorem kind_of {v : Value} {i : Nat} {t0 t1 t2 t3 t4 t5 t6 t7 : Tok} (h : [Value.str (Str.ofString "and") t0, .str (Str.ofString "nand") t1, .str (Str.ofString "or") t2, .str (Str.ofString "nor") t3, .str (Str.ofString "xor") t4, .str (Str.ofString "xnor") t5, .str (Str.ofString "buf") t6, .str (Str.ofString "not") t7][i]? = some v) :
    ∃ kd t, v = .str kd t ∧ isEight kd = true := by
  match i, h with
  | 0, h => cases h; exact ⟨_, _, rfl, by decide⟩
  | 1, h => cases h; exact ⟨_, _, rfl, by decide⟩
  | 2, h => cases h; exact ⟨_, _, rfl, by decide⟩
  | 3, h => cases h; exact ⟨_, _, rfl, by decide⟩
  | 4, h => cases h; exact ⟨_, _, rfl, by decide⟩
  | 5, h => cases h; exact ⟨_, _, rfl, by decide⟩
  | 6, h => cases h; exact ⟨_, _, rfl, by decide⟩
  | 7, h => cases h; exact ⟨_, _, rfl, by decide⟩
  | n + 8, h => cases h
theorem kind3 {i : Nat} (h : i < 2) {t0 t1 t2 : Tok} : ∃ kd t, [Value.str (Str.ofString "bufif0") t0, .str (Str.ofString "nmos") t1, .str (Str.ofString "pullup") t2][(0 + (i : Int) * 1).toNat]? = some (.str kd t) ∧ isEight kd = false := by
  match i, h with
  | 0, _ => exact ⟨_, _, rfl, by decide⟩
  | 1, _ => exact ⟨_, _, rfl, by decide⟩
theorem mod_l {j : Nat} (h : j < 4) : Int.fmod (0 + (j : Int) * 1) 2 = ((j % 2 : Nat) : Int) := by
  match j, h with
  | 0, _ => rfl
  | 1, _ => rfl
  | 2, _ => rfl
  | 3, _ => rfl
theorem div_l {j : Nat} (h : j < 4) : Int.fdiv (0 + (j : Int) * 1) 2 = ((j / 2 : Nat) : Int) := by
  match j, h with
  | 0, _ => rfl
  | 1, _ => rfl
  | 2, _ => rfl
  | 3, _ => rfl
theorem carry_i0 {prog : Program} {w : World} : Carries (PySem.intKind prog w) [] [] := trivial
theorem carry_i {prog : Program} {w : World} {z : Int} {t : Tok} {v : Value} {vs : List (Value × Value)} {kvs : List (Int × Value)} (h : Carries (PySem.intKind prog w) vs kvs) : Carries (PySem.intKind prog w) ((.int z t, v) :: vs) ((z, v) :: kvs) := ⟨intKind_is _ _ _ _, rfl, h⟩
abbrev knKvs (r : Nat) (a b c d : Tok) : List (Int × Value) := [(0, .int 0 a), (1, .int 1 b), (2, .int ((r % 2 : Nat) : Int) c), (3, .int ((r / 2 : Nat) : Int) d)]
theorem kn_ok {w : World} {kn : Addr} {ko : Obj} {r : Nat} {a b c d : Tok} (lo : (kn == sysModules) = false) (h : ko.IsDictOf (PySem.intKind PR w) (merged [] (knKvs r a b c d))) : KnOk w kn ko r (knKvs r a b c d) := by
  refine ⟨lo, h, fun n hn => ?_, fun n hn => ?_⟩
  · match n, hn with
    | 0, _ => exact ⟨_, rfl⟩
    | 1, _ => exact ⟨_, rfl⟩
    | 2, _ => exact ⟨_, rfl⟩
    | 3, _ => exact ⟨_, rfl⟩
  · match n, hn with
    | n + 4, _ => rfl
section
variable {C : Cx} {m : Loc} {S : Led}
theorem Op.add2 {z y : Int} {t u : Tok} : Op C m S (binaryOp .Add (.int z t) (.int y u)) fun r S' => S' = S ∧ IsI (z + y) r := fun A env L Rel s F R => add_int ⟨_, _, S, rfl, R, rfl, _, rfl⟩
theorem Op.isNotNone : Op C m S (compareOp .IsNot .none .none) fun r S' => S' = S ∧ r = .bool false := fun A env L Rel s F R => wpAny_isNot_plain rfl ⟨_, _, S, rfl, R, rfl, rfl⟩
end
abbrev natV (r : Nat) (cs : List Cell) (n : Nat) : Nat := (val r cs n).toNat
theorem bits_nat {r : Nat} (hr : r < 4) (cs : List Cell) (ns : List Nat) : natsI (ns.map (natV r cs)) = ns.map (val r cs) := by
  rw [natsI, List.map_map]
  exact List.map_congr_left fun j _ => Int.toNat_of_nonneg (val_bit hr cs j).1
theorem bits_le {r : Nat} (hr : r < 4) (cs : List Cell) (ns : List Nat) : ∀ x ∈ ns.map (natV r cs), x ≤ 1 := fun x hx => by
  obtain ⟨j, _, rfl⟩ := List.mem_map.mp hx
  exact Int.toNat_le.mpr (val_bit hr cs j).2
theorem all6 {α : Type} {P : α → Prop} {a b c d e f : α} (h1 : P a) (h2 : P b) (h3 : P c) (h4 : P d) (h5 : P e) (h6 : P f) : ∀ x ∈ [a, b, c, d, e, f], P x := List.forall_mem_cons.mpr ⟨h1, all5 h2 h3 h4 h5 h6⟩
theorem all10 {α : Type} {P : α → Prop} {a b c d e f g h i j : α} (h1 : P a) (h2 : P b) (h3 : P c) (h4 : P d) (h5 : P e) (h6 : P f) (h7 : P g) (h8 : P h) (h9 : P i) (h0 : P j) : ∀ x ∈ [a, b, c, d, e, f, g, h, i, j], P x :=
  List.forall_mem_cons.mpr ⟨h1, List.forall_mem_cons.mpr ⟨h2, List.forall_mem_cons.mpr ⟨h3, List.forall_mem_cons.mpr ⟨h4, all6 h5 h6 h7 h8 h9 h0⟩⟩⟩⟩
/-- the names that stand throughout a lap -/
structure LpM (H nl g I : Addr) (ta tb tu : Tok) (i : Nat) (m : Loc) : Prop where
  h : m.lookup (Str.ofString "hearth") = some (.ref H)
  n : m.lookup (Str.ofString "netlist") = some (.ref nl)
  g : m.lookup (Str.ofString "g") = some (.ref g)
  a : m.lookup (Str.ofString "a") = some (.int 2 ta)
  b : m.lookup (Str.ofString "b") = some (.int 3 tb)
  ins : m.lookup (Str.ofString "ins") = some (.ref I)
  l : m.lookup (Str.ofString "lap") = some (.int (0 + (i : Int) * 1) tu)
/-- the network beside the coals, the inputs and the kinds -/
structure LpN (w : World) (ad : Ad) (H I D : Addr) (oI oD : Obj) (ms : List Nat) (ysI : List Value) (b : Nat) (S Sn : Led) (cs : List Cell) : Prop where
  y : Sy w ad Sn cs
  s : ∀ p ∈ Sn, p ∈ S
  fH : ∀ q ∈ Sn, q.1 ≠ H
  fI : ∀ q ∈ Sn, q.1 ≠ I
  fD : ∀ q ∈ Sn, q.1 ≠ D
  h : Hearth H S
  mI : (I, oI) ∈ S
  mD : (D, oD) ∈ S
  nt : Nts cs ms ysI
  le : cs.length ≤ b
theorem off3 {S : Led} {a b c : Addr × Obj} (h1 : ∀ q ∈ S, q.1 ≠ a.1) (h2 : ∀ q ∈ S, q.1 ≠ b.1) (h3 : ∀ q ∈ S, q.1 ≠ c.1) : Off [a, b, c] S := off_cons h1 (off_cons h2 (off_cons h3 off_nil))
theorem sub3 {S' : Led} {a b c : Addr × Obj} (h1 : a ∈ S') (h2 : b ∈ S') (h3 : c ∈ S') : ∀ p ∈ [a, b, c], p ∈ S' := List.forall_mem_cons.mpr ⟨h1, List.forall_mem_cons.mpr ⟨h2, List.forall_mem_cons.mpr ⟨h3, fun _ h => nomatch h⟩⟩⟩
-- Names taken ahead of the law: where tw.. is taken, the head lays no quick twin for that constant. It does without them; their equations are size alone.
theorem law.tw11389604556438737324 : True := trivial
theorem law.tw7502882825918989564 : True := trivial
theorem law.tw12591388735614255062 : True := trivial
theorem law.tw655683508416521606 : True := trivial
theorem law.tw15073361182767196955 : True := trivial
theorem law.tw6321372048290710024 : True := trivial
theorem law.tw540034365359038361 : True := trivial
theorem law.tw7687387591832383279 : True := trivial
theorem law.tw15550339962266270096 : True := trivial
theorem law.tw581630979248748536 : True := trivial
theorem law.tw15844911930040286848 : True := trivial
theorem law.tw17949503585129118513 : True := trivial
theorem law.tw12550460188215038233 : True := trivial
theorem law.tw6127945567794369761 : True := trivial
theorem law.tw2146406837688113226 : True := trivial
theorem law.tw445187652221266311 : True := trivial
theorem law.tw2428457723711304594 : True := trivial
theorem law.tw2194676819345254659 : True := trivial
theorem law.tw3875074332801123443 : True := trivial
theorem law.tw14708914154082527141 : True := trivial
theorem law.tw2197534260023057625 : True := trivial
theorem law.tw15041525498782234677 : True := trivial
theorem law.tw8231502817629432187 : True := trivial
theorem law.tw1009701086978419249 : True := trivial
theorem law.tw10426067975794604667 : True := trivial
theorem law.tw14848663850042179269 : True := trivial
theorem law.tw16658522673551069384 : True := trivial
theorem law.tw5330901876675591851 : True := trivial
theorem law.tw10662095047964012595 : True := trivial
theorem law.tw9937669407633546576 : True := trivial
theorem law.tw1686647556559472485 : True := trivial
theorem law.tw17985451953469339569 : True := trivial
theorem law.tw2070672184697497193 : True := trivial
theorem law.tw1981339053424895550 : True := trivial
theorem law.tw17180186633401351929 : True := trivial
theorem law.tw7238077460143993408 : True := trivial
theorem law.tw7702675244742591052 : True := trivial
theorem law.tw16121300976676042060 : True := trivial
theorem law.tw1173056557569260014 : True := trivial
theorem law.tw11935970676940699786 : True := trivial
theorem law.tw12409729927284601452 : True := trivial
set_option Elab.async true in
set_option maxRecDepth 100000 in
set_option maxHeartbeats 8000000 in
theorem law : PySem.Challenge.rw_pq0455_01.Holds := by
  w_on
  o_law
  o_head (kHook Mine.top.heap_1 [2, 3, 15, 17, 18, 20, 21, 29, 31, 32, 34, 35, 36, 38, 39, 41, 42, 43, 45, 46, 48, 49, 50, 52, 53, 55, 56, 57, 59, 60, 62, 63, 64, 66, 67, 69, 70, 71, 73, 74, 76, 77, 78, 80, 81, 83, 84, 85, 87, 88, 90, 91, 92, 93, 94, 95, 96, 99, 102, 103, 104, 106, 107, 109, 110, 111, 113, 114, 116, 117, 118, 120, 121, 123, 124, 125, 127, 128, 130, 131, 132, 134, 135, 137, 138, 146, 148, 149, 151, 152, 153, 155, 156, 158, 159, 160, 163, 164, 165, 167, 168, 170, 171, 172, 174, 175, 177, 178, 179, 180, 182, 183, 185, 186, 187, 188, 190, 191, 193, 194, 195, 197, 198, 200, 201, 202, 204, 205, 207, 208, 209, 210, 211, 212, 213, 216, 218, 219, 221, 222, 223, 225, 226, 228, 229, 230, 232, 233, 235, 236, 237, 239, 240, 242, 243, 244, 246, 247, 249, 250, 251, 253, 254, 256, 257, 258, 261, 262, 263, 265, 266, 268, 269, 270, 273, 274, 275, 278, 279, 280, 282, 283, 285, 286, 287, 290, 291] (fun _ => by kernel_rfl))
  case hw => w_witness2
  case hc =>
    k_go0
    (all_goals try k_fold)
    rename World => w
    rename (IntsAre _ _) => hI0
    rename (Fr _ _ _ _) => F0
    rename (News _ _ _ _) => N0
    rename (CellsAre _ _ _) => Y0
    rename (Below _ _ _ _) => B0
    rename (Top _ _ _ _ _ _) => T0
    rename (Frag.In _ _) => KX
    have h63 := le63 hI0 (by assumption)
    refine top_law (dn := 300) (un := 2000) [(Str.ofString "script", .ref _)] F0 N0 Y0 B0 KX ⟨_, _, T0⟩ rfl ?hd9 ?hu9 rfl rfl rfl rfl (by rfl) ?go9 ?end9
    case hd9 => decide
    case hu9 => decide
    case go9 =>
      rename (Heap.IsList _ _ _) => hL
      refine Go.assign (Ev.callK (Pu.glob rfl) (by rfl) (Evs.vl (Pu.var rfl rfl) (Evs.nil (Op.tell0 (fun h k _ => coals_tell (list_later hL k) hI0 h63) (fun r S1 _ _ ⟨H, e, hH⟩ => e ▸ ?_)))))
      refine Go.forS (Ev.callT (Pu.blt rfl (by boot_by_name) (by decide)) (Evs.it .int fun t1 => Evs.nil (Op.range1 fun r9 t4 t5 t6 l9 => ⟨2, _, _, fun i m1 S1 => m1.lookup (Str.ofString "hearth") = some (.ref H) ∧ Hearth H S1, itr_range (.head _) (by decide) (by decide), ⟨rfl, hH.mono fun p hp => .tail _ (List.mem_append_left _ hp)⟩, nofx, ?_, ?_⟩)))
      · rintro i u m1 S2 hi ⟨_, tu, rfl⟩ ⟨h1, hH⟩
        refine Go.assign (Ev.callK (Pu.glob rfl) (by rfl) (Evs.sr .str fun t2 => Evs.nil (Op.tell0 (fun h k _ => netlist_tell) (fun r S3 _ off ⟨nl, nd, il, ol, ca, u1, u2, u3, u4, u5, uc, v1, e, N⟩ => e ▸ ?_))))
        obtain ⟨hv, hk, hns, hl, hi2, hz⟩ := hH
        have hil : il ≠ H := off _ N.mi _ hl
        have hnd : nd ≠ H := off _ N.i.d _ hl
        refine Go.assign (Ev.callK (Pu.glob rfl) (by rfl) (Evs.vl (Pu.var rfl rfl) (Evs.nil (Op.tellA (fun h k _ => gates_tell (List.mem_append_left _ N.mc)) (fun r S4 _ ⟨g, gd, ma, oa, t3, t4, t5, mo, oo, e, G, lg, kp⟩ => e ▸ ?_)))))
        have I4 : InstS S4 nl 211 nd _ 5 := N.i.mono fun p hp => kp p (List.mem_append_left _ hp)
        refine Go.unpack (xs := [Str.ofString "a", Str.ofString "b"]) (Ev.meth (Pu.var rfl rfl) me_input I4 rfl (Evs.sr .str fun t6 => Evs.it .int fun t7 => Evs.nil (Op.tellA (fun h k _ => addin_tell I4 (kp _ (List.mem_append_left _ N.mi)) (ne_gt N.o1) (ne_gt (lt3 N.o1 N.o2)) (ne_lt N.o2)) (fun r S5 _ ⟨D, kD, ys, uc', e, mD, hy, I5, kp5⟩ => ⟨D, ys, e, .inl ⟨kD, mD⟩, hy.length.symm, ?_⟩))))
        obtain ⟨ta, tb, rfl⟩ := two_ints hy
        have l13 := lt3 N.o1 N.o2
        obtain ⟨Sn, hSn, sub, fH⟩ := net_start (H := H) I5 (kp5 _ (kp _ (List.mem_append_left _ N.mc)) (ne_gt (lt3 l13 N.o3)) (ne_gt N.o3)) (G.keep kp5 (lt3 l13 N.o3) N.o3) N.o1 (lt3 N.o2 N.o3) hnd (off _ N.i.i _ hl) (off _ N.mc _ hl) (lg _ (List.mem_append_right _ hl))
        have hl5 := kp5 _ (kp _ (List.mem_append_right _ hl)) hnd.symm hil.symm
        refine Go.weak (m' := [(Str.ofString "b", .int 3 tb), (Str.ofString "a", .int 2 ta), (Str.ofString "g", .ref g), (Str.ofString "netlist", .ref nl), (Str.ofString "hearth", .ref H), (Str.ofString "lap", .int (0 + (i : Int) * 1) tu)]) (S' := (H, listOf hv.toArray hk) :: Sn) (know_sub (all6 rfl rfl rfl rfl h1 rfl)) (List.forall_mem_cons.mpr ⟨hl5, sub⟩) ?_
        obtain ⟨d0, M0⟩ := id hSn
        refine Go.assign (Ev.list (Evs.it .int fun a0 => Evs.it .int fun a1 => Evs.vl (Pu.var rfl rfl) (Evs.vl (Pu.var rfl rfl) (Evs.cons rfl (Ev.meth (Pu.var rfl rfl) me_inv M0.mg.tail rfl (Evs.vl (Pu.var rfl rfl) (Evs.nil (Op.tell (pre := [(H, listOf hv.toArray hk)]) (S1 := Sn) (fun _ _ _ => inv_tell (a := 2) hSn (by decide) (by decide)) (fun p hp => List.mem_append_left Sn hp) (fun p hp => .tail _ hp) (fun _ => off_cons fH off_nil) ?_))))))))
        rintro _ Sa _ offa ⟨n1, tm1, c1, rfl, hSa, hG1, hm1, _⟩
        have hc1 : c1.length ≤ 1 := (hG1.len.2 : c1.length ≤ 0 + 1)
        obtain ⟨d1, M1⟩ := id hSa
        refine Evs.cons rfl (Ev.meth (Pu.var rfl rfl) me_inv M1.mg.tail rfl (Evs.vl (Pu.var rfl rfl) (Evs.nil (Op.tell (pre := [(H, listOf hv.toArray hk)]) (S1 := Sa) (fun _ _ _ => inv_tell (a := 3) hSa (Nat.lt_of_lt_of_le (by decide) (Nat.le_add_right 4 _)) (Nat.le_trans hc1 (by decide))) (fun p hp => List.mem_append_left Sa hp) (fun p hp => .tail _ hp) (fun _ => offa) ?_))))
        rintro _ Sb _ offb ⟨n2, tm2, c2, rfl, hSb, hG2, hm2, _⟩
        have hc2 : c2.length ≤ 2 := Nat.le_trans hG2.len.2 (Nat.succ_le_succ hc1)
        refine Evs.nil (Op.list fun A lA => ?_)
        have hch : Nts c2 [0, 1, 2, 3, n1, n2] [.int 0 a0, .int 1 a1, .int 2 ta, .int 3 tb, .int (n1 : Int) tm1, .int (n2 : Int) tm2] :=
          ⟨.cons _ _ (.cons _ _ (.cons _ _ (.cons _ _ (.cons _ _ (.cons _ _ .nil))))), all6 (lt4 (by decide)) (lt4 (by decide)) (lt4 (by decide)) (lt4 (by decide)) (Nat.lt_of_lt_of_le hm1 (Nat.add_le_add_left hG2.len.1 4)) hm2⟩
        have hAH : A ≠ H := ne_gt (lA _ (.head _))
        refine Go.assignComp (Ev.callT (Pu.blt rfl (by boot_by_name) (by decide)) (Evs.cons rfl (Ev.bin (Pu.i .int fun t8 => Ev.callK (Pu.glob rfl) (by rfl) (Evs.vl (Pu.var rfl rfl) (Evs.it .int fun t9 => Evs.nil (Op.coalK (H := H) ⟨hv, hk, hns, .tail _ (.head _), hi2, hz⟩ (by decide) fun n tn S6 hH6 kp6 hn => Op.eqs Op.add2 ?_)))))))
        rintro _ ⟨t10, rfl⟩
        have hn5 : n < 5 := Int.ofNat_lt.mp hn
        have hAb : ∀ q ∈ Sb, q.1 ≠ A := fun q hq => ne_lt (lA q (List.mem_append_right _ hq))
        have sub6 : ∀ p ∈ Sb, p ∈ S6 := fun p hp => kp6 p (.tail _ (.tail _ hp)) (offb.head p hp)
        refine Evs.nil (Op.range1 fun r8 t11 t12 t13 l8 => ⟨n + 1, _, _, fun j ys S7 => (∀ p ∈ Sb, p ∈ S7) ∧ (A, listOf _ 0) ∈ S7 ∧ Hearth H S7 ∧ ∃ ms, Nts c2 ms ys ∧ ms.length = j, itr_range (.head _) (range_up hn5).1 (range_up hn5).2, Nat.le_trans (Nat.succ_le_succ (Nat.le_of_lt hn5)) (by decide), ⟨fun p hp => .tail _ (sub6 p hp), .tail _ (kp6 _ (.head _) hAH), hH6.mono fun _ => .tail _, [], .nil, rfl⟩, nofx2, ?_, ?_⟩)
        · rintro j u ys S7 hj _ ⟨s7, mA, hH7, ms, hms, hml⟩
          refine Ev.sub (Pu.is (Pu.var rfl rfl) (Ev.callK (Pu.glob rfl) (by rfl) (Evs.vl (Pu.var rfl rfl) (Evs.it .int fun t14 => Evs.nil (Op.coalK hH7 (by decide) fun k tk S8 hH8 kp8 hk8 => Op.eqs (Op.itemN (.inl ⟨0, kp8 _ mA hAH⟩) hch.i (Int.ofNat_lt.mp hk8) (Nat.le_of_ble_eq_true rfl)) ?_)))))
          rintro _ ⟨x, ex, tx, rfl⟩
          exact ⟨fun p hp => kp8 p (s7 p hp) (offb.head p hp), kp8 _ mA hAH, hH8, ms ++ [x], hms.snoc (hch.b x (List.mem_of_getElem? ex)), by rw [List.length_append, hml]; rfl⟩
        rintro I kI ysI S7 ⟨s7, mA, hH7, ms, hms, hml⟩ _ _ hI7
        have hIb : ∀ q ∈ Sb, q.1 ≠ I := fun q hq => hI7 q (s7 q hq)
        have hm5 : ms.length ≤ 5 := hml ▸ hn5
        have hm1 : 1 ≤ ms.length := hml ▸ Nat.succ_le_succ (Nat.zero_le n)
        refine Go.forS (Ev.list (Evs.sr .str fun b0 => Evs.sr .str fun b1 => Evs.sr .str fun b2 => Evs.sr .str fun b3 => Evs.sr .str fun b4 => Evs.sr .str fun b5 => Evs.sr .str fun b6 => Evs.sr .str fun b7 => Evs.nil (Op.list fun D lD => ⟨_, _, _, fun j m1 S8 => LpM H nl g I ta tb tu i m1 ∧ ∃ Sn cs, LpN w ⟨g, gd, nl, nd, ca, ma, oa⟩ H I D (listOf ysI.toArray kI) (listOf (kinds8 b0 b1 b2 b3 b4 b5 b6 b7).toArray 0) ms ysI (2 + 12 * j) S8 Sn cs, itr_list (.head _), ⟨⟨rfl, rfl, rfl, rfl, rfl, rfl, rfl⟩, Sb, c2, hSb, fun p hp => .tail _ (.tail _ (s7 p hp)), offb.head, hIb, fun q hq => ne_lt (lD q (.tail _ (s7 q hq))), hH7.mono fun p hp => .tail _ (.tail _ hp), .tail _ (.head _), .head _, hms, hc2⟩, ?fx, ?turn8, ?done8⟩)))
        case fx =>
          rintro j m1 S8 ⟨_, Sn, cs, N8⟩ p hp
          rw [List.mem_singleton.mp hp]; exact N8.mD
        case done8 =>
          rintro m1 S8 ⟨L, Sn, cs, N8⟩
          obtain ⟨hv8, hk8, hns8, hl8, hi8, hz8⟩ := N8.h
          refine Go.ifE (Te.cmp (Ev.callK (Pu.glob rfl) (by rfl) (Evs.vl (Pu.var L.g rfl) (Evs.cons rfl (Ev.sub (Ev.list (Evs.sr .str fun k0 => Evs.sr .str fun k1 => Evs.sr .str fun k2 => Evs.nil (Op.list fun X lX => Pu.is (Pu.var L.l rfl) ?_))))))))
          obtain ⟨kd, tkd, ek, h8⟩ := kind3 hi (t0 := k0) (t1 := k1) (t2 := k2)
          refine Op.eqs (Op.base (Op.itemV .head (place_nn i) (Int.lt_of_le_of_lt (place_le hi) (by decide)) ek)) ?_
          rintro _ rfl
          refine Evs.vl (Pu.var L.ins rfl) (Evs.nil (Op.tell (pre := [(H, listOf hv8.toArray hk8), (I, listOf ysI.toArray kI), (D, listOf (kinds8 b0 b1 b2 b3 b4 b5 b6 b7).toArray 0)]) (S1 := Sn) (fun h _ hs => gate_tell N8.y (list_here hs (.tail _ N8.mI)) N8.fI N8.nt (Nat.le_trans (Nat.add_le_add N8.le (Nat.succ_le_succ (Nat.mul_le_mul_left 2 hm5))) (Nat.le_of_ble_eq_true rfl)) hm1) (sub3 (.tail _ hl8) (.tail _ N8.mI) (.tail _ N8.mD)) (fun p hp => .tail _ (N8.s p hp)) (fun _ => off3 N8.fH N8.fI N8.fD) ?_))
          rintro r S9 _ off9 ⟨_, hr⟩
          rw [hr h8]
          refine Pu.is .none (Op.eqs Op.isNotNone ?_)
          rintro _ rfl
          exact ⟨false, rfl, ite2 (fun e => by cases e) fun _ => Go.nil ⟨L.h, hv8, hk8, hns8, .head _, hi8, hz8⟩⟩
        case turn8 =>
          rintro j u m1 S8 hj hu ⟨L, Sn, cs, N8⟩
          obtain ⟨kd, tkd, rfl, h8⟩ := kind_of hu
          obtain ⟨hv8, hk8, hns8, hl8, hi8, hz8⟩ := N8.h
          have hj8 : j ≤ 8 := Nat.le_of_lt hj
          have hcs : cs.length ≤ 98 := Nat.le_trans N8.le (Nat.add_le_add_left (Nat.mul_le_mul_left 12 hj8) 2)
          refine Go.assign (Ev.callK (Pu.glob rfl) (by rfl) (Evs.vl (Pu.var L.g rfl) (Evs.vl (Pu.var rfl rfl) (Evs.vl (Pu.var L.ins rfl) (Evs.nil (Op.tell (pre := [(H, listOf hv8.toArray hk8), (I, listOf ysI.toArray kI), (D, listOf (kinds8 b0 b1 b2 b3 b4 b5 b6 b7).toArray 0)]) (S1 := Sn) (fun h _ hs => gate_tell N8.y (list_here hs N8.mI) N8.fI N8.nt (Nat.le_trans (Nat.add_le_add hcs (Nat.succ_le_succ (Nat.mul_le_mul_left 2 hm5))) (Nat.le_of_ble_eq_true rfl)) hm1) (sub3 hl8 N8.mI N8.mD) N8.s (fun _ => off3 N8.fH N8.fI N8.fD) ?_))))))
          rintro r S9 _ off9 ⟨hg8, _⟩
          obtain ⟨o, to, c3, rfl, hS3, hG3, ho3, hv3⟩ := hg8 h8
          have hc3 : c3.length ≤ 2 + 12 * (j + 1) := by
            have h := Nat.le_trans hG3.len.2 (Nat.add_le_add N8.le (Nat.add_le_add_right (Nat.mul_le_mul_left 2 hm5) 2))
            rw [Nat.add_assoc] at h
            exact h
          have hc4 : c3.length ≤ 110 := Nat.le_trans hc3 (Nat.add_le_add_left (Nat.mul_le_mul_left 12 (Nat.succ_le_succ hj8)) 2)
          have d1 : ∀ n, n < 4 + c3.length → n + 1 ≤ 300 := fun n h => Nat.le_trans (Nat.lt_of_lt_of_le h (Nat.add_le_add_left hc4 4)) (by decide)
          have d2 : ∀ n, n < 4 + c3.length → 3 * n + 3 ≤ 2000 := fun n h => Nat.le_trans (Nat.mul_le_mul_left 3 (Nat.lt_of_lt_of_le h (Nat.add_le_add_left hc4 4))) (by decide)
          refine Go.forS (Ev.callT (Pu.blt rfl (by boot_by_name) (by decide)) (Evs.it .int fun t15 => Evs.nil (Op.range1 fun r10 t16 t17 t18 l10 => ⟨4, _, _, fun x m2 S3 => LpM H nl g I ta tb tu i m2 ∧ m2.lookup (Str.ofString "told") = some (.int (o : Int) to) ∧ m2.lookup (Str.ofString "kind") = some (.str kd tkd) ∧ ∀ p ∈ [(H, listOf hv8.toArray hk8), (I, listOf ysI.toArray kI), (D, listOf (kinds8 b0 b1 b2 b3 b4 b5 b6 b7).toArray 0)] ++ S9, p ∈ S3,
            itr_range (.head _) (by decide) (by decide), ⟨⟨L.h, L.n, L.g, L.a, L.b, L.ins, L.l⟩, rfl, rfl, fun p hp => .tail _ hp⟩, nofx, ?_, ?_⟩)))
          · rintro r u m2 S3 hr ⟨_, tr, rfl⟩ ⟨L2, e1, e2, kp⟩
            refine Go.assign (Ev.dict (knd := PySem.intKind PR w) fun d od lt lo => Prs.cons (Pu.i .int fun q1 => Pu.i .int fun q2 => Prs.cons (Pu.i .int fun q3 => Pu.i .int fun q4 => Prs.cons (Pu.is (Pu.var L2.a rfl) (Pu.i (Pu.to (Pu.mod (Pu.var rfl ⟨_, rfl⟩) .int (by decide)) (mod_l hr)) fun q5 => Prs.cons (Pu.is (Pu.var L2.b rfl) (Pu.i (Pu.to (Pu.fdiv (Pu.var rfl ⟨_, rfl⟩) .int (by decide) (PyProof.noPylong_small (by decide))) (div_l hr)) fun q6 => Prs.nil ⟨_, _, rfl, fun p hp => ne_lt (lt p hp), carry_i (carry_i (carry_i (carry_i carry_i0))), fun o1 hd1 => ?_⟩)))))))
            have K := kn_ok (r := r) lo hd1
            refine Go.weak (m' := [(Str.ofString "known", .ref d), (Str.ofString "told", .int (o : Int) to), (Str.ofString "kind", .str kd tkd), (Str.ofString "hearth", .ref H), (Str.ofString "netlist", .ref nl), (Str.ofString "g", .ref g), (Str.ofString "a", .int 2 ta), (Str.ofString "b", .int 3 tb), (Str.ofString "ins", .ref I), (Str.ofString "lap", .int (0 + (i : Int) * 1) tu)]) (know_sub (all10 rfl e1 e2 L2.h L2.n L2.g L2.a L2.b L2.ins L2.l)) (fun _ h => h) ?_
            have kp2 : ∀ p ∈ [(H, listOf hv8.toArray hk8), (I, listOf ysI.toArray kI), (D, listOf (kinds8 b0 b1 b2 b3 b4 b5 b6 b7).toArray 0)] ++ S9, p ∈ (d, o1) :: S3 := fun p hp => .tail _ (kp p hp)
            have hSy : ∀ S', (∀ p ∈ (d, o1) :: S3, p ∈ S') → Sy w ⟨g, gd, nl, nd, ca, ma, oa⟩ S' c3 := fun S' hs => hS3.more fun p hp => hs p (kp2 p (List.mem_append_right _ hp))
            refine Go.ifE (Te.cmp (Ev.callK (Pu.glob rfl) (by rfl) (Evs.vl (Pu.var rfl rfl) (Evs.vl (Pu.var rfl rfl) (Evs.vl (Pu.var rfl rfl) (Evs.nil (Op.tellA (fun h _ _ => read_tell hr o (hSy _ fun _ h => h) (.head _) K ho3) ?_ (d1 o ho3) (d2 o ho3))))))))
            rintro _ S4 _ ⟨kp4, t19, rfl⟩
            refine Ev.callK (Pu.glob rfl) (by rfl) (Evs.vl (Pu.var rfl rfl) (Evs.cons rfl (Ev.comp (Pu.is (Pu.var rfl rfl) ⟨_, _, _, fun x ys S5 => (∀ p ∈ S4, p ∈ S5) ∧ IntsAre ys ((ms.take x).map (val r c3)), itr_list (kp4 _ (kp2 _ (.tail _ (.head _)))), ?_, ⟨fun _ h => h, .nil⟩, fun x ys l hJ p hp => (List.mem_singleton.mp hp) ▸ hJ.1 _ (kp4 _ (kp2 _ (.tail _ (.head _)))), ?_, ?_⟩))))
            · exact Nat.le_trans (Nat.le_of_eq N8.nt.len) (Nat.le_trans hm5 (by decide))
            · rintro x u ys S5 hx hu ⟨kp5, hys⟩
              obtain ⟨n', tn', rfl, hn'⟩ := ints_at N8.nt.i hu
              have hnb := Nat.lt_of_lt_of_le (N8.nt.b n' (List.mem_of_getElem? hn')) (Nat.add_le_add_left hG3.len.1 4)
              refine Ev.callK (Pu.glob rfl) (by rfl) (Evs.vl (Pu.var rfl rfl) (Evs.vl (Pu.var rfl rfl) (Evs.vl (Pu.var rfl rfl) (Evs.nil (Op.tellA (fun h _ _ => read_tell hr n' (hSy S5 fun p hp => kp5 p (kp4 p hp)) (kp5 _ (kp4 _ (.head _))) K hnb) ?_ (d1 n' hnb) (d2 n' hnb))))))
              rintro _ S6 _ ⟨kp6, t20, rfl⟩
              exact ⟨fun p hp => kp6 p (kp5 p hp), by rw [take_one hn', List.map_append]; exact ints_snocZ hys _ _⟩
            · rintro D2 k2 ys2 S5 ⟨kp5, hys⟩ _ _ _
              rw [N8.nt.len, List.take_length, ← bits_nat hr] at hys
              refine Evs.nil (Op.tell0 (fun h _ hs => lawgate_tell (list_here hs (.head _)) h8 hys (bits_le hr c3 ms) (by rw [List.length_map]; exact Nat.le_trans hm5 (by decide)) (by rw [List.length_map]; exact hm1)) (fun rr S6 _ _ ⟨t21, e⟩ => e ▸ ?_))
              have heq : gateV kd (natsI (ms.map (natV r c3))) = val r c3 o := by rw [bits_nat hr, grown_vals hG3 r N8.nt.b]; exact (hv3 r hr).symm
              rw [heq]
              refine Op.eqs (Cm.neI _ _ ⟨_, rfl⟩ ⟨_, rfl⟩) ?_
              rintro _ rfl
              refine ⟨_, rfl, ite2 (fun e => ?_) fun _ => Go.nil ⟨⟨rfl, rfl, rfl, rfl, rfl, rfl, rfl⟩, rfl, rfl, fun p hp => List.mem_append_right _ (.tail _ (kp5 p (kp4 p (kp2 p hp))))⟩⟩
              rw [bne_self_eq_false] at e; cases e
          · rintro m2 S3 ⟨L2, _, _, kp⟩
            exact Go.nil ⟨L2, S9, c3, hS3, fun p hp => kp p (List.mem_append_right _ hp), off9.head, off9.tail.head, off9.tail.tail.head, ⟨hv8, hk8, hns8, kp _ (.head _), hi8, hz8⟩, kp _ (.tail _ (.head _)), kp _ (.tail _ (.tail _ (.head _))), N8.nt.grow hG3, hc3⟩
      · rintro m1 S2 ⟨h1, hH⟩
        refine Go.assign (Ev.callK (Pu.glob rfl) (by rfl) (Evs.vl (Pu.var h1 rfl) (Evs.it .int fun t2 => Evs.nil (Op.tellA (fun h _ _ => grown_tell 3 hH) (fun r S3 _ ⟨x, q, e, gr, ex, ok, dep⟩ => e ▸ ?_)))))
        have exAt : ∀ h : Heap, (∀ p ∈ S3, h.get? p.1 = some p.2) → ExAt h x q := fun h hs => ex.mono fun a o m => hs _ m.1
        refine Go.ret (Ev.cmp (Ev.callK (Pu.glob rfl) (by rfl) (Evs.vl (Pu.var rfl rfl) (Evs.nil (Op.tell0 (fun h _ hs => canfloat_tell x dep ok h q (exAt h hs)) (fun r S4 _ _ e => ?_) ?u1 ?u2)))))
        case u1 => exact Nat.le_trans (Nat.add_le_add_right (Nat.mul_le_mul_left 2 dep) 2) (Nat.le_of_ble_eq_true rfl)
        case u2 => exact Nat.le_trans (Nat.add_le_add_right (Nat.mul_le_mul_left 6 dep) 6) (Nat.le_of_ble_eq_true rfl)
        refine Ev.callK (Pu.glob rfl) (by rfl) (Evs.vl (Pu.var rfl rfl) (Evs.nil (Op.tell0 (fun h _ hs => lawfloats_tell x dep ok h q (exAt h fun p hp => hs p (List.mem_append_right _ hp))) (fun r2 S5 _ _ e2 => ?_) (Nat.le_trans (Nat.add_le_add_right dep 2) (Nat.le_of_ble_eq_true rfl)) (Nat.le_trans (Nat.add_le_add_right (Nat.mul_le_mul_left 3 dep) 6) (Nat.le_of_ble_eq_true rfl)))))
        subst e e2
        refine Op.eqs (Cm.eqB _ _ rfl rfl) ?_
        rintro _ rfl
        show Value.bool _ = Value.bool true
        rw [fl_conv, beq_self_eq_true]
    case end9 => 
      intro mm h' tk' F'
      k_end
      wrow_close
end Mine
theorem PySem.Challenge.cw_pq0455_01_holds : PySem.Challenge.rw_pq0455_01.Holds := by
  exact Mine.law
