import PyProof.Rows.All
import Wide.All
import OpenK.AllK
import Wide.FinOn
import PySem.Challenge.RW_xm0018_01
open PySem PySem.W PySem.Calls PyProof.Rows
set_option Elab.async false
namespace Mine
set_option maxRecDepth 100000 in
set_option maxHeartbeats 8000000 in
open_top hd for PySem.Challenge.rw_xm0018_01

/-- What a call of the def at address f gives back, from any frame, upon any ledger. -/
abbrev Says (w : World) (mean : ExcName → Option Value) (mg mb : Str → Option Value) (k : Nat) (f : Addr) (news : List (Addr × Obj)) (pre : Prop) (vs : List Value) (R : Tok → Value) : Prop :=
  ∀ (dp un : Nat) (gd : Option (List Code)) (cn : Str) (cs : Scope) (a : Addr) (ccd : Value) (cl : List (Str × Addr)) (outer : List Env) (A₀ : Around) (base h₀ : Heap) (L : Addr) (m : Str → Option Value) (s : Shared) (Q E : Value → Shared → Prop),
    Below A₀ base outer h₀ → Fr h₀ L s.heap m → (Mine.hd.heap_39 w.params).In h₀ → News h₀ L s.heap news → Top Mine.hd.view_39 (looseW Mine.hd.view_39 [Str.ofString "BasicError"]) mean mg mb h₀ → cs.kind = .function →
    pre → dp + k < recursionLimit → un + 20 * k < cLine → CbRet h₀ L m news s Q R →
      wpAny (model PySem.Challenge.rw_xm0018_01.row.prog w) (ktrTop dp un gd cn cs L a ccd cl outer) (call (.ref f) vs) Q E s
theorem Says.use {w : World} {mean : ExcName → Option Value} {mg mb : Str → Option Value} {k : Nat} {f : Addr} {news : List (Addr × Obj)} {pre : Prop} {vs : List Value} {R : Tok → Value} (C : Says w mean mg mb k f news pre vs R)
    {dp un : Nat} {gd : Option (List Code)} {cn : Str} {cs : Scope} {a : Addr} {ccd : Value} {cl : List (Str × Addr)} {outer : List Env} {A₀ : Around} {base h₀ : Heap} {L : Addr} {m : Str → Option Value} {s : Shared} {Q E : Value → Shared → Prop}
    (hB : Below A₀ base outer h₀) (hF : Fr h₀ L s.heap m) (hX : (Mine.hd.heap_39 w.params).In h₀) (hN : News h₀ L s.heap news) (hT : Top Mine.hd.view_39 (looseW Mine.hd.view_39 [Str.ofString "BasicError"]) mean mg mb h₀) (hk : cs.kind = .function)
    (hp : pre) (hd : dp + k < recursionLimit) (hu : un + 20 * k < cLine) (hret : CbRet h₀ L m news s Q R) :
    wpAny (model PySem.Challenge.rw_xm0018_01.row.prog w) (ktrTop dp un gd cn cs L a ccd cl outer) (call (.ref f) vs) Q E s :=
  C _ _ _ _ _ _ _ _ _ _ _ _ _ _ _ _ _ hB hF hX hN hT hk hp hd hu hret
theorem pw_lo {bits : Int} (h0 : 20 ≤ bits) (h1 : bits ≤ 24) : (524288 : Int) ≤ 2 ^ (bits - 1).toNat := by
  have h : bits = 20 ∨ bits = 21 ∨ bits = 22 ∨ bits = 23 ∨ bits = 24 := by omega
  rcases h with h | h | h | h | h <;> subst h <;> decide

/-- Row n: 1, and then the row and twice it by XOR. -/
noncomputable def rowZ : Nat → Int
  | 0 => 1
  | n + 1 => Builtin.bitXor (rowZ n) (2 * rowZ n)
/-- Pascal's row n. -/
noncomputable def pasc : Nat → List Int
  | 0 => [1]
  | n + 1 => [1] ++ ((List.range n).map fun k => (pasc n).getD k 0 + (pasc n).getD (k + 1) 0) ++ [1]
/-- The product without carries after t turns: what is found, the one, the other. -/
noncomputable def wcS (i j : Nat) : Nat → Int × Int × Int
  | 0 => (0, rowZ i, rowZ j)
  | t + 1 => ((if Builtin.bitAnd (wcS i j t).2.1 1 = 1 then Builtin.bitXor (wcS i j t).1 (wcS i j t).2.2 else (wcS i j t).1), (wcS i j t).2.1 / 2, 2 * (wcS i j t).2.2)
abbrev wcNext (f o r : Int) : Int := if Builtin.bitAnd o 1 = 1 then Builtin.bitXor f r else f
noncomputable def wcOk (i j t : Nat) : Bool :=
  let s := wcS i j t
  decide (0 ≤ s.1) && decide (s.1 < 524288) && decide (0 ≤ s.2.1) && decide (s.2.1 < 524288) && decide (0 ≤ s.2.2) && decide (s.2.2 < 262144) &&
    (if s.2.1 / 2 = 0 then decide (wcNext s.1 s.2.1 s.2.2 = rowZ (i + j)) else decide (t + 1 ≤ i))
noncomputable def wcAll : Bool := (List.range 8).all fun i => (List.range (16 - i)).all fun j => (List.range (i + 1)).all fun t => wcOk i j t
theorem wcAll_true : wcAll = true := by decide +kernel
theorem wcOk_true {i j t : Nat} (hi : i ≤ 7) (hij : i + j ≤ 15) (ht : t ≤ i) : wcOk i j t = true := by
  have h := List.all_eq_true.mp wcAll_true i (List.mem_range.mpr (by omega))
  have h := List.all_eq_true.mp h j (List.mem_range.mpr (by omega))
  exact List.all_eq_true.mp h t (List.mem_range.mpr (by omega))
theorem wc_facts {i j t : Nat} {f o r : Int} (e : (f, o, r) = wcS i j t) (hi : i ≤ 7) (hij : i + j ≤ 15) (ht : t ≤ i) :
    (0 ≤ f ∧ f < 524288 ∧ 0 ≤ o ∧ o < 524288 ∧ 0 ≤ r ∧ r < 262144) ∧ (o / 2 = 0 → wcNext f o r = rowZ (i + j)) ∧ (¬ o / 2 = 0 → t + 1 ≤ i ∧ (wcNext f o r, o / 2, 2 * r) = wcS i j (t + 1)) := by
  have h := wcOk_true hi hij ht
  unfold wcOk at h
  rw [← e] at h
  simp only [Bool.and_eq_true, decide_eq_true_eq] at h
  obtain ⟨⟨⟨⟨⟨⟨h1, h2⟩, h3⟩, h4⟩, h5⟩, h6⟩, h7⟩ := h
  refine ⟨⟨h1, h2, h3, h4, h5, h6⟩, fun h0 => ?_, fun h0 => ?_⟩
  · rw [if_pos h0] at h7
    exact of_decide_eq_true h7
  · rw [if_neg h0] at h7
    refine ⟨of_decide_eq_true h7, ?_⟩
    show _ = ((if Builtin.bitAnd (wcS i j t).2.1 1 = 1 then Builtin.bitXor (wcS i j t).1 (wcS i j t).2.2 else (wcS i j t).1), (wcS i j t).2.1 / 2, 2 * (wcS i j t).2.2)
    rw [← e]
theorem wc_start {i j : Nat} (hi : i ≤ 7) (hij : i + j ≤ 15) : ((0 : Int), rowZ i, rowZ j) = wcS i j ([] : List Int).length ∧ ([] : List Int).length ≤ i ∧ (0 : Int) ≤ 0 ∧ (0 : Int) < 524288 ∧ 0 ≤ rowZ i ∧ rowZ i < 524288 ∧ 0 ≤ rowZ j ∧ rowZ j < 262144 :=
  have h := (wc_facts (t := 0) (f := 0) (o := rowZ i) (r := rowZ j) rfl hi hij (Nat.zero_le _)).1
  ⟨rfl, Nat.zero_le _, h⟩
theorem wc_next_all {i j t : Nat} (hi : i ≤ 7) (hij : i + j ≤ 15) {f o r : Int} (e : (f, o, r) = wcS i j t) (ht : t ≤ i) {p : Int × Int × Int} (h : t + 1 ≤ i) (hp : p = wcS i j (t + 1)) :
    p = wcS i j (t + 1) ∧ t + 1 ≤ i ∧ 0 ≤ p.1 ∧ p.1 < 524288 ∧ 0 ≤ p.2.1 ∧ p.2.1 < 524288 ∧ 0 ≤ p.2.2 ∧ p.2.2 < 262144 :=
  ⟨hp, h, (wc_facts (t := t + 1) (f := p.1) (o := p.2.1) (r := p.2.2) hp hi hij h).1⟩
theorem wc_turn1 {i j : Nat} (hi : i ≤ 7) (hij : i + j ≤ 15) {pre : List Int} {k : Int} {f o r : Int} (e : (f, o, r) = wcS i j pre.length) (ht : pre.length ≤ i) (hc : Builtin.bitAnd o 1 = 1) (h0 : o / 2 ≠ 0) :
    (Builtin.bitXor f r, o / 2, 2 * r) = wcS i j (pre ++ [k]).length ∧ (pre ++ [k]).length ≤ i ∧ 0 ≤ Builtin.bitXor f r ∧ Builtin.bitXor f r < 524288 ∧ 0 ≤ o / 2 ∧ o / 2 < 524288 ∧ 0 ≤ 2 * r ∧ 2 * r < 262144 := by
  obtain ⟨h1, h2⟩ := (wc_facts e hi hij ht).2.2 h0
  unfold wcNext at h2
  rw [if_pos hc] at h2
  rw [show (pre ++ [k]).length = pre.length + 1 from by simp]
  exact wc_next_all hi hij e ht h1 h2
theorem wc_turn2 {i j : Nat} (hi : i ≤ 7) (hij : i + j ≤ 15) {pre : List Int} {k : Int} {f o r : Int} (e : (f, o, r) = wcS i j pre.length) (ht : pre.length ≤ i) (hc : Builtin.bitAnd o 1 ≠ 1) (h0 : o / 2 ≠ 0) :
    (f, o / 2, 2 * r) = wcS i j (pre ++ [k]).length ∧ (pre ++ [k]).length ≤ i ∧ 0 ≤ f ∧ f < 524288 ∧ 0 ≤ o / 2 ∧ o / 2 < 524288 ∧ 0 ≤ 2 * r ∧ 2 * r < 262144 := by
  obtain ⟨h1, h2⟩ := (wc_facts e hi hij ht).2.2 h0
  unfold wcNext at h2
  rw [if_neg hc] at h2
  rw [show (pre ++ [k]).length = pre.length + 1 from by simp]
  exact wc_next_all hi hij e ht h1 h2
theorem wc_end1 {i j : Nat} (hi : i ≤ 7) (hij : i + j ≤ 15) {t : Nat} {f o r : Int} (e : (f, o, r) = wcS i j t) (ht : t ≤ i) (hc : Builtin.bitAnd o 1 = 1) (h0 : o / 2 = 0) : Builtin.bitXor f r = rowZ (i + j) := by
  have h := (wc_facts e hi hij ht).2.1 h0
  unfold wcNext at h
  rwa [if_pos hc] at h
theorem wc_end2 {i j : Nat} (hi : i ≤ 7) (hij : i + j ≤ 15) {t : Nat} {f o r : Int} (e : (f, o, r) = wcS i j t) (ht : t ≤ i) (hc : Builtin.bitAnd o 1 ≠ 1) (h0 : o / 2 = 0) : f = rowZ (i + j) := by
  have h := (wc_facts e hi hij ht).2.1 h0
  unfold wcNext at h
  rwa [if_neg hc] at h
theorem wc_none {i : Nat} (hi : i ≤ 7) {bits : Int} (hb : 20 ≤ bits) (h : (rangeKs 0 (bits - 0).toNat).length ≤ i) : False := by
  rw [rangeKs_length] at h
  omega
/-- The product of Fermat's numbers that the first t bits of n tell. -/
noncomputable def dueN (n : Nat) : Nat → Int
  | 0 => 1
  | t + 1 => if (Int.fdiv (n : Int) (2 ^ t)).fmod 2 = 1 then dueN n t * (2 ^ 2 ^ t + 1) else dueN n t
noncomputable def rowOk (n : Nat) : Bool :=
  decide (0 ≤ rowZ n) && decide (rowZ n < 262144) && decide ((pasc n).length = n + 1) && decide (dueN n 5 = rowZ n) &&
    ((List.range 6).all fun t => decide (1 ≤ dueN n t) && decide (dueN n t ≤ 262143)) &&
    ((List.range (n + 1)).all fun i => (decide (Builtin.bitAnd (rowZ n) (2 ^ i) ≠ 0) == decide (((pasc n).getD i 0).fmod 2 = 1)) && (decide (Builtin.bitAnd (rowZ n) (2 ^ i) ≠ 0) == decide (Builtin.bitAnd (i : Int) (n : Int) = (i : Int))))
noncomputable def rowAll : Bool := (List.range 18).all rowOk
theorem rowAll_true : rowAll = true := by decide +kernel
theorem rowOk_true {n : Nat} (hn : n ≤ 17) : rowOk n = true := List.all_eq_true.mp rowAll_true n (List.mem_range.mpr (by omega))
theorem row_facts {n : Nat} (hn : n ≤ 17) : 0 ≤ rowZ n ∧ rowZ n < 262144 ∧ (pasc n).length = n + 1 ∧ dueN n 5 = rowZ n := by
  have h := rowOk_true hn
  unfold rowOk at h
  simp only [Bool.and_eq_true, decide_eq_true_eq] at h
  exact ⟨h.1.1.1.1.1, h.1.1.1.1.2, h.1.1.1.2, h.1.1.2⟩
theorem due_facts {n t : Nat} (hn : n ≤ 17) (ht : t ≤ 5) : 1 ≤ dueN n t ∧ dueN n t ≤ 262143 := by
  have h := rowOk_true hn
  unfold rowOk at h
  simp only [Bool.and_eq_true, decide_eq_true_eq] at h
  have h := List.all_eq_true.mp h.1.2 t (List.mem_range.mpr (by omega))
  simpa only [Bool.and_eq_true, decide_eq_true_eq] using h
theorem cell_facts {n i : Nat} (hn : n ≤ 17) (hi : i ≤ n) : (Builtin.bitAnd (rowZ n) (2 ^ i) ≠ 0 ↔ ((pasc n).getD i 0).fmod 2 = 1) ∧ (Builtin.bitAnd (rowZ n) (2 ^ i) ≠ 0 ↔ Builtin.bitAnd (i : Int) (n : Int) = (i : Int)) := by
  have h := rowOk_true hn
  unfold rowOk at h
  simp only [Bool.and_eq_true, decide_eq_true_eq] at h
  have h := List.all_eq_true.mp h.2 i (List.mem_range.mpr (by omega))
  simp only [Bool.and_eq_true, beq_iff_eq, decide_eq_decide] at h
  exact h
theorem due_start (n : Nat) : (1 : Int) = dueN n ([] : List Int).length ∧ (1 : Int) ≤ 1 ∧ (1 : Int) ≤ 262143 := ⟨rfl, by decide, by decide⟩
theorem due_turn1 {n : Nat} (hn : n ≤ 16) {due k : Int} {pre : List Int} (hd : due = dueN n pre.length) (hk : k = 0 + (pre.length : Int)) (hl : pre.length < (5 - 0 : Int).toNat) (hc : (Int.fdiv (n : Int) (2 ^ k.toNat)).fmod 2 = 1) :
    due * (2 ^ ((2 : Int) ^ k.toNat).toNat + 1) = dueN n (pre ++ [k]).length ∧ 1 ≤ due * (2 ^ ((2 : Int) ^ k.toNat).toNat + 1) ∧ due * (2 ^ ((2 : Int) ^ k.toNat).toNat + 1) ≤ 262143 := by
  have hkn : k.toNat = pre.length := by omega
  have hl' : pre.length < 5 := by omega
  have e : due * (2 ^ ((2 : Int) ^ k.toNat).toNat + 1) = dueN n (pre.length + 1) := by
    rw [hkn] at hc ⊢
    rw [dueN, if_pos hc, hd]
    congr 2
  have hf := due_facts (n := n) (t := pre.length + 1) (Nat.le_succ_of_le hn) (by omega)
  rw [show (pre ++ [k]).length = pre.length + 1 from by simp, e]
  exact ⟨rfl, hf⟩
theorem due_turn2 {n : Nat} (hn : n ≤ 16) {due k : Int} {pre : List Int} (hd : due = dueN n pre.length) (hk : k = 0 + (pre.length : Int)) (hl : pre.length < (5 - 0 : Int).toNat) (hc : (Int.fdiv (n : Int) (2 ^ k.toNat)).fmod 2 ≠ 1) :
    due = dueN n (pre ++ [k]).length ∧ 1 ≤ due ∧ due ≤ 262143 := by
  have hkn : k.toNat = pre.length := by omega
  have hl' : pre.length < 5 := by omega
  have e : due = dueN n (pre.length + 1) := by
    rw [hkn] at hc
    rw [dueN, if_neg hc, hd]
  have hf := due_facts (n := n) (t := pre.length + 1) (Nat.le_succ_of_le hn) (by omega)
  rw [show (pre ++ [k]).length = pre.length + 1 from by simp, ← e]
  exact ⟨rfl, e ▸ hf⟩
theorem due_end {n : Nat} (hn : n ≤ 16) {due : Int} (h : due = dueN n (rangeKs 0 (5 - 0 : Int).toNat).length) : rowZ n = due := by
  rw [h, rangeKs_length]
  exact ((row_facts (Nat.le_succ_of_le hn)).2.2.2).symm

section
variable {prog : Program} {w : World} {A : Around} {E : Value → Shared → Prop} {s : Shared} {env : Env} {h₀ : Heap} {target : Expr} {body : List Stmt} {Q : Flow → Shared → Prop}
/-- A frame that differs from m at three names at most. -/
abbrev off3 (x y z : Str) (u m : Str → Option Value) : Str → Option Value := fun v => if v = x then u v else if v = y then u v else if v = z then u v else m v
theorem off3_eq {x y z : Str} {u m : Str → Option Value} (h : ∀ v, v ≠ x → v ≠ y → v ≠ z → u v = m v) : u = off3 x y z u m := by
  funext v
  unfold off3
  by_cases h1 : v = x
  · rw [if_pos h1]
  by_cases h2 : v = y
  · rw [if_neg h1, if_pos h2]
  by_cases h3 : v = z
  · rw [if_neg h1, if_neg h2, if_pos h3]
  rw [if_neg h1, if_neg h2, if_neg h3]
  exact h v h1 h2 h3
theorem enum_rest {x y z : Str} {l : Addr} {vs : List Value} {nn : Nat} {m₀ : Str → Option Value} {news : List (Addr × Obj)} {I : Addr} (hm : (l, listOf vs.toArray nn) ∈ news) (hI : ∀ p ∈ news, p.1 < I)
    (turn : ∀ (i : Nat) (v : Value) (T : Addr) (t : Tok) (u : Str → Option Value) (h : Heap) (tk : Nat) (oe oi : Obj), vs[i]? = some v → IsTup h T #[.int (i : Int) t, v] →
      Fr h₀ env.locals h (off3 x y z u m₀) → News h₀ env.locals h ((I + 1, oe) :: (I, oi) :: news) →
      wpAny (model prog w) A (assign target env (.ref T)) (fun _ s₂ => wpAny (model prog w) A (execs body env) (InvPost h₀ env.locals (fun m' => ∀ v, v ≠ x → v ≠ y → v ≠ z → m' v = m₀ v) ((I + 1, oe) :: (I, oi) :: news) { s with heap := h, toks := tk } Q) E s₂) E { s with heap := h, toks := tk })
    (done : ∀ (u : Str → Option Value) h tk, Fr h₀ env.locals h (off3 x y z u m₀) → News h₀ env.locals h news → Q .next { s with heap := h, toks := tk }) :
    ∀ (r : List Value) (i : Nat) (m : Str → Option Value), vs.drop i = r → (∀ v, v ≠ x → v ≠ y → v ≠ z → m v = m₀ v) →
      ItemsRest prog w A E h₀ env target body Q s [(I + 1, "enumerate"), (I, "list_iterator")] [(l, listOf vs.toArray nn)] (enumItems i r) m news
  | [], i, m, _, hmm => fun h tk F N => done m h tk (off3_eq hmm ▸ F) N
  | v :: r, i, m, hr, hmm => by
    intro u' h tk hv F
    obtain ⟨T, t, rfl, hT⟩ := hv
    have hvi : vs[i]? = some v := by
      have := List.getElem?_drop (xs := vs) (i := i) (j := 0)
      rw [hr] at this
      simpa using this.symm
    have hr' : vs.drop (i + 1) = r := by
      rw [← List.drop_drop, hr]
      rfl
    refine AllObj.cons (fun oe _ => AllObj.cons fun oi _ => AllObj.nil fun N => ?_)
    refine wpAny_mono (turn i v T t m h tk oe oi hvi hT (off3_eq hmm ▸ F) N) (fun _ s₂ h₂ => wpAny_mono h₂ (fun f s₃ p => ?_) fun _ _ e => e) fun _ _ e => e
    have fin : InvEnd h₀ env.locals (fun m' => ∀ v, v ≠ x → v ≠ y → v ≠ z → m' v = m₀ v) ((I + 1, oe) :: (I, oi) :: news) { s with heap := h, toks := tk } s₃ →
        UnrEndW h₀ env.locals { s with heap := h, toks := tk } [(I + 1, oe), (I, oi)] (fun m' n' => SubL [(l, listOf vs.toArray nn)] n' ∧ ItemsRest prog w A E h₀ env target body Q s [(I + 1, "enumerate"), (I, "list_iterator")] [(l, listOf vs.toArray nn)] (enumItems (i + 1) r) m' n') s₃ := by
      rintro ⟨h', tk', m', news', e, F', N', hn, hj⟩
      refine ⟨h', tk', m', news, e, F', fun p hp => N' p (hn p (by simpa using hp)), fun p hp q hq => ?_, And.intro hm trivial, enum_rest hm hI turn done r (i + 1) m' hr' hj⟩
      have hp' := hI p hp
      rcases List.mem_cons.mp hq with rfl | hq
      · exact Nat.ne_of_lt (Nat.lt_succ_of_lt hp')
      · rw [List.mem_singleton.mp hq]
        exact Nat.ne_of_lt hp'
    cases f with
    | ret v => exact p
    | brk => exact p
    | next => exact fin p
    | cont => exact fin p
theorem enum_loop {elts : List Expr} {k : Nat} {pos : Pos} {x y z : Str} {l : Addr} {vs : List Value} {nn : Nat} {m₀ : Str → Option Value} {news : List (Addr × Obj)}
    (hh : A.handled = none) (F : Fr h₀ env.locals s.heap m₀) (N : News h₀ env.locals s.heap news) (hm : (l, listOf vs.toArray nn) ∈ news)
    (turn : ∀ (I : Addr) (i : Nat) (v : Value) (T : Addr) (t : Tok) (u : Str → Option Value) (h : Heap) (tk : Nat) (oe oi : Obj), (∀ p ∈ news, p.1 < I) → vs[i]? = some v → IsTup h T #[.int (i : Int) t, v] →
      Fr h₀ env.locals h (off3 x y z u m₀) → News h₀ env.locals h ((I + 1, oe) :: (I, oi) :: news) →
      wpAny (model prog w) A (assign (.Tuple elts k pos) env (.ref T)) (fun _ s₂ => wpAny (model prog w) A (execs body env) (InvPost h₀ env.locals (fun m' => ∀ v, v ≠ x → v ≠ y → v ≠ z → m' v = m₀ v) ((I + 1, oe) :: (I, oi) :: news) { s with heap := h, toks := tk } Q) E s₂) E { s with heap := h, toks := tk })
    (done : ∀ (u : Str → Option Value) h tk, Fr h₀ env.locals h (off3 x y z u m₀) → News h₀ env.locals h news → Q .next { s with heap := h, toks := tk }) :
    wpAny (model prog w) A (call (.type "enumerate") [.ref l]) (fun xv s₁ => wpAny (model prog w) A (pyIter xv) (fun it s₂ => TurnsAt prog w A h₀ env (.Tuple elts k pos) body Q E it s₂) E s₁) E s :=
  ktu_enum (vs := vs) hh F N hm rfl rfl rfl fun I hI => enum_rest hm hI (fun i v T t u h tk oe oi => turn I i v T t u h tk oe oi hI) done vs 0 m₀ rfl (fun _ _ _ _ => rfl)
end

theorem row_cell {vs : List Value} {n i : Nat} {v : Value} (hi : IntsAre vs (pasc n)) (hn : n ≤ 16) (hv : vs[i]? = some v) :
    ∃ (c : Int) (t : Tok), v = .int c t ∧ i ≤ n ∧ (Builtin.bitAnd (rowZ n) (2 ^ i) ≠ 0 ↔ c.fmod 2 = 1) ∧ (Builtin.bitAnd (rowZ n) (2 ^ i) ≠ 0 ↔ Builtin.bitAnd (i : Int) (n : Int) = (i : Int)) ∧ (0 : Int) ≤ 2 ^ i ∧ (2 : Int) ^ i < 524288 ∧ (0 : Int) ≤ 2 ^ (i : Int).toNat ∧ (2 : Int) ^ (i : Int).toNat < 524288 := by
  have hlen := (row_facts (Nat.le_succ_of_le hn)).2.2.1
  have hil : i < vs.length := (List.getElem?_eq_some_iff.mp hv).1
  have hin : i < (pasc n).length := by rw [← hi.length]; exact hil
  obtain ⟨t, hx⟩ := hi.get i ((pasc n)[i]'hin) (List.getElem?_eq_getElem hin)
  have e : v = .int ((pasc n)[i]'hin) t := by rw [hx] at hv; exact (Option.some.inj hv).symm
  have hi' : i ≤ n := by omega
  have hf := cell_facts (Nat.le_succ_of_le hn) hi'
  have eg : (pasc n).getD i 0 = (pasc n)[i]'hin := by rw [List.getD_eq_getElem?_getD, List.getElem?_eq_getElem hin]; rfl
  rw [eg] at hf
  have hpp : ∀ k : Nat, k < 17 → (0 : Int) ≤ 2 ^ k ∧ (2 : Int) ^ k < 524288 := by decide
  have hp := hpp i (by omega)
  exact ⟨_, t, e, hi', hf.1, hf.2, hp.1, hp.2, by rw [Int.toNat_natCast]; exact hp.1, by rw [Int.toNat_natCast]; exact hp.2⟩
theorem rr_no {x : Int} {p : Prop} {b : Bool} (h : x ≠ 0 ↔ p) (e : b = true ↔ p) (hb : ((x != 0) != b) = true) : False := by
  by_cases hx : x = 0
  · have hp : ¬ p := fun q => h.mpr q hx
    have hbf : b = false := by
      cases b with
      | false => rfl
      | true => exact absurd (e.mp rfl) hp
    rw [hx, hbf] at hb
    exact absurd hb (by decide)
  · have hbt : b = true := e.mpr (h.mp hx)
    have hxt : (x != 0) = true := by simpa using hx
    rw [hxt, hbt] at hb
    exact absurd hb (by decide)
theorem rr_noA {n i : Nat} {c : Int} (h : Builtin.bitAnd (rowZ n) (2 ^ i) ≠ 0 ↔ c.fmod 2 = 1) (hb : ((Builtin.bitAnd (rowZ n) (2 ^ (i : Int).toNat) != 0) != (c.fmod 2 == 1)) = true) : False :=
  rr_no h (by simp) hb
theorem rr_noB {n i : Nat} (h : Builtin.bitAnd (rowZ n) (2 ^ i) ≠ 0 ↔ Builtin.bitAnd (i : Int) (n : Int) = (i : Int)) (hb : ((Builtin.bitAnd (rowZ n) (2 ^ (i : Int).toNat) != 0) != (Builtin.bitAnd (i : Int) (n : Int) == (i : Int))) = true) : False :=
  rr_no h (by simp) hb

theorem execs_cut_wp {M : Model} {Γ : Ctx} {env : Env} {Q' : Flow → Pos → Shared → Prop} {E' : Value → Pos → Shared → Prop} {ys : List Stmt} : ∀ (xs : List Stmt) (p : Pos) (s : Shared),
    Sem.wp M Γ (execs xs env) (fun f p' s' => f = .next ∧ Sem.wp M Γ (execs ys env) Q' E' p' s') E' p s → Sem.wp M Γ (execs (xs ++ ys) env) Q' E' p s
  | [], p, s, h => And.right (a := Flow.next = Flow.next) h
  | st :: xs, p, s, h => by
    rw [List.cons_append, execs_cons, Sem.wp_bind']
    rw [execs_cons, Sem.wp_bind'] at h
    refine Sem.wp_mono M Γ _ (fun f p' s' h' => ?_) (fun _ _ _ h' => h') _ _ h
    cases f with
    | next => exact execs_cut_wp xs p' s' h'
    | ret v => exact nomatch (And.left (b := Sem.wp M Γ (execs ys env) Q' E' p' s') h')
    | brk => exact nomatch (And.left (b := Sem.wp M Γ (execs ys env) Q' E' p' s') h')
    | cont => exact nomatch (And.left (b := Sem.wp M Γ (execs ys env) Q' E' p' s') h')
/-- A body cut in two: what holds behind the first part is all that the second may ask. -/
theorem execs_cut {M : Model} {A : Around} {env : Env} {Q : Flow → Shared → Prop} {E : Value → Shared → Prop} {s : Shared} {xs ys : List Stmt} (Mid : Shared → Prop)
    (h1 : wpAny M A (execs xs env) (fun f s' => f = .next ∧ Mid s') E s) (h2 : ∀ s', Mid s' → wpAny M A (execs ys env) Q E s') : wpAny M A (execs (xs ++ ys) env) Q E s := fun Γ p hΓ => by
  refine execs_cut_wp xs p s (Sem.wp_mono M Γ _ (fun f p' s' h' => ⟨h'.1, ?_⟩) (fun _ _ _ h' => h') _ _ (h1 Γ p hΓ))
  exact h2 s' h'.2 Γ p' hΓ

section
variable {M : Model} {A : Around} {env : Env} {Q : Flow → Shared → Prop} {E : Value → Shared → Prop} {s : Shared} {h₀ : Heap} {L c : Addr} {o : Obj} {m : Str → Option Value}
/-- What holds of the law's frame once bits and last are drawn. -/
def LawMid (h₀ : Heap) (L : Addr) (m : Str → Option Value) (c : Addr) (o : Obj) (s s' : Shared) : Prop :=
  ∃ (h' : Heap) (tk : Nat) (bits last : Int) (tb tl : Tok) (u : Str → Option Value), s' = { s with heap := h', toks := tk } ∧
    Fr h₀ L h' (fun y => if y = Str.ofString "bits" then some (.int bits tb) else if y = Str.ofString "last" then some (.int last tl) else if y = Str.ofString "bag" then u y else m y) ∧
    News h₀ L h' [(c, o)] ∧ 20 ≤ bits ∧ bits ≤ 24 ∧ 5 ≤ last ∧ last ≤ 16
theorem law_cut {xs ys : List Stmt} (hF : Fr h₀ L s.heap m) (hN : News h₀ L s.heap [(c, o)])
    (h1 : wpAny M A (execs xs env) (fun f s' => f = .next ∧ LawMid h₀ L m c o s s') E s)
    (h2 : ∀ (h' : Heap) (tk : Nat) (bits last : Int) (tb tl : Tok) (u : Str → Option Value), Fr h₀ L h' (fun y => if y = Str.ofString "bits" then some (.int bits tb) else if y = Str.ofString "last" then some (.int last tl) else if y = Str.ofString "bag" then u y else m y) →
      News h₀ L h' [(c, o)] → 20 ≤ bits → bits ≤ 24 → 5 ≤ last → last ≤ 16 → wpAny M A (execs ys env) Q E { s with heap := h', toks := tk }) : wpAny M A (execs (xs ++ ys) env) Q E s :=
  execs_cut (LawMid h₀ L m c o s) h1 fun s' h => by
    obtain ⟨h', tk, bits, last, tb, tl, u, rfl, F, N, a, b, c, d⟩ := h
    exact h2 h' tk bits last tb tl u F N a b c d
theorem lawmid {h' : Heap} {tk : Nat} {tb tl : Tok} {u : Str → Option Value} {x y : Int} {news' : List (Addr × Obj)}
    (F : Fr h₀ L h' (fun z => if z = Str.ofString "bits" then some (.int (20 + x.fmod 5) tb) else if z = Str.ofString "last" then some (.int (5 + y.fmod 12) tl) else if z = Str.ofString "bag" then u z else m z))
    (N : News h₀ L h' news') (hs : ∀ p ∈ [(c, o)], p ∈ news') : LawMid h₀ L m c o s { s with heap := h', toks := tk } := by
  have h1 := Int.fmod_nonneg_of_pos x (by decide : (0 : Int) < 5)
  have h2 := Int.fmod_lt_of_pos x (by decide : (0 : Int) < 5)
  have h3 := Int.fmod_nonneg_of_pos y (by decide : (0 : Int) < 12)
  have h4 := Int.fmod_lt_of_pos y (by decide : (0 : Int) < 12)
  exact ⟨h', tk, _, _, tb, tl, u, rfl, F, fun p hp => N p (hs p hp), by omega, by omega, by omega, by omega⟩
end

section
variable {prog : Program} {w : World} {A : Around} {E : Value → Shared → Prop} {s : Shared} {env : Env} {h₀ : Heap} {body : List Stmt} {Q : Flow → Shared → Prop} {L rl c : Addr} {m₀ : Str → Option Value}
/-- Ahead of turn i of the law's first loop: the rows so far, Pascal's row i under the cell, the row's number. -/
def RowsAt (rl c : Addr) (m₀ : Str → Option Value) (i : Nat) (m : Str → Option Value) (nx : List (Addr × Obj)) : Prop :=
  ∃ (o : Obj) (lc : Addr) (vs vr : List Value) (nn nr : Nat) (t : Tok), nx = [(rl, listOf vr.toArray nr), (lc, listOf vs.toArray nn), (c, o)] ∧ (@Ne Nat lc rl ∧ @Ne Nat lc c ∧ @Ne Nat rl c) ∧ o.data = .cell (some (.ref lc)) ∧
    IntsAre vs (pasc i) ∧ IntsAre vr ((List.range i).map rowZ) ∧ m (Str.ofString "row") = some (.int (rowZ i) t) ∧ ∀ z, z ≠ Str.ofString "number" → z ≠ Str.ofString "row" → m z = m₀ z
theorem rows_map {m : Str → Option Value} {v : Value} {x : Value} (hrow : m (Str.ofString "row") = some v) (hrest : ∀ z, z ≠ Str.ofString "number" → z ≠ Str.ofString "row" → m z = m₀ z) :
    (fun y => if y = Str.ofString "number" then some x else m y) = fun y => if y = Str.ofString "number" then some x else if y = Str.ofString "row" then some v else m₀ y := by
  funext y
  by_cases h1 : y = Str.ofString "number"
  · rw [if_pos h1, if_pos h1]
  · rw [if_neg h1, if_neg h1]
    by_cases h2 : y = Str.ofString "row"
    · rw [if_pos h2, h2, hrow]
    · rw [if_neg h2]
      exact hrest y h1 h2
theorem rows_map2 {m : Str → Option Value} {v : Value} (hrow : m (Str.ofString "row") = some v) (hrest : ∀ z, z ≠ Str.ofString "number" → z ≠ Str.ofString "row" → m z = m₀ z) :
    m = fun y => if y = Str.ofString "number" then m y else if y = Str.ofString "row" then some v else m₀ y := by
  funext y
  by_cases h1 : y = Str.ofString "number"
  · rw [if_pos h1]
  · rw [if_neg h1]
    by_cases h2 : y = Str.ofString "row"
    · rw [if_pos h2, h2, hrow]
    · rw [if_neg h2]
      exact hrest y h1 h2
set_option maxHeartbeats 3200000 in
theorem rows_loop {r : Addr} {last : Int} {t₀ u₀ v₀ t t1 : Tok} {lc₀ : Addr} {o₀ : Obj} {news : List (Addr × Obj)}
    (hh : A.handled = none) (hr : IsRange s.heap r 0 (last + 1) 1 t₀ u₀ v₀) (hl0 : 5 ≤ last) (hl1 : last ≤ 16) (F : Fr h₀ env.locals s.heap m₀) (N : News h₀ env.locals s.heap news)
    (hn : ∀ p ∈ [(rl, listOf #[] 0), (lc₀, listOf #[Value.int 1 t1] 0), (c, o₀)], p ∈ news) (hne : @Ne Nat lc₀ rl ∧ @Ne Nat lc₀ c ∧ @Ne Nat rl c) (hd : o₀.data = .cell (some (.ref lc₀))) (hrow : m₀ (Str.ofString "row") = some (.int 1 t))
    (turn : ∀ (i : Nat) (t' t : Tok) (o : Obj) (lc : Addr) (vs vr : List Value) (nn nr : Nat) (h : Heap) (tk : Nat) (own : List (Addr × Obj)), i ≤ 16 → @Ne Nat lc rl → @Ne Nat lc c → @Ne Nat rl c → o.data = .cell (some (.ref lc)) → IntsAre vs (pasc i) → IntsAre vr ((List.range i).map rowZ) → OwnOff own [rl, lc, c] → KstMark →
      Fr h₀ env.locals h (fun y => if y = Str.ofString "number" then some (.int (i : Int) t') else if y = Str.ofString "row" then some (.int (rowZ i) t) else m₀ y) →
      News h₀ env.locals h ((rl, listOf vr.toArray nr) :: (lc, listOf vs.toArray nn) :: (c, o) :: own) →
      wpAny (model prog w) A (execs body env) (InvPostG h₀ env.locals (RowsAt rl c m₀ (i + 1)) own { s with heap := h, toks := tk } Q) E { s with heap := h, toks := tk })
    (done : ∀ (t : Tok) (u : Str → Option Value) (o : Obj) (lc : Addr) (vs vr : List Value) (nn nr : Nat) (h : Heap) (tk : Nat), IntsAre vr ((List.range (last.toNat + 1)).map rowZ) →
      Fr h₀ env.locals h (fun y => if y = Str.ofString "number" then u y else if y = Str.ofString "row" then some (.int (rowZ (last.toNat + 1)) t) else m₀ y) →
      News h₀ env.locals h [(rl, listOf vr.toArray nr), (lc, listOf vs.toArray nn), (c, o)] → Q .next { s with heap := h, toks := tk }) :
    wpAny (model prog w) A (pyIter (.ref r)) (fun it s₂ => LoopAtV prog w A h₀ env (Str.ofString "number") body Q E it s₂) E s := by
  have hsmall : Builtin.Range.small 0 (last + 1) 1 = true := small_one (by omega) (by omega) (by omega) (by omega)
  refine wpAny_pyIter_range hr hsmall ?_
  have hsz : Builtin.Range.rangeSize 0 (last + 1) 1 = ((last.toNat + 1 : Nat) : Int) := by
    have h := rangeSize_nat 0 (last + 1)
    rw [h]
    omega
  have W : Walks prog w A s.heap.objs.size [s.heap.objs.size] [s.heap.objs.size] (last.toNat + 1) (fun i v => i < last.toNat + 1 ∧ ∃ t, v = .int (0 + i * 1) t)
      (fun i h => IsRangeIter h s.heap.objs.size (0 + (i : Nat) * 1) (((last.toNat + 1 : Nat) : Int) - (i : Nat)) 1) := (Walks.range hh _ 0 1 (last.toNat + 1)).bound
  refine kdr_loop (news := [(rl, listOf #[] 0), (lc₀, listOf #[Value.int 1 t1] 0), (c, o₀)]) (fun i m nx => RowsAt rl c m₀ i m nx) W (fun _ h => h) (fun _ h => h) ?_ ?_ ?_ ?_ (by show IsRangeIter _ _ _ _ _; rw [hsz]; simpa using Heap.get?_push_size _ rfl) (F.push _) (fun p hp => ⟨Heap.get?_push_of_some _ (N p (hn p hp)).1, (N p (hn p hp)).2⟩) ?_ ?_ ?_
  · intro i h hi b hb
    rw [List.mem_singleton.mp hb]
    exact ⟨_, hi⟩
  · intro hm
    exact absurd F.ns.lt ((List.mem_singleton.mp hm) ▸ Nat.lt_irrefl _)
  · intro b hb
    rw [List.mem_singleton.mp hb]
    exact next_is_new F
  · intro p hp hI
    exact absurd (Heap.lt_size (N p (hn p hp)).1) ((List.mem_singleton.mp hI) ▸ Nat.lt_irrefl _)
  · exact ⟨o₀, lc₀, [Value.int 1 t1], [], 0, 0, t, rfl, hne, hd, IntsAre.cons 1 t1 .nil, .nil, hrow, fun _ _ _ => rfl⟩
  · rintro i v m₁ nx h tk own hi ⟨_, t', rfl⟩ hoff ⟨o, lc, vs, vr, nn, nr, t, rfl, ⟨n1, n2, n3⟩, hd', hv, hvr, hrow', hrest⟩ F₁ N₁
    have e1 : (0 : Int) + (i : Int) * 1 = (i : Int) := by omega
    rw [e1, rows_map hrow' hrest] at F₁
    exact turn i t' t o lc vs vr nn nr h tk own (by omega) n1 n2 n3 hd' hv hvr hoff kstMark F₁ N₁
  · rintro m₁ nx h tk ⟨o, lc, vs, vr, nn, nr, t, rfl, _, _, _, hvr, hrow', hrest⟩ F₁ N₁
    rw [rows_map2 hrow' hrest] at F₁
    exact done t m₁ o lc vs vr nn nr h tk hvr F₁ N₁
/-- A turn's end. -/
theorem rows_turn {i : Nat} {own news' : List (Addr × Obj)} {o : Obj} {D lc₁ : Addr} {us vr : List Value} {nr : Nat} {t t1 t2 t' : Tok} {m' : Str → Option Value} {h' : Heap} {tk : Nat} (F : Fr h₀ L h' m') (N : News h₀ L h' news')
    (hmc : (c, o) ∈ news') (hd : o.data = .cell (some (.ref D))) (hmD : (D, listOf ([Value.int 1 t1] ++ us ++ [Value.int 1 t2]).toArray 0) ∈ news') (hmR : (rl, listOf (vr.toArray.push (Value.int (rowZ i) t)) nr) ∈ news')
    (ho : ∀ p ∈ own, p ∈ news') (hoff : OwnOff own [rl, lc₁, c]) (hlt : ∀ p ∈ own, p.1 ≠ D) (n1 : @Ne Nat D rl) (n2 : @Ne Nat D c) (n3 : @Ne Nat rl c)
    (hus : IntsAre us ((List.range i).map fun k => (pasc i).getD k 0 + (pasc i).getD (k + 1) 0)) (hvr : IntsAre vr ((List.range i).map rowZ)) (hrow : m' (Str.ofString "row") = some (.int (Builtin.bitXor (rowZ i) (2 * rowZ i)) t'))
    (hrest : ∀ z, z ≠ Str.ofString "number" → z ≠ Str.ofString "row" → m' z = m₀ z) :
    InvEndG h₀ L (RowsAt rl c m₀ (i + 1)) own s { s with heap := h', toks := tk } := by
  have hR : IntsAre (vr ++ [Value.int (rowZ i) t]) ((List.range (i + 1)).map rowZ) := by
    rw [List.range_succ, List.map_append]
    exact hvr.append (.cons _ _ .nil)
  have hP : IntsAre ([Value.int 1 t1] ++ us ++ [Value.int 1 t2]) (pasc (i + 1)) := by
    show IntsAre _ ([1] ++ ((List.range i).map fun k => (pasc i).getD k 0 + (pasc i).getD (k + 1) 0) ++ [1])
    exact ((IntsAre.cons 1 t1 .nil).append hus).append (.cons 1 t2 .nil)
  rw [List.push_toArray] at hmR
  refine InvEndG.intro (nx := [(rl, listOf (vr ++ [Value.int (rowZ i) t]).toArray nr), (D, listOf ([Value.int 1 t1] ++ us ++ [Value.int 1 t2]).toArray 0), (c, o)]) F N ⟨o, D, _, _, 0, nr, t', rfl, ⟨n1, n2, n3⟩, hd, hP, hR, hrow, hrest⟩ ?_ ?_ ho
  · intro p hp b hb
    rcases List.mem_cons.mp hb with rfl | hb
    · exact hoff p hp _ (.head _)
    rcases List.mem_cons.mp hb with rfl | hb
    · exact hlt p hp
    rcases List.mem_cons.mp hb with rfl | hb
    · exact hoff p hp _ (.tail _ (.tail _ (.head _)))
    · cases hb
  · intro p hp
    rcases List.mem_cons.mp hp with rfl | hp
    · exact hmR
    rcases List.mem_cons.mp hp with rfl | hp
    · exact hmD
    rw [List.mem_singleton.mp hp]
    exact hmc
end
theorem vr_len {vr : List Value} {i : Nat} (h : IntsAre vr ((List.range i).map rowZ)) : vr.length = i := by
  rw [h.length, List.length_map, List.length_range]
theorem vs_len {vs : List Value} {i : Nat} (hi : i ≤ 17) (h : IntsAre vs (pasc i)) : vs.length = i + 1 := by
  rw [h.length]
  exact (row_facts hi).2.2.1

section
variable {prog : Program} {w : World} {A : Around} {E : Value → Shared → Prop} {s : Shared} {env : Env}
/-- One element of the comprehension: two neighbours of the row above, added up. -/
theorem comp_elt {scope : Scope} {cl : List (Str × Addr)} {C c lc : Addr} {m : Str → Option Value} {i x y : Int} {t tx ty : Tok} {vs : List Value} {k0 : Nat} {p1 p2 p3 p4 p5 p6 p7 p8 p9 : Pos}
    (hk : (compEnvC scope cl C env).scope.kind = .function) (hat : (compEnvC scope cl C env).kindOf (Str.ofString "at") = some .local) (hcl : (compEnvC scope cl C env).kindOf (Str.ofString "cells") = some .cell) (hc : cl.lookup (Str.ofString "cells") = some c)
    (hn : s.heap.Ns C m) (hm : m (Str.ofString "at") = some (.int i t)) (hcell : s.heap.IsCell c (some (.ref lc))) (hl : s.heap.IsList lc vs.toArray) (i0 : 0 ≤ i) (hfit : i + 1 < 2 ^ 63)
    (hx : vs[i.toNat]? = some (.int x tx)) (hy : vs[(i + 1).toNat]? = some (.int y ty)) :
    wpAny (model prog w) A (eval (.BinOp (.Subscript (.Name (Str.ofString "cells") p1) (.Name (Str.ofString "at") p2) p3) .Add (.Subscript (.Name (Str.ofString "cells") p4) (.BinOp (.Name (Str.ofString "at") p5) .Add (.Constant (.int 1) k0 p6) p7) p8) p9) (compEnvC scope cl C env))
      (fun v s₄ => (∃ t', v = .int (x + y) t') ∧ Keeps s s₄) E s := by
  refine wpAny_BinOp (Subscript_ (wpAny_Name (wpAny_loadName_cell hk hcl hc hcell (wpAny_Name (wpAny_loadName_local hk hat hn hm ?_)))))
  refine tail_any hl.typeIs slot_list_getitem.lookup (wpAny_getItem_list hl i0 (by omega) (by simpa using hx) ?_) (by with_unfolding_all rfl)
  refine Subscript_ (wpAny_Name (wpAny_loadName_cell hk hcl hc hcell (wpAny_BinOp (wpAny_Name (wpAny_loadName_local hk hat hn hm (wpAny_Constant_int (add_int ?_)))))))
  refine tail_any (Heap.IsList.typeIs (s := { s with toks := s.toks + 1 + 1 }) hl) slot_list_getitem.lookup (wpAny_getItem_list (s := { s with toks := s.toks + 1 + 1 }) hl (by omega) hfit (by simpa using hy) ?_) (by with_unfolding_all rfl)
  exact add_int ⟨⟨_, rfl⟩, s.heap, _, rfl, fun _ _ h => h⟩
theorem comp_ints (g : Nat → Int) : ∀ (vs ys : List Value) (a : Nat), (∀ (j : Nat) (v : Value), vs[j]? = some v → ∃ t, v = Value.int ((a + j : Nat) : Int) t) →
    Paired (fun v y => ∃ (j : Nat) (t t' : Tok), v = Value.int (j : Int) t ∧ y = Value.int (g j) t') vs ys → IntsAre ys ((List.range' a vs.length).map g)
  | [], _, _, _, .nil => .nil
  | v :: vs, y :: ys, a, hv, .cons hf hp => by
    obtain ⟨j, t, t', rfl, rfl⟩ := hf
    obtain ⟨t2, e⟩ := hv 0 _ rfl
    have ej : j = a := by
      have e1 : (j : Int) = ((a + 0 : Nat) : Int) := by injection e
      omega
    subst ej
    rw [List.length_cons, List.range'_succ, List.map_cons]
    refine IntsAre.cons _ _ (comp_ints g vs ys (j + 1) (fun k u hu => ?_) hp)
    obtain ⟨t3, e3⟩ := hv (k + 1) u (by simpa using hu)
    exact ⟨t3, by rw [e3]; congr 1; omega⟩
/-- What is asked behind the comprehension. -/
def CompGo (Q : Value → Shared → Prop) (D : Addr) (s' : Shared) : Prop := Q (.ref D) s'
set_option maxHeartbeats 1600000 in
theorem comp_iter {scope : Scope} {cl : List (Str × Addr)} {ifs : List Expr} {elt : Expr} {h₀ : Heap} {L r c lc : Addr} {i : Nat} {t₀ u₀ v₀ : Tok} {m : Str → Option Value} {news : List (Addr × Obj)} {vs : List Value} {nn : Nat} {o : Obj} {Q : Value → Shared → Prop} {k0 : Nat} {p1 p2 p3 p4 p5 p6 p7 p8 p9 : Pos}
    (hh : A.handled = none) (hr : IsRange s.heap r 0 (i : Int) 1 t₀ u₀ v₀) (hi : i ≤ 16) (F : Fr h₀ L s.heap m) (N : News h₀ L s.heap news) (hd : o.data = .cell (some (.ref lc))) (hv : IntsAre vs (pasc i)) (hm : (lc, listOf vs.toArray nn) ∈ news) (hmc : (c, o) ∈ news)
    (he : elt = .BinOp (.Subscript (.Name (Str.ofString "cells") p1) (.Name (Str.ofString "at") p2) p3) .Add (.Subscript (.Name (Str.ofString "cells") p4) (.BinOp (.Name (Str.ofString "at") p5) .Add (.Constant (.int 1) k0 p6) p7) p8) p9) (hif : ifs = [])
    (hk : ∀ C, (compEnvC scope cl C env).scope.kind = .function) (hat : ∀ C, (compEnvC scope cl C env).kindOf (Str.ofString "at") = some .local) (hcl : ∀ C, (compEnvC scope cl C env).kindOf (Str.ofString "cells") = some .cell) (hc : cl.lookup (Str.ofString "cells") = some c)
    (hres : ∀ (D : Addr) (h' : Heap) (tk : Nat) (us : List Value) (n' : Nat), IntsAre us ((List.range i).map fun k => (pasc i).getD k 0 + (pasc i).getD (k + 1) 0) → Fr h₀ L h' m → News h₀ L h' ((D, listOf us.toArray n') :: news) → (∀ p ∈ news, @Ne Nat p.1 D) → Q (.ref D) { s with heap := h', toks := tk }) :
    wpAny (model prog w) A (pyIter (.ref r)) (fun it s₂ => ∃ I fp wr n P St, it = .ref I ∧ Walks prog w A I fp wr n P St ∧ n ≤ sizeLine ∧ St 0 s₂.heap ∧ (∀ b ∈ fp, b < s₂.heap.objs.size) ∧
      QuietOnC prog w A env scope cl (Str.ofString "at") ifs elt wr P (fun _ => true) (fun v y => ∃ (j : Nat) (t t' : Tok), v = Value.int (j : Int) t ∧ y = Value.int ((pasc i).getD j 0 + (pasc i).getD (j + 1) 0) t') s₂ ∧
      (∀ D h' tk ys (vs : List Value), s₂.heap.get? D = none → h'.IsList D ys → h'.PlainList D ys → vs.length = n → (∀ j v, vs[j]? = some v → P j v) → Paired (fun v y => ∃ (j : Nat) (t t' : Tok), v = Value.int (j : Int) t ∧ y = Value.int ((pasc i).getD j 0 + (pasc i).getD (j + 1) 0) t') (vs.filter fun _ => true) ys.toList →
        (∀ b o, b ∉ wr → s₂.heap.get? b = some o → h'.get? b = some o) → CompGo Q D { s₂ with heap := h', toks := tk })) E s := by
  subst he hif
  have hlen := (row_facts (Nat.le_succ_of_le hi)).2.2.1
  have hsmall : Builtin.Range.small 0 (i : Int) 1 = true := small_one (by omega) (by omega) (by omega) (by omega)
  refine wpAny_pyIter_range hr hsmall ?_
  have hsz : Builtin.Range.rangeSize 0 (i : Int) 1 = (i : Int) := by
    rw [rangeSize_nat]
    omega
  have W : Walks prog w A s.heap.objs.size [s.heap.objs.size] [s.heap.objs.size] i (fun j v => j < i ∧ ∃ t, v = .int (0 + j * 1) t)
      (fun j h => IsRangeIter h s.heap.objs.size (0 + (j : Nat) * 1) ((i : Int) - (j : Nat)) 1) := (Walks.range hh _ 0 1 i).bound
  refine ⟨_, _, _, i, _, _, rfl, W, by rw [sizeLine_eq]; omega, by show IsRangeIter _ _ _ _ _; rw [hsz]; simpa using Heap.get?_push_size _ rfl, ?_, ⟨?_, ?_⟩, ?_⟩
  · intro b hb
    rw [List.mem_singleton.mp hb, Heap.size_push]
    exact Nat.lt_succ_self _
  · intro C j v s₃ m₃ E' hC hP hn hm' hkeep htk
    exact wpAny_pure ⟨rfl, s₃.heap, s₃.toks, rfl, fun _ _ h => h⟩
  · intro C j v s₃ m₃ E' hC hP _ hn hm' hkeep htk
    obtain ⟨hj, t, rfl⟩ := hP
    have e0 : (0 : Int) + (j : Int) * 1 = (j : Int) := by omega
    rw [e0] at hm' ⊢
    have keep : ∀ b o, s.heap.get? b = some o → s₃.heap.get? b = some o := fun b o e => hkeep b o (fun hb => absurd (Heap.lt_size e) ((List.mem_singleton.mp hb) ▸ Nat.lt_irrefl _)) (Heap.get?_push_of_some _ e)
    have hcell : s₃.heap.IsCell c (some (.ref lc)) := ⟨o, keep _ _ (N _ hmc).1, hd⟩
    have hl : s₃.heap.IsList lc vs.toArray := ⟨_, keep _ _ (N _ hm).1, rfl, nn, rfl⟩
    have h1 : j < (pasc i).length := by omega
    have h2 : j + 1 < (pasc i).length := by omega
    obtain ⟨tx, hx⟩ := hv.get j ((pasc i)[j]'h1) (List.getElem?_eq_getElem h1)
    obtain ⟨ty, hy⟩ := hv.get (j + 1) ((pasc i)[j + 1]'h2) (List.getElem?_eq_getElem h2)
    have g1 : (pasc i).getD j 0 = (pasc i)[j]'h1 := by rw [List.getD_eq_getElem?_getD, List.getElem?_eq_getElem h1]; rfl
    have g2 : (pasc i).getD (j + 1) 0 = (pasc i)[j + 1]'h2 := by rw [List.getD_eq_getElem?_getD, List.getElem?_eq_getElem h2]; rfl
    refine wpAny_mono (comp_elt (hk C) (hat C) (hcl C) hc hn hm' hcell hl (i := (j : Int)) (by omega) (by omega) (by rw [Int.toNat_natCast]; exact hx) (by rw [show ((j : Int) + 1).toNat = j + 1 from by omega]; exact hy)) (fun y s₄ h => ?_) fun _ _ e => e
    obtain ⟨⟨t', rfl⟩, hkp⟩ := h
    exact ⟨⟨j, t, t', rfl, by rw [g1, g2]⟩, hkp⟩
  · intro D h' tk ys us hD hl hpl hlen' hP hF hkeep
    have keep : ∀ b o, s.heap.get? b = some o → h'.get? b = some o := fun b o e => hkeep b o (fun hb => absurd (Heap.lt_size e) ((List.mem_singleton.mp hb) ▸ Nat.lt_irrefl _)) (Heap.get?_push_of_some _ e)
    have hne : ∀ b o, s.heap.get? b = some o → b ≠ D := fun b o e q => by
      subst q
      exact nomatch (hD.symm.trans (Heap.get?_push_of_some _ e))
    obtain ⟨n', hp⟩ := hpl
    have hF' : Paired (fun v y => ∃ (j : Nat) (t t' : Tok), v = Value.int (j : Int) t ∧ y = Value.int ((pasc i).getD j 0 + (pasc i).getD (j + 1) 0) t') us ys.toList := by
      rw [List.filter_eq_self.mpr (fun _ _ => rfl)] at hF
      exact hF
    have hints := comp_ints _ us ys.toList 0 (fun j v hj => by
      obtain ⟨_, t, e⟩ := hP j v hj
      exact ⟨t, by rw [e, show (0 : Int) + (j : Int) * 1 = ((0 + j : Nat) : Int) from by omega]⟩) hF'
    rw [hlen', ← List.range_eq_range'] at hints
    refine hres D h' tk ys.toList n' hints (F.keeps keep) (fun p hp' => ?_) fun p hp' => hne _ _ (N p hp').1
    rcases List.mem_cons.mp hp' with rfl | hp'
    · refine ⟨by rw [hp], fun q => ?_, ?_⟩
      · obtain ⟨oL, _, _, hL, _⟩ := F.ns
        exact hne _ _ hL q.symm
      · cases e : h₀.get? D with
        | none => rfl
        | some o' => exact absurd rfl (hne _ _ (F.keep _ _ e))
    · exact ⟨keep _ _ (N p hp').1, (N p hp').2⟩
theorem comp_start {elt iter : Expr} {px : Pos} {ifs : List Expr} {scope : Scope} {cl : List (Str × Addr)} {pos : Pos} {Q : Value → Shared → Prop} {i : Nat} {vs : List Value} (hv : IntsAre vs (pasc i))
    (hclos : closureFor scope env = pure cl) (hcell : ∀ y ∈ scope.names, y.2 ≠ .cell) (hkind : scope.kind = .function)
    (hnames : ∀ y ∈ scope.names, y.2 = .local → scope.names.lookup y.1 = some .local) (hx : scope.names.lookup (Str.ofString "at") = some .local)
    (hs : ∀ x, foldedSetIterable iter env x = pure x)
    (h : wpAny (model prog w) A (eval iter env) (fun xv s₁ => wpAny (model prog w) A (pyIter xv) (fun it s₂ => ∃ I fp wr n P St, it = .ref I ∧ Walks prog w A I fp wr n P St ∧ n ≤ sizeLine ∧ St 0 s₂.heap ∧ (∀ b ∈ fp, b < s₂.heap.objs.size) ∧
      QuietOnC prog w A env scope cl (Str.ofString "at") ifs elt wr P (fun _ => true) (fun v y => ∃ (j : Nat) (t t' : Tok), v = Value.int (j : Int) t ∧ y = Value.int ((pasc i).getD j 0 + (pasc i).getD (j + 1) 0) t') s₂ ∧
      (∀ D h' tk ys (vs : List Value), s₂.heap.get? D = none → h'.IsList D ys → h'.PlainList D ys → vs.length = n → (∀ j v, vs[j]? = some v → P j v) → Paired (fun v y => ∃ (j : Nat) (t t' : Tok), v = Value.int (j : Int) t ∧ y = Value.int ((pasc i).getD j 0 + (pasc i).getD (j + 1) 0) t') (vs.filter fun _ => true) ys.toList →
        (∀ b o, b ∉ wr → s₂.heap.get? b = some o → h'.get? b = some o) → CompGo Q D { s₂ with heap := h', toks := tk })) E s₁) E s) :
    wpAny (model prog w) A (eval (.ListComp elt [⟨.Name (Str.ofString "at") px, iter, ifs, 0⟩] scope pos) env) Q E s :=
  wpAny_ListComp_free _ _ hclos hcell hkind hnames hx h hs
end

section
variable {prog : Program} {w : World} {A : Around} {E : Value → Shared → Prop} {s : Shared} {h₀ : Heap} {L : Addr} {m : Str → Option Value} {news : List (Addr × Obj)}
theorem add_made {l b : Addr} {vs ws : List Value} {n1 n2 : Nat} {Q : Value → Shared → Prop} (F : Fr h₀ L s.heap m) (N : News h₀ L s.heap news) (ha : (l, listOf vs.toArray n1) ∈ news) (hb : (b, listOf ws.toArray n2) ∈ news) (hsz : vs.length + ws.length ≤ 40)
    (h : ∀ (D : Addr) h', Fr h₀ L h' m → News h₀ L h' ((D, listOf (vs ++ ws).toArray 0) :: news) → (∀ p ∈ news, p.1 < D) → Q (.ref D) { s with heap := h' }) :
    wpAny (model prog w) A (binaryOp .Add (.ref l) (.ref b)) Q E s :=
  add_lists (hsz := by rw [sizeLine_eq]; omega) F N ⟨_, (N _ ha).1, rfl, _, rfl⟩ ⟨_, (N _ hb).1, rfl, _, rfl⟩ fun h' F' N' => h _ h' F' N' fun p hp => Heap.lt_size (N p hp).1
theorem us_len {us : List Value} {i : Nat} {g : Nat → Int} (h : IntsAre us ((List.range i).map g)) : us.length = i := by
  rw [h.length, List.length_map, List.length_range]
end

section
variable {prog : Program} {w : World} {A : Around} {E : Value → Shared → Prop} {s : Shared} {h₀ : Heap} {L : Addr} {news : List (Addr × Obj)}
/-- A row read out of the list of the rows. -/
theorem item_row {value slice : Expr} {rl : Addr} {vr : List Value} {nr n : Nat} {k : Int} {u : Tok} {Q : Value → Shared → Prop} (N : News h₀ L s.heap news) (hvr : IntsAre vr ((List.range n).map rowZ)) (hm : (rl, listOf vr.toArray nr) ∈ news) (h0 : 0 ≤ k) (h1 : k < (n : Int)) (h2 : n ≤ 40)
    (hs : subscripted slice false (.ref rl) (.int k u) = operate [.ref rl, .int k u] (getItem (.ref rl) (.int k u))) (h : ∀ t, Q (.int (rowZ k.toNat) t) s) : wpAny (model prog w) A (subscriptTail value slice (.ref rl) (.int k u)) Q E s := by
  have hk : k.toNat < ((List.range n).map rowZ).length := by
    rw [List.length_map, List.length_range]
    omega
  obtain ⟨t, hx⟩ := hvr.get k.toNat _ (List.getElem?_eq_getElem hk)
  have e : ((List.range n).map rowZ)[k.toNat]'hk = rowZ k.toNat := by simp
  rw [e] at hx
  have hl : s.heap.IsList rl vr.toArray := ⟨_, (N _ hm).1, rfl, nr, rfl⟩
  exact tail_any hl.typeIs slot_list_getitem.lookup (wpAny_getItem_list hl h0 (by omega) (by simpa using hx) (h t)) hs
end
noncomputable def pairOk (i j : Nat) : Bool :=
  decide (0 ≤ rowZ i * rowZ j) && decide (rowZ i * rowZ j < 524288) && (decide (rowZ i * rowZ j = rowZ (i + j)) == decide (Builtin.bitAnd (i : Int) (j : Int) = 0))
noncomputable def pairAll : Bool := (List.range 8).all fun i => (List.range (16 - i)).all fun j => pairOk i j
theorem pairAll_true : pairAll = true := by decide +kernel
theorem pairOk_true {i j : Nat} (hi : i ≤ 7) (hij : i + j ≤ 15) : pairOk i j = true := by
  have h := List.all_eq_true.mp pairAll_true i (List.mem_range.mpr (by omega))
  exact List.all_eq_true.mp h j (List.mem_range.mpr (by omega))
theorem mul_pre {i j : Nat} {bits : Int} (hi : i ≤ 7) (hij : i + j ≤ 15) (hb0 : 20 ≤ bits) (hb1 : bits ≤ 24) :
    0 ≤ rowZ i ∧ rowZ i < 524288 ∧ 0 ≤ rowZ j ∧ rowZ j < 524288 ∧ 0 ≤ rowZ i * rowZ j ∧ rowZ i * rowZ j < 524288 ∧ 20 ≤ bits ∧ bits ≤ 24 := by
  have h := pairOk_true hi hij
  unfold pairOk at h
  simp only [Bool.and_eq_true, decide_eq_true_eq] at h
  have h1 := row_facts (n := i) (by omega)
  have h2 := row_facts (n := j) (by omega)
  exact ⟨h1.1, by omega, h2.1, by omega, h.1.1, h.1.2, hb0, hb1⟩
theorem pair_no1 {last one : Int} (h : rowZ (one.toNat + (last - 1 - one).toNat) ≠ rowZ (last - 1).toNat) (h0 : 1 ≤ one) (h1 : one ≤ last - 1) : False :=
  h (congrArg rowZ (by omega))
theorem pair_no2 {last one : Int} (h : ((rowZ one.toNat * rowZ (last - 1 - one).toNat == rowZ (last - 1).toNat) != (Builtin.bitAnd one (last - 1 - one) == 0)) = true)
    (h0 : 1 ≤ one) (h1 : one ≤ 7) (h2 : one ≤ last - 1) (h3 : last ≤ 16) : False := by
  have hk := pairOk_true (i := one.toNat) (j := (last - 1 - one).toNat) (by omega) (by omega)
  unfold pairOk at hk
  simp only [Bool.and_eq_true, decide_eq_true_eq] at hk
  have e1 : one.toNat + (last - 1 - one).toNat = (last - 1).toNat := by omega
  have e2 : ((one.toNat : Nat) : Int) = one := by omega
  have e3 : (((last - 1 - one).toNat : Nat) : Int) = last - 1 - one := by omega
  rw [e1, e2, e3] at hk
  have hk := hk.2
  simp only [beq_iff_eq, decide_eq_decide] at hk
  by_cases hx : rowZ one.toNat * rowZ (last - 1 - one).toNat = rowZ (last - 1).toNat
  · rw [beq_iff_eq.mpr hx, beq_iff_eq.mpr (hk.mp hx)] at h
    exact absurd h (by decide)
  · have hy : ¬ Builtin.bitAnd one (last - 1 - one) = 0 := fun q => hx (hk.mpr q)
    rw [beq_eq_false_iff_ne.mpr hx, beq_eq_false_iff_ne.mpr hy] at h
    exact absurd h (by decide)

local macro_rules | `(tactic| walk_at "call ref") => `(tactic| k_extra "my call")
local macro_rules | `(tactic| walk_at "exec For Tuple Call cons nil") => `(tactic| k_extra "my for")
local macro_rules | `(tactic| walk_at "call type:enumerate") => `(tactic| k_extra "my enum")
local macro_rules | `(tactic| walk_at "InvEnd") => `(tactic| k_extra "my end")
local macro_rules | `(tactic| walk_at "InvPostN") => `(tactic| k_extra "my post")
local macro_rules | `(tactic| walk_at "InvEndG") => `(tactic| k_extra "my turn")
local macro_rules | `(tactic| walk_at "subscriptTail") => `(tactic| k_extra "my item")
local macro_rules | `(tactic| walk_at "eval ListComp") => `(tactic| k_extra "my comp")
local macro_rules | `(tactic| walk_at "binaryOp Add ref ref") => `(tactic| k_extra "my add")

set_option maxRecDepth 100000 in
set_option maxHeartbeats 8000000 in
theorem fits_c (w : World) (mean : ExcName → Option Value) (mg mb : Str → Option Value) (news : List (Addr × Obj)) (a : Int) (t1 : Tok) (bits : Int) (t2 : Tok) :
    Says w mean mg mb 3 72 news (0 ≤ a ∧ a < 524288 ∧ 20 ≤ bits ∧ bits ≤ 24)
      [.int a t1, .int bits t2] (fun t => .bool true) := by
  k_with_none
  unfold Says; k_fill
  intro dp un gd cn cs aa ccd cl outer A₀ base h₀ L m s Q E hB hF hX hN hT hk hpre hd hu hret
  obtain ⟨ha0, ha1, hbits0, hbits1⟩ := hpre
  have hpw := pw_lo hbits0 hbits1
  refine wpAny_call ?_
  k_dflt cell_enter
  k_steps
  all_goals first
    | (refine cb_retB hret ?_ ?_ ?_ <;> first | exact decide_eq_true (by omega) | k_asm)
    | cb_end hret

set_option maxRecDepth 100000 in
set_option maxHeartbeats 8000000 in
theorem whole_c (w : World) (mean : ExcName → Option Value) (mg mb : Str → Option Value) (news : List (Addr × Obj)) (a : Int) (t1 : Tok) (bits : Int) (t2 : Tok) :
    Says w mean mg mb 4 79 news (0 ≤ a ∧ a < 524288 ∧ 20 ≤ bits ∧ bits ≤ 24)
      [.int a t1, .int bits t2] (fun t => .int a t) := by
  k_with_none
  k_with "my call" => (k_here; k_dflt (refine' Says.use (fits_c _ _ _ _ _ _ _ _ _) ?k1 ?k2 ?k3 ?k4 ?k5 ?kK ?kp ?kd ?ku ?_; (case k1 => k_asm); (case k2 => k_asm); (case k3 => k_asm); (case k4 => k_asm); (case k5 => k_asm); (case kK => first | exact rfl | assumption); (case kp => omega); (case kd => ktr_room); (case ku => ktr_units); k_whole; intro t9 h9 tk9 F9 N9; (try dsimp only); (try k_fold)))
  unfold Says; k_fill
  intro dp un gd cn cs aa ccd cl outer A₀ base h₀ L m s Q E hB hF hX hN hT hk hpre hd hu hret
  obtain ⟨ha0, ha1, hbits0, hbits1⟩ := hpre
  refine wpAny_call ?_
  k_dflt cell_enter
  k_steps
  all_goals cb_end hret

set_option maxRecDepth 100000 in
set_option maxHeartbeats 8000000 in
theorem settled_c (w : World) (mean : ExcName → Option Value) (mg mb : Str → Option Value) (news : List (Addr × Obj)) (a : Int) (t1 : Tok) (bits : Int) (t2 t3 : Tok) :
    Says w mean mg mb 4 164 news (0 ≤ a ∧ a < 524288 ∧ 20 ≤ bits ∧ bits ≤ 24)
      [.int a t1, .int bits t2, .int 9 t3] (fun t => .int a t) := by
  k_with_none
  k_with "my call" => (k_here; k_dflt (refine' Says.use (fits_c _ _ _ _ _ _ _ _ _) ?k1 ?k2 ?k3 ?k4 ?k5 ?kK ?kp ?kd ?ku ?_; (case k1 => k_asm); (case k2 => k_asm); (case k3 => k_asm); (case k4 => k_asm); (case k5 => k_asm); (case kK => first | exact rfl | assumption); (case kp => omega); (case kd => ktr_room); (case ku => ktr_units); k_whole; intro t9 h9 tk9 F9 N9; (try dsimp only); (try k_fold)))
  unfold Says; k_fill
  intro dp un gd cn cs aa ccd cl outer A₀ base h₀ L m s Q E hB hF hX hN hT hk hpre hd hu hret
  obtain ⟨ha0, ha1, hbits0, hbits1⟩ := hpre
  refine wpAny_call ?_
  k_dflt cell_enter
  k_steps
  all_goals cb_end hret

set_option maxRecDepth 100000 in
set_option maxHeartbeats 8000000 in
theorem iswhole_c (w : World) (mean : ExcName → Option Value) (mg mb : Str → Option Value) (news : List (Addr × Obj)) (a : Int) (t1 : Tok) :
    Says w mean mg mb 3 157 news (True)
      [.int a t1] (fun t => .bool true) := by
  k_with_none
  unfold Says; k_fill
  intro dp un gd cn cs aa ccd cl outer A₀ base h₀ L m s Q E hB hF hX hN hT hk hpre hd hu hret
  obtain h9 := hpre
  refine wpAny_call ?_
  k_dflt cell_enter
  k_steps
  all_goals cb_end hret

set_option maxRecDepth 100000 in
set_option maxHeartbeats 8000000 in
theorem logic_and (w : World) (mean : ExcName → Option Value) (mg mb : Str → Option Value) (news : List (Addr × Obj)) (t0 : Tok) (a : Int) (t1 : Tok) (b : Int) (t2 : Tok) (bits : Int) (t3 : Tok) :
    Says w mean mg mb 5 220 news (0 ≤ a ∧ a < 524288 ∧ 0 ≤ b ∧ b < 524288 ∧ 20 ≤ bits ∧ bits ≤ 24)
      [.str (Str.ofString "AND") t0, .int a t1, .int b t2, .int bits t3] (fun t => .int (Builtin.bitAnd a b) t) := by
  k_with_none
  k_with "my call" => (k_here; k_dflt (refine' Says.use (whole_c _ _ _ _ _ _ _ _ _) ?k1 ?k2 ?k3 ?k4 ?k5 ?kK ?kp ?kd ?ku ?_; (case k1 => k_asm); (case k2 => k_asm); (case k3 => k_asm); (case k4 => k_asm); (case k5 => k_asm); (case kK => first | exact rfl | assumption); (case kp => omega); (case kd => ktr_room); (case ku => ktr_units); k_whole; intro t9 h9 tk9 F9 N9; (try dsimp only); (try k_fold)))
  unfold Says; k_fill
  intro dp un gd cn cs aa ccd cl outer A₀ base h₀ L m s Q E hB hF hX hN hT hk hpre hd hu hret
  obtain ⟨ha0, ha1, hb0, hb1, hbits0, hbits1⟩ := hpre
  refine wpAny_call ?_
  k_dflt cell_enter
  k_steps
  all_goals cb_end hret

set_option maxRecDepth 100000 in
set_option maxHeartbeats 8000000 in
theorem logic_xor (w : World) (mean : ExcName → Option Value) (mg mb : Str → Option Value) (news : List (Addr × Obj)) (t0 : Tok) (a : Int) (t1 : Tok) (b : Int) (t2 : Tok) (bits : Int) (t3 : Tok) :
    Says w mean mg mb 5 220 news (0 ≤ a ∧ a < 524288 ∧ 0 ≤ b ∧ b < 524288 ∧ 20 ≤ bits ∧ bits ≤ 24)
      [.str (Str.ofString "XOR") t0, .int a t1, .int b t2, .int bits t3] (fun t => .int (Builtin.bitXor a b) t) := by
  k_with_none
  k_with "my call" => (k_here; k_dflt (refine' Says.use (whole_c _ _ _ _ _ _ _ _ _) ?k1 ?k2 ?k3 ?k4 ?k5 ?kK ?kp ?kd ?ku ?_; (case k1 => k_asm); (case k2 => k_asm); (case k3 => k_asm); (case k4 => k_asm); (case k5 => k_asm); (case kK => first | exact rfl | assumption); (case kp => omega); (case kd => ktr_room); (case ku => ktr_units); k_whole; intro t9 h9 tk9 F9 N9; (try dsimp only); (try k_fold)))
  unfold Says; k_fill
  intro dp un gd cn cs aa ccd cl outer A₀ base h₀ L m s Q E hB hF hX hN hT hk hpre hd hu hret
  obtain ⟨ha0, ha1, hb0, hb1, hbits0, hbits1⟩ := hpre
  refine wpAny_call ?_
  k_dflt cell_enter
  k_steps
  all_goals cb_end hret

set_option maxRecDepth 100000 in
set_option maxHeartbeats 8000000 in
theorem reck_mul (w : World) (mean : ExcName → Option Value) (mg mb : Str → Option Value) (news : List (Addr × Obj)) (t0 : Tok) (a : Int) (t1 : Tok) (b : Int) (t2 : Tok) (bits : Int) (t3 : Tok) (t4 : Tok) :
    Says w mean mg mb 10 213 news (0 ≤ a ∧ a < 524288 ∧ 0 ≤ b ∧ b < 524288 ∧ 0 ≤ a * b ∧ a * b < 524288 ∧ 20 ≤ bits ∧ bits ≤ 24)
      [.str (Str.ofString "*") t0, .int a t1, .int b t2, .int bits t3, .int 9 t4] (fun t => .int (a * b) t) := by
  k_with_none
  k_with "my call" => (k_here; refine wpAny_call ?_; k_dflt cell_enter)
  k_with "my call" => (k_here; k_dflt (refine' Says.use (iswhole_c _ _ _ _ _ _ _) ?k1 ?k2 ?k3 ?k4 ?k5 ?kK ?kp ?kd ?ku ?_; (case k1 => k_asm); (case k2 => k_asm); (case k3 => k_asm); (case k4 => k_asm); (case k5 => k_asm); (case kK => first | exact rfl | assumption); (case kp => trivial); (case kd => ktr_room); (case ku => ktr_units); k_whole; intro t9 h9 tk9 F9 N9; (try dsimp only); (try k_fold)))
  k_with "my call" => (k_here; k_dflt (refine' Says.use (settled_c _ _ _ _ _ _ _ _ _ _) ?k1 ?k2 ?k3 ?k4 ?k5 ?kK ?kp ?kd ?ku ?_; (case k1 => k_asm); (case k2 => k_asm); (case k3 => k_asm); (case k4 => k_asm); (case k5 => k_asm); (case kK => first | exact rfl | assumption); (case kp => omega); (case kd => ktr_room); (case ku => ktr_units); k_whole; intro t9 h9 tk9 F9 N9; (try dsimp only); (try k_fold)))
  unfold Says; k_fill
  intro dp un gd cn cs aa ccd cl outer A₀ base h₀ L m s Q E hB hF hX hN hT hk hpre hd hu hret
  obtain ⟨ha0, ha1, hb0, hb1, hab0, hab1, hbits0, hbits1⟩ := hpre
  have hkf : ScopeKind.function = ScopeKind.function := rfl
  refine wpAny_call ?_
  k_dflt cell_enter
  k_steps
  all_goals cb_end hret

theorem cut_half {a : Int} (h : 0 ≤ a) : Int.fdiv (if a < 0 then -a else a) (if (2 : Int) < 0 then -2 else 2) = a / 2 := by
  rw [if_neg (by omega), if_neg (by decide), Int.fdiv_eq_ediv_of_nonneg _ (by decide)]
theorem cut_sign {a : Int} (h : 0 ≤ a) : ¬ (decide (a < 0) == decide ((2 : Int) < 0)) = false := by
  have e : decide (a < 0) = false := decide_eq_false (by omega)
  rw [e]
  decide
set_option maxRecDepth 100000 in
set_option maxHeartbeats 8000000 in
theorem cut_two (w : World) (mean : ExcName → Option Value) (mg mb : Str → Option Value) (news : List (Addr × Obj)) (a : Int) (t1 : Tok) (t2 : Tok) :
    Says w mean mg mb 5 178 news (0 ≤ a ∧ a < 524288)
      [.int a t1, .int 2 t2] (fun t => .int (a / 2) t) := by
  k_with_none
  unfold Says; k_fill
  intro dp un gd cn cs aa ccd cl outer A₀ base h₀ L m s Q E hB hF hX hN hT hk hpre hd hu hret
  obtain ⟨ha0, ha1⟩ := hpre
  refine wpAny_call ?_
  k_dflt cell_enter
  k_steps
  all_goals first
    | exact absurd (by assumption) (cut_sign ha0)
    | (rw [cut_half ha0]; cb_end hret)

set_option maxRecDepth 100000 in
set_option maxHeartbeats 8000000 in
theorem reck_div (w : World) (mean : ExcName → Option Value) (mg mb : Str → Option Value) (news : List (Addr × Obj)) (t0 : Tok) (a : Int) (t1 : Tok) (t2 : Tok) (bits : Int) (t3 : Tok) (t4 : Tok) :
    Says w mean mg mb 10 213 news (0 ≤ a ∧ a < 524288 ∧ 20 ≤ bits ∧ bits ≤ 24)
      [.str (Str.ofString "\\") t0, .int a t1, .int 2 t2, .int bits t3, .int 9 t4] (fun t => .int (a / 2) t) := by
  k_with_none
  k_with "my call" => (k_here; k_dflt (refine' Says.use (iswhole_c _ _ _ _ _ _ _) ?k1 ?k2 ?k3 ?k4 ?k5 ?kK ?kp ?kd ?ku ?_; (case k1 => k_asm); (case k2 => k_asm); (case k3 => k_asm); (case k4 => k_asm); (case k5 => k_asm); (case kK => first | exact rfl | assumption); (case kp => trivial); (case kd => ktr_room); (case ku => ktr_units); k_whole; intro t9 h9 tk9 F9 N9; (try dsimp only); (try k_fold)))
  k_with "my call" => (k_here; k_dflt (refine' Says.use (whole_c _ _ _ _ _ _ _ _ _) ?k1 ?k2 ?k3 ?k4 ?k5 ?kK ?kp ?kd ?ku ?_; (case k1 => k_asm); (case k2 => k_asm); (case k3 => k_asm); (case k4 => k_asm); (case k5 => k_asm); (case kK => first | exact rfl | assumption); (case kp => omega); (case kd => ktr_room); (case ku => ktr_units); k_whole; intro t9 h9 tk9 F9 N9; (try dsimp only); (try k_fold)))
  k_with "my call" => (k_here; k_dflt (refine' Says.use (settled_c _ _ _ _ _ _ _ _ _ _) ?k1 ?k2 ?k3 ?k4 ?k5 ?kK ?kp ?kd ?ku ?_; (case k1 => k_asm); (case k2 => k_asm); (case k3 => k_asm); (case k4 => k_asm); (case k5 => k_asm); (case kK => first | exact rfl | assumption); (case kp => omega); (case kd => ktr_room); (case ku => ktr_units); k_whole; intro t9 h9 tk9 F9 N9; (try dsimp only); (try k_fold)))
  k_with "my call" => (k_here; k_dflt (refine' Says.use (cut_two _ _ _ _ _ _ _ _) ?k1 ?k2 ?k3 ?k4 ?k5 ?kK ?kp ?kd ?ku ?_; (case k1 => k_asm); (case k2 => k_asm); (case k3 => k_asm); (case k4 => k_asm); (case k5 => k_asm); (case kK => first | exact rfl | assumption); (case kp => omega); (case kd => ktr_room); (case ku => ktr_units); k_whole; intro t9 h9 tk9 F9 N9; (try dsimp only); (try k_fold)))
  unfold Says; k_fill
  intro dp un gd cn cs aa ccd cl outer A₀ base h₀ L m s Q E hB hF hX hN hT hk hpre hd hu hret
  obtain ⟨ha0, ha1, hbits0, hbits1⟩ := hpre
  refine wpAny_call ?_
  k_dflt cell_enter
  k_steps
  all_goals cb_end hret

set_option maxRecDepth 100000 in
set_option maxHeartbeats 8000000 in
theorem conv_c (w : World) (mean : ExcName → Option Value) (mg mb : Str → Option Value) (news : List (Addr × Obj)) (i j : Nat) (one other : Int) (t0 : Tok) (t1 : Tok) (bits : Int) (t2 : Tok) :
    Says w mean mg mb 15 241 news (one = rowZ i ∧ other = rowZ j ∧ i ≤ 7 ∧ i + j ≤ 15 ∧ 20 ≤ bits ∧ bits ≤ 24)
      [.int one t0, .int other t1, .int bits t2] (fun t => .int (rowZ (i + j)) t) := by
  k_with_none
  k_with "my call" => (k_here; k_dflt (refine' Says.use (logic_and _ _ _ _ _ _ _ _ _ _ _ _) ?k1 ?k2 ?k3 ?k4 ?k5 ?kK ?kp ?kd ?ku ?_; (case k1 => k_asm); (case k2 => k_asm); (case k3 => k_asm); (case k4 => k_asm); (case k5 => k_asm); (case kK => first | exact rfl | assumption); (case kp => omega); (case kd => ktr_room); (case ku => ktr_units); k_whole; intro t9 h9 tk9 F9 N9; (try dsimp only); (try k_fold)))
  k_with "my call" => (k_here; k_dflt (refine' Says.use (logic_xor _ _ _ _ _ _ _ _ _ _ _ _) ?k1 ?k2 ?k3 ?k4 ?k5 ?kK ?kp ?kd ?ku ?_; (case k1 => k_asm); (case k2 => k_asm); (case k3 => k_asm); (case k4 => k_asm); (case k5 => k_asm); (case kK => first | exact rfl | assumption); (case kp => omega); (case kd => ktr_room); (case ku => ktr_units); k_whole; intro t9 h9 tk9 F9 N9; (try dsimp only); (try k_fold)))
  k_with "my call" => (k_here; k_dflt (refine' Says.use (reck_mul _ _ _ _ _ _ _ _ _ _ _ _ _) ?k1 ?k2 ?k3 ?k4 ?k5 ?kK ?kp ?kd ?ku ?_; (case k1 => k_asm); (case k2 => k_asm); (case k3 => k_asm); (case k4 => k_asm); (case k5 => k_asm); (case kK => first | exact rfl | assumption); (case kp => omega); (case kd => ktr_room); (case ku => ktr_units); k_whole; intro t9 h9 tk9 F9 N9; (try dsimp only); (try k_fold)))
  k_with "my call" => (k_here; k_dflt (refine' Says.use (reck_div _ _ _ _ _ _ _ _ _ _ _ _) ?k1 ?k2 ?k3 ?k4 ?k5 ?kK ?kp ?kd ?ku ?_; (case k1 => k_asm); (case k2 => k_asm); (case k3 => k_asm); (case k4 => k_asm); (case k5 => k_asm); (case kK => first | exact rfl | assumption); (case kp => omega); (case kd => ktr_room); (case ku => ktr_units); k_whole; intro t9 h9 tk9 F9 N9; (try dsimp only); (try k_fold)))
  k_with "pyIter ref" => k_state (fun pre f o r => (f, o, r) = wcS i j pre.length ∧ pre.length ≤ i ∧ 0 ≤ f ∧ f < 524288 ∧ 0 ≤ o ∧ o < 524288 ∧ 0 ≤ r ∧ r < 262144) "found" "one" "other"
  k_with "state" => first | exact wc_start hi hij | exact wc_turn1 hi hij (by assumption) (by assumption) (by assumption) (by assumption) | exact wc_turn2 hi hij (by assumption) (by assumption) (by assumption) (by assumption)
  unfold Says; k_fill
  intro dp un gd cn cs aa ccd cl outer A₀ base h₀ L m s Q E hB hF hX hN hT hk hpre hd hu hret
  obtain ⟨rfl, rfl, hi, hij, hbits0, hbits1⟩ := hpre
  refine wpAny_call ?_
  k_dflt cell_enter
  k_steps
  all_goals first
    | exact (wc_none hi hbits0 (by assumption)).elim
    | (have e9 := wc_end1 hi hij (by assumption) (by assumption) (by assumption) (by assumption); rw [e9]; cb_end hret)
    | (have e9 := wc_end2 hi hij (by assumption) (by assumption) (by assumption) (by assumption); rw [e9]; cb_end hret)

set_option maxRecDepth 100000 in
set_option maxHeartbeats 8000000 in
theorem row_right (w : World) (mean : ExcName → Option Value) (mg mb : Str → Option Value) (news : List (Addr × Obj)) (n : Nat) (row number : Int) (t0 t1 : Tok) (l : Addr) (vs : List Value) (nn : Nat) (bits : Int) (t2 : Tok) :
    Says w mean mg mb 15 234 news (row = rowZ n ∧ number = (n : Int) ∧ n ≤ 16 ∧ (l, listOf vs.toArray nn) ∈ news ∧ IntsAre vs (pasc n) ∧ 20 ≤ bits ∧ bits ≤ 24)
      [.int row t0, .int number t1, .ref l, .int bits t2] (fun t => .bool true) := by
  k_with_none
  k_with "my call" => (k_here; k_dflt (refine' Says.use (logic_and _ _ _ _ _ _ _ _ _ _ _ _) ?k1 ?k2 ?k3 ?k4 ?k5 ?kK ?kp ?kd ?ku ?_; (case k1 => k_asm); (case k2 => k_asm); (case k3 => k_asm); (case k4 => k_asm); (case k5 => k_asm); (case kK => first | exact rfl | assumption); (case kp => omega); (case kd => ktr_room); (case ku => ktr_units); k_whole; intro t9 h9 tk9 F9 N9; (try dsimp only); (try k_fold)))
  k_with "my for" => (k_here; (rename Fr _ _ _ _ => lF'); (with_unfolding_all refine' For_turns lF' ?_; k_whole))
  k_with "my enum" => (k_here; (rename Fr _ _ _ _ => lF'); (rename News _ _ _ _ => lN'); (with_unfolding_all refine' enum_loop (x := Str.ofString "place") (y := Str.ofString "cell") (z := Str.ofString "is_there") rfl lF' lN' ?em ?et ?ed); (case em => assumption); (case' et => (clear lF' lN'; intro I' i' v' T' t' u' h' tk' oe' oi' hI' hv' hT' F' N'; (obtain ⟨c', tc', ev', hci', hf1', hf2', hp0', hp1', hp2', hp3'⟩ := row_cell (by assumption) (by assumption) hv'); subst ev'; (try dsimp only [off3] at F'); (try k_fold))); (case' ed => (clear lF' lN'; intro u' h' tk' F' N'; (try dsimp only [off3] at F'); (try k_fold))))
  k_with "my end" => (refine InvEnd.intro (by assumption) (by assumption) (by first | exact fun p9 h9 => h9 | kst_inAny) (by intro z h1 h2 h3; simp only [if_neg h1, if_neg h2, if_neg h3]))
  k_with "state" => first | exact due_start n | exact due_turn1 hn (by assumption) (by assumption) (by assumption) (by assumption) | exact due_turn2 hn (by assumption) (by assumption) (by assumption) (by assumption)
  k_with "pyIter ref" => (k_of "at" => ((k_state_short (fun pre due => due = dueN n pre.length ∧ 1 ≤ due ∧ due ≤ 262143) "due") <;> (try (have hc9 : kN = 0 ∨ kN = 1 ∨ kN = 2 ∨ kN = 3 ∨ kN = 4 := by omega); (rcases hc9 with hc9 | hc9 | hc9 | hc9 | hc9 <;> subst hc9))))
  unfold Says; k_fill
  intro dp un gd cn cs aa ccd cl outer A₀ base h₀ L m s Q E hB hF hX hN hT hk hpre hd hu hret
  obtain ⟨rfl, rfl, hn, hlist, hint, hbits0, hbits1⟩ := hpre
  obtain ⟨hr0, hr1, hlen, hdue⟩ := row_facts (Nat.le_succ_of_le hn)
  refine wpAny_call ?_
  k_dflt cell_enter
  k_steps
  all_goals first
    | exact absurd (due_end hn (by assumption)) (by assumption)
    | exact (rr_noA (by assumption) (by assumption)).elim
    | exact (rr_noB (by assumption) (by assumption)).elim
    | cb_end hret

set_option maxRecDepth 100000 in
set_option maxHeartbeats 8000000 in
/-- The law's first two statements: bits and last are drawn. -/
theorem law_holds : PySem.Challenge.rw_xm0018_01.Holds := by
  refine hd ?_
  k_with_none
  k_with "my call" => (k_here; k_dflt (refine' Says.use (logic_and _ _ _ _ _ _ _ _ _ _ _ _) ?k1 ?k2 ?k3 ?k4 ?k5 ?kK ?kp ?kd ?ku ?_; (case k1 => k_asm); (case k2 => k_asm); (case k3 => k_asm); (case k4 => k_asm); (case k5 => k_asm); (case kK => first | exact rfl | assumption); (case kp => omega); (case kd => ktr_room); (case ku => ktr_units); k_whole; intro t9 h9 tk9 F9 N9; (try dsimp only); (try k_fold)))
  k_with "my call" => (k_here; k_dflt (refine' Says.use (logic_xor _ _ _ _ _ _ _ _ _ _ _ _) ?k1 ?k2 ?k3 ?k4 ?k5 ?kK ?kp ?kd ?ku ?_; (case k1 => k_asm); (case k2 => k_asm); (case k3 => k_asm); (case k4 => k_asm); (case k5 => k_asm); (case kK => first | exact rfl | assumption); (case kp => omega); (case kd => ktr_room); (case ku => ktr_units); k_whole; intro t9 h9 tk9 F9 N9; (try dsimp only); (try k_fold)))
  k_with "my call" => (k_here; k_dflt (refine' Says.use (row_right _ _ _ _ _ _ _ _ _ _ _ _ _ _ _) (by k_asm) (by k_asm) (by k_asm) (by k_asm) (by k_asm) (by first | exact rfl | assumption) (by (refine ⟨rfl, rfl, ?kpa, ?kpb, ?kpc, ?kpd, ?kpe⟩; (case kpb => k_mem); (case kpc => assumption); (case kpa => first | assumption | omega); (case kpd => omega); (case kpe => omega))) (by ktr_room) (by ktr_units) ?_; k_whole; intro t9 h9 tk9 F9 N9; (try dsimp only); (try k_fold)))
  k_with "my call" => (k_here; k_dflt (refine' Says.use (conv_c _ _ _ _ _ _ _ _ _ _ _ _ _) (by k_asm) (by k_asm) (by k_asm) (by k_asm) (by k_asm) (by first | exact rfl | assumption) (by (refine ⟨rfl, rfl, ?kpa, ?kpb, ?kpc, ?kpd⟩; (case kpa => omega); (case kpb => omega); (case kpc => omega); (case kpd => omega))) (by ktr_room) (by ktr_units) ?_; k_whole; intro t9 h9 tk9 F9 N9; (try dsimp only); (try k_fold)))
  k_with "my call" => (k_here; k_dflt (refine' Says.use (reck_mul _ _ _ _ _ _ _ _ _ _ _ _ _) ?k1 ?k2 ?k3 ?k4 ?k5 ?kK ?kp ?kd ?ku ?_; (case k1 => k_asm); (case k2 => k_asm); (case k3 => k_asm); (case k4 => k_asm); (case k5 => k_asm); (case kK => first | exact rfl | assumption); (case kp => first | omega | (refine mul_pre ?_ ?_ ?_ ?_ <;> omega)); (case kd => ktr_room); (case ku => ktr_units); k_whole; intro t9 h9 tk9 F9 N9; (try dsimp only); (try k_fold)))
  k_with "my post" => first | exact (pair_no1 (by assumption) (by omega) (by omega)).elim | exact (pair_no2 (by assumption) (by omega) (by omega) (by omega) (by omega)).elim
  k_with "my turn" => (refine rows_turn (by assumption) (by assumption) (by k_mem) (by assumption) (by k_mem) (by k_mem) (by first | (intro p hp; kst_mem) | kst_anyIn) (by assumption) (by k_all) (by k_ne) (by k_ne) (by k_ne) (by assumption) (by assumption) (by exact if_pos rfl) (by intro z h1 h2; simp only [if_neg h1, if_neg h2]))
  k_with "my item" => (k_here; (with_reducible show wpAny _ _ (subscriptTail _ _ (Value.ref _) (Value.int _ _)) _ _ _); k_dflt (refine' item_row (by k_asm) (by assumption) (by k_mem) (by omega) (by omega) (by omega) (by with_unfolding_all rfl) ?_); intro t9)
  k_with "my comp" => (k_here; (try k_fold); k_dflt (refine' comp_start (by assumption) (by with_unfolding_all rfl) (by decide) (by rfl) (by decide) (by rfl) (by intro _; rfl) ?_))
  k_with "my add" => (k_here; (with_reducible show wpAny _ _ (binaryOp _ (Value.ref _) (Value.ref _)) _ _ _); k_dflt (refine' add_made (by k_asm) (by k_asm) (by k_mem) (by k_mem) (by ((simp only [List.length_append, List.length_cons, List.length_nil]); omega)) ?_); intro D9 h9 F9 N9 l9; (try k_lt l9); (try k_sweep))
  k_with "pyIter ref" => (k_of "number" => ((rename Fr _ _ _ _ => lF9); (rename News _ _ _ _ => lN9); (with_unfolding_all refine' rows_loop rfl (by assumption) (by assumption) (by assumption) lF9 lN9 ?rm ?rne ?rd ?rr ?rt ?rz); (case rd => assumption); (case rm => kst_inAny); (case rr => exact if_pos rfl); (case rne => refine ⟨?_, ?_, ?_⟩ <;> k_ne); (case' rt => (clear lF9 lN9; intro i t' t o lc vs vr nn nr h tk own hi n1 n2 n3 hcell hv hvr hoff hmark F9 N9; (have hlr := vr_len hvr); (have hlv := vs_len (Nat.le_succ_of_le hi) hv); (obtain ⟨hz0, hz1, hz2, hz3⟩ := row_facts (Nat.le_succ_of_le hi)); clear hz2 hz3; (try k_fold))); (case' rz => (clear lF9 lN9; intro t u o lc vs vr nn nr h tk hvr F9 N9; (have hfd : Int.fdiv (last - 1) 2 = (last - 1) / 2 := Int.fdiv_eq_ediv_of_nonneg _ (by decide))))))
  k_with "pyIter ref" => ((fail_if_success (with_reducible show wpAny _ _ (pyIter (Value.ref _)) (fun it s₂ => LoopAtV _ _ _ _ _ _ _ _ _ it s₂) _ _)); (rename Fr _ _ _ _ => lF9); (rename News _ _ _ _ => lN9); k_dflt (refine' comp_iter (by exact rfl) (by assumption) (by assumption) lF9 lN9 (by assumption) (by assumption) (by k_mem) (by k_mem) (by exact rfl) (by exact rfl) (by exact fun _ => rfl) (by exact fun _ => rfl) (by exact fun _ => rfl) (by exact rfl) ?_); (clear lF9 lN9; intro D9 h9 tk9 us9 n9 hus9 F9 N9 hne9; (simp only [List.forall_mem_cons] at hne9); (have hul9 := us_len hus9)))
  k_with "pyIter ref" => (k_of "one" => (k_search (fun _ => True)))
  w_strict (
    k_go0
    (rename Fr _ _ _ _ => lF)
    (rename News _ _ _ _ => lN)
    with_unfolding_all refine law_cut (xs := [_, _]) lF lN ?_ ?_
    · (try k_fold)
      k_steps
      all_goals (refine lawmid (by assumption) (by assumption) (by kst_inAny))
    · clear lF lN
      intro h' tk bits last tb tl u F' N' hb0 hb1 hl0 hl1
      (try k_fold)
      k_steps)
end Mine

theorem PySem.Challenge.cw_xm0018_01_holds : PySem.Challenge.rw_xm0018_01.Holds := by
  exact Mine.law_holds
