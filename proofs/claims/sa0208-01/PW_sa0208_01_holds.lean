import PyProof.Rows.All
import Wide.All
import OpenK.AllK
import Wide.FinOn
import PySem.Challenge.RW_sa0208_01
open PySem PySem.W PyProof.Rows
set_option Elab.async false
local macro_rules | `(tactic| walk_at $s:str) => `(tactic| k_extra $s)
local macro_rules | `(tactic| ktr_unf) => `(tactic| k_extra "ktr_unf")
local macro_rules | `(tactic| ktr_rel) => `(tactic| k_extra "ktr_rel")
local macro_rules | `(tactic| ktr_units) => `(tactic| k_extra "ktr_units")
local macro_rules | `(tactic| ktr_room) => `(tactic| k_extra "ktr_room")
local macro_rules | `(tactic| k_all) => `(tactic| k_extra "k_all")
section
namespace Mine
set_option maxRecDepth 100000 in
set_option maxHeartbeats 8000000 in
open_top hd for PySem.Challenge.rw_sa0208_01
end Mine
end
section
namespace Mine
def digs (n : Nat) : Nat := if h : n = 0 then 0 else digs (n / 10) + 1
termination_by n
decreasing_by omega
theorem digs_zero : digs 0 = 0 := by unfold digs; simp
theorem digs_pos {n : Nat} (h : 0 < n) : digs n = digs (n / 10) + 1 := by
  rw [digs.eq_1 n]
  have : n ≠ 0 := by omega
  simp [this]
theorem digs_step {n : Nat} (h : 10 ≤ n) : digs n = digs (n / 10) + 1 := digs_pos (by omega)
theorem digs_nine {n : Nat} (h : 1000000000 ≤ n) : digs n = digs (n / 1000000000) + 9 := by
  have e : ∀ k, n / 10 ^ k / 10 = n / 10 ^ (k + 1) := fun k => by rw [Nat.div_div_eq_div_mul, Nat.pow_succ]
  have s : ∀ k, k ≤ 8 → digs (n / 10 ^ k) = digs (n / 10 ^ (k + 1)) + 1 := fun k hk => by
    rw [← e k]
    refine digs_pos (Nat.div_pos ?_ (Nat.pow_pos (by decide)))
    exact Nat.le_trans (Nat.pow_le_pow_right (by decide) (by omega : k ≤ 9)) (by simpa using h)
  have h0 := s 0 (by omega)
  have h1 := s 1 (by omega)
  have h2 := s 2 (by omega)
  have h3 := s 3 (by omega)
  have h4 := s 4 (by omega)
  have h5 := s 5 (by omega)
  have h6 := s 6 (by omega)
  have h7 := s 7 (by omega)
  have h8 := s 8 (by omega)
  simp only [Nat.reduceAdd, Nat.reducePow, Nat.pow_zero, Nat.div_one] at *
  omega
theorem digs_le {k : Nat} : ∀ {n : Nat}, digs n ≤ k ↔ n < 10 ^ k := by
  induction k with
  | zero =>
    intro n
    rcases Nat.eq_zero_or_pos n with rfl | h
    · simp [digs_zero]
    · rw [digs_pos h]; simp; omega
  | succ k ih =>
    intro n
    rcases Nat.eq_zero_or_pos n with rfl | h
    · simp [digs_zero]; exact Nat.pow_pos (by decide)
    · rw [digs_pos h, Nat.succ_le_succ_iff, ih, Nat.div_lt_iff_lt_mul (by decide), Nat.pow_succ]

inductive CdRel : List (Addr × Obj) → List Value → Int → Prop
  | mk {news : List (Addr × Obj)} {n : Int} {t : Tok} : CdRel news [.int n t] n
abbrev cdT : ToldN Int where
  Rel := CdRel
  Ok := fun n => n.natAbs < 10 ^ 60
  size := fun _ => 1
  Tl := fun tl => tl = []
  Out := fun _ r d => ∃ tk, r = .int (digs d.natAbs) tk
def CdW (n₀ c₀ n c : Int) : Prop := (0 ≤ n₀ → 0 ≤ n) ∧ c + digs n.natAbs = c₀ + digs n₀.natAbs
theorem cdw0 {n c : Int} : CdW n c n c := ⟨id, rfl⟩
theorem na_div {n : Int} (h : 0 ≤ n) (d : Nat) : (n / (d : Int)).natAbs = n.natAbs / d := by
  obtain ⟨k, rfl⟩ := Int.eq_ofNat_of_zero_le h
  rfl
theorem cdw9 {n₀ c₀ n c : Int} (h : CdW n₀ c₀ n c) (k : n ≥ 1000000000) : CdW n₀ c₀ (n.fdiv 1000000000) (c + 9) := by
  obtain ⟨a, e⟩ := h
  rw [Int.fdiv_eq_ediv_of_nonneg _ (by decide)]
  refine ⟨by omega, ?_⟩
  have := @digs_nine n.natAbs (by omega)
  rw [show (n / 1000000000).natAbs = n.natAbs / 1000000000 from na_div (Int.le_trans (by decide) k) 1000000000]
  omega
theorem cdw1 {n₀ c₀ n c : Int} (h : CdW n₀ c₀ n c) (k : n > 0) : CdW n₀ c₀ (n.fdiv 10) (c + 1) := by
  obtain ⟨a, e⟩ := h
  rw [Int.fdiv_eq_ediv_of_nonneg _ (by decide)]
  refine ⟨by omega, ?_⟩
  have := @digs_pos n.natAbs (by omega)
  rw [show (n / 10).natAbs = n.natAbs / 10 from na_div (Int.le_of_lt k) 10]
  omega
theorem cdw_end {d n₀ c₀ n c : Int} (h₁ : CdW (if d < 0 then -d else d) 0 n₀ c₀) (h : CdW n₀ c₀ n c) (k : ¬ n > 0) : c = (digs d.natAbs : Int) := by
  obtain ⟨a, e⟩ := h
  obtain ⟨a1, e1⟩ := h₁
  have : 0 ≤ n₀ := a1 (by split <;> omega)
  obtain rfl : n = 0 := by have := a this; omega
  rw [show (if d < 0 then -d else d).natAbs = d.natAbs from by split <;> simp only [Int.natAbs_neg]] at e1
  simp [digs_zero] at e e1
  omega
theorem cdm9 {n : Int} (k : n ≥ 1000000000) : (n.fdiv 1000000000).toNat < n.toNat := by
  rw [Int.fdiv_eq_ediv_of_nonneg _ (by decide)]; omega
theorem cdm1 {n : Int} (k : n > 0) : (n.fdiv 10).toNat < n.toNat := by
  rw [Int.fdiv_eq_ediv_of_nonneg _ (by decide)]; omega
theorem cd_out {d n₀ c₀ n c : Int} {t : Tok} (h₁ : CdW (if d < 0 then -d else d) 0 n₀ c₀) (h : CdW n₀ c₀ n c) (k : ¬ n > 0) : ∃ tk, Value.int c t = .int (digs d.natAbs) tk := ⟨t, by rw [cdw_end h₁ h k]⟩
set_option maxRecDepth 100000 in
set_option maxHeartbeats 8000000 in
theorem c_count {w : World} {mean : ExcName → Option Value} {mg mb : Str → Option Value} : ∀ d, TellsN PySem.Challenge.rw_sa0208_01.row.prog w (Mine.hd.heap_39 w.params) Mine.hd.view_39 (looseW Mine.hd.view_39 []) mean mg mb 54 cdT d := by
  k_with_none
  k_with "ktr_unf" => (try simp only [cdT] at *)
  k_with "ktr_rel" => first | assumption | exact ⟨_, rfl⟩ | exact rfl | exact trivial | exact cd_out (by assumption) (by assumption) (by assumption)
  k_fill
  k_with "state" => first | exact cdw0 | exact cdw9 (by assumption) (by assumption) | exact cdw1 (by assumption) (by assumption)
  k_with "measure" => first | exact cdm9 (by assumption) | exact cdm1 (by assumption)
  k_with "exec While Compare cons nil" => k_while_given ["n!", "count!"] (fun n₀ c₀ _ n c => CdW n₀ c₀ n c) (fun _ _ _ n _ => n.toNat) "n" "count"
  intro d
  ktn_step
end Mine
end
section
namespace Mine
/-- a pair (m, e) of the program at the address a: a made tuple, or the module's NOUGHT -/
inductive RIn (news : List (Addr × Obj)) : Addr → Int → Int → Prop
  | tup {a : Addr} {m e : Int} {t u : Tok} {n : Nat} : (a, ({ cls := .type "tuple", data := .seq #[.int m t, .int e u] n } : Obj)) ∈ news → RIn news a m e
  | nought : RIn news 47 0 0
theorem RIn.mono {news news' : List (Addr × Obj)} {a : Addr} {m e : Int} (h : RIn news a m e) (hs : ∀ p ∈ news, p ∈ news') : RIn news' a m e := by
  cases h with
  | tup hm => exact .tup (hs _ hm)
  | nought => exact .nought
theorem d10_lt {m : Int} (hz : m ≠ 0) (h : m % 10 = 0) : (m / 10).natAbs < m.natAbs := by omega
theorem d10_nz {m : Int} (hz : m ≠ 0) (h : m % 10 = 0) : m / 10 ≠ 0 := by omega
theorem d10_le {m : Int} {n : Nat} (hz : m ≠ 0) (h : m % 10 = 0) (k : m.natAbs ≤ n + 1) : (m / 10).natAbs ≤ n := Nat.le_of_lt_succ (Nat.lt_of_lt_of_le (d10_lt hz h) k)
theorem na_zero {m : Int} (h : m.natAbs ≤ 0) : m = 0 := Int.natAbs_eq_zero.mp (Nat.le_zero.mp h)
theorem na_pos {m : Int} (h : m ≠ 0) : 0 < m.natAbs := Int.natAbs_pos.mpr h
def strip (m e : Int) : Int × Int := if h : m = 0 then (0, 0) else if h' : m % 10 = 0 then strip (m / 10) (e + 1) else (m, e)
termination_by m.natAbs
decreasing_by exact d10_lt h h'
theorem strip_zero {e : Int} : strip 0 e = (0, 0) := by unfold strip; simp
theorem strip_ten {m e : Int} (h : m ≠ 0) (h' : m % 10 = 0) : strip m e = strip (m / 10) (e + 1) := by
  rw [strip.eq_1 m e]; simp [h, h']
theorem strip_end {m e : Int} (h' : m % 10 ≠ 0) : strip m e = (m, e) := by
  have h : m ≠ 0 := by omega
  rw [strip.eq_1 m e]; simp [h, h']

inductive SzRel : List (Addr × Obj) → List Value → Int × Int → Prop
  | mk {news : List (Addr × Obj)} {m e : Int} {t u : Tok} : SzRel news [.int m t, .int e u] (m, e)
def rOut (news : List (Addr × Obj)) (r : Value) (p : Int × Int) : Prop := ∃ a, r = .ref a ∧ RIn news a p.1 p.2
abbrev szT : ToldN (Int × Int) where
  Rel := SzRel
  Ok := fun d => d.1.natAbs < 10 ^ 90 ∧ d.2.natAbs < 1000
  size := fun _ => 1
  Tl := fun _ => True
  Out := fun news r d => rOut news r (strip d.1 d.2)
def SzW (m₀ e₀ m e : Int) : Prop := m ≠ 0 ∧ strip m e = strip m₀ e₀
theorem sz0 {m e : Int} (h : m ≠ 0) : SzW m e m e := ⟨h, rfl⟩
theorem fmod10 {m : Int} : m.fmod 10 = m % 10 := Int.fmod_eq_emod_of_nonneg _ (by decide)
theorem fdiv10 {m : Int} : m.fdiv 10 = m / 10 := Int.fdiv_eq_ediv_of_nonneg _ (by decide)
theorem sz1 {m₀ e₀ m e : Int} (h : SzW m₀ e₀ m e) (k : m.fmod 10 = 0) : SzW m₀ e₀ (m.fdiv 10) (e + 1) := by
  rw [fmod10] at k
  rw [fdiv10]
  obtain ⟨a, b⟩ := h
  exact ⟨by omega, by rw [← strip_ten a k, b]⟩
theorem szm {m₀ e₀ m e : Int} (h : SzW m₀ e₀ m e) (k : m.fmod 10 = 0) : (m.fdiv 10).natAbs < m.natAbs := by
  rw [fmod10] at k
  rw [fdiv10]
  exact d10_lt h.1 k
theorem sz_out0 {news : List (Addr × Obj)} {m e : Int} (h : m = 0) : rOut news (.ref 47) (strip m e) := by
  subst h
  rw [strip_zero]
  exact ⟨47, rfl, .nought⟩
theorem sz_out1 {news : List (Addr × Obj)} {m₀ e₀ m e : Int} {a : Addr} {t u : Tok} {n : Nat} (h : SzW m₀ e₀ m e) (k : m.fmod 10 ≠ 0) (hm : (a, ({ cls := .type "tuple", data := .seq #[.int m t, .int e u] n } : Obj)) ∈ news) : rOut news (.ref a) (strip m₀ e₀) := by
  rw [fmod10] at k
  rw [← h.2, strip_end k]
  exact ⟨a, rfl, .tup hm⟩
set_option maxRecDepth 100000 in
set_option maxHeartbeats 8000000 in
theorem c_strip {w : World} {mean : ExcName → Option Value} {mg mb : Str → Option Value} : ∀ d, TellsN PySem.Challenge.rw_sa0208_01.row.prog w (Mine.hd.heap_39 w.params) Mine.hd.view_39 (looseW Mine.hd.view_39 []) mean mg mb 61 szT d := by
  k_with_none
  k_with "ktr_unf" => (try simp only [szT] at *)
  k_with "ktr_rel" => first | assumption | exact ⟨_, rfl⟩ | exact rfl | exact trivial | exact sz_out0 (by assumption) | exact sz_out1 (by assumption) (by assumption) (by k_mem)
  k_fill
  k_with "state" => first | exact sz0 (by assumption) | exact sz1 (by assumption) (by assumption)
  k_with "measure" => exact szm (by assumption) (by assumption)
  k_with "exec While Compare cons nil" => k_while_given ["m!", "e!"] (fun m₀ e₀ _ m e => SzW m₀ e₀ m e) (fun _ _ _ m _ => m.natAbs) "m" "e"
  intro d
  ktn_step
end Mine
end
section
namespace Mine
theorem un3_ok {un K a : Nat} (h : un + K < cLine) (e : 3 + a ≤ K) : un + 3 + a < cLine := by omega
theorem dp1_ok {dp K a : Nat} (h : dp + K < recursionLimit) (e : 1 + a ≤ K) : dp + 1 + a < recursionLimit := by omega
theorem dp0_ok {dp K : Nat} (h : dp + K < recursionLimit) : dp < recursionLimit := by omega
theorem sub_refl {X : List (Addr × Obj)} : ∀ p ∈ X, p ∈ X := fun _ h => h
theorem sub_nil {A : List (Addr × Obj)} : ∀ p ∈ ([] : List (Addr × Obj)), p ∈ A := fun _ h => nomatch h
theorem sub_cons {q : Addr × Obj} {A B : List (Addr × Obj)} (h : ∀ p ∈ B, p ∈ A) : ∀ p ∈ B, p ∈ q :: A := fun p hp => List.mem_cons_of_mem _ (h p hp)
theorem sub_cc {q : Addr × Obj} {A B : List (Addr × Obj)} (h : ∀ p ∈ B, p ∈ A) : ∀ p ∈ q :: B, p ∈ q :: A := fun p hp => (List.mem_cons.mp hp).elim (fun e => e ▸ List.mem_cons_self) fun k => List.mem_cons_of_mem _ (h p k)
theorem sub_left {X Z : List (Addr × Obj)} : ∀ p ∈ X, p ∈ X ++ Z := fun _ h => List.mem_append_left _ h
theorem sub_right {X Z B : List (Addr × Obj)} (h : ∀ p ∈ B, p ∈ Z) : ∀ p ∈ B, p ∈ X ++ Z := fun p hp => List.mem_append_right _ (h p hp)
theorem sub_aa {X Y Z : List (Addr × Obj)} (h : ∀ p ∈ Y, p ∈ Z) : ∀ p ∈ X ++ Y, p ∈ X ++ Z := fun p hp => (List.mem_append.mp hp).elim (fun k => List.mem_append_left _ k) fun k => List.mem_append_right _ (h p k)
theorem sub_app {X Y A : List (Addr × Obj)} (h : ∀ p ∈ X, p ∈ A) (k : ∀ p ∈ Y, p ∈ A) : ∀ p ∈ X ++ Y, p ∈ A := fun p hp => (List.mem_append.mp hp).elim (h p) (k p)
section
variable {h₀ h : Heap} {L : Addr} {q1 q2 q3 q4 : Addr × Obj} {news tl : List (Addr × Obj)}
theorem nw_sub {A B : List (Addr × Obj)} (N : News h₀ L h A) (hs : ∀ p ∈ B, p ∈ A) : News h₀ L h B := fun p hp => N p (hs p hp)
theorem nw_p0 (N : News h₀ L h (news ++ tl)) : News h₀ L h (news ++ tl) := N
theorem nw_p1 (N : News h₀ L h (q1 :: (news ++ tl))) : News h₀ L h (news ++ (q1 :: tl)) := nw_sub N fun p hp => by
  simp only [List.mem_append, List.mem_cons] at hp ⊢
  rcases hp with h | h | h <;> simp only [h, true_or, or_true]
theorem nw_p2 (N : News h₀ L h (q1 :: q2 :: (news ++ tl))) : News h₀ L h (news ++ (q1 :: q2 :: tl)) := nw_sub N fun p hp => by
  simp only [List.mem_append, List.mem_cons] at hp ⊢
  rcases hp with h | h | h | h <;> simp only [h, true_or, or_true]
theorem nw_p3 (N : News h₀ L h (q1 :: q2 :: q3 :: (news ++ tl))) : News h₀ L h (news ++ (q1 :: q2 :: q3 :: tl)) := nw_sub N fun p hp => by
  simp only [List.mem_append, List.mem_cons] at hp ⊢
  rcases hp with h | h | h | h | h <;> simp only [h, true_or, or_true]
theorem nw_n0 (N : News h₀ L h news) : News h₀ L h (news ++ []) := by rw [List.append_nil]; exact N
theorem nw_n1 (N : News h₀ L h (q1 :: news)) : News h₀ L h (news ++ [q1]) := nw_sub N fun p hp => by
  simp only [List.mem_append, List.mem_cons, List.not_mem_nil, or_false] at hp ⊢
  rcases hp with h | h <;> simp only [h, true_or, or_true]
theorem nw_n2 (N : News h₀ L h (q1 :: q2 :: news)) : News h₀ L h (news ++ [q1, q2]) := nw_sub N fun p hp => by
  simp only [List.mem_append, List.mem_cons, List.not_mem_nil, or_false] at hp ⊢
  rcases hp with h | h | h <;> simp only [h, true_or, or_true]
theorem nw_n3 (N : News h₀ L h (q1 :: q2 :: q3 :: news)) : News h₀ L h (news ++ [q1, q2, q3]) := nw_sub N fun p hp => by
  simp only [List.mem_append, List.mem_cons, List.not_mem_nil, or_false] at hp ⊢
  rcases hp with h | h | h | h <;> simp only [h, true_or, or_true]
/-- the order of what was made: each segment of the tail lies above news -/
def Up (news tl : List (Addr × Obj)) : Prop := ∀ q ∈ news, ∀ p ∈ tl, q.1 < p.1
theorem up_nil : Up news [] := fun _ _ _ h => nomatch h
theorem up_cons {a : Addr} {o : Obj} (h : ∀ q ∈ news, q.1 < a) (k : Up news tl) : Up news ((a, o) :: tl) := fun q hq p hp => by
  rcases List.mem_cons.mp hp with rfl | hp
  · exact h q hq
  · exact k q hq p hp
theorem up_app {t2 : List (Addr × Obj)} (h : Up news tl) (k : Up news t2) : Up news (tl ++ t2) := fun q hq p hp => by
  rcases List.mem_append.mp hp with hp | hp
  · exact h q hq p hp
  · exact k q hq p hp
theorem up_sub {A B : List (Addr × Obj)} (h : Up B tl) (hs : ∀ p ∈ A, p ∈ B) : Up A tl := fun q hq => h q (hs q hq)
theorem lt_sub {a : Addr} {B : List (Addr × Obj)} (h : AllLt a B) (hs : ∀ p ∈ news, p ∈ B) : ∀ q ∈ news, q.1 < a := fun q hq => ktn_ltOf h q (hs q hq)
end
section
variable {prog : Program} {w : World} {A : Around} {E : Value → Shared → Prop} {s : Shared} {a b : Int} {t u : Tok} {Q : Value → Shared → Prop}
theorem divmod_K {h₀ : Heap} {L : Addr} {m : Str → Option Value} {news : List (Addr × Obj)} (F : Fr h₀ L s.heap m) (N : News h₀ L s.heap news) (hb : 0 < b) (hp : b.natAbs.log2 < 9000)
    (h : ∀ D t₁ t₂ k h', Fr h₀ L h' m → News h₀ L h' ((D, { cls := .type "tuple", data := .seq #[.int (a.fdiv b) t₁, .int (a.fmod b) t₂] }) :: news) → (∀ p ∈ news, p.1 < D) →
      Q (.ref D) { s with toks := k, heap := h' }) :
    wpAny (model prog w) A (call (.builtin "divmod") [.int a t, .int b u]) Q E s :=
  divmod_N F N (by omega) (fun h' F' N' => h _ _ _ _ h' F' N' fun p hp => Heap.lt_size (N p hp).1) (.inl (PyProof.noPylong_of_log2 hp))
theorem bits_le {x : Int} (hx : x.natAbs < 10 ^ 90) : Builtin.Int.intBits x ≤ 2 ^ 20 := by
  unfold Builtin.Int.intBits
  split
  · omega
  · rename_i hz
    have : x.natAbs.log2 < 300 := (Nat.log2_lt (by simpa using hz)).mpr (Nat.lt_trans hx (by decide +kernel))
    omega
theorem mul_K (ha : a.natAbs < 10 ^ 90) (hb : b.natAbs < 10 ^ 90) (h : ∀ k, Q (.int (a * b) k) { s with toks := k + 1 }) : wpAny (model prog w) A (binaryOp .Mult (.int a t) (.int b u)) Q E s :=
  mul_int (h _) (PySem.IntMulOk.of_bits (bits_le ha) (bits_le hb))
theorem pow_K (hn : 0 ≤ b) (hn2 : b ≤ 1000) (h : ∀ k, Q (.int (10 ^ b.toNat) k) { s with toks := k + 1 }) : wpAny (model prog w) A (binaryOp .Pow (.int 10 t) (.int b u)) Q E s :=
  pow_int_small hn (by omega) (by decide) (h _)
end
end Mine
end
section
namespace Mine
theorem rd_out {news : List (Addr × Obj)} {a : Addr} {m e : Int} {q : Int × Int} (R : RIn news a m e) (h : (m, e) = q) : rOut news (.ref a) q := by subst h; exact ⟨a, rfl, R⟩
theorem abs_K {prog : Program} {w : World} {A : Around} {E : Value → Shared → Prop} {s : Shared} {a : Int} {t : Tok} {Q : Value → Shared → Prop} (h : ∀ u tk, Q (.int (a.natAbs : Int) u) { s with toks := tk }) :
    wpAny (model prog w) A (call (.builtin "abs") [.int a t]) Q E s :=
  call_abs_int fun u tk => by rw [show (if a < 0 then -a else a) = (a.natAbs : Int) from by split <;> omega]; exact h u tk
/-- what lies behind the digits is nought -/
def exa (m d : Int) : Prop := 0 < (digs m.natAbs : Int) - d → ((m.natAbs : Int).fmod (10 ^ ((digs m.natAbs : Int) - d).toNat)) = 0
inductive RdRel : List (Addr × Obj) → List Value → Int × Int × Int → Prop
  | mk {news : List (Addr × Obj)} {m e d : Int} {t u v : Tok} : RdRel news [.int m t, .int e u, .int d v] (m, e, d)
abbrev rdT : ToldN (Int × Int × Int) where
  Rel := RdRel
  Ok := fun d => d.1.natAbs < 10 ^ 60 ∧ d.2.1.natAbs < 500 ∧ 1 ≤ d.2.2 ∧ d.2.2 ≤ 100 ∧ exa d.1 d.2.2
  size := fun _ => 2
  Tl := fun _ => True
  Out := fun news r d => rOut news r (strip d.1 d.2.1)
theorem digs_bd {m : Int} (h : m.natAbs < 10 ^ 60) : (digs m.natAbs : Int) ≤ 60 := by
  have := (@digs_le 60 m.natAbs).mpr h
  omega
theorem pow_log {n : Int} (h : n ≤ 1000) : ((10 : Int) ^ n.toNat).natAbs.log2 < 9000 := by
  rw [Int.natAbs_pow]
  refine (Nat.log2_lt (Nat.ne_of_gt (Nat.pow_pos (by decide)))).mpr ?_
  refine Nat.lt_of_le_of_lt (Nat.pow_le_pow_right (by decide) (show n.toNat ≤ 1000 by omega)) (by decide +kernel)
theorem pow_pos' {n : Nat} : (0 : Int) < 10 ^ n := Int.pow_pos (by decide)
theorem kb1 {m p : Int} (h : m.natAbs < 10 ^ 60) (hp : 0 < p) : ((m.natAbs : Int).fdiv p).natAbs < 10 ^ 90 := by
  rw [Int.fdiv_eq_ediv_of_nonneg _ (by omega)]
  have h1 := Int.ediv_le_self p (show (0 : Int) ≤ m.natAbs by omega)
  have h2 := Int.ediv_nonneg (show (0 : Int) ≤ m.natAbs by omega) (Int.le_of_lt hp)
  omega
theorem kb3 {x : Int} (h : x.natAbs < 10 ^ 90) : (-x).natAbs < 10 ^ 90 := by omega
theorem strip_pow {k : Nat} : ∀ {m e : Int}, m ≠ 0 → strip (m * 10 ^ k) e = strip m (e + k) := by
  induction k with
  | zero => intro m e _; simp
  | succ k ih =>
    intro m e h
    have h9 : (10 : Int) ^ k ≠ 0 := Int.ne_of_gt pow_pos'
    have h1 : m * 10 ^ (k + 1) = m * 10 ^ k * 10 := by rw [Int.pow_succ, Int.mul_assoc]
    rw [h1, strip_ten (Int.mul_ne_zero (Int.mul_ne_zero h h9) (by decide)) (by omega), show m * 10 ^ k * 10 / 10 = m * 10 ^ k from by omega, ih h]
    congr 1
    omega
theorem rd_e {m e p : Int} {k : Nat} (hm : 0 < m) (hp : p = 10 ^ k) (h : (m.natAbs : Int).fmod p = 0) : strip ((m.natAbs : Int).fdiv p) (e + k) = strip m e := by
  subst hp
  rw [Int.fmod_eq_emod_of_nonneg _ (Int.le_of_lt pow_pos')] at h
  rw [Int.fdiv_eq_ediv_of_nonneg _ (Int.le_of_lt pow_pos')]
  obtain ⟨c, hc⟩ := Int.dvd_of_emod_eq_zero h
  have h0 : (10 : Int) ^ k ≠ 0 := Int.ne_of_gt pow_pos'
  have e1 : m = c * 10 ^ k := by rw [Int.mul_comm]; omega
  have hc0 : c ≠ 0 := by rintro rfl; omega
  rw [show (m.natAbs : Int) = m from by omega, e1, Int.mul_ediv_cancel _ h0, strip_pow hc0]
theorem rd_n {m e p : Int} {k : Nat} (hm : m < 0) (hp : p = 10 ^ k) (h : (m.natAbs : Int).fmod p = 0) : strip (-((m.natAbs : Int).fdiv p)) (e + k) = strip m e := by
  subst hp
  rw [Int.fmod_eq_emod_of_nonneg _ (Int.le_of_lt pow_pos')] at h
  rw [Int.fdiv_eq_ediv_of_nonneg _ (Int.le_of_lt pow_pos')]
  obtain ⟨c, hc⟩ := Int.dvd_of_emod_eq_zero h
  have h0 : (10 : Int) ^ k ≠ 0 := Int.ne_of_gt pow_pos'
  have e1 : m = (-c) * 10 ^ k := by rw [Int.neg_mul, Int.mul_comm]; omega
  have hc0 : -c ≠ 0 := by intro hz; rw [hz] at e1; omega
  have e2 : (m.natAbs : Int) = c * 10 ^ k := by rw [Int.mul_comm]; omega
  rw [e2, Int.mul_ediv_cancel _ h0]
  conv => rhs; rw [e1]
  rw [strip_pow hc0]
theorem rd_e' {m e x : Int} (hm : 0 < m) (h0 : 0 < x) (h : (m.natAbs : Int).fmod (10 ^ x.toNat) = 0) : strip ((m.natAbs : Int).fdiv (10 ^ x.toNat)) (e + x) = strip m e := by
  have := @rd_e m e _ x.toNat hm rfl h
  rwa [show (x.toNat : Int) = x from by omega] at this
theorem rd_n' {m e x : Int} (hm : ¬ 0 < m) (hm0 : m ≠ 0) (h0 : 0 < x) (h : (m.natAbs : Int).fmod (10 ^ x.toNat) = 0) : strip (-((m.natAbs : Int).fdiv (10 ^ x.toNat))) (e + x) = strip m e := by
  have := @rd_n m e _ x.toNat (by omega) rfl h
  rwa [show (x.toNat : Int) = x from by omega] at this
theorem digs_ne {m d : Int} (hd : 1 ≤ d) (h : 0 < (digs m.natAbs : Int) - d) : m ≠ 0 := by
  rintro rfl
  simp [digs_zero] at h
  omega
set_option maxRecDepth 100000 in
set_option maxHeartbeats 8000000 in
theorem c_rdig {w : World} {mean : ExcName → Option Value} {mg mb : Str → Option Value} : ∀ d, TellsN PySem.Challenge.rw_sa0208_01.row.prog w (Mine.hd.heap_39 w.params) Mine.hd.view_39 (looseW Mine.hd.view_39 []) mean mg mb 68 rdT d := by
  k_with_none
  k_fill
  k_with "call ref" => first | ktn_call (Str.ofString "count_digits") cdT | (ktn_call (Str.ofString "strip_zeros") szT; walk_at "MY.got")
  k_with "binaryOp Pow int int" => (k_here; (refine pow_K ?a ?b ?_); (case a => omega); (case b => omega); intro tk)
  k_with "call builtin:abs" => (k_here; refine abs_K ?_; intro u tk)
  k_with "call builtin:divmod" => (k_here; (refine divmod_K (by k_asm) (by k_asm) pow_pos' (pow_log (by omega)) ?_); intro D' t1 t2 tk h' F' N' l1; (try k_lt l1); (try k_sweep); (have hz := ho5 (by assumption)); (have hm9 := digs_ne ho3 (by assumption)); (have hp9 := @pow_pos' ((digs m0.natAbs : Int) - d0).toNat))
  k_with "MY.sub" => first | exact sub_refl | (with_reducible (repeat first | exact sub_refl | exact sub_left | refine sub_aa ?_ | refine sub_cc ?_ | refine sub_cons ?_ | refine sub_right ?_); done) | (with_reducible (repeat (first | exact sub_refl | exact sub_left | refine sub_app ?_ ?_ | refine sub_cons ?_ | refine sub_right ?_)); done) | (intro p hp; (simp only [List.mem_append, List.mem_cons, List.not_mem_nil, or_false, or_assoc] at hp ⊢); (repeat' (refine Or.elim hp (fun hp => ?_) (fun hp => ?_))); all_goals (simp only [hp, true_or, or_true]))
  k_with "MY.mem" => first | assumption | ((simp only [List.mem_append, List.mem_cons, true_or, or_true]; done)) | ((refine' (fun {X Y : List (Addr × Obj)} {p : Addr × Obj} (hs : ∀ p ∈ X, p ∈ Y) (h : p ∈ X) => hs p h) ?_ ?h_w1; (case h_w1 => assumption)); walk_at "MY.sub")
  k_with "MY.rin" => first | assumption | exact RIn.nought | exact RIn.tup (by walk_at "MY.mem") | (refine' RIn.mono ?h_w2 ?s_w2; (case h_w2 => assumption); (case s_w2 => walk_at "MY.sub"))
  k_with "MY.up" => first | exact up_nil | (refine up_cons (lt_sub (by assumption) (by walk_at "MY.sub")) ?_; walk_at "MY.up") | (refine up_cons (lt_sub (allLt_of (by assumption)) (by walk_at "MY.sub")) ?_; walk_at "MY.up") | (refine up_app ?_ ?_ <;> walk_at "MY.up") | exact up_sub (by assumption) (by walk_at "MY.sub") 
  k_with "MY.got" => ((rename rOut _ _ _ => hz); (obtain ⟨a8, e8, hz8⟩ := hz); (subst e8))
  k_with "MY.news" => first | exact nw_n0 (by assumption) | exact nw_p0 (by assumption) | exact nw_p1 (by assumption) | exact nw_p2 (by assumption) | exact nw_p3 (by assumption) | exact nw_n1 (by assumption) | exact nw_n2 (by assumption) | exact nw_n3 (by assumption)
  k_with "ktr_unf" => (try simp only [rdT, cdT, szT] at *)
  k_with "ktr_rel" => first | assumption | exact CdRel.mk | exact SzRel.mk | exact ⟨_, rfl⟩ | exact rfl | exact trivial | (refine ⟨?_, ?_⟩; (first | exact kb1 (by assumption) pow_pos' | exact kb3 (kb1 (by assumption) pow_pos') | (dsimp only; omega)); (dsimp only; omega)) | omega
  k_with "ktr_units" => first | (k_dflt exact un3_ok hu (Nat.le_of_ble_eq_true rfl))
  k_with "ktr_room" => first | (k_dflt exact dp1_ok hd (Nat.le_of_ble_eq_true rfl)) | (k_dflt exact dp0_ok hd)
  intro d
  have C1 := @c_count w mean mg mb
  have C2 := @c_strip w mean mg mb
  unfold TellsN
  intro dp un gd cn cs a ccd cl outer A₀ base h₀ L m news s vs Q E B F X N T hk hR hok hd hu hret
  cases hR
  rename_i m0 e0 d0 t0 u0 v0
  have hdg := digs_bd hok.1
  obtain ⟨ho1, ho2, ho3, ho4, ho5⟩ := hok
  unfold exa at ho5
  all_goals ktn_open
  all_goals (
    ktr_unf
    refine wpAny_call ?_
    k_dflt ktr_enter
    k_steps)
  all_goals try (exfalso; omega)
  all_goals (refine hret _ _ _ _ (by assumption) (by walk_at "MY.news") (by walk_at "MY.up") trivial ?_)
  all_goals (refine' rd_out ?R ?_; (case R => walk_at "MY.rin"))
  all_goals first | exact rfl | exact rd_e' (by assumption) (by assumption) (by assumption) | exact rd_n' (by assumption) (by assumption) (by assumption) (by assumption)
end Mine
end
section
namespace Mine
theorem rin_cases {news : List (Addr × Obj)} {a : Addr} {m e : Int} (h : RIn news a m e) : (∃ t u n, (a, ({ cls := .type "tuple", data := .seq #[.int m t, .int e u] n } : Obj)) ∈ news) ∨ (a = 47 ∧ m = 0 ∧ e = 0) := by
  cases h with
  | tup h => exact .inl ⟨_, _, _, h⟩
  | nought => exact .inr ⟨rfl, rfl, rfl⟩
theorem strip_le : ∀ (n : Nat) {m e : Int}, m.natAbs ≤ n → (strip m e).1.natAbs ≤ m.natAbs ∧ (m ≠ 0 → (strip m e).1 ≠ 0) := by
  intro n
  induction n with
  | zero => intro m e h; obtain rfl : m = 0 := na_zero h
            rw [strip_zero]; simp
  | succ n ih =>
    intro m e h
    by_cases hz : m = 0
    · subst hz; rw [strip_zero]; simp
    by_cases h1 : m % 10 = 0
    · rw [strip_ten hz h1]
      have := @ih (m / 10) (e + 1) (d10_le hz h1 h)
      have h2 : m / 10 ≠ 0 := d10_nz hz h1
      refine ⟨Nat.le_trans this.1 (Nat.le_of_lt (d10_lt hz h1)), fun _ => this.2 h2⟩
    · rw [strip_end h1]
      exact ⟨Nat.le_refl _, fun _ => hz⟩
theorem strip_bd {m e : Int} {k : Nat} (h : m.natAbs < k) : (strip m e).1.natAbs < k := Nat.lt_of_le_of_lt (strip_le _ (Nat.le_refl _)).1 h
theorem strip_nz {m e : Int} (h : (strip m e).1 = 0) : m = 0 := by
  rcases Decidable.em (m = 0) with q | q
  · exact q
  · exact absurd h ((@strip_le _ m e (Nat.le_refl _)).2 q)
theorem strip_z {m e : Int} (h : m = 0) : (strip m e).1 = 0 := by subst h; rw [strip_zero]
theorem strip_nz' {m e : Int} (h : (strip m e).1 = 0) : ((0 : Int), (0 : Int)) = strip m e := by rw [strip_nz h, strip_zero]
inductive RrRel : List (Addr × Obj) → List Value → Int × Int × Int → Prop
  | mk {news : List (Addr × Obj)} {m e d : Int} {t u v w : Tok} : RrRel news [.int m t, .int e u, .int d v, .int 60 w] (m, e, d)
/-- what comes back lies in what was made, or is NOUGHT -/
def rOutF (all nw : List (Addr × Obj)) (r : Value) (p : Int × Int) : Prop := ∃ tl, all = nw ++ tl ∧ rOut tl r p
theorem rOutF.all {all nw : List (Addr × Obj)} {r : Value} {p : Int × Int} (h : rOutF all nw r p) : rOut all r p := by
  obtain ⟨tl, rfl, a, e, R⟩ := h
  exact ⟨a, e, R.mono fun p h => List.mem_append.mpr (.inr h)⟩
theorem tellsN_nw {D : Type} {prog : Program} {w : World} {K : Frag} {p : Program} {loose : List Str} {mean : ExcName → Option Value} {mg mb : Str → Option Value} {f : Addr} {c : ToldN (List (Addr × Obj) × D)} {c' : ToldN D}
    (hR : ∀ news vs d, c'.Rel news vs d → c.Rel news vs (news, d)) (hO : ∀ nw d, c'.Ok d → c.Ok (nw, d)) (hs : ∀ nw d, c.size (nw, d) ≤ c'.size d) (hT : ∀ tl, c.Tl tl → c'.Tl tl) (hU : ∀ news r nw d, c.Out news r (nw, d) → c'.Out news r d) (H : ∀ d, TellsN prog w K p loose mean mg mb f c d) :
    ∀ d, TellsN prog w K p loose mean mg mb f c' d := by
  intro d dp un gd cn cs a ccd cl outer A₀ base h₀ L m news s vs Q E B F X N T hk R ok hd hu hret
  have := hs news d
  exact H (news, d) dp un gd cn cs a ccd cl outer A₀ base h₀ L m news s vs Q E B F X N T hk (hR _ _ _ R) (hO _ _ ok) (by omega) (by omega) fun r tl h' tk' F' N' l t o => hret r tl h' tk' F' N' l (hT _ t) (hU _ _ _ _ o)
inductive RrRelF : List (Addr × Obj) → List Value → List (Addr × Obj) × Int × Int × Int → Prop
  | mk {news : List (Addr × Obj)} {m e d : Int} {t u v w : Tok} : RrRelF news [.int m t, .int e u, .int d v, .int 60 w] (news, m, e, d)
abbrev rrFT : ToldN (List (Addr × Obj) × Int × Int × Int) where
  Rel := RrRelF
  Ok := fun d => (d.2.1.natAbs < 10 ^ 60 ∧ d.2.2.1.natAbs < 500 ∧ 1 ≤ d.2.2.2 ∧ d.2.2.2 ≤ 100 ∧ exa d.2.1 d.2.2.2) ∧ (d.2.1 ≠ 0 → -60 < (strip d.2.1 d.2.2.1).2 + (digs (strip d.2.1 d.2.2.1).1.natAbs : Int) ∧ (strip d.2.1 d.2.2.1).2 + (digs (strip d.2.1 d.2.2.1).1.natAbs : Int) ≤ 60)
  size := fun _ => 3
  Tl := fun _ => True
  Out := fun news r d => rOutF news d.1 r (strip d.2.1 d.2.2.1)
abbrev rrT : ToldN (Int × Int × Int) where
  Rel := RrRel
  Ok := fun d => (d.1.natAbs < 10 ^ 60 ∧ d.2.1.natAbs < 500 ∧ 1 ≤ d.2.2 ∧ d.2.2 ≤ 100 ∧ exa d.1 d.2.2) ∧ (d.1 ≠ 0 → -60 < (strip d.1 d.2.1).2 + (digs (strip d.1 d.2.1).1.natAbs : Int) ∧ (strip d.1 d.2.1).2 + (digs (strip d.1 d.2.1).1.natAbs : Int) ≤ 60)
  size := fun _ => 3
  Tl := fun _ => True
  Out := fun news r d => rOut news r (strip d.1 d.2.1)
set_option maxRecDepth 100000 in
set_option maxHeartbeats 8000000 in
theorem c_rrF {w : World} {mean : ExcName → Option Value} {mg mb : Str → Option Value} : ∀ d, TellsN PySem.Challenge.rw_sa0208_01.row.prog w (Mine.hd.heap_39 w.params) Mine.hd.view_39 (looseW Mine.hd.view_39 []) mean mg mb 75 rrFT d := by
  k_with_none
  k_fill
  k_with "call ref" => first | ktn_call (Str.ofString "count_digits") cdT | (ktn_call (Str.ofString "round_digits") rdT; walk_at "MY.got"; (rename RIn _ _ _ _ => hz8); (refine Or.elim (rin_cases hz8) ?_ ?_); (intro ⟨t8, u8, n8, hm8⟩); rotate_left; (intro ⟨ha8, hb8, hc8⟩); (subst ha8); rotate_left)
  k_with "MY.sub" => first | exact sub_refl | (with_reducible (repeat first | exact sub_refl | exact sub_left | refine sub_aa ?_ | refine sub_cc ?_ | refine sub_cons ?_ | refine sub_right ?_); done) | (with_reducible (repeat (first | exact sub_refl | exact sub_left | refine sub_app ?_ ?_ | refine sub_cons ?_ | refine sub_right ?_)); done) | (intro p hp; (simp only [List.mem_append, List.mem_cons, List.not_mem_nil, or_false, or_assoc] at hp ⊢); (repeat' (refine Or.elim hp (fun hp => ?_) (fun hp => ?_))); all_goals (simp only [hp, true_or, or_true]))
  k_with "MY.mem" => first | assumption | (k_mem; done) | ((simp only [List.mem_append, List.mem_cons, true_or, or_true]; done)) | ((refine' (fun {X Y : List (Addr × Obj)} {p : Addr × Obj} (hs : ∀ p ∈ X, p ∈ Y) (h : p ∈ X) => hs p h) ?_ ?h_w1; (case h_w1 => assumption)); walk_at "MY.sub")
  k_with "MY.rin" => first | assumption | exact RIn.nought | exact RIn.tup (by walk_at "MY.mem") | (refine' RIn.mono ?h_w2 ?s_w2; (case h_w2 => assumption); (case s_w2 => walk_at "MY.sub"))
  k_with "MY.up" => first | exact up_nil | (refine up_cons (ktn_ltOf (by first | assumption | tbn_find | exact allLt_of (by assumption))) ?_; walk_at "MY.up") | (refine up_cons (lt_sub (by first | assumption | tbn_find | exact allLt_of (by assumption)) (by walk_at "MY.sub")) ?_; walk_at "MY.up") | (refine up_app ?_ ?_ <;> walk_at "MY.up") | exact up_sub (by assumption) (by walk_at "MY.sub")
  k_with "MY.got" => ((rename rOut _ _ _ => hz); (obtain ⟨a8, e8, hz8⟩ := hz); (subst e8))
  k_with "MY.news" => first | exact nw_n0 (by assumption) | exact nw_p0 (by assumption) | exact nw_p1 (by assumption) | exact nw_p2 (by assumption) | exact nw_p3 (by assumption) | exact nw_n1 (by assumption) | exact nw_n2 (by assumption) | exact nw_n3 (by assumption)
  k_with "subscriptTail" => (k_here; (with_reducible show wpAny _ _ (subscriptTail _ _ (Value.ref _) (Value.int _ _)) _ _ _); (first | (with_reducible refine' rin_item0 ?k1_w6 ?k2_w6 ?k3_w6 ?k4_w6 ?_ ?k6_w6) | (with_reducible refine' rin_item1 ?k1_w6 ?k2_w6 ?k3_w6 ?k4_w6 ?_ ?k6_w6)); (case k1_w6 => k_asm); (case k2_w6 => k_asm); (case k3_w6 => k_asm); (case k4_w6 => walk_at "MY.rin"); (case k6_w6 => with_unfolding_all rfl); k_whole; intro tt)
  k_with "subscriptTail" => (k_here; (with_reducible show wpAny _ _ (subscriptTail _ _ (Value.ref _) (Value.int _ _)) _ _ _); (first | (with_reducible refine' cin_item0 ?k2_w7 ?k4_w7 ?_ ?k6_w7) | (with_reducible refine' cin_item1 ?k2_w7 ?k4_w7 ?_ ?k6_w7)); (case k2_w7 => k_asm); (case k4_w7 => walk_at "MY.cin"); (case k6_w7 => with_unfolding_all rfl); k_whole; intro tt rr)
  k_with "MY.cin" => first | assumption | (refine' CIn.mono ?h_w8 ?s_w8; (case h_w8 => assumption); (case s_w8 => walk_at "MY.sub")) | (refine' CIn.mk ?h1_w8 ?h2_w8 ?h3_w8; (case h1_w8 => walk_at "MY.mem"); (case h2_w8 => walk_at "MY.rin"); (case h3_w8 => walk_at "MY.rin"))
  k_with "MY.gotc" => ((rename cOut _ _ _ _ => hz); (obtain ⟨a8, e8, hz8⟩ := hz); (subst e8))
  k_with "ktr_unf" => (try simp only [rrFT, rdT, cdT, szT] at *)
  k_with "ktr_rel" => first | assumption | exact CdRel.mk | exact RdRel.mk | exact ⟨_, rfl⟩ | exact rfl | exact trivial | exact strip_bd (by assumption) | omega
  k_with "ktr_units" => first | (k_dflt exact un3_ok hu (Nat.le_of_ble_eq_true rfl))
  k_with "ktr_room" => first | (k_dflt exact dp1_ok hd (Nat.le_of_ble_eq_true rfl)) | (k_dflt exact dp0_ok hd)
  intro d
  have C0 := @c_count w mean mg mb
  have C1 := @c_rdig w mean mg mb
  unfold TellsN
  intro dp un gd cn cs a ccd cl outer A₀ base h₀ L m news s vs Q E B F X N T hk hR hok hd hu hret
  cases hR
  rename_i m0 e0 d0 t0 u0 v0 w0
  obtain ⟨ho1, ho2⟩ := hok
  have ho3 := @strip_bd m0 e0 _ ho1.1
  have ho4 := @strip_nz m0 e0
  have ho5 := @strip_z m0 e0
  all_goals ktn_open
  all_goals (
    ktr_unf
    refine wpAny_call ?_
    k_dflt ktr_enter
    k_steps)
  all_goals try (exfalso; omega)
  all_goals (refine hret _ _ _ _ (by assumption) (by walk_at "MY.news") (by walk_at "MY.up") trivial ?_)
  all_goals (refine ⟨_, rfl, ?_⟩)
  all_goals (refine' rd_out ?R ?_; (case R => walk_at "MY.rin"))
  all_goals first | exact rfl | exact strip_nz' (by assumption)
theorem c_rr {w : World} {mean : ExcName → Option Value} {mg mb : Str → Option Value} : ∀ d, TellsN PySem.Challenge.rw_sa0208_01.row.prog w (Mine.hd.heap_39 w.params) Mine.hd.view_39 (looseW Mine.hd.view_39 []) mean mg mb 75 rrT d :=
  tellsN_nw (fun _ _ _ R => by cases R; exact .mk) (fun _ _ o => o) (fun _ _ => Nat.le_refl _) (fun _ => id) (fun _ _ _ _ o => rOutF.all o) c_rrF
end Mine
end
section
namespace Mine
set_option maxRecDepth 100000 in
theorem look47 {w : World} : ∃ d t u n sl, (Mine.hd.heap_39 w.params).lookup 47 = some ⟨.type "tuple", d, .seq #[.int 0 t, .int 0 u] n, sl⟩ := ⟨_, _, _, _, _, rfl⟩
theorem rin_tup {w : World} {news : List (Addr × Obj)} {a : Addr} {m e : Int} {h₀ h : Heap} {L : Addr} {mm : Str → Option Value} (R : RIn news a m e) (F : Fr h₀ L h mm) (N : News h₀ L h news) (X : (Mine.hd.heap_39 w.params).In h₀) :
    ∃ t u, IsTup h a [.int m t, .int e u].toArray := by
  cases R with
  | tup hm => exact ⟨_, _, _, (N _ hm).1, rfl, _, rfl⟩
  | nought =>
    obtain ⟨d, t, u, n, sl, q⟩ := @look47 w
    exact ⟨t, u, _, F.keep _ _ (X _ _ q), rfl, n, rfl⟩
section
variable {prog : Program} {w w' : World} {A : Around} {E : Value → Shared → Prop} {s : Shared} {news : List (Addr × Obj)} {a : Addr} {m e : Int} {h₀ : Heap} {L : Addr} {mm : Str → Option Value} {value slice : Expr} {u : Tok} {Q : Value → Shared → Prop}
theorem rin_item0 (F : Fr h₀ L s.heap mm) (N : News h₀ L s.heap news) (X : (Mine.hd.heap_39 w'.params).In h₀) (R : RIn news a m e) (h : ∀ t, Q (.int m t) s)
    (hs : subscripted slice false (.ref a) (.int 0 u) = operate [.ref a, .int 0 u] (getItem (.ref a) (.int 0 u)) := by with_unfolding_all rfl) : wpAny (model prog w) A (subscriptTail value slice (.ref a) (.int 0 u)) Q E s := by
  obtain ⟨t, v, T⟩ := rin_tup R F N X
  exact item_tupleT T (by decide) (by decide) (j := 0) (by rfl) rfl (h t) hs
theorem rin_item1 (F : Fr h₀ L s.heap mm) (N : News h₀ L s.heap news) (X : (Mine.hd.heap_39 w'.params).In h₀) (R : RIn news a m e) (h : ∀ t, Q (.int e t) s)
    (hs : subscripted slice false (.ref a) (.int 1 u) = operate [.ref a, .int 1 u] (getItem (.ref a) (.int 1 u)) := by with_unfolding_all rfl) : wpAny (model prog w) A (subscriptTail value slice (.ref a) (.int 1 u)) Q E s := by
  obtain ⟨t, v, T⟩ := rin_tup R F N X
  exact item_tupleT T (by decide) (by decide) (j := 1) (by rfl) rfl (h v) hs
end
/-- a pair of such pairs -/
def CIn (news : List (Addr × Obj)) (a : Addr) (p q : Int × Int) : Prop := ∃ b c n, (a, ({ cls := .type "tuple", data := .seq #[.ref b, .ref c] n } : Obj)) ∈ news ∧ RIn news b p.1 p.2 ∧ RIn news c q.1 q.2
theorem CIn.mono {news news' : List (Addr × Obj)} {a : Addr} {p q : Int × Int} (h : CIn news a p q) (hs : ∀ p ∈ news, p ∈ news') : CIn news' a p q := by
  obtain ⟨b, c, n, h1, h2, h3⟩ := h
  exact ⟨b, c, n, hs _ h1, h2.mono hs, h3.mono hs⟩
theorem CIn.mk {news : List (Addr × Obj)} {a b c : Addr} {n : Nat} {m1 e1 m2 e2 : Int} (h1 : (a, ({ cls := .type "tuple", data := .seq #[.ref b, .ref c] n } : Obj)) ∈ news) (h2 : RIn news b m1 e1) (h3 : RIn news c m2 e2) : CIn news a (m1, e1) (m2, e2) := ⟨b, c, n, h1, h2, h3⟩
def cOut (news : List (Addr × Obj)) (r : Value) (p q : Int × Int) : Prop := ∃ a, r = .ref a ∧ CIn news a p q
theorem c_out {news : List (Addr × Obj)} {a : Addr} {p q p' q' : Int × Int} (C : CIn news a p q) (h : p = p') (k : q = q') : cOut news (.ref a) p' q' := by subst h k; exact ⟨a, rfl, C⟩
section
variable {prog : Program} {w w' : World} {A : Around} {E : Value → Shared → Prop} {s : Shared} {news : List (Addr × Obj)} {a : Addr} {p q : Int × Int} {h₀ : Heap} {L : Addr} {mm : Str → Option Value} {value slice : Expr} {u : Tok} {Q : Value → Shared → Prop}
theorem cin_item0 (N : News h₀ L s.heap news) (R : CIn news a p q) (h : ∀ b, RIn news b p.1 p.2 → Q (.ref b) s)
    (hs : subscripted slice false (.ref a) (.int 0 u) = operate [.ref a, .int 0 u] (getItem (.ref a) (.int 0 u)) := by with_unfolding_all rfl) : wpAny (model prog w) A (subscriptTail value slice (.ref a) (.int 0 u)) Q E s := by
  obtain ⟨b, c, n, h1, h2, h3⟩ := R
  exact item_tupleT (l := [.ref b, .ref c]) ⟨_, (N _ h1).1, rfl, _, rfl⟩ (by decide) (by decide) (j := 0) (by rfl) rfl (h b h2) hs
theorem cin_item1 (N : News h₀ L s.heap news) (R : CIn news a p q) (h : ∀ b, RIn news b q.1 q.2 → Q (.ref b) s)
    (hs : subscripted slice false (.ref a) (.int 1 u) = operate [.ref a, .int 1 u] (getItem (.ref a) (.int 1 u)) := by with_unfolding_all rfl) : wpAny (model prog w) A (subscriptTail value slice (.ref a) (.int 1 u)) Q E s := by
  obtain ⟨b, c, n, h1, h2, h3⟩ := R
  exact item_tupleT (l := [.ref b, .ref c]) ⟨_, (N _ h1).1, rfl, _, rfl⟩ (by decide) (by decide) (j := 1) (by rfl) rfl (h c h3) hs
end
end Mine
end
section
namespace Mine
def xadd (xm xe ym ye : Int) : Int × Int :=
  if xm = 0 then (ym, ye) else if ym = 0 then (xm, xe) else (xm * 10 ^ (xe - (if ye < xe then ye else xe)).toNat + ym * 10 ^ (ye - (if ye < xe then ye else xe)).toNat, (if ye < xe then ye else xe))
inductive XaRel : List (Addr × Obj) → List Value → Int × Int × Int × Int → Prop
  | mk {news : List (Addr × Obj)} {a b : Addr} {xm xe ym ye : Int} : RIn news a xm xe → RIn news b ym ye → XaRel news [.ref a, .ref b] (xm, xe, ym, ye)
abbrev xaT : ToldN (Int × Int × Int × Int) where
  Rel := XaRel
  Ok := fun d => d.1.natAbs < 10 ^ 60 ∧ d.2.2.1.natAbs < 10 ^ 60 ∧ (d.2.1 - d.2.2.2).natAbs ≤ 80
  size := fun _ => 1
  Tl := fun _ => True
  Out := fun news r d => rOut news r (xadd d.1 d.2.1 d.2.2.1 d.2.2.2)
abbrev xmT : ToldN (Int × Int × Int × Int) where
  Rel := XaRel
  Ok := fun d => d.1.natAbs < 10 ^ 60 ∧ d.2.2.1.natAbs < 10 ^ 60
  size := fun _ => 1
  Tl := fun _ => True
  Out := fun news r d => rOut news r (d.1 * d.2.2.1, d.2.1 + d.2.2.2)
inductive XnRel : List (Addr × Obj) → List Value → Int × Int → Prop
  | mk {news : List (Addr × Obj)} {a : Addr} {xm xe : Int} : RIn news a xm xe → XnRel news [.ref a] (xm, xe)
abbrev xnT : ToldN (Int × Int) where
  Rel := XnRel
  Ok := fun _ => True
  size := fun _ => 1
  Tl := fun _ => True
  Out := fun news r d => rOut news r (-d.1, d.2)
theorem pow_bd {n : Int} (h : n ≤ 80) : ((10 : Int) ^ n.toNat).natAbs < 10 ^ 90 := by
  rw [Int.natAbs_pow]
  exact Nat.pow_lt_pow_right (by decide) (by omega)
set_option maxRecDepth 100000 in
set_option maxHeartbeats 8000000 in
theorem c_xadd {w : World} {mean : ExcName → Option Value} {mg mb : Str → Option Value} : ∀ d, TellsN PySem.Challenge.rw_sa0208_01.row.prog w (Mine.hd.heap_39 w.params) Mine.hd.view_39 (looseW Mine.hd.view_39 []) mean mg mb 82 xaT d := by
  k_with_none
  k_with "MY.sub" => first | exact sub_refl | (with_reducible (repeat first | exact sub_refl | exact sub_left | refine sub_aa ?_ | refine sub_cc ?_ | refine sub_cons ?_ | refine sub_right ?_); done) | (with_reducible (repeat (first | exact sub_refl | exact sub_left | refine sub_app ?_ ?_ | refine sub_cons ?_ | refine sub_right ?_)); done) | (intro p hp; (simp only [List.mem_append, List.mem_cons, List.not_mem_nil, or_false, or_assoc] at hp ⊢); (repeat' (refine Or.elim hp (fun hp => ?_) (fun hp => ?_))); all_goals (simp only [hp, true_or, or_true]))
  k_with "MY.mem" => first | assumption | (k_mem; done) | ((simp only [List.mem_append, List.mem_cons, true_or, or_true]; done)) | ((refine' (fun {X Y : List (Addr × Obj)} {p : Addr × Obj} (hs : ∀ p ∈ X, p ∈ Y) (h : p ∈ X) => hs p h) ?_ ?h_w1; (case h_w1 => assumption)); walk_at "MY.sub")
  k_with "MY.rin" => first | assumption | exact RIn.nought | exact RIn.tup (by walk_at "MY.mem") | (refine' RIn.mono ?h_w2 ?s_w2; (case h_w2 => assumption); (case s_w2 => walk_at "MY.sub"))
  k_with "MY.up" => first | exact up_nil | (refine up_cons (lt_sub (by assumption) (by walk_at "MY.sub")) ?_; walk_at "MY.up") | (refine up_cons (lt_sub (allLt_of (by assumption)) (by walk_at "MY.sub")) ?_; walk_at "MY.up") | (refine up_app ?_ ?_ <;> walk_at "MY.up") | exact up_sub (by assumption) (by walk_at "MY.sub") 
  k_with "MY.got" => ((rename rOut _ _ _ => hz); (obtain ⟨a8, e8, hz8⟩ := hz); (subst e8))
  k_with "MY.news" => first | exact nw_n0 (by assumption) | exact nw_p0 (by assumption) | exact nw_p1 (by assumption) | exact nw_p2 (by assumption) | exact nw_p3 (by assumption) | exact nw_n1 (by assumption) | exact nw_n2 (by assumption) | exact nw_n3 (by assumption)
  k_with "subscriptTail" => (k_here; (with_reducible show wpAny _ _ (subscriptTail _ _ (Value.ref _) (Value.int _ _)) _ _ _); (first | (with_reducible refine' rin_item0 ?k1_w6 ?k2_w6 ?k3_w6 ?k4_w6 ?_ ?k6_w6) | (with_reducible refine' rin_item1 ?k1_w6 ?k2_w6 ?k3_w6 ?k4_w6 ?_ ?k6_w6)); (case k1_w6 => k_asm); (case k2_w6 => k_asm); (case k3_w6 => k_asm); (case k4_w6 => walk_at "MY.rin"); (case k6_w6 => with_unfolding_all rfl); k_whole; intro tt)
  k_with "binaryOp Pow int int" => (k_here; (with_reducible refine pow_K ?a_w7 ?b_w7 ?_); (case a_w7 => omega); (case b_w7 => omega); intro tk)
  k_with "binaryOp Mult int int" => (k_here; (with_reducible refine mul_K ?a_w8 ?b_w8 ?_); (case a_w8 => omega); (case b_w8 => first | omega | exact pow_bd (by omega)); intro tk)
  k_with "ktr_unf" => (try simp only [xaT, xmT, xnT] at *)
  k_with "ktr_rel" => first | assumption | exact ⟨_, rfl⟩ | exact rfl | exact trivial | omega
  k_with "ktr_units" => first | (k_dflt exact un3_ok hu (Nat.le_of_ble_eq_true rfl))
  k_with "ktr_room" => first | (k_dflt exact dp1_ok hd (Nat.le_of_ble_eq_true rfl)) | (k_dflt exact dp0_ok hd)
  k_fill
  intro d
  unfold TellsN
  intro dp un gd cn cs a ccd cl outer A₀ base h₀ L m news s vs Q E B F X N T hk hR hok hd hu hret
  cases hR
  rename_i a0 b0 xm xe ym ye hx hy
  obtain ⟨ho1, ho2, ho3⟩ := hok
  all_goals ktn_open
  all_goals (
    ktr_unf
    refine wpAny_call ?_
    k_dflt ktr_enter
    k_steps)
  all_goals try (exfalso; omega)
  all_goals (refine hret _ _ _ _ (by assumption) (by walk_at "MY.news") (by walk_at "MY.up") trivial ?_)
  all_goals (refine' rd_out ?R ?_; (case R => walk_at "MY.rin"))
  all_goals (unfold xadd; (repeat' split) <;> first | rfl | (exfalso; omega))
set_option maxRecDepth 100000 in
set_option maxHeartbeats 8000000 in
theorem c_xmul {w : World} {mean : ExcName → Option Value} {mg mb : Str → Option Value} : ∀ d, TellsN PySem.Challenge.rw_sa0208_01.row.prog w (Mine.hd.heap_39 w.params) Mine.hd.view_39 (looseW Mine.hd.view_39 []) mean mg mb 89 xmT d := by
  k_with_none
  k_with "MY.sub" => first | exact sub_refl | (with_reducible (repeat first | exact sub_refl | exact sub_left | refine sub_aa ?_ | refine sub_cc ?_ | refine sub_cons ?_ | refine sub_right ?_); done) | (with_reducible (repeat (first | exact sub_refl | exact sub_left | refine sub_app ?_ ?_ | refine sub_cons ?_ | refine sub_right ?_)); done) | (intro p hp; (simp only [List.mem_append, List.mem_cons, List.not_mem_nil, or_false, or_assoc] at hp ⊢); (repeat' (refine Or.elim hp (fun hp => ?_) (fun hp => ?_))); all_goals (simp only [hp, true_or, or_true]))
  k_with "MY.mem" => first | assumption | (k_mem; done) | ((simp only [List.mem_append, List.mem_cons, true_or, or_true]; done)) | ((refine' (fun {X Y : List (Addr × Obj)} {p : Addr × Obj} (hs : ∀ p ∈ X, p ∈ Y) (h : p ∈ X) => hs p h) ?_ ?h_w1; (case h_w1 => assumption)); walk_at "MY.sub")
  k_with "MY.rin" => first | assumption | exact RIn.nought | exact RIn.tup (by walk_at "MY.mem") | (refine' RIn.mono ?h_w2 ?s_w2; (case h_w2 => assumption); (case s_w2 => walk_at "MY.sub"))
  k_with "MY.up" => first | exact up_nil | (refine up_cons (lt_sub (by assumption) (by walk_at "MY.sub")) ?_; walk_at "MY.up") | (refine up_cons (lt_sub (allLt_of (by assumption)) (by walk_at "MY.sub")) ?_; walk_at "MY.up") | (refine up_app ?_ ?_ <;> walk_at "MY.up") | exact up_sub (by assumption) (by walk_at "MY.sub") 
  k_with "MY.got" => ((rename rOut _ _ _ => hz); (obtain ⟨a8, e8, hz8⟩ := hz); (subst e8))
  k_with "MY.news" => first | exact nw_n0 (by assumption) | exact nw_p0 (by assumption) | exact nw_p1 (by assumption) | exact nw_p2 (by assumption) | exact nw_p3 (by assumption) | exact nw_n1 (by assumption) | exact nw_n2 (by assumption) | exact nw_n3 (by assumption)
  k_with "subscriptTail" => (k_here; (with_reducible show wpAny _ _ (subscriptTail _ _ (Value.ref _) (Value.int _ _)) _ _ _); (first | (with_reducible refine' rin_item0 ?k1_w6 ?k2_w6 ?k3_w6 ?k4_w6 ?_ ?k6_w6) | (with_reducible refine' rin_item1 ?k1_w6 ?k2_w6 ?k3_w6 ?k4_w6 ?_ ?k6_w6)); (case k1_w6 => k_asm); (case k2_w6 => k_asm); (case k3_w6 => k_asm); (case k4_w6 => walk_at "MY.rin"); (case k6_w6 => with_unfolding_all rfl); k_whole; intro tt)
  k_with "binaryOp Pow int int" => (k_here; (with_reducible refine pow_K ?a_w7 ?b_w7 ?_); (case a_w7 => omega); (case b_w7 => omega); intro tk)
  k_with "binaryOp Mult int int" => (k_here; (with_reducible refine mul_K ?a_w8 ?b_w8 ?_); (case a_w8 => omega); (case b_w8 => first | omega | exact pow_bd (by omega)); intro tk)
  k_with "ktr_unf" => (try simp only [xaT, xmT, xnT] at *)
  k_with "ktr_rel" => first | assumption | exact ⟨_, rfl⟩ | exact rfl | exact trivial | omega
  k_with "ktr_units" => first | (k_dflt exact un3_ok hu (Nat.le_of_ble_eq_true rfl))
  k_with "ktr_room" => first | (k_dflt exact dp1_ok hd (Nat.le_of_ble_eq_true rfl)) | (k_dflt exact dp0_ok hd)
  k_fill
  intro d
  unfold TellsN
  intro dp un gd cn cs a ccd cl outer A₀ base h₀ L m news s vs Q E B F X N T hk hR hok hd hu hret
  cases hR
  rename_i a0 b0 xm xe ym ye hx hy
  obtain ⟨ho1, ho2⟩ := hok
  all_goals ktn_open
  all_goals (
    ktr_unf
    refine wpAny_call ?_
    k_dflt ktr_enter
    k_steps)
  all_goals try (exfalso; omega)
  all_goals (refine hret _ _ _ _ (by assumption) (by walk_at "MY.news") (by walk_at "MY.up") trivial ?_)
  all_goals (refine' rd_out ?R ?_; (case R => walk_at "MY.rin"))
  all_goals exact rfl
set_option maxRecDepth 100000 in
set_option maxHeartbeats 8000000 in
theorem c_xneg {w : World} {mean : ExcName → Option Value} {mg mb : Str → Option Value} : ∀ d, TellsN PySem.Challenge.rw_sa0208_01.row.prog w (Mine.hd.heap_39 w.params) Mine.hd.view_39 (looseW Mine.hd.view_39 []) mean mg mb 96 xnT d := by
  k_with_none
  k_with "MY.sub" => first | exact sub_refl | (with_reducible (repeat first | exact sub_refl | exact sub_left | refine sub_aa ?_ | refine sub_cc ?_ | refine sub_cons ?_ | refine sub_right ?_); done) | (with_reducible (repeat (first | exact sub_refl | exact sub_left | refine sub_app ?_ ?_ | refine sub_cons ?_ | refine sub_right ?_)); done) | (intro p hp; (simp only [List.mem_append, List.mem_cons, List.not_mem_nil, or_false, or_assoc] at hp ⊢); (repeat' (refine Or.elim hp (fun hp => ?_) (fun hp => ?_))); all_goals (simp only [hp, true_or, or_true]))
  k_with "MY.mem" => first | assumption | (k_mem; done) | ((simp only [List.mem_append, List.mem_cons, true_or, or_true]; done)) | ((refine' (fun {X Y : List (Addr × Obj)} {p : Addr × Obj} (hs : ∀ p ∈ X, p ∈ Y) (h : p ∈ X) => hs p h) ?_ ?h_w1; (case h_w1 => assumption)); walk_at "MY.sub")
  k_with "MY.rin" => first | assumption | exact RIn.nought | exact RIn.tup (by walk_at "MY.mem") | (refine' RIn.mono ?h_w2 ?s_w2; (case h_w2 => assumption); (case s_w2 => walk_at "MY.sub"))
  k_with "MY.up" => first | exact up_nil | (refine up_cons (lt_sub (by assumption) (by walk_at "MY.sub")) ?_; walk_at "MY.up") | (refine up_cons (lt_sub (allLt_of (by assumption)) (by walk_at "MY.sub")) ?_; walk_at "MY.up") | (refine up_app ?_ ?_ <;> walk_at "MY.up") | exact up_sub (by assumption) (by walk_at "MY.sub") 
  k_with "MY.got" => ((rename rOut _ _ _ => hz); (obtain ⟨a8, e8, hz8⟩ := hz); (subst e8))
  k_with "MY.news" => first | exact nw_n0 (by assumption) | exact nw_p0 (by assumption) | exact nw_p1 (by assumption) | exact nw_p2 (by assumption) | exact nw_p3 (by assumption) | exact nw_n1 (by assumption) | exact nw_n2 (by assumption) | exact nw_n3 (by assumption)
  k_with "subscriptTail" => (k_here; (with_reducible show wpAny _ _ (subscriptTail _ _ (Value.ref _) (Value.int _ _)) _ _ _); (first | (with_reducible refine' rin_item0 ?k1_w6 ?k2_w6 ?k3_w6 ?k4_w6 ?_ ?k6_w6) | (with_reducible refine' rin_item1 ?k1_w6 ?k2_w6 ?k3_w6 ?k4_w6 ?_ ?k6_w6)); (case k1_w6 => k_asm); (case k2_w6 => k_asm); (case k3_w6 => k_asm); (case k4_w6 => walk_at "MY.rin"); (case k6_w6 => with_unfolding_all rfl); k_whole; intro tt)
  k_with "binaryOp Pow int int" => (k_here; (with_reducible refine pow_K ?a_w7 ?b_w7 ?_); (case a_w7 => omega); (case b_w7 => omega); intro tk)
  k_with "binaryOp Mult int int" => (k_here; (with_reducible refine mul_K ?a_w8 ?b_w8 ?_); (case a_w8 => omega); (case b_w8 => first | omega | exact pow_bd (by omega)); intro tk)
  k_with "ktr_unf" => (try simp only [xaT, xmT, xnT] at *)
  k_with "ktr_rel" => first | assumption | exact ⟨_, rfl⟩ | exact rfl | exact trivial | omega
  k_with "ktr_units" => first | (k_dflt exact un3_ok hu (Nat.le_of_ble_eq_true rfl))
  k_with "ktr_room" => first | (k_dflt exact dp1_ok hd (Nat.le_of_ble_eq_true rfl)) | (k_dflt exact dp0_ok hd)
  k_fill
  intro d
  unfold TellsN
  intro dp un gd cn cs a ccd cl outer A₀ base h₀ L m news s vs Q E B F X N T hk hR hok hd hu hret
  cases hR
  rename_i a0 xm xe hx
  all_goals ktn_open
  all_goals (
    ktr_unf
    refine wpAny_call ?_
    k_dflt ktr_enter
    k_steps)
  all_goals try (exfalso; omega)
  all_goals (refine hret _ _ _ _ (by assumption) (by walk_at "MY.news") (by walk_at "MY.up") trivial ?_)
  all_goals (refine' rd_out ?R ?_; (case R => walk_at "MY.rin"))
  all_goals exact rfl
end Mine
end
section
namespace Mine
def rok (p : Int × Int) (d : Int) : Prop := (p.1.natAbs < 10 ^ 60 ∧ p.2.natAbs < 500 ∧ 1 ≤ d ∧ d ≤ 100 ∧ exa p.1 d) ∧ (p.1 ≠ 0 → -60 < (strip p.1 p.2).2 + (digs (strip p.1 p.2).1.natAbs : Int) ∧ (strip p.1 p.2).2 + (digs (strip p.1 p.2).1.natAbs : Int) ≤ 60)
inductive RpRel : List (Addr × Obj) → List Value → (Int × Int) × (Int × Int) × Int → Prop
  | mk {news : List (Addr × Obj)} {a : Addr} {p q : Int × Int} {d : Int} {t u : Tok} : CIn news a p q → RpRel news [.ref a, .int d t, .int 60 u] (p, q, d)
abbrev rpT : ToldN ((Int × Int) × (Int × Int) × Int) where
  Rel := RpRel
  Ok := fun d => rok d.1 d.2.2 ∧ rok d.2.1 d.2.2
  size := fun _ => 4
  Tl := fun _ => True
  Out := fun news r d => cOut news r (strip d.1.1 d.1.2) (strip d.2.1.1 d.2.1.2)
def cOutF (all nw : List (Addr × Obj)) (r : Value) (p q : Int × Int) : Prop := ∃ tl, all = nw ++ tl ∧ cOut tl r p q
theorem cOutF.all {all nw : List (Addr × Obj)} {r : Value} {p q : Int × Int} (h : cOutF all nw r p q) : cOut all r p q := by
  obtain ⟨tl, rfl, a, e, R⟩ := h
  exact ⟨a, e, R.mono fun p h => List.mem_append.mpr (.inr h)⟩
inductive RpRelF : List (Addr × Obj) → List Value → List (Addr × Obj) × (Int × Int) × (Int × Int) × Int → Prop
  | mk {news : List (Addr × Obj)} {a : Addr} {p q : Int × Int} {d : Int} {t u : Tok} : CIn news a p q → RpRelF news [.ref a, .int d t, .int 60 u] (news, p, q, d)
abbrev rpFT : ToldN (List (Addr × Obj) × (Int × Int) × (Int × Int) × Int) where
  Rel := RpRelF
  Ok := fun d => rok d.2.1 d.2.2.2 ∧ rok d.2.2.1 d.2.2.2
  size := fun _ => 4
  Tl := fun _ => True
  Out := fun news r d => cOutF news d.1 r (strip d.2.1.1 d.2.1.2) (strip d.2.2.1.1 d.2.2.1.2)
inductive CnRel : List (Addr × Obj) → List Value → (Int × Int) × (Int × Int) → Prop
  | mk {news : List (Addr × Obj)} {a : Addr} {p q : Int × Int} : CIn news a p q → CnRel news [.ref a] (p, q)
abbrev cnT : ToldN ((Int × Int) × (Int × Int)) where
  Rel := CnRel
  Ok := fun _ => True
  size := fun _ => 2
  Tl := fun _ => True
  Out := fun news r d => cOut news r (-d.1.1, d.1.2) (-d.2.1, d.2.2)
inductive CjRel : List (Addr × Obj) → List Value → (Int × Int) × (Int × Int) → Prop
  | mk {news : List (Addr × Obj)} {k l a : Addr} {n : Nat} {p q : Int × Int} : (l, PySem.W.listOf #[.ref a] n) ∈ news → CIn news a p q → CjRel news [.ref k, .ref l, .none] (p, q)
abbrev cjT : ToldN ((Int × Int) × (Int × Int)) where
  Rel := CjRel
  Ok := fun _ => True
  size := fun _ => 2
  Tl := fun _ => True
  Out := fun news r d => cOut news r (d.1.1, d.1.2) (-d.2.1, d.2.2)
def xmul (p q : Int × Int) : Int × Int := (p.1 * q.1, p.2 + q.2)
def xneg (p : Int × Int) : Int × Int := (-p.1, p.2)
def xad (p q : Int × Int) : Int × Int := xadd p.1 p.2 q.1 q.2
def xok (p q : Int × Int) : Prop := p.1.natAbs < 10 ^ 60 ∧ q.1.natAbs < 10 ^ 60 ∧ (p.2 - q.2).natAbs ≤ 80
inductive EpRel : List (Addr × Obj) → List Value → (Int × Int) × (Int × Int) × (Int × Int) × (Int × Int) → Prop
  | mk {news : List (Addr × Obj)} {a b : Addr} {p q x y : Int × Int} : CIn news a p q → CIn news b x y → EpRel news [.ref a, .ref b] (p, q, x, y)
def epok (p q x y : Int × Int) : Prop := p.1.natAbs < 10 ^ 60 ∧ q.1.natAbs < 10 ^ 60 ∧ x.1.natAbs < 10 ^ 60 ∧ y.1.natAbs < 10 ^ 60 ∧ xok (xmul p x) (xneg (xmul q y)) ∧ xok (xmul p y) (xmul q x)
abbrev epT : ToldN ((Int × Int) × (Int × Int) × (Int × Int) × (Int × Int)) where
  Rel := EpRel
  Ok := fun d => epok d.1 d.2.1 d.2.2.1 d.2.2.2
  size := fun _ => 2
  Tl := fun _ => True
  Out := fun news r d => cOut news r (xad (xmul d.1 d.2.2.1) (xneg (xmul d.2.1 d.2.2.2))) (xad (xmul d.1 d.2.2.2) (xmul d.2.1 d.2.2.1))
theorem one_item {prog : Program} {w : World} {A : Around} {E : Value → Shared → Prop} {s : Shared} {news : List (Addr × Obj)} {l : Addr} {n : Nat} {v : Value} {h₀ : Heap} {L : Addr} {value slice : Expr} {u : Tok} {Q : Value → Shared → Prop}
    (N : News h₀ L s.heap news) (hm : (l, PySem.W.listOf #[v] n) ∈ news) (h : Q v s)
    (hs : subscripted slice false (.ref l) (.int 0 u) = operate [.ref l, .int 0 u] (getItem (.ref l) (.int 0 u)) := by with_unfolding_all rfl) : wpAny (model prog w) A (subscriptTail value slice (.ref l) (.int 0 u)) Q E s := by
  have hl : s.heap.IsList l [v].toArray := ⟨_, (N _ hm).1, rfl, _, rfl⟩
  exact tail_any hl.typeIs slot_list_getitem.lookup (wpAny_getItem_list hl (by decide) (by decide) (by rfl) h) hs
set_option maxRecDepth 100000 in
set_option maxHeartbeats 8000000 in
theorem c_rpF {w : World} {mean : ExcName → Option Value} {mg mb : Str → Option Value} : ∀ d, TellsN PySem.Challenge.rw_sa0208_01.row.prog w (Mine.hd.heap_39 w.params) Mine.hd.view_39 (looseW Mine.hd.view_39 []) mean mg mb 110 rpFT d := by
  k_with_none
  k_fill
  k_with "call ref" => first | (ktn_call (Str.ofString "round_real") rrFT; walk_at "MY.gotF") | (ktn_call (Str.ofString "real_neg") xnT; walk_at "MY.got") | (ktn_call (Str.ofString "exact_mul") xmT; walk_at "MY.got") | (ktn_call (Str.ofString "exact_add") xaT; walk_at "MY.got")
  k_with "MY.sub" => first | exact sub_refl | (with_reducible (repeat first | exact sub_refl | exact sub_left | refine sub_aa ?_ | refine sub_cc ?_ | refine sub_cons ?_ | refine sub_right ?_); done) | (with_reducible (repeat (first | exact sub_refl | exact sub_left | refine sub_app ?_ ?_ | refine sub_cons ?_ | refine sub_right ?_)); done) | (intro p hp; (simp only [List.mem_append, List.mem_cons, List.not_mem_nil, or_false, or_assoc] at hp ⊢); (repeat' (refine Or.elim hp (fun hp => ?_) (fun hp => ?_))); all_goals (simp only [hp, true_or, or_true]))
  k_with "MY.mem" => first | assumption | (k_mem; done) | ((simp only [List.mem_append, List.mem_cons, true_or, or_true]; done)) | ((refine' (fun {X Y : List (Addr × Obj)} {p : Addr × Obj} (hs : ∀ p ∈ X, p ∈ Y) (h : p ∈ X) => hs p h) ?_ ?h_w1; (case h_w1 => assumption)); walk_at "MY.sub")
  k_with "MY.rin" => first | assumption | exact RIn.nought | exact RIn.tup (by walk_at "MY.mem") | (refine' RIn.mono ?h_w2 ?s_w2; (case h_w2 => assumption); (case s_w2 => walk_at "MY.sub"))
  k_with "MY.up" => first | exact up_nil | (refine up_cons (ktn_ltOf (by first | assumption | tbn_find | exact allLt_of (by assumption))) ?_; walk_at "MY.up") | (refine up_cons (lt_sub (by first | assumption | tbn_find | exact allLt_of (by assumption)) (by walk_at "MY.sub")) ?_; walk_at "MY.up") | (refine up_app ?_ ?_ <;> walk_at "MY.up") | exact up_sub (by assumption) (by walk_at "MY.sub")
  k_with "MY.got" => ((rename rOut _ _ _ => hz); (obtain ⟨a8, e8, hz8⟩ := hz); (subst e8))
  k_with "MY.news" => first | exact nw_n0 (by assumption) | exact nw_p0 (by assumption) | exact nw_p1 (by assumption) | exact nw_p2 (by assumption) | exact nw_p3 (by assumption) | exact nw_n1 (by assumption) | exact nw_n2 (by assumption) | exact nw_n3 (by assumption)
  k_with "subscriptTail" => (k_here; (with_reducible show wpAny _ _ (subscriptTail _ _ (Value.ref _) (Value.int _ _)) _ _ _); (first | (with_reducible refine' rin_item0 ?k1_w6 ?k2_w6 ?k3_w6 ?k4_w6 ?_ ?k6_w6) | (with_reducible refine' rin_item1 ?k1_w6 ?k2_w6 ?k3_w6 ?k4_w6 ?_ ?k6_w6)); (case k1_w6 => k_asm); (case k2_w6 => k_asm); (case k3_w6 => k_asm); (case k4_w6 => walk_at "MY.rin"); (case k6_w6 => with_unfolding_all rfl); k_whole; intro tt)
  k_with "subscriptTail" => (k_here; (with_reducible show wpAny _ _ (subscriptTail _ _ (Value.ref _) (Value.int _ _)) _ _ _); (first | (with_reducible refine' cin_item0 ?k2_w7 ?k4_w7 ?_ ?k6_w7) | (with_reducible refine' cin_item1 ?k2_w7 ?k4_w7 ?_ ?k6_w7)); (case k2_w7 => k_asm); (case k4_w7 => walk_at "MY.cin"); (case k6_w7 => with_unfolding_all rfl); k_whole; intro tt rr)
  k_with "MY.cin" => first | assumption | (refine' CIn.mono ?h_w8 ?s_w8; (case h_w8 => assumption); (case s_w8 => walk_at "MY.sub")) | (refine' CIn.mk ?h1_w8 ?h2_w8 ?h3_w8; (case h1_w8 => walk_at "MY.mem"); (case h2_w8 => walk_at "MY.rin"); (case h3_w8 => walk_at "MY.rin"))
  k_with "MY.gotc" => ((rename cOut _ _ _ _ => hz); (obtain ⟨a8, e8, hz8⟩ := hz); (subst e8))
  k_with "MY.gotF" => ((rename rOutF _ _ _ _ => hz); (obtain ⟨tl8, eq8, a8, e8, hz8⟩ := hz); (simp only [List.cons_append, List.append_assoc, List.cons.injEq, true_and, List.append_cancel_left_eq] at eq8); (subst eq8); (subst e8))
  k_with "subscriptTail" => (k_here; (with_reducible show wpAny _ _ (subscriptTail _ _ (Value.ref _) (Value.int _ _)) _ _ _); (with_reducible refine' one_item ?k2_w11 ?k4_w11 ?_ ?k6_w11); (case k2_w11 => k_asm); (case k4_w11 => assumption); (case k6_w11 => with_unfolding_all rfl); k_whole)
  k_with "ktr_unf" => (try simp only [rpFT, rrFT, rpT, cnT, cjT, epT, rrT, xaT, xmT, xnT] at *)
  k_with "ktr_rel" => first | assumption | exact RrRelF.mk | (refine' XaRel.mk ?h1_w13 ?h2_w13; (case h1_w13 => walk_at "MY.rin"); (case h2_w13 => walk_at "MY.rin")) | (refine' XnRel.mk ?h1_w13; (case h1_w13 => walk_at "MY.rin")) | exact ⟨_, rfl⟩ | exact rfl | exact trivial | exact ⟨by assumption, by assumption⟩
  k_with "ktr_units" => first | (k_dflt exact un3_ok hu (Nat.le_of_ble_eq_true rfl))
  k_with "ktr_room" => first | (k_dflt exact dp1_ok hd (Nat.le_of_ble_eq_true rfl)) | (k_dflt exact dp0_ok hd)
  intro d
  have C0 := @c_rrF w mean mg mb
  unfold TellsN
  intro dp un gd cn cs a ccd cl outer A₀ base h₀ L m news s vs Q E B F X N T hk hR hok hd hu hret
  cases hR
  rename_i a0 p0 q0 d0 t0 u0 hC
  obtain ⟨ho1, ho2⟩ := hok
  all_goals ktn_open
  all_goals (
    ktr_unf
    refine wpAny_call ?_
    k_dflt ktr_enter
    k_steps)
  all_goals (refine hret _ _ _ _ (by assumption) (by walk_at "MY.news") (by walk_at "MY.up") trivial ?_)
  all_goals (refine ⟨_, rfl, ?_⟩)
  all_goals (refine' c_out ?C ?_ ?_; (case C => walk_at "MY.cin"))
  all_goals exact rfl
set_option maxRecDepth 100000 in
theorem c_rp {w : World} {mean : ExcName → Option Value} {mg mb : Str → Option Value} : ∀ d, TellsN PySem.Challenge.rw_sa0208_01.row.prog w (Mine.hd.heap_39 w.params) Mine.hd.view_39 (looseW Mine.hd.view_39 []) mean mg mb 110 rpT d :=
  tellsN_nw (fun _ _ _ R => by cases R; exact .mk (by assumption)) (fun _ _ o => o) (fun _ _ => Nat.le_refl _) (fun _ => id) (fun _ _ _ _ o => cOutF.all o) c_rpF
set_option maxRecDepth 100000 in
set_option maxHeartbeats 8000000 in
theorem c_cneg {w : World} {mean : ExcName → Option Value} {mg mb : Str → Option Value} : ∀ d, TellsN PySem.Challenge.rw_sa0208_01.row.prog w (Mine.hd.heap_39 w.params) Mine.hd.view_39 (looseW Mine.hd.view_39 []) mean mg mb 124 cnT d := by
  k_with_none
  k_fill
  k_with "call ref" => first | (ktn_call (Str.ofString "round_real") rrFT; walk_at "MY.gotF") | (ktn_call (Str.ofString "real_neg") xnT; walk_at "MY.got") | (ktn_call (Str.ofString "exact_mul") xmT; walk_at "MY.got") | (ktn_call (Str.ofString "exact_add") xaT; walk_at "MY.got")
  k_with "MY.sub" => first | exact sub_refl | (with_reducible (repeat first | exact sub_refl | exact sub_left | refine sub_aa ?_ | refine sub_cc ?_ | refine sub_cons ?_ | refine sub_right ?_); done) | (with_reducible (repeat (first | exact sub_refl | exact sub_left | refine sub_app ?_ ?_ | refine sub_cons ?_ | refine sub_right ?_)); done) | (intro p hp; (simp only [List.mem_append, List.mem_cons, List.not_mem_nil, or_false, or_assoc] at hp ⊢); (repeat' (refine Or.elim hp (fun hp => ?_) (fun hp => ?_))); all_goals (simp only [hp, true_or, or_true]))
  k_with "MY.mem" => first | assumption | (k_mem; done) | ((simp only [List.mem_append, List.mem_cons, true_or, or_true]; done)) | ((refine' (fun {X Y : List (Addr × Obj)} {p : Addr × Obj} (hs : ∀ p ∈ X, p ∈ Y) (h : p ∈ X) => hs p h) ?_ ?h_w1; (case h_w1 => assumption)); walk_at "MY.sub")
  k_with "MY.rin" => first | assumption | exact RIn.nought | exact RIn.tup (by walk_at "MY.mem") | (refine' RIn.mono ?h_w2 ?s_w2; (case h_w2 => assumption); (case s_w2 => walk_at "MY.sub"))
  k_with "MY.up" => first | exact up_nil | (refine up_cons (ktn_ltOf (by first | assumption | tbn_find | exact allLt_of (by assumption))) ?_; walk_at "MY.up") | (refine up_cons (lt_sub (by first | assumption | tbn_find | exact allLt_of (by assumption)) (by walk_at "MY.sub")) ?_; walk_at "MY.up") | (refine up_app ?_ ?_ <;> walk_at "MY.up") | exact up_sub (by assumption) (by walk_at "MY.sub")
  k_with "MY.got" => ((rename rOut _ _ _ => hz); (obtain ⟨a8, e8, hz8⟩ := hz); (subst e8))
  k_with "MY.news" => first | exact nw_n0 (by assumption) | exact nw_p0 (by assumption) | exact nw_p1 (by assumption) | exact nw_p2 (by assumption) | exact nw_p3 (by assumption) | exact nw_n1 (by assumption) | exact nw_n2 (by assumption) | exact nw_n3 (by assumption)
  k_with "subscriptTail" => (k_here; (with_reducible show wpAny _ _ (subscriptTail _ _ (Value.ref _) (Value.int _ _)) _ _ _); (first | (with_reducible refine' rin_item0 ?k1_w6 ?k2_w6 ?k3_w6 ?k4_w6 ?_ ?k6_w6) | (with_reducible refine' rin_item1 ?k1_w6 ?k2_w6 ?k3_w6 ?k4_w6 ?_ ?k6_w6)); (case k1_w6 => k_asm); (case k2_w6 => k_asm); (case k3_w6 => k_asm); (case k4_w6 => walk_at "MY.rin"); (case k6_w6 => with_unfolding_all rfl); k_whole; intro tt)
  k_with "subscriptTail" => (k_here; (with_reducible show wpAny _ _ (subscriptTail _ _ (Value.ref _) (Value.int _ _)) _ _ _); (first | (with_reducible refine' cin_item0 ?k2_w7 ?k4_w7 ?_ ?k6_w7) | (with_reducible refine' cin_item1 ?k2_w7 ?k4_w7 ?_ ?k6_w7)); (case k2_w7 => k_asm); (case k4_w7 => walk_at "MY.cin"); (case k6_w7 => with_unfolding_all rfl); k_whole; intro tt rr)
  k_with "MY.cin" => first | assumption | (refine' CIn.mono ?h_w8 ?s_w8; (case h_w8 => assumption); (case s_w8 => walk_at "MY.sub")) | (refine' CIn.mk ?h1_w8 ?h2_w8 ?h3_w8; (case h1_w8 => walk_at "MY.mem"); (case h2_w8 => walk_at "MY.rin"); (case h3_w8 => walk_at "MY.rin"))
  k_with "MY.gotc" => ((rename cOut _ _ _ _ => hz); (obtain ⟨a8, e8, hz8⟩ := hz); (subst e8))
  k_with "MY.gotF" => ((rename rOutF _ _ _ _ => hz); (obtain ⟨tl8, eq8, a8, e8, hz8⟩ := hz); (simp only [List.cons_append, List.append_assoc, List.cons.injEq, true_and, List.append_cancel_left_eq] at eq8); (subst eq8); (subst e8))
  k_with "subscriptTail" => (k_here; (with_reducible show wpAny _ _ (subscriptTail _ _ (Value.ref _) (Value.int _ _)) _ _ _); (with_reducible refine' one_item ?k2_w11 ?k4_w11 ?_ ?k6_w11); (case k2_w11 => k_asm); (case k4_w11 => assumption); (case k6_w11 => with_unfolding_all rfl); k_whole)
  k_with "ktr_unf" => (try simp only [rpFT, rrFT, rpT, cnT, cjT, epT, rrT, xaT, xmT, xnT] at *)
  k_with "ktr_rel" => first | assumption | exact RrRelF.mk | (refine' XaRel.mk ?h1_w13 ?h2_w13; (case h1_w13 => walk_at "MY.rin"); (case h2_w13 => walk_at "MY.rin")) | (refine' XnRel.mk ?h1_w13; (case h1_w13 => walk_at "MY.rin")) | exact ⟨_, rfl⟩ | exact rfl | exact trivial | exact ⟨by assumption, by assumption⟩
  k_with "ktr_units" => first | (k_dflt exact un3_ok hu (Nat.le_of_ble_eq_true rfl))
  k_with "ktr_room" => first | (k_dflt exact dp1_ok hd (Nat.le_of_ble_eq_true rfl)) | (k_dflt exact dp0_ok hd)
  intro d
  have C0 := @c_xneg w mean mg mb
  unfold TellsN
  intro dp un gd cn cs a ccd cl outer A₀ base h₀ L m news s vs Q E B F X N T hk hR hok hd hu hret
  cases hR
  rename_i a0 p0 q0 hC
  all_goals ktn_open
  all_goals (
    ktr_unf
    refine wpAny_call ?_
    k_dflt ktr_enter
    k_steps)
  all_goals (refine hret _ _ _ _ (by assumption) (by walk_at "MY.news") (by walk_at "MY.up") trivial ?_)
  all_goals (refine' c_out ?C ?_ ?_; (case C => walk_at "MY.cin"))
  all_goals exact rfl
set_option maxRecDepth 100000 in
set_option maxHeartbeats 8000000 in
theorem c_conj {w : World} {mean : ExcName → Option Value} {mg mb : Str → Option Value} : ∀ d, TellsN PySem.Challenge.rw_sa0208_01.row.prog w (Mine.hd.heap_39 w.params) Mine.hd.view_39 (looseW Mine.hd.view_39 []) mean mg mb 159 cjT d := by
  k_with_none
  k_fill
  k_with "call ref" => first | (ktn_call (Str.ofString "round_real") rrFT; walk_at "MY.gotF") | (ktn_call (Str.ofString "real_neg") xnT; walk_at "MY.got") | (ktn_call (Str.ofString "exact_mul") xmT; walk_at "MY.got") | (ktn_call (Str.ofString "exact_add") xaT; walk_at "MY.got")
  k_with "MY.sub" => first | exact sub_refl | (with_reducible (repeat first | exact sub_refl | exact sub_left | refine sub_aa ?_ | refine sub_cc ?_ | refine sub_cons ?_ | refine sub_right ?_); done) | (with_reducible (repeat (first | exact sub_refl | exact sub_left | refine sub_app ?_ ?_ | refine sub_cons ?_ | refine sub_right ?_)); done) | (intro p hp; (simp only [List.mem_append, List.mem_cons, List.not_mem_nil, or_false, or_assoc] at hp ⊢); (repeat' (refine Or.elim hp (fun hp => ?_) (fun hp => ?_))); all_goals (simp only [hp, true_or, or_true]))
  k_with "MY.mem" => first | assumption | (k_mem; done) | ((simp only [List.mem_append, List.mem_cons, true_or, or_true]; done)) | ((refine' (fun {X Y : List (Addr × Obj)} {p : Addr × Obj} (hs : ∀ p ∈ X, p ∈ Y) (h : p ∈ X) => hs p h) ?_ ?h_w1; (case h_w1 => assumption)); walk_at "MY.sub")
  k_with "MY.rin" => first | assumption | exact RIn.nought | exact RIn.tup (by walk_at "MY.mem") | (refine' RIn.mono ?h_w2 ?s_w2; (case h_w2 => assumption); (case s_w2 => walk_at "MY.sub"))
  k_with "MY.up" => first | exact up_nil | (refine up_cons (ktn_ltOf (by first | assumption | tbn_find | exact allLt_of (by assumption))) ?_; walk_at "MY.up") | (refine up_cons (lt_sub (by first | assumption | tbn_find | exact allLt_of (by assumption)) (by walk_at "MY.sub")) ?_; walk_at "MY.up") | (refine up_app ?_ ?_ <;> walk_at "MY.up") | exact up_sub (by assumption) (by walk_at "MY.sub")
  k_with "MY.got" => ((rename rOut _ _ _ => hz); (obtain ⟨a8, e8, hz8⟩ := hz); (subst e8))
  k_with "MY.news" => first | exact nw_n0 (by assumption) | exact nw_p0 (by assumption) | exact nw_p1 (by assumption) | exact nw_p2 (by assumption) | exact nw_p3 (by assumption) | exact nw_n1 (by assumption) | exact nw_n2 (by assumption) | exact nw_n3 (by assumption)
  k_with "subscriptTail" => (k_here; (with_reducible show wpAny _ _ (subscriptTail _ _ (Value.ref _) (Value.int _ _)) _ _ _); (first | (with_reducible refine' rin_item0 ?k1_w6 ?k2_w6 ?k3_w6 ?k4_w6 ?_ ?k6_w6) | (with_reducible refine' rin_item1 ?k1_w6 ?k2_w6 ?k3_w6 ?k4_w6 ?_ ?k6_w6)); (case k1_w6 => k_asm); (case k2_w6 => k_asm); (case k3_w6 => k_asm); (case k4_w6 => walk_at "MY.rin"); (case k6_w6 => with_unfolding_all rfl); k_whole; intro tt)
  k_with "subscriptTail" => (k_here; (with_reducible show wpAny _ _ (subscriptTail _ _ (Value.ref _) (Value.int _ _)) _ _ _); (first | (with_reducible refine' cin_item0 ?k2_w7 ?k4_w7 ?_ ?k6_w7) | (with_reducible refine' cin_item1 ?k2_w7 ?k4_w7 ?_ ?k6_w7)); (case k2_w7 => k_asm); (case k4_w7 => walk_at "MY.cin"); (case k6_w7 => with_unfolding_all rfl); k_whole; intro tt rr)
  k_with "MY.cin" => first | assumption | (refine' CIn.mono ?h_w8 ?s_w8; (case h_w8 => assumption); (case s_w8 => walk_at "MY.sub")) | (refine' CIn.mk ?h1_w8 ?h2_w8 ?h3_w8; (case h1_w8 => walk_at "MY.mem"); (case h2_w8 => walk_at "MY.rin"); (case h3_w8 => walk_at "MY.rin"))
  k_with "MY.gotc" => ((rename cOut _ _ _ _ => hz); (obtain ⟨a8, e8, hz8⟩ := hz); (subst e8))
  k_with "MY.gotF" => ((rename rOutF _ _ _ _ => hz); (obtain ⟨tl8, eq8, a8, e8, hz8⟩ := hz); (simp only [List.cons_append, List.append_assoc, List.cons.injEq, true_and, List.append_cancel_left_eq] at eq8); (subst eq8); (subst e8))
  k_with "subscriptTail" => (k_here; (with_reducible show wpAny _ _ (subscriptTail _ _ (Value.ref _) (Value.int _ _)) _ _ _); (with_reducible refine' one_item ?k2_w11 ?k4_w11 ?_ ?k6_w11); (case k2_w11 => k_asm); (case k4_w11 => assumption); (case k6_w11 => with_unfolding_all rfl); k_whole)
  k_with "ktr_unf" => (try simp only [rpFT, rrFT, rpT, cnT, cjT, epT, rrT, xaT, xmT, xnT] at *)
  k_with "ktr_rel" => first | assumption | exact RrRelF.mk | (refine' XaRel.mk ?h1_w13 ?h2_w13; (case h1_w13 => walk_at "MY.rin"); (case h2_w13 => walk_at "MY.rin")) | (refine' XnRel.mk ?h1_w13; (case h1_w13 => walk_at "MY.rin")) | exact ⟨_, rfl⟩ | exact rfl | exact trivial | exact ⟨by assumption, by assumption⟩
  k_with "ktr_units" => first | (k_dflt exact un3_ok hu (Nat.le_of_ble_eq_true rfl))
  k_with "ktr_room" => first | (k_dflt exact dp1_ok hd (Nat.le_of_ble_eq_true rfl)) | (k_dflt exact dp0_ok hd)
  intro d
  have C0 := @c_xneg w mean mg mb
  unfold TellsN
  intro dp un gd cn cs a ccd cl outer A₀ base h₀ L m news s vs Q E B F X N T hk hR hok hd hu hret
  cases hR
  rename_i k0 l0 a0 n0 p0 q0 hl hC
  all_goals ktn_open
  all_goals (
    ktr_unf
    refine wpAny_call ?_
    k_dflt ktr_enter
    k_steps)
  all_goals (refine hret _ _ _ _ (by assumption) (by walk_at "MY.news") (by walk_at "MY.up") trivial ?_)
  all_goals (refine' c_out ?C ?_ ?_; (case C => walk_at "MY.cin"))
  all_goals exact rfl
set_option maxRecDepth 100000 in
set_option maxHeartbeats 8000000 in
theorem c_ep {w : World} {mean : ExcName → Option Value} {mg mb : Str → Option Value} : ∀ d, TellsN PySem.Challenge.rw_sa0208_01.row.prog w (Mine.hd.heap_39 w.params) Mine.hd.view_39 (looseW Mine.hd.view_39 []) mean mg mb 138 epT d := by
  k_with_none
  k_fill
  k_with "call ref" => first | (ktn_call (Str.ofString "round_real") rrFT; walk_at "MY.gotF") | (ktn_call (Str.ofString "real_neg") xnT; walk_at "MY.got") | (ktn_call (Str.ofString "exact_mul") xmT; walk_at "MY.got") | (ktn_call (Str.ofString "exact_add") xaT; walk_at "MY.got")
  k_with "MY.sub" => first | exact sub_refl | (with_reducible (repeat first | exact sub_refl | exact sub_left | refine sub_aa ?_ | refine sub_cc ?_ | refine sub_cons ?_ | refine sub_right ?_); done) | (with_reducible (repeat (first | exact sub_refl | exact sub_left | refine sub_app ?_ ?_ | refine sub_cons ?_ | refine sub_right ?_)); done) | (intro p hp; (simp only [List.mem_append, List.mem_cons, List.not_mem_nil, or_false, or_assoc] at hp ⊢); (repeat' (refine Or.elim hp (fun hp => ?_) (fun hp => ?_))); all_goals (simp only [hp, true_or, or_true]))
  k_with "MY.mem" => first | assumption | (k_mem; done) | ((simp only [List.mem_append, List.mem_cons, true_or, or_true]; done)) | ((refine' (fun {X Y : List (Addr × Obj)} {p : Addr × Obj} (hs : ∀ p ∈ X, p ∈ Y) (h : p ∈ X) => hs p h) ?_ ?h_w1; (case h_w1 => assumption)); walk_at "MY.sub")
  k_with "MY.rin" => first | assumption | exact RIn.nought | exact RIn.tup (by walk_at "MY.mem") | (refine' RIn.mono ?h_w2 ?s_w2; (case h_w2 => assumption); (case s_w2 => walk_at "MY.sub"))
  k_with "MY.up" => first | exact up_nil | (refine up_cons (ktn_ltOf (by first | assumption | tbn_find | exact allLt_of (by assumption))) ?_; walk_at "MY.up") | (refine up_cons (lt_sub (by first | assumption | tbn_find | exact allLt_of (by assumption)) (by walk_at "MY.sub")) ?_; walk_at "MY.up") | (refine up_app ?_ ?_ <;> walk_at "MY.up") | exact up_sub (by assumption) (by walk_at "MY.sub")
  k_with "MY.got" => ((rename rOut _ _ _ => hz); (obtain ⟨a8, e8, hz8⟩ := hz); (subst e8))
  k_with "MY.news" => first | exact nw_n0 (by assumption) | exact nw_p0 (by assumption) | exact nw_p1 (by assumption) | exact nw_p2 (by assumption) | exact nw_p3 (by assumption) | exact nw_n1 (by assumption) | exact nw_n2 (by assumption) | exact nw_n3 (by assumption)
  k_with "subscriptTail" => (k_here; (with_reducible show wpAny _ _ (subscriptTail _ _ (Value.ref _) (Value.int _ _)) _ _ _); (first | (with_reducible refine' rin_item0 ?k1_w6 ?k2_w6 ?k3_w6 ?k4_w6 ?_ ?k6_w6) | (with_reducible refine' rin_item1 ?k1_w6 ?k2_w6 ?k3_w6 ?k4_w6 ?_ ?k6_w6)); (case k1_w6 => k_asm); (case k2_w6 => k_asm); (case k3_w6 => k_asm); (case k4_w6 => walk_at "MY.rin"); (case k6_w6 => with_unfolding_all rfl); k_whole; intro tt)
  k_with "subscriptTail" => (k_here; (with_reducible show wpAny _ _ (subscriptTail _ _ (Value.ref _) (Value.int _ _)) _ _ _); (first | (with_reducible refine' cin_item0 ?k2_w7 ?k4_w7 ?_ ?k6_w7) | (with_reducible refine' cin_item1 ?k2_w7 ?k4_w7 ?_ ?k6_w7)); (case k2_w7 => k_asm); (case k4_w7 => walk_at "MY.cin"); (case k6_w7 => with_unfolding_all rfl); k_whole; intro tt rr)
  k_with "MY.cin" => first | assumption | (refine' CIn.mono ?h_w8 ?s_w8; (case h_w8 => assumption); (case s_w8 => walk_at "MY.sub")) | (refine' CIn.mk ?h1_w8 ?h2_w8 ?h3_w8; (case h1_w8 => walk_at "MY.mem"); (case h2_w8 => walk_at "MY.rin"); (case h3_w8 => walk_at "MY.rin"))
  k_with "MY.gotc" => ((rename cOut _ _ _ _ => hz); (obtain ⟨a8, e8, hz8⟩ := hz); (subst e8))
  k_with "MY.gotF" => ((rename rOutF _ _ _ _ => hz); (obtain ⟨tl8, eq8, a8, e8, hz8⟩ := hz); (simp only [List.cons_append, List.append_assoc, List.cons.injEq, true_and, List.append_cancel_left_eq] at eq8); (subst eq8); (subst e8))
  k_with "subscriptTail" => (k_here; (with_reducible show wpAny _ _ (subscriptTail _ _ (Value.ref _) (Value.int _ _)) _ _ _); (with_reducible refine' one_item ?k2_w11 ?k4_w11 ?_ ?k6_w11); (case k2_w11 => k_asm); (case k4_w11 => assumption); (case k6_w11 => with_unfolding_all rfl); k_whole)
  k_with "ktr_unf" => (try simp only [rpFT, rrFT, rpT, cnT, cjT, epT, rrT, xaT, xmT, xnT] at *)
  k_with "ktr_rel" => first | assumption | exact RrRelF.mk | (refine' XaRel.mk ?h1_w13 ?h2_w13; (case h1_w13 => walk_at "MY.rin"); (case h2_w13 => walk_at "MY.rin")) | (refine' XnRel.mk ?h1_w13; (case h1_w13 => walk_at "MY.rin")) | exact ⟨_, rfl⟩ | exact rfl | exact trivial | exact ⟨by assumption, by assumption⟩
  k_with "ktr_units" => first | (k_dflt exact un3_ok hu (Nat.le_of_ble_eq_true rfl))
  k_with "ktr_room" => first | (k_dflt exact dp1_ok hd (Nat.le_of_ble_eq_true rfl)) | (k_dflt exact dp0_ok hd)
  intro d
  have C0 := @c_xneg w mean mg mb
  have C1 := @c_xmul w mean mg mb
  have C2 := @c_xadd w mean mg mb
  unfold TellsN
  intro dp un gd cn cs a ccd cl outer A₀ base h₀ L m news s vs Q E B F X N T hk hR hok hd hu hret
  cases hR
  rename_i a0 b0 p0 q0 x0 y0 hC hD
  obtain ⟨ho1, ho2, ho3, ho4, ho5, ho6⟩ := hok
  all_goals ktn_open
  all_goals (
    ktr_unf
    refine wpAny_call ?_
    k_dflt ktr_enter
    k_steps)
  all_goals (refine hret _ _ _ _ (by assumption) (by walk_at "MY.news") (by walk_at "MY.up") trivial ?_)
  all_goals (refine' c_out ?C ?_ ?_; (case C => walk_at "MY.cin"))
  all_goals exact rfl
end Mine
end
section
namespace Mine
/-! the plain law: what the pairs are worth -/
def canon (v : Int) : Int × Int := strip v 0
def val (p : Int × Int) : Int := p.1 * 10 ^ p.2.toNat
theorem strip_canon {m e : Int} (he : 0 ≤ e) : strip m e = canon (m * 10 ^ e.toNat) := by
  unfold canon
  by_cases hm : m = 0
  · subst hm; rw [Int.zero_mul, strip_zero, strip_zero]
  · rw [strip_pow hm]
    congr 1
    omega
theorem strip_val : ∀ (n : Nat) {m e : Int}, m.natAbs ≤ n → m ≠ 0 → e ≤ (strip m e).2 ∧ (strip m e).1 * 10 ^ ((strip m e).2 - e).toNat = m := by
  intro n
  induction n with
  | zero => intro m e h hz; exact absurd (na_zero h) hz
  | succ n ih =>
    intro m e h hz
    by_cases h1 : m % 10 = 0
    · rw [strip_ten hz h1]
      obtain ⟨i1, i2⟩ := @ih (m / 10) (e + 1) (d10_le hz h1 h) (d10_nz hz h1)
      refine ⟨by omega, ?_⟩
      rw [show ((strip (m / 10) (e + 1)).2 - e).toNat = ((strip (m / 10) (e + 1)).2 - (e + 1)).toNat + 1 from by omega, Int.pow_succ, ← Int.mul_assoc, i2]
      omega
    · rw [strip_end h1]
      simp
theorem canon_zero : canon 0 = (0, 0) := strip_zero
theorem canon_e {v : Int} : 0 ≤ (canon v).2 := by
  by_cases h : v = 0
  · subst h; rw [canon_zero]; decide
  · exact (strip_val _ (Nat.le_refl _) h).1
theorem canon_val {v : Int} : val (canon v) = v := by
  by_cases h : v = 0
  · subst h; rw [canon_zero]; rfl
  · have := (@strip_val _ v 0 (Nat.le_refl _) h).2
    unfold val canon
    rwa [Int.sub_zero] at this
theorem canon_inj {v u : Int} (h : canon v = canon u) : v = u := by rw [← @canon_val v, h, canon_val]
theorem strip_neg : ∀ (n : Nat) {m e : Int}, m.natAbs ≤ n → strip (-m) e = (-(strip m e).1, (strip m e).2) := by
  intro n
  induction n with
  | zero => intro m e h; obtain rfl : m = 0 := na_zero h
            rw [Int.neg_zero, strip_zero]; rfl
  | succ n ih =>
    intro m e h
    by_cases hz : m = 0
    · subst hz; rw [Int.neg_zero, strip_zero]; rfl
    by_cases h1 : m % 10 = 0
    · rw [strip_ten hz h1, strip_ten (by omega) (by omega), show -m / 10 = -(m / 10) from by omega, ih (d10_le hz h1 h)]
    · rw [strip_end h1, strip_end (by omega)]
theorem canon_neg {v : Int} : canon (-v) = (-(canon v).1, (canon v).2) := strip_neg _ (Nat.le_refl _)
theorem ten_pos {k : Nat} : 0 < 10 ^ k := Nat.pow_pos (by decide)
theorem mant_le {m v : Int} {k : Nat} (h : m * 10 ^ k = v) : m.natAbs ≤ v.natAbs := by
  rw [← h, Int.natAbs_mul, Int.natAbs_pow]
  exact Nat.le_mul_of_pos_right _ ten_pos
theorem exp_lt {m v : Int} {k n : Nat} (hm : m ≠ 0) (h : m * 10 ^ k = v) (hv : v.natAbs < 10 ^ n) : k < n := by
  rw [← h, Int.natAbs_mul, Int.natAbs_pow] at hv
  have h1 : 10 ^ k ≤ m.natAbs * 10 ^ k := Nat.le_mul_of_pos_left _ (na_pos hm)
  exact (Nat.pow_lt_pow_iff_right (by decide)).mp (Nat.lt_of_le_of_lt h1 hv)
theorem canon_m {v : Int} : (canon v).1.natAbs ≤ v.natAbs := mant_le canon_val
theorem canon_elt {v : Int} {n : Nat} (hn : 0 < n) (hv : v.natAbs < 10 ^ n) : (canon v).2 < n := by
  by_cases h : v = 0
  · subst h; rw [canon_zero]; simpa using hn
  · have h1 : (canon v).1 ≠ 0 := fun q => h (strip_nz q)
    have := exp_lt h1 (canon_val (v := v)) hv
    have := @canon_e v
    omega
theorem digs_mul {n k : Nat} (hn : 0 < n) : digs (n * 10 ^ k) = digs n + k := by
  induction k with
  | zero => simp
  | succ k ih =>
    have h0 : 0 < n * 10 ^ k := Nat.mul_pos hn ten_pos
    rw [Nat.pow_succ, ← Nat.mul_assoc, digs_pos (by omega), Nat.mul_div_cancel _ (by decide), ih]
    omega
theorem digs_one {n : Nat} (hn : 0 < n) : 0 < digs n := by rw [digs_pos hn]; omega
theorem rok_of {p : Int × Int} {d : Int} (he : 0 ≤ p.2) (he2 : p.2 < 500) (hb : (val p).natAbs < 10 ^ 18) (hd : 18 ≤ d) (hd2 : d ≤ 100) : rok p d := by
  have hm : p.1.natAbs ≤ (val p).natAbs := mant_le rfl
  have hg := (@digs_le 18 p.1.natAbs).mpr (Nat.lt_of_le_of_lt hm hb)
  refine ⟨⟨by omega, by omega, by omega, hd2, fun h => ?_⟩, fun hz => ?_⟩
  · exfalso; omega
  · rw [strip_canon he]
    show -60 < (canon (val p)).2 + (digs (canon (val p)).1.natAbs : Int) ∧ (canon (val p)).2 + (digs (canon (val p)).1.natAbs : Int) ≤ 60
    have hv : val p ≠ 0 := Int.mul_ne_zero hz (Int.ne_of_gt pow_pos')
    have h1 : (canon (val p)).1 ≠ 0 := fun q => hv (strip_nz q)
    have h2 := @canon_val (val p)
    have h3 : (val p).natAbs = (canon (val p)).1.natAbs * 10 ^ (canon (val p)).2.toNat := by
      conv => lhs; rw [← h2]
      unfold val
      rw [Int.natAbs_mul, Int.natAbs_pow]
      rfl
    have h4 := (@digs_le 18 (val p).natAbs).mpr hb
    rw [h3, digs_mul (na_pos h1)] at h4
    have := @canon_e (val p)
    omega
theorem strip_of {p : Int × Int} {v : Int} (he : 0 ≤ p.2) (h : val p = v) : strip p.1 p.2 = canon v := by rw [strip_canon he]; exact congrArg canon h
theorem val_mul {p q : Int × Int} (hp : 0 ≤ p.2) (hq : 0 ≤ q.2) : val (xmul p q) = val p * val q := by
  unfold val xmul
  show p.1 * q.1 * 10 ^ (p.2 + q.2).toNat = _
  rw [show (p.2 + q.2).toNat = p.2.toNat + q.2.toNat from Int.toNat_add hp hq, Int.pow_add]
  simp only [Int.mul_assoc, Int.mul_left_comm, Int.mul_comm]
theorem val_neg {p : Int × Int} : val (xneg p) = -val p := by
  unfold val xneg
  exact Int.neg_mul _ _
theorem pow_min {x l : Int} (h0 : 0 ≤ l) (h : l ≤ x) : (10 : Int) ^ (x - l).toNat * 10 ^ l.toNat = 10 ^ x.toNat := by
  rw [← Int.pow_add, ← Int.toNat_add (Int.sub_nonneg_of_le h) h0, Int.sub_add_cancel]
theorem val_add {p q : Int × Int} (hp : 0 ≤ p.2) (hq : 0 ≤ q.2) : val (xad p q) = val p + val q ∧ 0 ≤ (xad p q).2 ∧ ((xad p q).2 = p.2 ∨ (xad p q).2 = q.2) := by
  unfold val xad xadd
  split
  · rename_i h; rw [h]; simp [hq]
  split
  · rename_i h; rw [h]; simp [hp]
  split
  · rename_i h
    refine ⟨?_, hq, .inr rfl⟩
    show (p.1 * 10 ^ (p.2 - q.2).toNat + q.1 * 10 ^ (q.2 - q.2).toNat) * 10 ^ q.2.toNat = _
    rw [Int.add_mul, Int.mul_assoc, pow_min hq (by omega), Int.mul_assoc, pow_min hq (by omega)]
  · rename_i h
    refine ⟨?_, hp, .inl rfl⟩
    show (p.1 * 10 ^ (p.2 - p.2).toNat + q.1 * 10 ^ (q.2 - p.2).toNat) * 10 ^ p.2.toNat = _
    rw [Int.add_mul, Int.mul_assoc, pow_min hp (by omega), Int.mul_assoc, pow_min hp (by omega)]
/-! the complex operations on pairs of whole numbers -/
def sml (v : Int) : Prop := v.natAbs < 10 ^ 18
def hlf (v : Int) : Prop := v.natAbs < 5 * 10 ^ 17
theorem ca_xok {x y : Int} (hx : sml x) (hy : sml y) : xok (canon x) (canon y) := by
  have a1 := @canon_m x; have a2 := @canon_m y
  have b1 := canon_elt (by decide) hx; have b2 := canon_elt (by decide) hy
  have c1 := @canon_e x; have c2 := @canon_e y
  unfold sml at hx hy
  exact ⟨by omega, by omega, by omega⟩
theorem ca_rok {x y d : Int} (hx : sml x) (hy : sml y) (hs : sml (x + y)) (hd : 18 ≤ d) (hd2 : d ≤ 21) : rok (xad (canon x) (canon y)) d := by
  have b1 := canon_elt (by decide) hx; have b2 := canon_elt (by decide) hy
  obtain ⟨h1, h2, h3⟩ := val_add (@canon_e x) (@canon_e y)
  rw [canon_val, canon_val] at h1
  exact rok_of h2 (by omega) (by rw [h1]; exact hs) hd (by omega)
theorem ca_out {x y : Int} : strip (xad (canon x) (canon y)).1 (xad (canon x) (canon y)).2 = canon (x + y) := by
  obtain ⟨h1, h2, h3⟩ := val_add (@canon_e x) (@canon_e y)
  rw [canon_val, canon_val] at h1
  exact strip_of h2 h1
theorem cm_m {x y : Int} (hx : sml x) (hy : sml y) : (xmul (canon x) (canon y)).1.natAbs < 10 ^ 60 ∧ 0 ≤ (xmul (canon x) (canon y)).2 ∧ (xmul (canon x) (canon y)).2 < 36 := by
  have a1 := @canon_m x; have a2 := @canon_m y
  have b1 := canon_elt (by decide) hx; have b2 := canon_elt (by decide) hy
  have c1 := @canon_e x; have c2 := @canon_e y
  refine ⟨?_, Int.add_nonneg c1 c2, ?_⟩
  · show ((canon x).1 * (canon y).1).natAbs < _
    rw [Int.natAbs_mul]
    refine Nat.lt_of_le_of_lt (Nat.mul_le_mul (Nat.le_of_lt (Nat.lt_of_le_of_lt a1 hx)) (Nat.le_of_lt (Nat.lt_of_le_of_lt a2 hy))) (by decide +kernel)
  · show (canon x).2 + (canon y).2 < 36
    omega
theorem cm_ok {x1 x2 y1 y2 : Int} (h1 : sml x1) (h2 : sml x2) (k1 : sml y1) (k2 : sml y2) : epok (canon x1) (canon x2) (canon y1) (canon y2) := by
  have a1 := @canon_m x1; have a2 := @canon_m x2; have a3 := @canon_m y1; have a4 := @canon_m y2
  have m1 := cm_m h1 k1; have m2 := cm_m h2 k2; have m3 := cm_m h1 k2; have m4 := cm_m h2 k1
  unfold sml at h1 h2 k1 k2
  refine ⟨by omega, by omega, by omega, by omega, ⟨m1.1, ?_, ?_⟩, ⟨m3.1, m4.1, by omega⟩⟩
  · show (-(xmul (canon x2) (canon y2)).1).natAbs < _
    rw [Int.natAbs_neg]; exact m2.1
  · show ((xmul (canon x1) (canon y1)).2 - (xmul (canon x2) (canon y2)).2).natAbs ≤ 80
    omega
theorem cm_val1 {x1 x2 y1 y2 : Int} : val (xad (xmul (canon x1) (canon y1)) (xneg (xmul (canon x2) (canon y2)))) = x1 * y1 - x2 * y2 ∧ 0 ≤ (xad (xmul (canon x1) (canon y1)) (xneg (xmul (canon x2) (canon y2)))).2 ∧
    ((xad (xmul (canon x1) (canon y1)) (xneg (xmul (canon x2) (canon y2)))).2 = (xmul (canon x1) (canon y1)).2 ∨ (xad (xmul (canon x1) (canon y1)) (xneg (xmul (canon x2) (canon y2)))).2 = (xmul (canon x2) (canon y2)).2) := by
  have c1 := @canon_e x1; have c2 := @canon_e x2; have c3 := @canon_e y1; have c4 := @canon_e y2
  obtain ⟨h1, h2, h3⟩ := @val_add (xmul (canon x1) (canon y1)) (xneg (xmul (canon x2) (canon y2))) (Int.add_nonneg c1 c3) (Int.add_nonneg c2 c4)
  rw [val_neg, val_mul c1 c3, val_mul c2 c4, canon_val, canon_val, canon_val, canon_val] at h1
  exact ⟨by rw [h1]; omega, h2, h3⟩
theorem cm_val2 {x1 x2 y1 y2 : Int} : val (xad (xmul (canon x1) (canon y2)) (xmul (canon x2) (canon y1))) = x1 * y2 + x2 * y1 ∧ 0 ≤ (xad (xmul (canon x1) (canon y2)) (xmul (canon x2) (canon y1))).2 ∧
    ((xad (xmul (canon x1) (canon y2)) (xmul (canon x2) (canon y1))).2 = (xmul (canon x1) (canon y2)).2 ∨ (xad (xmul (canon x1) (canon y2)) (xmul (canon x2) (canon y1))).2 = (xmul (canon x2) (canon y1)).2) := by
  have c1 := @canon_e x1; have c2 := @canon_e x2; have c3 := @canon_e y1; have c4 := @canon_e y2
  obtain ⟨h1, h2, h3⟩ := @val_add (xmul (canon x1) (canon y2)) (xmul (canon x2) (canon y1)) (Int.add_nonneg c1 c4) (Int.add_nonneg c2 c3)
  rw [val_mul c1 c4, val_mul c2 c3, canon_val, canon_val, canon_val, canon_val] at h1
  exact ⟨h1, h2, h3⟩
theorem cm_rok1 {x1 x2 y1 y2 d : Int} (h1 : sml x1) (h2 : sml x2) (k1 : sml y1) (k2 : sml y2) (hs : sml (x1 * y1 - x2 * y2)) (hd : 18 ≤ d) (hd2 : d ≤ 21) : rok (xad (xmul (canon x1) (canon y1)) (xneg (xmul (canon x2) (canon y2)))) d := by
  have m1 := cm_m h1 k1; have m2 := cm_m h2 k2
  obtain ⟨v1, v2, v3⟩ := @cm_val1 x1 x2 y1 y2
  exact rok_of v2 (by omega) (by rw [v1]; exact hs) hd (by omega)
theorem cm_rok2 {x1 x2 y1 y2 d : Int} (h1 : sml x1) (h2 : sml x2) (k1 : sml y1) (k2 : sml y2) (hs : sml (x1 * y2 + x2 * y1)) (hd : 18 ≤ d) (hd2 : d ≤ 21) : rok (xad (xmul (canon x1) (canon y2)) (xmul (canon x2) (canon y1))) d := by
  have m1 := cm_m h1 k2; have m2 := cm_m h2 k1
  obtain ⟨v1, v2, v3⟩ := @cm_val2 x1 x2 y1 y2
  exact rok_of v2 (by omega) (by rw [v1]; exact hs) hd (by omega)
theorem cm_out1 {x1 x2 y1 y2 : Int} : strip (xad (xmul (canon x1) (canon y1)) (xneg (xmul (canon x2) (canon y2)))).1 (xad (xmul (canon x1) (canon y1)) (xneg (xmul (canon x2) (canon y2)))).2 = canon (x1 * y1 - x2 * y2) :=
  strip_of cm_val1.2.1 cm_val1.1
theorem cm_out2 {x1 x2 y1 y2 : Int} : strip (xad (xmul (canon x1) (canon y2)) (xmul (canon x2) (canon y1))).1 (xad (xmul (canon x1) (canon y2)) (xmul (canon x2) (canon y1))).2 = canon (x1 * y2 + x2 * y1) :=
  strip_of cm_val2.2.1 cm_val2.1
end Mine
end
section
namespace Mine
theorem tellsN_le {D D' : Type} {prog : Program} {w : World} {K : Frag} {p : Program} {loose : List Str} {mean : ExcName → Option Value} {mg mb : Str → Option Value} {f : Addr} {c : ToldN D} {c' : ToldN D'} {d : D} {d' : D'}
    (hR : ∀ news vs, c'.Rel news vs d' → c.Rel news vs d) (hO : c'.Ok d' → c.Ok d) (hs : c.size d ≤ c'.size d') (hT : ∀ tl, c.Tl tl → c'.Tl tl) (hU : ∀ news r, c'.Ok d' → c.Out news r d → c'.Out news r d') (H : TellsN prog w K p loose mean mg mb f c d) :
    TellsN prog w K p loose mean mg mb f c' d' := by
  intro dp un gd cn cs a ccd cl outer A₀ base h₀ L m news s vs Q E B F X N T hk R ok hd hu hret
  exact H dp un gd cn cs a ccd cl outer A₀ base h₀ L m news s vs Q E B F X N T hk (hR _ _ R) (hO ok) (by omega) (by omega) fun r tl h' tk' F' N' l t o => hret r tl h' tk' F' N' l (hT _ t) (hU _ _ ok o)
inductive VnRel : List (Addr × Obj) → List Value → Int × Int → Prop
  | mk {news : List (Addr × Obj)} {a : Addr} {x1 x2 : Int} : CIn news a (canon x1) (canon x2) → VnRel news [.ref a] (x1, x2)
abbrev vnT : ToldN (Int × Int) where
  Rel := VnRel
  Ok := fun _ => True
  size := fun _ => 2
  Tl := fun _ => True
  Out := fun news r d => cOut news r (canon (-d.1)) (canon (-d.2))
inductive VjRel : List (Addr × Obj) → List Value → Int × Int → Prop
  | mk {news : List (Addr × Obj)} {k l a : Addr} {n : Nat} {x1 x2 : Int} : (l, PySem.W.listOf #[.ref a] n) ∈ news → CIn news a (canon x1) (canon x2) → VjRel news [.ref k, .ref l, .none] (x1, x2)
abbrev vjT : ToldN (Int × Int) where
  Rel := VjRel
  Ok := fun _ => True
  size := fun _ => 2
  Tl := fun _ => True
  Out := fun news r d => cOut news r (canon d.1) (canon (-d.2))
section
variable {w : World} {mean : ExcName → Option Value} {mg mb : Str → Option Value}
theorem v_neg : ∀ d, TellsN PySem.Challenge.rw_sa0208_01.row.prog w (Mine.hd.heap_39 w.params) Mine.hd.view_39 (looseW Mine.hd.view_39 []) mean mg mb 124 vnT d := fun d =>
  tellsN_le (d := (canon d.1, canon d.2)) (fun _ _ R => by cases R; exact .mk (by assumption)) id (Nat.le_refl _) (fun _ => id) (fun news r _ o => by
    show cOut news r (canon (-d.1)) (canon (-d.2))
    rw [canon_neg, canon_neg]
    exact o) (c_cneg (canon d.1, canon d.2))
theorem v_conj : ∀ d, TellsN PySem.Challenge.rw_sa0208_01.row.prog w (Mine.hd.heap_39 w.params) Mine.hd.view_39 (looseW Mine.hd.view_39 []) mean mg mb 159 vjT d := fun d =>
  tellsN_le (d := (canon d.1, canon d.2)) (fun _ _ R => by cases R; exact .mk (by assumption) (by assumption)) id (Nat.le_refl _) (fun _ => id) (fun news r _ o => by
    show cOut news r (canon d.1) (canon (-d.2))
    rw [canon_neg]
    exact o) (c_conj (canon d.1, canon d.2))
end
inductive VaRel : List (Addr × Obj) → List Value → Int × Int × Int × Int × Int → Prop
  | mk {news : List (Addr × Obj)} {a b : Addr} {x1 x2 y1 y2 d : Int} {t u : Tok} : CIn news a (canon x1) (canon x2) → CIn news b (canon y1) (canon y2) → VaRel news [.ref a, .ref b, .int d t, .int 60 u] (x1, x2, y1, y2, d)
structure AOk (x1 x2 y1 y2 d : Int) : Prop where
  f1 : sml x1
  f2 : sml x2
  f3 : sml y1
  f4 : sml y2
  f5 : sml (x1 + y1)
  f6 : sml (x2 + y2)
  lo : 18 ≤ d
  hi : d ≤ 21
abbrev vaT : ToldN (Int × Int × Int × Int × Int) where
  Rel := VaRel
  Ok := fun d => AOk d.1 d.2.1 d.2.2.1 d.2.2.2.1 d.2.2.2.2
  size := fun _ => 6
  Tl := fun _ => True
  Out := fun news r d => cOut news r (canon (d.1 + d.2.2.1)) (canon (d.2.1 + d.2.2.2.1))
abbrev vsT : ToldN (Int × Int × Int × Int × Int) where
  Rel := VaRel
  Ok := fun d => AOk d.1 d.2.1 (-d.2.2.1) (-d.2.2.2.1) d.2.2.2.2
  size := fun _ => 8
  Tl := fun _ => True
  Out := fun news r d => cOut news r (canon (d.1 - d.2.2.1)) (canon (d.2.1 - d.2.2.2.1))
structure MOk (x1 x2 y1 y2 d : Int) : Prop where
  f1 : sml x1
  f2 : sml x2
  f3 : sml y1
  f4 : sml y2
  f5 : sml (x1 * y1 - x2 * y2)
  f6 : sml (x1 * y2 + x2 * y1)
  lo : 18 ≤ d
  hi : d ≤ 21
abbrev vmT : ToldN (Int × Int × Int × Int × Int) where
  Rel := VaRel
  Ok := fun d => MOk d.1 d.2.1 d.2.2.1 d.2.2.2.1 d.2.2.2.2
  size := fun _ => 6
  Tl := fun _ => True
  Out := fun news r d => cOut news r (canon (d.1 * d.2.2.1 - d.2.1 * d.2.2.2.1)) (canon (d.1 * d.2.2.2.1 + d.2.1 * d.2.2.1))
inductive VmRelF : List (Addr × Obj) → List Value → List (Addr × Obj) × Int × Int × Int × Int × Int → Prop
  | mk {news : List (Addr × Obj)} {a b : Addr} {x1 x2 y1 y2 d : Int} {t u : Tok} : CIn news a (canon x1) (canon x2) → CIn news b (canon y1) (canon y2) → VmRelF news [.ref a, .ref b, .int d t, .int 60 u] (news, x1, x2, y1, y2, d)
abbrev vmFT : ToldN (List (Addr × Obj) × Int × Int × Int × Int × Int) where
  Rel := VmRelF
  Ok := fun d => MOk d.2.1 d.2.2.1 d.2.2.2.1 d.2.2.2.2.1 d.2.2.2.2.2
  size := fun _ => 6
  Tl := fun _ => True
  Out := fun news r d => cOutF news d.1 r (canon (d.2.1 * d.2.2.2.1 - d.2.2.1 * d.2.2.2.2.1)) (canon (d.2.1 * d.2.2.2.2.1 + d.2.2.1 * d.2.2.2.1))
theorem canon_sub {x y : Int} : canon (x + -y) = canon (x - y) := by rw [Int.sub_eq_add_neg]
set_option maxRecDepth 100000 in
set_option maxHeartbeats 8000000 in
theorem v_add {w : World} {mean : ExcName → Option Value} {mg mb : Str → Option Value} : ∀ d, TellsN PySem.Challenge.rw_sa0208_01.row.prog w (Mine.hd.heap_39 w.params) Mine.hd.view_39 (looseW Mine.hd.view_39 []) mean mg mb 117 vaT d := by
  k_with_none
  k_fill
  k_with "call ref" => first | (ktn_call (Str.ofString "exact_add") xaT; walk_at "MY.got") | (ktn_call (Str.ofString "round_parts") rpT; walk_at "MY.gotc") | (ktn_call (Str.ofString "exact_product") epT; walk_at "MY.gotc") | (ktn_call (Str.ofString "complex_neg") vnT; walk_at "MY.gotc") | (ktn_call (Str.ofString "complex_add") vaT; walk_at "MY.gotc")
  k_with "MY.sub" => first | exact sub_refl | (with_reducible (repeat first | exact sub_refl | exact sub_left | refine sub_aa ?_ | refine sub_cc ?_ | refine sub_cons ?_ | refine sub_right ?_); done) | (with_reducible (repeat (first | exact sub_refl | exact sub_left | refine sub_app ?_ ?_ | refine sub_cons ?_ | refine sub_right ?_)); done) | (intro p hp; (simp only [List.mem_append, List.mem_cons, List.not_mem_nil, or_false, or_assoc] at hp ⊢); (repeat' (refine Or.elim hp (fun hp => ?_) (fun hp => ?_))); all_goals (simp only [hp, true_or, or_true]))
  k_with "MY.mem" => first | assumption | (k_mem; done) | ((simp only [List.mem_append, List.mem_cons, true_or, or_true]; done)) | ((refine' (fun {X Y : List (Addr × Obj)} {p : Addr × Obj} (hs : ∀ p ∈ X, p ∈ Y) (h : p ∈ X) => hs p h) ?_ ?h_w1; (case h_w1 => assumption)); walk_at "MY.sub")
  k_with "MY.rin" => first | assumption | exact RIn.nought | exact RIn.tup (by walk_at "MY.mem") | (refine' RIn.mono ?h_w2 ?s_w2; (case h_w2 => assumption); (case s_w2 => walk_at "MY.sub"))
  k_with "MY.up" => first | exact up_nil | (refine up_cons (ktn_ltOf (by first | assumption | tbn_find | exact allLt_of (by assumption))) ?_; walk_at "MY.up") | (refine up_cons (lt_sub (by first | assumption | tbn_find | exact allLt_of (by assumption)) (by walk_at "MY.sub")) ?_; walk_at "MY.up") | (refine up_app ?_ ?_ <;> walk_at "MY.up") | exact up_sub (by assumption) (by walk_at "MY.sub")
  k_with "MY.got" => ((rename rOut _ _ _ => hz); (obtain ⟨a8, e8, hz8⟩ := hz); (subst e8))
  k_with "MY.news" => first | exact nw_n0 (by assumption) | exact nw_p0 (by assumption) | exact nw_p1 (by assumption) | exact nw_p2 (by assumption) | exact nw_p3 (by assumption) | exact nw_n1 (by assumption) | exact nw_n2 (by assumption) | exact nw_n3 (by assumption)
  k_with "subscriptTail" => (k_here; (with_reducible show wpAny _ _ (subscriptTail _ _ (Value.ref _) (Value.int _ _)) _ _ _); (first | (with_reducible refine' rin_item0 ?k1_w6 ?k2_w6 ?k3_w6 ?k4_w6 ?_ ?k6_w6) | (with_reducible refine' rin_item1 ?k1_w6 ?k2_w6 ?k3_w6 ?k4_w6 ?_ ?k6_w6)); (case k1_w6 => k_asm); (case k2_w6 => k_asm); (case k3_w6 => k_asm); (case k4_w6 => walk_at "MY.rin"); (case k6_w6 => with_unfolding_all rfl); k_whole; intro tt)
  k_with "subscriptTail" => (k_here; (with_reducible show wpAny _ _ (subscriptTail _ _ (Value.ref _) (Value.int _ _)) _ _ _); (first | (with_reducible refine' cin_item0 ?k2_w7 ?k4_w7 ?_ ?k6_w7) | (with_reducible refine' cin_item1 ?k2_w7 ?k4_w7 ?_ ?k6_w7)); (case k2_w7 => k_asm); (case k4_w7 => walk_at "MY.cin"); (case k6_w7 => with_unfolding_all rfl); k_whole; intro tt rr)
  k_with "MY.cin" => first | assumption | (refine' CIn.mono ?h_w8 ?s_w8; (case h_w8 => assumption); (case s_w8 => walk_at "MY.sub")) | (refine' CIn.mk ?h1_w8 ?h2_w8 ?h3_w8; (case h1_w8 => walk_at "MY.mem"); (case h2_w8 => walk_at "MY.rin"); (case h3_w8 => walk_at "MY.rin"))
  k_with "MY.gotc" => ((rename cOut _ _ _ _ => hz); (obtain ⟨a8, e8, hz8⟩ := hz); (subst e8))
  k_with "MY.gotF" => ((rename rOutF _ _ _ _ => hz); (obtain ⟨tl8, eq8, a8, e8, hz8⟩ := hz); (simp only [List.cons_append, List.append_assoc, List.cons.injEq, true_and, List.append_cancel_left_eq] at eq8); (subst eq8); (subst e8))
  k_with "MY.gotcF" => ((rename cOutF _ _ _ _ _ => hz); (obtain ⟨tl8, eq8, a8, e8, hz8⟩ := hz); (simp only [List.cons_append, List.append_assoc, List.cons.injEq, true_and, List.append_cancel_left_eq] at eq8); (subst eq8); (subst e8))
  k_with "ktr_unf" => (try simp only [rpFT, vmFT, rpT, cnT, cjT, epT, rrT, xaT, xmT, xnT, vnT, vjT, vaT, vsT, vmT] at *)
  k_with "ktr_rel" => first | assumption | (refine' RpRelF.mk ?h1_w13; (case h1_w13 => walk_at "MY.cin")) | (refine' XaRel.mk ?h1_w13 ?h2_w13; (case h1_w13 => walk_at "MY.rin"); (case h2_w13 => walk_at "MY.rin")) | (refine' RpRel.mk ?h1_w13; (case h1_w13 => walk_at "MY.cin")) | (refine' EpRel.mk ?h1_w13 ?h2_w13; (case h1_w13 => walk_at "MY.cin"); (case h2_w13 => walk_at "MY.cin")) | (refine' VnRel.mk ?h1_w13; (case h1_w13 => walk_at "MY.cin")) | (refine' VaRel.mk ?h1_w13 ?h2_w13; (case h1_w13 => walk_at "MY.cin"); (case h2_w13 => walk_at "MY.cin")) | exact ⟨_, rfl⟩ | exact rfl | exact trivial | exact ca_xok (by assumption) (by assumption) | exact ⟨ca_rok (by assumption) (by assumption) (by assumption) (by assumption) (by assumption), ca_rok (by assumption) (by assumption) (by assumption) (by assumption) (by assumption)⟩ | exact cm_ok (by assumption) (by assumption) (by assumption) (by assumption) | exact ⟨cm_rok1 (by assumption) (by assumption) (by assumption) (by assumption) (by assumption) (by assumption) (by assumption), cm_rok2 (by assumption) (by assumption) (by assumption) (by assumption) (by assumption) (by assumption) (by assumption)⟩
  k_with "ktr_units" => first | (k_dflt exact un3_ok hu (Nat.le_of_ble_eq_true rfl))
  k_with "ktr_room" => first | (k_dflt exact dp1_ok hd (Nat.le_of_ble_eq_true rfl)) | (k_dflt exact dp0_ok hd)
  intro d
  have C0 := @c_xadd w mean mg mb
  have C1 := @c_rp w mean mg mb
  unfold TellsN
  intro dp un gd cn cs a ccd cl outer A₀ base h₀ L m news s vs Q E B F X N T hk hR hok hd hu hret
  cases hR
  rename_i a0 b0 x1 x2 y1 y2 d0 t0 u0 hC hD
  obtain ⟨ho1, ho2, ho3, ho4, ho5, ho6, ho7, ho8⟩ := hok
  all_goals ktn_open
  all_goals (
    ktr_unf
    refine wpAny_call ?_
    k_dflt ktr_enter
    k_steps)
  all_goals (refine hret _ _ _ _ (by assumption) (by walk_at "MY.news") (by walk_at "MY.up") trivial ?_)
  all_goals (refine' c_out ?C ?_ ?_; (case C => walk_at "MY.cin"))
  all_goals exact ca_out
set_option maxRecDepth 100000 in
set_option maxHeartbeats 8000000 in
theorem v_sub {w : World} {mean : ExcName → Option Value} {mg mb : Str → Option Value} : ∀ d, TellsN PySem.Challenge.rw_sa0208_01.row.prog w (Mine.hd.heap_39 w.params) Mine.hd.view_39 (looseW Mine.hd.view_39 []) mean mg mb 131 vsT d := by
  k_with_none
  k_fill
  k_with "call ref" => first | (ktn_call (Str.ofString "exact_add") xaT; walk_at "MY.got") | (ktn_call (Str.ofString "round_parts") rpT; walk_at "MY.gotc") | (ktn_call (Str.ofString "exact_product") epT; walk_at "MY.gotc") | (ktn_call (Str.ofString "complex_neg") vnT; walk_at "MY.gotc") | (ktn_call (Str.ofString "complex_add") vaT; walk_at "MY.gotc")
  k_with "MY.sub" => first | exact sub_refl | (with_reducible (repeat first | exact sub_refl | exact sub_left | refine sub_aa ?_ | refine sub_cc ?_ | refine sub_cons ?_ | refine sub_right ?_); done) | (with_reducible (repeat (first | exact sub_refl | exact sub_left | refine sub_app ?_ ?_ | refine sub_cons ?_ | refine sub_right ?_)); done) | (intro p hp; (simp only [List.mem_append, List.mem_cons, List.not_mem_nil, or_false, or_assoc] at hp ⊢); (repeat' (refine Or.elim hp (fun hp => ?_) (fun hp => ?_))); all_goals (simp only [hp, true_or, or_true]))
  k_with "MY.mem" => first | assumption | (k_mem; done) | ((simp only [List.mem_append, List.mem_cons, true_or, or_true]; done)) | ((refine' (fun {X Y : List (Addr × Obj)} {p : Addr × Obj} (hs : ∀ p ∈ X, p ∈ Y) (h : p ∈ X) => hs p h) ?_ ?h_w1; (case h_w1 => assumption)); walk_at "MY.sub")
  k_with "MY.rin" => first | assumption | exact RIn.nought | exact RIn.tup (by walk_at "MY.mem") | (refine' RIn.mono ?h_w2 ?s_w2; (case h_w2 => assumption); (case s_w2 => walk_at "MY.sub"))
  k_with "MY.up" => first | exact up_nil | (refine up_cons (ktn_ltOf (by first | assumption | tbn_find | exact allLt_of (by assumption))) ?_; walk_at "MY.up") | (refine up_cons (lt_sub (by first | assumption | tbn_find | exact allLt_of (by assumption)) (by walk_at "MY.sub")) ?_; walk_at "MY.up") | (refine up_app ?_ ?_ <;> walk_at "MY.up") | exact up_sub (by assumption) (by walk_at "MY.sub")
  k_with "MY.got" => ((rename rOut _ _ _ => hz); (obtain ⟨a8, e8, hz8⟩ := hz); (subst e8))
  k_with "MY.news" => first | exact nw_n0 (by assumption) | exact nw_p0 (by assumption) | exact nw_p1 (by assumption) | exact nw_p2 (by assumption) | exact nw_p3 (by assumption) | exact nw_n1 (by assumption) | exact nw_n2 (by assumption) | exact nw_n3 (by assumption)
  k_with "subscriptTail" => (k_here; (with_reducible show wpAny _ _ (subscriptTail _ _ (Value.ref _) (Value.int _ _)) _ _ _); (first | (with_reducible refine' rin_item0 ?k1_w6 ?k2_w6 ?k3_w6 ?k4_w6 ?_ ?k6_w6) | (with_reducible refine' rin_item1 ?k1_w6 ?k2_w6 ?k3_w6 ?k4_w6 ?_ ?k6_w6)); (case k1_w6 => k_asm); (case k2_w6 => k_asm); (case k3_w6 => k_asm); (case k4_w6 => walk_at "MY.rin"); (case k6_w6 => with_unfolding_all rfl); k_whole; intro tt)
  k_with "subscriptTail" => (k_here; (with_reducible show wpAny _ _ (subscriptTail _ _ (Value.ref _) (Value.int _ _)) _ _ _); (first | (with_reducible refine' cin_item0 ?k2_w7 ?k4_w7 ?_ ?k6_w7) | (with_reducible refine' cin_item1 ?k2_w7 ?k4_w7 ?_ ?k6_w7)); (case k2_w7 => k_asm); (case k4_w7 => walk_at "MY.cin"); (case k6_w7 => with_unfolding_all rfl); k_whole; intro tt rr)
  k_with "MY.cin" => first | assumption | (refine' CIn.mono ?h_w8 ?s_w8; (case h_w8 => assumption); (case s_w8 => walk_at "MY.sub")) | (refine' CIn.mk ?h1_w8 ?h2_w8 ?h3_w8; (case h1_w8 => walk_at "MY.mem"); (case h2_w8 => walk_at "MY.rin"); (case h3_w8 => walk_at "MY.rin"))
  k_with "MY.gotc" => ((rename cOut _ _ _ _ => hz); (obtain ⟨a8, e8, hz8⟩ := hz); (subst e8))
  k_with "MY.gotF" => ((rename rOutF _ _ _ _ => hz); (obtain ⟨tl8, eq8, a8, e8, hz8⟩ := hz); (simp only [List.cons_append, List.append_assoc, List.cons.injEq, true_and, List.append_cancel_left_eq] at eq8); (subst eq8); (subst e8))
  k_with "MY.gotcF" => ((rename cOutF _ _ _ _ _ => hz); (obtain ⟨tl8, eq8, a8, e8, hz8⟩ := hz); (simp only [List.cons_append, List.append_assoc, List.cons.injEq, true_and, List.append_cancel_left_eq] at eq8); (subst eq8); (subst e8))
  k_with "ktr_unf" => (try simp only [rpFT, vmFT, rpT, cnT, cjT, epT, rrT, xaT, xmT, xnT, vnT, vjT, vaT, vsT, vmT] at *)
  k_with "ktr_rel" => first | assumption | (refine' RpRelF.mk ?h1_w13; (case h1_w13 => walk_at "MY.cin")) | (refine' XaRel.mk ?h1_w13 ?h2_w13; (case h1_w13 => walk_at "MY.rin"); (case h2_w13 => walk_at "MY.rin")) | (refine' RpRel.mk ?h1_w13; (case h1_w13 => walk_at "MY.cin")) | (refine' EpRel.mk ?h1_w13 ?h2_w13; (case h1_w13 => walk_at "MY.cin"); (case h2_w13 => walk_at "MY.cin")) | (refine' VnRel.mk ?h1_w13; (case h1_w13 => walk_at "MY.cin")) | (refine' VaRel.mk ?h1_w13 ?h2_w13; (case h1_w13 => walk_at "MY.cin"); (case h2_w13 => walk_at "MY.cin")) | exact ⟨_, rfl⟩ | exact rfl | exact trivial | exact ca_xok (by assumption) (by assumption) | exact ⟨ca_rok (by assumption) (by assumption) (by assumption) (by assumption) (by assumption), ca_rok (by assumption) (by assumption) (by assumption) (by assumption) (by assumption)⟩ | exact cm_ok (by assumption) (by assumption) (by assumption) (by assumption) | exact ⟨cm_rok1 (by assumption) (by assumption) (by assumption) (by assumption) (by assumption) (by assumption) (by assumption), cm_rok2 (by assumption) (by assumption) (by assumption) (by assumption) (by assumption) (by assumption) (by assumption)⟩
  k_with "ktr_units" => first | (k_dflt exact un3_ok hu (Nat.le_of_ble_eq_true rfl))
  k_with "ktr_room" => first | (k_dflt exact dp1_ok hd (Nat.le_of_ble_eq_true rfl)) | (k_dflt exact dp0_ok hd)
  intro d
  have C0 := @v_neg w mean mg mb
  have C1 := @v_add w mean mg mb
  unfold TellsN
  intro dp un gd cn cs a ccd cl outer A₀ base h₀ L m news s vs Q E B F X N T hk hR hok hd hu hret
  cases hR
  rename_i a0 b0 x1 x2 y1 y2 d0 t0 u0 hC hD
  all_goals ktn_open
  all_goals (
    ktr_unf
    refine wpAny_call ?_
    k_dflt ktr_enter
    k_steps)
  all_goals (refine hret _ _ _ _ (by assumption) (by walk_at "MY.news") (by walk_at "MY.up") trivial ?_)
  all_goals (refine' c_out ?C ?_ ?_; (case C => walk_at "MY.cin"))
  all_goals exact canon_sub
set_option maxRecDepth 100000 in
set_option maxHeartbeats 8000000 in
theorem v_mulF {w : World} {mean : ExcName → Option Value} {mg mb : Str → Option Value} : ∀ d, TellsN PySem.Challenge.rw_sa0208_01.row.prog w (Mine.hd.heap_39 w.params) Mine.hd.view_39 (looseW Mine.hd.view_39 []) mean mg mb 145 vmFT d := by
  k_with_none
  k_fill
  k_with "call ref" => first | (ktn_call (Str.ofString "exact_add") xaT; walk_at "MY.got") | (ktn_call (Str.ofString "round_parts") rpFT; walk_at "MY.gotcF") | (ktn_call (Str.ofString "exact_product") epT; walk_at "MY.gotc") | (ktn_call (Str.ofString "complex_neg") vnT; walk_at "MY.gotc") | (ktn_call (Str.ofString "complex_add") vaT; walk_at "MY.gotc")
  k_with "MY.sub" => first | exact sub_refl | (with_reducible (repeat first | exact sub_refl | exact sub_left | refine sub_aa ?_ | refine sub_cc ?_ | refine sub_cons ?_ | refine sub_right ?_); done) | (with_reducible (repeat (first | exact sub_refl | exact sub_left | refine sub_app ?_ ?_ | refine sub_cons ?_ | refine sub_right ?_)); done) | (intro p hp; (simp only [List.mem_append, List.mem_cons, List.not_mem_nil, or_false, or_assoc] at hp ⊢); (repeat' (refine Or.elim hp (fun hp => ?_) (fun hp => ?_))); all_goals (simp only [hp, true_or, or_true]))
  k_with "MY.mem" => first | assumption | (k_mem; done) | ((simp only [List.mem_append, List.mem_cons, true_or, or_true]; done)) | ((refine' (fun {X Y : List (Addr × Obj)} {p : Addr × Obj} (hs : ∀ p ∈ X, p ∈ Y) (h : p ∈ X) => hs p h) ?_ ?h_w1; (case h_w1 => assumption)); walk_at "MY.sub")
  k_with "MY.rin" => first | assumption | exact RIn.nought | exact RIn.tup (by walk_at "MY.mem") | (refine' RIn.mono ?h_w2 ?s_w2; (case h_w2 => assumption); (case s_w2 => walk_at "MY.sub"))
  k_with "MY.up" => first | exact up_nil | (refine up_cons (ktn_ltOf (by first | assumption | tbn_find | exact allLt_of (by assumption))) ?_; walk_at "MY.up") | (refine up_cons (lt_sub (by first | assumption | tbn_find | exact allLt_of (by assumption)) (by walk_at "MY.sub")) ?_; walk_at "MY.up") | (refine up_app ?_ ?_ <;> walk_at "MY.up") | exact up_sub (by assumption) (by walk_at "MY.sub")
  k_with "MY.got" => ((rename rOut _ _ _ => hz); (obtain ⟨a8, e8, hz8⟩ := hz); (subst e8))
  k_with "MY.news" => first | exact nw_n0 (by assumption) | exact nw_p0 (by assumption) | exact nw_p1 (by assumption) | exact nw_p2 (by assumption) | exact nw_p3 (by assumption) | exact nw_n1 (by assumption) | exact nw_n2 (by assumption) | exact nw_n3 (by assumption)
  k_with "subscriptTail" => (k_here; (with_reducible show wpAny _ _ (subscriptTail _ _ (Value.ref _) (Value.int _ _)) _ _ _); (first | (with_reducible refine' rin_item0 ?k1_w6 ?k2_w6 ?k3_w6 ?k4_w6 ?_ ?k6_w6) | (with_reducible refine' rin_item1 ?k1_w6 ?k2_w6 ?k3_w6 ?k4_w6 ?_ ?k6_w6)); (case k1_w6 => k_asm); (case k2_w6 => k_asm); (case k3_w6 => k_asm); (case k4_w6 => walk_at "MY.rin"); (case k6_w6 => with_unfolding_all rfl); k_whole; intro tt)
  k_with "subscriptTail" => (k_here; (with_reducible show wpAny _ _ (subscriptTail _ _ (Value.ref _) (Value.int _ _)) _ _ _); (first | (with_reducible refine' cin_item0 ?k2_w7 ?k4_w7 ?_ ?k6_w7) | (with_reducible refine' cin_item1 ?k2_w7 ?k4_w7 ?_ ?k6_w7)); (case k2_w7 => k_asm); (case k4_w7 => walk_at "MY.cin"); (case k6_w7 => with_unfolding_all rfl); k_whole; intro tt rr)
  k_with "MY.cin" => first | assumption | (refine' CIn.mono ?h_w8 ?s_w8; (case h_w8 => assumption); (case s_w8 => walk_at "MY.sub")) | (refine' CIn.mk ?h1_w8 ?h2_w8 ?h3_w8; (case h1_w8 => walk_at "MY.mem"); (case h2_w8 => walk_at "MY.rin"); (case h3_w8 => walk_at "MY.rin"))
  k_with "MY.gotc" => ((rename cOut _ _ _ _ => hz); (obtain ⟨a8, e8, hz8⟩ := hz); (subst e8))
  k_with "MY.gotF" => ((rename rOutF _ _ _ _ => hz); (obtain ⟨tl8, eq8, a8, e8, hz8⟩ := hz); (simp only [List.cons_append, List.append_assoc, List.cons.injEq, true_and, List.append_cancel_left_eq] at eq8); (subst eq8); (subst e8))
  k_with "MY.gotcF" => ((rename cOutF _ _ _ _ _ => hz); (obtain ⟨tl8, eq8, a8, e8, hz8⟩ := hz); (simp only [List.cons_append, List.append_assoc, List.cons.injEq, true_and, List.append_cancel_left_eq] at eq8); (subst eq8); (subst e8))
  k_with "ktr_unf" => (try simp only [rpFT, vmFT, rpT, cnT, cjT, epT, rrT, xaT, xmT, xnT, vnT, vjT, vaT, vsT, vmT] at *)
  k_with "ktr_rel" => first | assumption | (refine' RpRelF.mk ?h1_w13; (case h1_w13 => walk_at "MY.cin")) | (refine' XaRel.mk ?h1_w13 ?h2_w13; (case h1_w13 => walk_at "MY.rin"); (case h2_w13 => walk_at "MY.rin")) | (refine' RpRel.mk ?h1_w13; (case h1_w13 => walk_at "MY.cin")) | (refine' EpRel.mk ?h1_w13 ?h2_w13; (case h1_w13 => walk_at "MY.cin"); (case h2_w13 => walk_at "MY.cin")) | (refine' VnRel.mk ?h1_w13; (case h1_w13 => walk_at "MY.cin")) | (refine' VaRel.mk ?h1_w13 ?h2_w13; (case h1_w13 => walk_at "MY.cin"); (case h2_w13 => walk_at "MY.cin")) | exact ⟨_, rfl⟩ | exact rfl | exact trivial | exact ca_xok (by assumption) (by assumption) | exact ⟨ca_rok (by assumption) (by assumption) (by assumption) (by assumption) (by assumption), ca_rok (by assumption) (by assumption) (by assumption) (by assumption) (by assumption)⟩ | exact cm_ok (by assumption) (by assumption) (by assumption) (by assumption) | exact ⟨cm_rok1 (by assumption) (by assumption) (by assumption) (by assumption) (by assumption) (by assumption) (by assumption), cm_rok2 (by assumption) (by assumption) (by assumption) (by assumption) (by assumption) (by assumption) (by assumption)⟩
  k_with "ktr_units" => first | (k_dflt exact un3_ok hu (Nat.le_of_ble_eq_true rfl))
  k_with "ktr_room" => first | (k_dflt exact dp1_ok hd (Nat.le_of_ble_eq_true rfl)) | (k_dflt exact dp0_ok hd)
  intro d
  have C0 := @c_ep w mean mg mb
  have C1 := @c_rpF w mean mg mb
  unfold TellsN
  intro dp un gd cn cs a ccd cl outer A₀ base h₀ L m news s vs Q E B F X N T hk hR hok hd hu hret
  cases hR
  rename_i a0 b0 x1 x2 y1 y2 d0 t0 u0 hC hD
  obtain ⟨ho1, ho2, ho3, ho4, ho5, ho6, ho7, ho8⟩ := hok
  all_goals ktn_open
  all_goals (
    ktr_unf
    refine wpAny_call ?_
    k_dflt ktr_enter
    k_steps)
  all_goals (refine hret _ _ _ _ (by assumption) (by walk_at "MY.news") (by walk_at "MY.up") trivial ?_)
  all_goals (refine ⟨_, rfl, ?_⟩)
  all_goals (refine' c_out ?C ?_ ?_; (case C => walk_at "MY.cin"))
  all_goals first | exact cm_out1 | exact cm_out2
set_option maxRecDepth 100000 in
theorem v_mul {w : World} {mean : ExcName → Option Value} {mg mb : Str → Option Value} : ∀ d, TellsN PySem.Challenge.rw_sa0208_01.row.prog w (Mine.hd.heap_39 w.params) Mine.hd.view_39 (looseW Mine.hd.view_39 []) mean mg mb 145 vmT d :=
  tellsN_nw (fun _ _ _ R => by cases R; exact .mk (by assumption) (by assumption)) (fun _ _ o => o) (fun _ _ => Nat.le_refl _) (fun _ => id) (fun _ _ _ _ o => cOutF.all o) v_mulF
end Mine
end
section
namespace Mine
/-- bounds -/
def Bd (n : Nat) (v : Int) : Prop := v.natAbs ≤ n
theorem Bd.add {m n : Nat} {x y : Int} (h : Bd m x) (k : Bd n y) : Bd (m + n) (x + y) := Nat.le_trans (Int.natAbs_add_le x y) (Nat.add_le_add h k)
theorem Bd.sub {m n : Nat} {x y : Int} (h : Bd m x) (k : Bd n y) : Bd (m + n) (x - y) := Nat.le_trans (Int.natAbs_sub_le x y) (Nat.add_le_add h k)
theorem Bd.neg {m : Nat} {x : Int} (h : Bd m x) : Bd m (-x) := Nat.le_trans (Nat.le_of_eq (Int.natAbs_neg x)) h
theorem Bd.mul {m n : Nat} {x y : Int} (h : Bd m x) (k : Bd n y) : Bd (m * n) (x * y) := by
  unfold Bd at *; rw [Int.natAbs_mul]; exact Nat.mul_le_mul h k
theorem Bd.zero : Bd 0 0 := Nat.le_refl _
theorem Bd.one : Bd 1 1 := Nat.le_refl _
theorem sml_of {n : Nat} {v : Int} (h : Bd n v) (k : n < 10 ^ 18) : sml v := Nat.lt_of_le_of_lt h k
theorem aok_of {m m' n n' : Nat} {x1 x2 y1 y2 d : Int} (h1 : Bd m x1) (h2 : Bd m' x2) (h3 : Bd n y1) (h4 : Bd n' y2) (hl : 18 ≤ d) (hh : d ≤ 21) (k : max (m + n) (m' + n') < 10 ^ 18) : AOk x1 x2 y1 y2 d :=
  have k1 := Nat.lt_of_le_of_lt (Nat.le_max_left _ _) k
  have k2 := Nat.lt_of_le_of_lt (Nat.le_max_right _ _) k
  ⟨sml_of h1 (Nat.lt_of_le_of_lt (Nat.le_add_right _ _) k1), sml_of h2 (Nat.lt_of_le_of_lt (Nat.le_add_right _ _) k2), sml_of h3 (Nat.lt_of_le_of_lt (Nat.le_add_left _ _) k1), sml_of h4 (Nat.lt_of_le_of_lt (Nat.le_add_left _ _) k2), sml_of (h1.add h3) k1, sml_of (h2.add h4) k2, hl, hh⟩
theorem sok_of {m m' n n' : Nat} {x1 x2 y1 y2 d : Int} (h1 : Bd m x1) (h2 : Bd m' x2) (h3 : Bd n y1) (h4 : Bd n' y2) (hl : 18 ≤ d) (hh : d ≤ 21) (k : max (m + n) (m' + n') < 10 ^ 18) : AOk x1 x2 (-y1) (-y2) d :=
  aok_of h1 h2 h3.neg h4.neg hl hh k
theorem mok_of {m m' n n' : Nat} {x1 x2 y1 y2 d : Int} (h1 : Bd m x1) (h2 : Bd m' x2) (h3 : Bd n y1) (h4 : Bd n' y2) (hl : 18 ≤ d) (hh : d ≤ 21) (k : max (m + m' + n + n') (max (m * n + m' * n') (m * n' + m' * n)) < 10 ^ 18) : MOk x1 x2 y1 y2 d := by
  have k1 := Nat.lt_of_le_of_lt (Nat.le_max_left _ _) k
  have k2 := Nat.lt_of_le_of_lt (Nat.le_max_right _ _) k
  have k3 := Nat.lt_of_le_of_lt (Nat.le_add_right _ _) k1
  have k4 := Nat.lt_of_le_of_lt (Nat.le_add_right _ _) k3
  exact ⟨sml_of h1 (Nat.lt_of_le_of_lt (Nat.le_add_right _ _) k4), sml_of h2 (Nat.lt_of_le_of_lt (Nat.le_add_left _ _) k4), sml_of h3 (Nat.lt_of_le_of_lt (Nat.le_add_left _ _) k3), sml_of h4 (Nat.lt_of_le_of_lt (Nat.le_add_left _ _) k1), sml_of ((h1.mul h3).sub (h2.mul h4)) (Nat.lt_of_le_of_lt (Nat.le_max_left _ _) k2), sml_of ((h1.mul h4).add (h2.mul h3)) (Nat.lt_of_le_of_lt (Nat.le_max_right _ _) k2), hl, hh⟩
theorem CIn.nought {news : List (Addr × Obj)} {a b c : Addr} {n n2 n3 : Nat} {t1 t2 t3 t4 : Tok} (h1 : (a, ({ cls := .type "tuple", data := .seq #[.ref b, .ref c] n } : Obj)) ∈ news) (h2 : (b, ({ cls := .type "tuple", data := .seq #[.int 0 t1, .int 0 t2] n2 } : Obj)) ∈ news) (h3 : (c, ({ cls := .type "tuple", data := .seq #[.int 0 t3, .int 0 t4] n3 } : Obj)) ∈ news) : CIn news a (canon 0) (canon 0) := by
  rw [canon_zero]; exact CIn.mk h1 (.tup h2) (.tup h3)
theorem canon_one : canon 1 = (1, 0) := strip_end (by decide)
theorem CIn.one {news : List (Addr × Obj)} {a b c : Addr} {n n2 n3 : Nat} {t1 t2 t3 t4 : Tok} (h1 : (a, ({ cls := .type "tuple", data := .seq #[.ref b, .ref c] n } : Obj)) ∈ news) (h2 : (b, ({ cls := .type "tuple", data := .seq #[.int 1 t1, .int 0 t2] n2 } : Obj)) ∈ news) (h3 : (c, ({ cls := .type "tuple", data := .seq #[.int 0 t3, .int 0 t4] n3 } : Obj)) ∈ news) : CIn news a (canon 1) (canon 0) := by
  rw [canon_zero, canon_one]; exact CIn.mk h1 (.tup h2) (.tup h3)
def dR (p : Int × Int) : PyData := .tuple [.int p.1, .int p.2]
def dC (p q : Int × Int) : PyData := .tuple [dR p, dR q]
theorem rin_reads {w : World} {news : List (Addr × Obj)} {a : Addr} {m e : Int} {h₀ h : Heap} {L : Addr} {mm : Str → Option Value} (R : RIn news a m e) (F : Fr h₀ L h mm) (N : News h₀ L h news) (X : (Mine.hd.heap_39 w.params).In h₀) : Reads h (.ref a) (dR (m, e)) [] := by
  obtain ⟨t, u, o, ho, hc, n, hd⟩ := rin_tup R F N X
  exact .tuple ho hc hd (.cons (.int _ _) (.cons (.int _ _) .nil))
theorem cin_reads {w : World} {news : List (Addr × Obj)} {a : Addr} {p q : Int × Int} {h₀ h : Heap} {L : Addr} {mm : Str → Option Value} (R : CIn news a p q) (F : Fr h₀ L h mm) (N : News h₀ L h news) (X : (Mine.hd.heap_39 w.params).In h₀) : Reads h (.ref a) (dC p q) [] := by
  obtain ⟨b, c, n, h1, h2, h3⟩ := R
  exact .tuple (N _ h1).1 rfl rfl (.cons (rin_reads h2 F N X) (.cons (rin_reads h3 F N X) .nil))
theorem eqv_R {p q : Int × Int} : PyData.eqv (dR p) (dR q) = decide (p = q) := by
  obtain ⟨a, b⟩ := p; obtain ⟨c, d⟩ := q
  simp only [dR, PyData.eqv, PyData.eqvAll, Prod.mk.injEq]
  by_cases h1 : a = c <;> by_cases h2 : b = d <;> simp [h1, h2]
theorem eqv_C {p q p' q' : Int × Int} : PyData.eqv (dC p q) (dC p' q') = decide (p = p' ∧ q = q') := by
  have e : PyData.eqv (dC p q) (dC p' q') = (PyData.eqv (dR p) (dR p') && (PyData.eqv (dR q) (dR q') && true)) := rfl
  rw [e, eqv_R, eqv_R]
  by_cases h1 : p = p' <;> by_cases h2 : q = q' <;> simp [h1, h2]
section
variable {prog : Program} {w w' : World} {A : Around} {E : Value → Shared → Prop} {s : Shared} {news : List (Addr × Obj)} {a b : Addr} {h₀ : Heap} {L : Addr} {mm : Str → Option Value} {Q : Value → Shared → Prop}
theorem cin_ne {x1 x2 y1 y2 : Int} (F : Fr h₀ L s.heap mm) (N : News h₀ L s.heap news) (X : (Mine.hd.heap_39 w'.params).In h₀) (R : CIn news a (canon x1) (canon x2)) (S : CIn news b (canon y1) (canon y2)) (hu : A.units + 64 < cLine) (e1 : x1 = y1) (e2 : x2 = y2)
    (h : Q (.bool false) s) : wpAny (model prog w) A (compareOp .NotEq (.ref a) (.ref b)) Q E s := by
  refine ne_dataH (cin_reads R F N X) (cin_reads S F N X) rfl rfl hu ?_
  rw [eqv_C, e1, e2]
  simpa using h
theorem cin_eq {x1 x2 y1 y2 : Int} (F : Fr h₀ L s.heap mm) (N : News h₀ L s.heap news) (X : (Mine.hd.heap_39 w'.params).In h₀) (R : CIn news a (canon x1) (canon x2)) (S : CIn news b (canon y1) (canon y2)) (hu : A.units + 64 < cLine) (e1 : x1 = y1) (e2 : x2 = y2)
    (h : Q (.bool true) s) : wpAny (model prog w) A (compareOp .Eq (.ref a) (.ref b)) Q E s := by
  refine eq_dataH (cin_reads R F N X) (cin_reads S F N X) rfl rfl hu ?_
  rw [eqv_C, e1, e2]
  simpa using h
theorem cin_dec {x1 x2 y1 y2 : Int} (F : Fr h₀ L s.heap mm) (N : News h₀ L s.heap news) (X : (Mine.hd.heap_39 w'.params).In h₀) (R : CIn news a (canon x1) (canon x2)) (S : CIn news b (canon y1) (canon y2)) (hu : A.units + 64 < cLine)
    (h : Q (.bool (decide (x1 = y1 ∧ x2 = y2))) s) : wpAny (model prog w) A (compareOp .Eq (.ref a) (.ref b)) Q E s := by
  refine eq_dataH (cin_reads R F N X) (cin_reads S F N X) rfl rfl hu ?_
  rw [eqv_C]
  rwa [show decide (canon x1 = canon y1 ∧ canon x2 = canon y2) = decide (x1 = y1 ∧ x2 = y2) from by
    congr 1
    exact propext ⟨fun ⟨h, k⟩ => ⟨canon_inj h, canon_inj k⟩, fun ⟨h, k⟩ => by rw [h, k]; exact ⟨rfl, rfl⟩⟩]
theorem rin_ne {x y : Int} (F : Fr h₀ L s.heap mm) (N : News h₀ L s.heap news) (X : (Mine.hd.heap_39 w'.params).In h₀) (R : RIn news a (canon x).1 (canon x).2) (S : RIn news b (canon y).1 (canon y).2) (hu : A.units + 64 < cLine) (e1 : x = y)
    (h : Q (.bool false) s) : wpAny (model prog w) A (compareOp .NotEq (.ref a) (.ref b)) Q E s := by
  refine ne_dataH (rin_reads R F N X) (rin_reads S F N X) rfl rfl hu ?_
  rw [e1, eqv_R]
  simpa using h
theorem RIn.zero {news : List (Addr × Obj)} {a : Addr} {n : Nat} {t u : Tok} (h : (a, ({ cls := .type "tuple", data := .seq #[.int 0 t, .int 0 u] n } : Obj)) ∈ news) : RIn news a (canon 0).1 (canon 0).2 := by rw [canon_zero]; exact .tup h
end
end Mine
end
section
namespace Mine
section
variable {a b c d e f : Int}
theorem i_d1 : (a + c) * e - (b + d) * f = a * e - b * f + (c * e - d * f) := by grind
theorem i_d2 : (a + c) * f + (b + d) * e = a * f + b * e + (c * f + d * e) := by grind
theorem i_q1 : (a + c) * (a - c) - (b + d) * (b - d) = a * a - b * b - (c * c - d * d) := by grind
theorem i_q2 : (a + c) * (b - d) + (b + d) * (a - c) = a * b + b * a - (c * d + d * c) := by grind
theorem i_n : -(b + d) = -b + -d := by grind
theorem i_c1 : a * c - b * d = c * a - d * b := by grind
theorem i_c2 : a * d + b * c = c * b + d * a := by grind
theorem i_o1 : a * 1 - b * 0 = a := by grind
theorem i_o2 : a * 0 + b * 1 = b := by grind
theorem i_a1 : (a * c - b * d) * e - (a * d + b * c) * f = a * (c * e - d * f) - b * (c * f + d * e) := by grind
theorem i_a2 : (a * c - b * d) * f + (a * d + b * c) * e = a * (c * f + d * e) + b * (c * e - d * f) := by grind
theorem i_m1 : a * c - b * d = a * c - -b * -d := by grind
theorem i_m2 : -(a * d + b * c) = a * -d + -b * c := by grind
theorem i_s1 : (a * c - b * d) * (a * c - b * d) - (a * d + b * c) * -(a * d + b * c) = (a * a - b * -b) * (c * c - d * -d) - (a * -b + b * a) * (c * -d + d * c) := by grind
theorem i_s2 : (a * c - b * d) * -(a * d + b * c) + (a * d + b * c) * (a * c - b * d) = (a * a - b * -b) * (c * -d + d * c) + (a * -b + b * a) * (c * c - d * -d) := by grind
theorem i_z : a * -b + b * a = 0 := by grind
theorem i_sq : 0 ≤ a * a - b * -b := by
  have h1 : 0 ≤ a * a := by
    rcases Int.le_total 0 a with h | h
    · exact Int.mul_nonneg h h
    · exact Int.mul_nonneg_of_nonpos_of_nonpos h h
  have h2 : 0 ≤ b * b := by
    rcases Int.le_total 0 b with h | h
    · exact Int.mul_nonneg h h
    · exact Int.mul_nonneg_of_nonpos_of_nonpos h h
  rw [Int.mul_neg]
  omega
theorem i_sz : a * a - b * -b = 0 ↔ a = 0 ∧ b = 0 := by
  constructor
  · intro h
    have h1 : 0 ≤ a * a := by
      rcases Int.le_total 0 a with h | h
      · exact Int.mul_nonneg h h
      · exact Int.mul_nonneg_of_nonpos_of_nonpos h h
    have h2 : 0 ≤ b * b := by
      rcases Int.le_total 0 b with h | h
      · exact Int.mul_nonneg h h
      · exact Int.mul_nonneg_of_nonpos_of_nonpos h h
    rw [Int.mul_neg] at h
    have h3 : a * a = 0 := by omega
    have h4 : b * b = 0 := by omega
    exact ⟨(Int.mul_eq_zero.mp h3).elim id id, (Int.mul_eq_zero.mp h4).elim id id⟩
  · rintro ⟨rfl, rfl⟩; rfl
theorem i_dz : decide (a * a - b * -b = 0 ∧ a * -b + b * a = 0) = decide (a = 0 ∧ b = 0) := by
  congr 1
  exact propext ⟨fun h => i_sz.mp h.1, fun h => ⟨i_sz.mpr h, i_z⟩⟩
end
end Mine
end
section
namespace Mine
abbrev miT : ToldN (Int × Int) where
  Rel := VnRel
  Ok := fun _ => True
  size := fun _ => 4
  Tl := fun _ => True
  Out := fun news r d => cOut news r (canon d.1) (canon (-d.2))
inductive SuRel : List (Addr × Obj) → List Value → Int × Int × Int × Int × Int × Int × Int → Prop
  | mk {news : List (Addr × Obj)} {a b c : Addr} {x1 x2 y1 y2 z1 z2 d : Int} {t : Tok} : CIn news a (canon x1) (canon x2) → CIn news b (canon y1) (canon y2) → CIn news c (canon z1) (canon z2) → SuRel news [.ref a, .ref b, .ref c, .int d t] (x1, x2, y1, y2, z1, z2, d)
structure SOk (x1 x2 y1 y2 z1 z2 d : Int) : Prop where
  f1 : Bd 9900 x1
  f2 : Bd 9900 x2
  f3 : Bd 9900 y1
  f4 : Bd 9900 y2
  f5 : Bd 9900 z1
  f6 : Bd 9900 z2
  lo : 18 ≤ d
  hi : d ≤ 21
abbrev suT : ToldN (Int × Int × Int × Int × Int × Int × Int) where
  Rel := SuRel
  Ok := fun d => SOk d.1 d.2.1 d.2.2.1 d.2.2.2.1 d.2.2.2.2.1 d.2.2.2.2.2.1 d.2.2.2.2.2.2
  size := fun _ => 30
  Tl := fun _ => True
  Out := fun _ r _ => r = .bool true
set_option maxRecDepth 100000 in
set_option maxHeartbeats 8000000 in
theorem v_mir {w : World} {mean : ExcName → Option Value} {mg mb : Str → Option Value} : ∀ d, TellsN PySem.Challenge.rw_sa0208_01.row.prog w (Mine.hd.heap_39 w.params) Mine.hd.view_39 (looseW Mine.hd.view_39 []) mean mg mb 180 miT d := by
  k_with_none
  k_fill
  k_with "call ref" => first | (ktn_call (Str.ofString "conjugate") vjT; walk_at "MY.gotc") | (ktn_call (Str.ofString "complex_neg") vnT; walk_at "MY.gotc") | (ktn_call (Str.ofString "complex_add") vaT; walk_at "MY.gotc") | (ktn_call (Str.ofString "complex_sub") vsT; walk_at "MY.gotc") | (ktn_call (Str.ofString "complex_mul") vmT; walk_at "MY.gotc") | (ktn_call (Str.ofString "_law_mirrored") miT; walk_at "MY.gotc")
  k_with "MY.sub" => first | exact sub_refl | (with_reducible (repeat first | exact sub_refl | exact sub_left | refine sub_aa ?_ | refine sub_cc ?_ | refine sub_cons ?_ | refine sub_right ?_); done) | (with_reducible (repeat (first | exact sub_refl | exact sub_left | refine sub_app ?_ ?_ | refine sub_cons ?_ | refine sub_right ?_)); done) | (intro p hp; (simp only [List.mem_append, List.mem_cons, List.not_mem_nil, or_false, or_assoc] at hp ⊢); (repeat' (refine Or.elim hp (fun hp => ?_) (fun hp => ?_))); all_goals (simp only [hp, true_or, or_true]))
  k_with "MY.mem" => first | assumption | (k_mem; done) | ((simp only [List.mem_append, List.mem_cons, true_or, or_true]; done)) | ((refine' (fun {X Y : List (Addr × Obj)} {p : Addr × Obj} (hs : ∀ p ∈ X, p ∈ Y) (h : p ∈ X) => hs p h) ?_ ?h_w1; (case h_w1 => assumption)); walk_at "MY.sub")
  k_with "MY.rin" => first | assumption | exact RIn.nought | exact RIn.tup (by walk_at "MY.mem") | (refine' RIn.mono ?h_w2 ?s_w2; (case h_w2 => assumption); (case s_w2 => walk_at "MY.sub"))
  k_with "MY.up" => first | exact up_nil | (refine up_cons (ktn_ltOf (by first | assumption | tbn_find | exact allLt_of (by assumption))) ?_; walk_at "MY.up") | (refine up_cons (lt_sub (by first | assumption | tbn_find | exact allLt_of (by assumption)) (by walk_at "MY.sub")) ?_; walk_at "MY.up") | (refine up_app ?_ ?_ <;> walk_at "MY.up") | exact up_sub (by assumption) (by walk_at "MY.sub")
  k_with "MY.got" => ((rename rOut _ _ _ => hz); (obtain ⟨a8, e8, hz8⟩ := hz); (subst e8))
  k_with "MY.news" => first | exact nw_n0 (by assumption) | exact nw_p0 (by assumption) | exact nw_p1 (by assumption) | exact nw_p2 (by assumption) | exact nw_p3 (by assumption) | exact nw_n1 (by assumption) | exact nw_n2 (by assumption) | exact nw_n3 (by assumption)
  k_with "subscriptTail" => (k_here; (with_reducible show wpAny _ _ (subscriptTail _ _ (Value.ref _) (Value.int _ _)) _ _ _); (first | (with_reducible refine' rin_item0 ?k1_w6 ?k2_w6 ?k3_w6 ?k4_w6 ?_ ?k6_w6) | (with_reducible refine' rin_item1 ?k1_w6 ?k2_w6 ?k3_w6 ?k4_w6 ?_ ?k6_w6)); (case k1_w6 => k_asm); (case k2_w6 => k_asm); (case k3_w6 => k_asm); (case k4_w6 => walk_at "MY.rin"); (case k6_w6 => with_unfolding_all rfl); k_whole; intro tt)
  k_with "subscriptTail" => (k_here; (with_reducible show wpAny _ _ (subscriptTail _ _ (Value.ref _) (Value.int _ _)) _ _ _); (first | (with_reducible refine' cin_item0 ?k2_w7 ?k4_w7 ?_ ?k6_w7) | (with_reducible refine' cin_item1 ?k2_w7 ?k4_w7 ?_ ?k6_w7)); (case k2_w7 => k_asm); (case k4_w7 => walk_at "MY.cin"); (case k6_w7 => with_unfolding_all rfl); k_whole; intro tt rr)
  k_with "MY.cin" => first | assumption | (refine' CIn.mono ?h_w8 ?s_w8; (case h_w8 => assumption); (case s_w8 => walk_at "MY.sub")) | (refine' CIn.mk ?h1_w8 ?h2_w8 ?h3_w8; (case h1_w8 => walk_at "MY.mem"); (case h2_w8 => walk_at "MY.rin"); (case h3_w8 => walk_at "MY.rin"))
  k_with "MY.gotc" => ((rename cOut _ _ _ _ => hz); (obtain ⟨a8, e8, hz8⟩ := hz); (subst e8))
  k_with "ktr_unf" => (try simp only [vnT, vjT, vaT, vsT, vmT, miT, suT] at *)
  k_with "MY.cinv" => first | assumption | (refine' CIn.mono ?h_w11 ?s_w11; (case h_w11 => assumption); (case s_w11 => walk_at "MY.sub")) | (refine' CIn.nought ?h1_w11 ?h2_w11 ?h3_w11; (case h1_w11 => walk_at "MY.mem"); (case h2_w11 => walk_at "MY.mem"); (case h3_w11 => walk_at "MY.mem")) | (refine' CIn.one ?h1_w11 ?h2_w11 ?h3_w11; (case h1_w11 => walk_at "MY.mem"); (case h2_w11 => walk_at "MY.mem"); (case h3_w11 => walk_at "MY.mem"))
  k_with "MY.bd" => first | with_reducible assumption | with_reducible exact Bd.zero | with_reducible exact Bd.one | with_reducible exact Bd.add (by walk_at "MY.bd") (by walk_at "MY.bd") | with_reducible exact Bd.sub (by walk_at "MY.bd") (by walk_at "MY.bd") | with_reducible exact Bd.mul (by walk_at "MY.bd") (by walk_at "MY.bd") | with_reducible exact Bd.neg (by walk_at "MY.bd")
  k_with "MY.aok" => ((try dsimp only); (first | refine' aok_of ?h1_w13 ?h2_w13 ?h3_w13 ?h4_w13 ?hl_w13 ?hh_w13 ?k_w13 | refine' mok_of ?h1_w13 ?h2_w13 ?h3_w13 ?h4_w13 ?hl_w13 ?hh_w13 ?k_w13); (case h1_w13 => walk_at "MY.bd"); (case h2_w13 => walk_at "MY.bd"); (case h3_w13 => walk_at "MY.bd"); (case h4_w13 => walk_at "MY.bd"); (case hl_w13 => assumption); (case hh_w13 => assumption); (case k_w13 => decide))
  k_with "ktr_rel" => first | assumption | (refine' VnRel.mk ?h1_w14; (case h1_w14 => walk_at "MY.cinv")) | (refine' VjRel.mk ?h0_w14 ?h1_w14; (case h0_w14 => walk_at "MY.mem"); (case h1_w14 => walk_at "MY.cinv")) | (refine' VaRel.mk ?h1_w14 ?h2_w14; (case h1_w14 => walk_at "MY.cinv"); (case h2_w14 => walk_at "MY.cinv")) | walk_at "MY.aok" | exact ⟨_, rfl⟩ | exact rfl | exact trivial
  k_with "MY.id" => with_reducible first | exact rfl | exact Int.add_comm _ _ | exact Int.add_zero _ | exact Int.add_assoc _ _ _ | exact Int.add_right_neg _ | exact Int.sub_add_cancel _ _ | exact Int.neg_neg _ | exact i_d1 | exact i_d2 | exact i_q1 | exact i_q2 | exact i_n | exact i_c1 | exact i_c2 | exact i_o1 | exact i_o2 | exact i_a1 | exact i_a2 | exact i_m1 | exact i_m2 | exact i_s1 | exact i_s2 | exact i_z
  k_with "compareOp NotEq ref ref" => (k_here; (with_reducible show wpAny _ _ (compareOp CmpOp.NotEq (Value.ref _) (Value.ref _)) _ _ _); (with_reducible refine' cin_ne ?F_w16 ?N_w16 ?X_w16 ?R_w16 ?S_w16 ?u_w16 ?e1_w16 ?e2_w16 ?_); (case F_w16 => k_asm); (case N_w16 => k_asm); (case X_w16 => k_asm); (case R_w16 => walk_at "MY.cinv"); (case S_w16 => walk_at "MY.cinv"); (case u_w16 => ktr_units); (case e1_w16 => walk_at "MY.id"); (case e2_w16 => walk_at "MY.id"); k_whole)
  k_with "compareOp Eq ref ref" => (k_here; (with_reducible show wpAny _ _ (compareOp CmpOp.Eq (Value.ref _) (Value.ref _)) _ _ _); (with_reducible refine' cin_eq ?F_w17 ?N_w17 ?X_w17 ?R_w17 ?S_w17 ?u_w17 ?e1_w17 ?e2_w17 ?_); (case F_w17 => k_asm); (case N_w17 => k_asm); (case X_w17 => k_asm); (case R_w17 => walk_at "MY.cinv"); (case S_w17 => walk_at "MY.cinv"); (case u_w17 => ktr_units); (case e1_w17 => walk_at "MY.id"); (case e2_w17 => walk_at "MY.id"); k_whole)
  k_with "ktr_units" => first | (k_dflt exact un3_ok hu (Nat.le_of_ble_eq_true rfl))
  k_with "ktr_room" => first | (k_dflt exact dp1_ok hd (Nat.le_of_ble_eq_true rfl)) | (k_dflt exact dp0_ok hd)
  intro d
  have C0 := @v_conj w mean mg mb
  unfold TellsN
  intro dp un gd cn cs a ccd cl outer A₀ base h₀ L m news s vs Q E B F X N T hk hR hok hd hu hret
  cases hR
  rename_i a0 x1 x2 hC
  all_goals ktn_open
  all_goals (
    ktr_unf
    refine wpAny_call ?_
    k_dflt ktr_enter
    k_steps)
  all_goals (refine hret _ _ _ _ (by assumption) (by walk_at "MY.news") (by walk_at "MY.up") trivial ?_)
  all_goals (refine' c_out ?C ?_ ?_; (case C => walk_at "MY.cin"))
  all_goals exact rfl
set_option maxRecDepth 100000 in
set_option maxHeartbeats 8000000 in
theorem v_sums {w : World} {mean : ExcName → Option Value} {mg mb : Str → Option Value} : ∀ d, TellsN PySem.Challenge.rw_sa0208_01.row.prog w (Mine.hd.heap_39 w.params) Mine.hd.view_39 (looseW Mine.hd.view_39 []) mean mg mb 187 suT d := by
  k_with_none
  k_fill
  k_with "call ref" => first | (ktn_call (Str.ofString "conjugate") vjT; walk_at "MY.gotc") | (ktn_call (Str.ofString "complex_neg") vnT; walk_at "MY.gotc") | (ktn_call (Str.ofString "complex_add") vaT; walk_at "MY.gotc") | (ktn_call (Str.ofString "complex_sub") vsT; walk_at "MY.gotc") | (ktn_call (Str.ofString "complex_mul") vmT; walk_at "MY.gotc") | (ktn_call (Str.ofString "_law_mirrored") miT; walk_at "MY.gotc")
  k_with "MY.sub" => first | exact sub_refl | (with_reducible (repeat first | exact sub_refl | exact sub_left | refine sub_aa ?_ | refine sub_cc ?_ | refine sub_cons ?_ | refine sub_right ?_); done) | (with_reducible (repeat (first | exact sub_refl | exact sub_left | refine sub_app ?_ ?_ | refine sub_cons ?_ | refine sub_right ?_)); done) | (intro p hp; (simp only [List.mem_append, List.mem_cons, List.not_mem_nil, or_false, or_assoc] at hp ⊢); (repeat' (refine Or.elim hp (fun hp => ?_) (fun hp => ?_))); all_goals (simp only [hp, true_or, or_true]))
  k_with "MY.mem" => first | assumption | (k_mem; done) | ((simp only [List.mem_append, List.mem_cons, true_or, or_true]; done)) | ((refine' (fun {X Y : List (Addr × Obj)} {p : Addr × Obj} (hs : ∀ p ∈ X, p ∈ Y) (h : p ∈ X) => hs p h) ?_ ?h_w1; (case h_w1 => assumption)); walk_at "MY.sub")
  k_with "MY.rin" => first | assumption | exact RIn.nought | exact RIn.tup (by walk_at "MY.mem") | (refine' RIn.mono ?h_w2 ?s_w2; (case h_w2 => assumption); (case s_w2 => walk_at "MY.sub"))
  k_with "MY.up" => first | exact up_nil | (refine up_cons (ktn_ltOf (by first | assumption | tbn_find | exact allLt_of (by assumption))) ?_; walk_at "MY.up") | (refine up_cons (lt_sub (by first | assumption | tbn_find | exact allLt_of (by assumption)) (by walk_at "MY.sub")) ?_; walk_at "MY.up") | (refine up_app ?_ ?_ <;> walk_at "MY.up") | exact up_sub (by assumption) (by walk_at "MY.sub")
  k_with "MY.got" => ((rename rOut _ _ _ => hz); (obtain ⟨a8, e8, hz8⟩ := hz); (subst e8))
  k_with "MY.news" => first | exact nw_n0 (by assumption) | exact nw_p0 (by assumption) | exact nw_p1 (by assumption) | exact nw_p2 (by assumption) | exact nw_p3 (by assumption) | exact nw_n1 (by assumption) | exact nw_n2 (by assumption) | exact nw_n3 (by assumption)
  k_with "subscriptTail" => (k_here; (with_reducible show wpAny _ _ (subscriptTail _ _ (Value.ref _) (Value.int _ _)) _ _ _); (first | (with_reducible refine' rin_item0 ?k1_w6 ?k2_w6 ?k3_w6 ?k4_w6 ?_ ?k6_w6) | (with_reducible refine' rin_item1 ?k1_w6 ?k2_w6 ?k3_w6 ?k4_w6 ?_ ?k6_w6)); (case k1_w6 => k_asm); (case k2_w6 => k_asm); (case k3_w6 => k_asm); (case k4_w6 => walk_at "MY.rin"); (case k6_w6 => with_unfolding_all rfl); k_whole; intro tt)
  k_with "subscriptTail" => (k_here; (with_reducible show wpAny _ _ (subscriptTail _ _ (Value.ref _) (Value.int _ _)) _ _ _); (first | (with_reducible refine' cin_item0 ?k2_w7 ?k4_w7 ?_ ?k6_w7) | (with_reducible refine' cin_item1 ?k2_w7 ?k4_w7 ?_ ?k6_w7)); (case k2_w7 => k_asm); (case k4_w7 => walk_at "MY.cin"); (case k6_w7 => with_unfolding_all rfl); k_whole; intro tt rr)
  k_with "MY.cin" => first | assumption | (refine' CIn.mono ?h_w8 ?s_w8; (case h_w8 => assumption); (case s_w8 => walk_at "MY.sub")) | (refine' CIn.mk ?h1_w8 ?h2_w8 ?h3_w8; (case h1_w8 => walk_at "MY.mem"); (case h2_w8 => walk_at "MY.rin"); (case h3_w8 => walk_at "MY.rin"))
  k_with "MY.gotc" => ((rename cOut _ _ _ _ => hz); (obtain ⟨a8, e8, hz8⟩ := hz); (subst e8))
  k_with "ktr_unf" => (try simp only [vnT, vjT, vaT, vsT, vmT, miT, suT] at *)
  k_with "MY.cinv" => first | assumption | (refine' CIn.mono ?h_w11 ?s_w11; (case h_w11 => assumption); (case s_w11 => walk_at "MY.sub")) | (refine' CIn.nought ?h1_w11 ?h2_w11 ?h3_w11; (case h1_w11 => walk_at "MY.mem"); (case h2_w11 => walk_at "MY.mem"); (case h3_w11 => walk_at "MY.mem")) | (refine' CIn.one ?h1_w11 ?h2_w11 ?h3_w11; (case h1_w11 => walk_at "MY.mem"); (case h2_w11 => walk_at "MY.mem"); (case h3_w11 => walk_at "MY.mem"))
  k_with "MY.bd" => first | with_reducible assumption | with_reducible exact Bd.zero | with_reducible exact Bd.one | with_reducible exact Bd.add (by walk_at "MY.bd") (by walk_at "MY.bd") | with_reducible exact Bd.sub (by walk_at "MY.bd") (by walk_at "MY.bd") | with_reducible exact Bd.mul (by walk_at "MY.bd") (by walk_at "MY.bd") | with_reducible exact Bd.neg (by walk_at "MY.bd")
  k_with "MY.aok" => ((try dsimp only); (first | refine' aok_of ?h1_w13 ?h2_w13 ?h3_w13 ?h4_w13 ?hl_w13 ?hh_w13 ?k_w13 | refine' mok_of ?h1_w13 ?h2_w13 ?h3_w13 ?h4_w13 ?hl_w13 ?hh_w13 ?k_w13); (case h1_w13 => walk_at "MY.bd"); (case h2_w13 => walk_at "MY.bd"); (case h3_w13 => walk_at "MY.bd"); (case h4_w13 => walk_at "MY.bd"); (case hl_w13 => assumption); (case hh_w13 => assumption); (case k_w13 => decide))
  k_with "ktr_rel" => first | assumption | (refine' VnRel.mk ?h1_w14; (case h1_w14 => walk_at "MY.cinv")) | (refine' VjRel.mk ?h0_w14 ?h1_w14; (case h0_w14 => walk_at "MY.mem"); (case h1_w14 => walk_at "MY.cinv")) | (refine' VaRel.mk ?h1_w14 ?h2_w14; (case h1_w14 => walk_at "MY.cinv"); (case h2_w14 => walk_at "MY.cinv")) | walk_at "MY.aok" | exact ⟨_, rfl⟩ | exact rfl | exact trivial
  k_with "MY.id" => with_reducible first | exact rfl | exact Int.add_comm _ _ | exact Int.add_zero _ | exact Int.add_assoc _ _ _ | exact Int.add_right_neg _ | exact Int.sub_add_cancel _ _ | exact Int.neg_neg _ | exact i_d1 | exact i_d2 | exact i_q1 | exact i_q2 | exact i_n | exact i_c1 | exact i_c2 | exact i_o1 | exact i_o2 | exact i_a1 | exact i_a2 | exact i_m1 | exact i_m2 | exact i_s1 | exact i_s2 | exact i_z
  k_with "compareOp NotEq ref ref" => (k_here; (with_reducible show wpAny _ _ (compareOp CmpOp.NotEq (Value.ref _) (Value.ref _)) _ _ _); (with_reducible refine' cin_ne ?F_w16 ?N_w16 ?X_w16 ?R_w16 ?S_w16 ?u_w16 ?e1_w16 ?e2_w16 ?_); (case F_w16 => k_asm); (case N_w16 => k_asm); (case X_w16 => k_asm); (case R_w16 => walk_at "MY.cinv"); (case S_w16 => walk_at "MY.cinv"); (case u_w16 => ktr_units); (case e1_w16 => walk_at "MY.id"); (case e2_w16 => walk_at "MY.id"); k_whole)
  k_with "compareOp Eq ref ref" => (k_here; (with_reducible show wpAny _ _ (compareOp CmpOp.Eq (Value.ref _) (Value.ref _)) _ _ _); (with_reducible refine' cin_eq ?F_w17 ?N_w17 ?X_w17 ?R_w17 ?S_w17 ?u_w17 ?e1_w17 ?e2_w17 ?_); (case F_w17 => k_asm); (case N_w17 => k_asm); (case X_w17 => k_asm); (case R_w17 => walk_at "MY.cinv"); (case S_w17 => walk_at "MY.cinv"); (case u_w17 => ktr_units); (case e1_w17 => walk_at "MY.id"); (case e2_w17 => walk_at "MY.id"); k_whole)
  k_with "ktr_units" => first | (k_dflt exact un3_ok hu (Nat.le_of_ble_eq_true rfl))
  k_with "ktr_room" => first | (k_dflt exact dp1_ok hd (Nat.le_of_ble_eq_true rfl)) | (k_dflt exact dp0_ok hd)
  intro d
  have C0 := @v_neg w mean mg mb
  have C1 := @v_add w mean mg mb
  have C2 := @v_sub w mean mg mb
  have C3 := @v_mul w mean mg mb
  have C4 := @v_mir w mean mg mb
  unfold TellsN
  intro dp un gd cn cs a ccd cl outer A₀ base h₀ L m news s vs Q E B F X N T hk hR hok hd hu hret
  cases hR
  rename_i a0 b0 c0 x1 x2 y1 y2 z1 z2 d0 t0 hC hD hE
  obtain ⟨ho1, ho2, ho3, ho4, ho5, ho6, ho7, ho8⟩ := hok
  all_goals ktn_open
  all_goals (
    ktr_unf
    refine wpAny_call ?_
    k_dflt ktr_enter
    k_steps)
  all_goals (refine hret _ _ _ _ (by assumption) (by walk_at "MY.news") (by walk_at "MY.up") trivial ?_)
  all_goals exact rfl
end Mine
end
section
namespace Mine
inductive QuRel : List (Addr × Obj) → List Value → Int × Int × Int × Int → Prop
  | mk {news : List (Addr × Obj)} {o u e d : Int} {t1 t2 t3 t4 : Tok} : QuRel news [.int o t1, .int u t2, .int e t3, .int d t4] (o, u, e, d)
def qsh (o u d : Int) : Int := if 0 > d + 2 + (digs u.natAbs : Int) - (digs o.natAbs : Int) then 0 else d + 2 + (digs u.natAbs : Int) - (digs o.natAbs : Int)
def quok (o u e d : Int) : Prop := o.natAbs < 10 ^ 30 ∧ 0 < u ∧ u.natAbs < 10 ^ 30 ∧ e.natAbs < 200 ∧ 18 ≤ d ∧ d ≤ 21 ∧ ((o.natAbs : Int) * 10 ^ (qsh o u d).toNat).fmod (u.natAbs : Int) = 0
theorem small_log {x : Int} (h : x.natAbs < 10 ^ 60) : x.natAbs.log2 < 9000 := by
  by_cases hz : x.natAbs = 0
  · rw [hz]; decide
  · exact (Nat.log2_lt hz).mpr (Nat.lt_trans h (by decide +kernel))
def quo (o u e d : Int) : Int × Int := (10 * ((o * 10 ^ (qsh o u d).toNat) / u), e - qsh o u d - 1)
theorem qo_k {o u P c : Int} (hu : 0 < u) (h : ((o.natAbs : Int) * P).fmod (u.natAbs : Int) = 0) (hc : c = ((o.natAbs : Int) * P).fdiv (u.natAbs : Int)) : (o.natAbs : Int) * P = u * c := by
  rw [show (u.natAbs : Int) = u from by omega] at h hc
  rw [Int.fmod_eq_emod_of_nonneg _ (by omega)] at h
  rw [Int.fdiv_eq_ediv_of_nonneg _ (by omega)] at hc
  have := Int.emod_add_mul_ediv ((o.natAbs : Int) * P) u
  rw [hc]
  omega
theorem qo_p {o u P : Int} (hu : 0 < u) (ho : 0 ≤ o) (h : ((o.natAbs : Int) * P).fmod (u.natAbs : Int) = 0) : 10 * ((o.natAbs : Int) * P).fdiv (u.natAbs : Int) + 0 = 10 * (o * P / u) := by
  have h1 := qo_k hu h rfl
  rw [show (o.natAbs : Int) = o from by omega] at h1 ⊢
  conv => rhs; rw [h1, Int.mul_ediv_cancel_left _ (by omega)]
  omega
theorem qo_n {o u P : Int} (hu : 0 < u) (ho : o < 0) (h : ((o.natAbs : Int) * P).fmod (u.natAbs : Int) = 0) : -(10 * ((o.natAbs : Int) * P).fdiv (u.natAbs : Int) + 0) = 10 * (o * P / u) := by
  have h1 := qo_k hu h rfl
  have h2 : o * P = u * -(((o.natAbs : Int) * P).fdiv (u.natAbs : Int)) := by
    rw [Int.mul_neg, ← h1, show (o.natAbs : Int) = -o from by omega, Int.neg_mul, Int.neg_neg]
  rw [h2, Int.mul_ediv_cancel_left _ (by omega)]
  omega
theorem qo_o {o u : Int} (hu : 0 < u) (h : (decide (o < 0) != decide (u < 0)) = true) : o < 0 := by
  rw [decide_eq_false (show ¬ u < 0 by omega)] at h
  simpa using h
theorem qo_o' {o u : Int} (hu : 0 < u) (h : (decide (o < 0) != decide (u < 0)) = false) : 0 ≤ o := by
  rw [decide_eq_false (show ¬ u < 0 by omega)] at h
  simpa using h
theorem quo_p {o u e d : Int} (hu : 0 < u) (hs : (decide (o < 0) != decide (u < 0)) = false) (h : ((o.natAbs : Int) * 10 ^ (qsh o u d).toNat).fmod (u.natAbs : Int) = 0) : (10 * ((o.natAbs : Int) * 10 ^ (qsh o u d).toNat).fdiv (u.natAbs : Int) + 0, e - qsh o u d - 1) = quo o u e d := by
  rw [qo_p hu (qo_o' hu hs) h]; rfl
theorem quo_n {o u e d : Int} (hu : 0 < u) (hs : (decide (o < 0) != decide (u < 0)) = true) (h : ((o.natAbs : Int) * 10 ^ (qsh o u d).toNat).fmod (u.natAbs : Int) = 0) : (-(10 * ((o.natAbs : Int) * 10 ^ (qsh o u d).toNat).fdiv (u.natAbs : Int) + 0), e - qsh o u d - 1) = quo o u e d := by
  rw [qo_n hu (qo_o hu hs) h]; rfl
abbrev quT : ToldN (Int × Int × Int × Int) where
  Rel := QuRel
  Ok := fun d => quok d.1 d.2.1 d.2.2.1 d.2.2.2
  size := fun _ => 2
  Tl := fun _ => True
  Out := fun news r d => rOut news r (quo d.1 d.2.1 d.2.2.1 d.2.2.2)
set_option maxRecDepth 100000 in
set_option maxHeartbeats 8000000 in
theorem c_quo {w : World} {mean : ExcName → Option Value} {mg mb : Str → Option Value} : ∀ d, TellsN PySem.Challenge.rw_sa0208_01.row.prog w (Mine.hd.heap_39 w.params) Mine.hd.view_39 (looseW Mine.hd.view_39 []) mean mg mb 103 quT d := by
  k_with_none
  k_fill
  k_with "call builtin:divmod" => (k_here; (refine divmod_K (by k_asm) (by k_asm) (by omega) (small_log (by omega)) ?_); intro D' t1 t2 tk h' F' N' l1; (try k_lt l1); (try k_sweep))
  k_with "call ref" => first | ktn_call (Str.ofString "count_digits") cdT
  k_with "MY.sub" => first | exact sub_refl | (with_reducible (repeat first | exact sub_refl | exact sub_left | refine sub_aa ?_ | refine sub_cc ?_ | refine sub_cons ?_ | refine sub_right ?_); done) | (with_reducible (repeat (first | exact sub_refl | exact sub_left | refine sub_app ?_ ?_ | refine sub_cons ?_ | refine sub_right ?_)); done) | (intro p hp; (simp only [List.mem_append, List.mem_cons, List.not_mem_nil, or_false, or_assoc] at hp ⊢); (repeat' (refine Or.elim hp (fun hp => ?_) (fun hp => ?_))); all_goals (simp only [hp, true_or, or_true]))
  k_with "MY.mem" => first | assumption | (k_mem; done) | ((simp only [List.mem_append, List.mem_cons, true_or, or_true]; done)) | ((refine' (fun {X Y : List (Addr × Obj)} {p : Addr × Obj} (hs : ∀ p ∈ X, p ∈ Y) (h : p ∈ X) => hs p h) ?_ ?h_w1; (case h_w1 => assumption)); walk_at "MY.sub")
  k_with "MY.rin" => first | assumption | exact RIn.nought | exact RIn.tup (by walk_at "MY.mem") | (refine' RIn.mono ?h_w2 ?s_w2; (case h_w2 => assumption); (case s_w2 => walk_at "MY.sub"))
  k_with "MY.up" => first | exact up_nil | (refine up_cons (ktn_ltOf (by first | assumption | tbn_find | exact allLt_of (by assumption))) ?_; walk_at "MY.up") | (refine up_cons (lt_sub (by first | assumption | tbn_find | exact allLt_of (by assumption)) (by walk_at "MY.sub")) ?_; walk_at "MY.up") | (refine up_app ?_ ?_ <;> walk_at "MY.up") | exact up_sub (by assumption) (by walk_at "MY.sub")
  k_with "MY.got" => ((rename rOut _ _ _ => hz); (obtain ⟨a8, e8, hz8⟩ := hz); (subst e8))
  k_with "MY.news" => first | exact nw_n0 (by assumption) | exact nw_p0 (by assumption) | exact nw_p1 (by assumption) | exact nw_p2 (by assumption) | exact nw_p3 (by assumption) | exact nw_n1 (by assumption) | exact nw_n2 (by assumption) | exact nw_n3 (by assumption)
  k_with "subscriptTail" => (k_here; (with_reducible show wpAny _ _ (subscriptTail _ _ (Value.ref _) (Value.int _ _)) _ _ _); (first | (with_reducible refine' rin_item0 ?k1_w6 ?k2_w6 ?k3_w6 ?k4_w6 ?_ ?k6_w6) | (with_reducible refine' rin_item1 ?k1_w6 ?k2_w6 ?k3_w6 ?k4_w6 ?_ ?k6_w6)); (case k1_w6 => k_asm); (case k2_w6 => k_asm); (case k3_w6 => k_asm); (case k4_w6 => walk_at "MY.rin"); (case k6_w6 => with_unfolding_all rfl); k_whole; intro tt)
  k_with "subscriptTail" => (k_here; (with_reducible show wpAny _ _ (subscriptTail _ _ (Value.ref _) (Value.int _ _)) _ _ _); (first | (with_reducible refine' cin_item0 ?k2_w7 ?k4_w7 ?_ ?k6_w7) | (with_reducible refine' cin_item1 ?k2_w7 ?k4_w7 ?_ ?k6_w7)); (case k2_w7 => k_asm); (case k4_w7 => walk_at "MY.cin"); (case k6_w7 => with_unfolding_all rfl); k_whole; intro tt rr)
  k_with "MY.cin" => first | assumption | (refine' CIn.mono ?h_w8 ?s_w8; (case h_w8 => assumption); (case s_w8 => walk_at "MY.sub")) | (refine' CIn.mk ?h1_w8 ?h2_w8 ?h3_w8; (case h1_w8 => walk_at "MY.mem"); (case h2_w8 => walk_at "MY.rin"); (case h3_w8 => walk_at "MY.rin"))
  k_with "MY.gotc" => ((rename cOut _ _ _ _ => hz); (obtain ⟨a8, e8, hz8⟩ := hz); (subst e8))
  k_with "binaryOp Mult int int" => (k_here; (with_reducible refine mul_K ?a_w10 ?b_w10 ?_); (case a_w10 => omega); (case b_w10 => exact pow_bd (by omega)); intro tk)
  k_with "ktr_unf" => (try simp only [cdT, quT] at *)
  k_with "ktr_rel" => first | assumption | exact CdRel.mk | exact ⟨_, rfl⟩ | exact rfl | exact trivial | omega
  k_with "binaryOp Pow int int" => (k_here; (with_reducible refine pow_K ?a_w13 ?b_w13 ?_); (case a_w13 => omega); (case b_w13 => omega); intro tk)
  k_with "call builtin:abs" => (k_here; (with_reducible refine abs_K ?_); intro u tk)
  k_with "ktr_units" => first | (k_dflt exact un3_ok hu (Nat.le_of_ble_eq_true rfl))
  k_with "ktr_room" => first | (k_dflt exact dp1_ok hd (Nat.le_of_ble_eq_true rfl)) | (k_dflt exact dp0_ok hd)
  intro d
  have C0 := @c_count w mean mg mb
  unfold TellsN
  intro dp un gd cn cs a ccd cl outer A₀ base h₀ L m news s vs Q E B F X N T hk hR hok hd hu hret
  cases hR
  rename_i o0 u0 e0 d0 t1 t2 t3 t4
  obtain ⟨ho1, ho2, ho3, ho4, ho5, ho6, ho7⟩ := (show quok o0 u0 e0 d0 from hok)
  have hg1 := (@digs_le 30 o0.natAbs).mpr ho1
  have hg2 := (@digs_le 30 u0.natAbs).mpr ho3
  have ho8 := ho7
  unfold qsh at ho7
  all_goals ktn_open
  all_goals (
    ktr_unf
    refine wpAny_call ?_
    k_dflt ktr_enter
    k_steps)
  all_goals try contradiction
  all_goals (refine hret _ _ _ _ (by assumption) (by walk_at "MY.news") (by walk_at "MY.up") trivial ?_)
  all_goals (refine' rd_out ?R ?_; (case R => walk_at "MY.rin"))
  all_goals first | exact quo_p (by assumption) (by assumption) (by assumption) | exact quo_n (by assumption) (by assumption) (by assumption)
end Mine
end
section
namespace Mine
theorem digs_lt {n : Nat} : n < 10 ^ digs n := digs_le.mp (Nat.le_refl _)
theorem digs_mono {a b : Nat} (h : a ≤ b) : digs a ≤ digs b := digs_le.mpr (Nat.lt_of_le_of_lt h digs_lt)
theorem digs_prod {a b : Nat} : digs (a * b) ≤ digs a + digs b := digs_le.mpr (by rw [Nat.pow_add]; exact Nat.mul_lt_mul'' digs_lt digs_lt)
theorem lead_of {m e X : Int} (h : strip m e = canon X) (hb : X.natAbs < 10 ^ 18) (hz : m ≠ 0) : -60 < (strip m e).2 + (digs (strip m e).1.natAbs : Int) ∧ (strip m e).2 + (digs (strip m e).1.natAbs : Int) ≤ 60 := by
  have h1 : (strip m e).1 ≠ 0 := fun q => hz (strip_nz q)
  rw [h] at h1 ⊢
  have h2 := @canon_val X
  have h3 : X.natAbs = (canon X).1.natAbs * 10 ^ (canon X).2.toNat := by
    conv => lhs; rw [← h2]
    unfold val
    rw [Int.natAbs_mul, Int.natAbs_pow]
    rfl
  have h4 := (@digs_le 18 X.natAbs).mpr hb
  rw [h3, digs_mul (na_pos h1)] at h4
  have := @canon_e X
  omega
/-- what a quotient is of, when it comes out whole -/
structure DIn (W S : Int × Int) (X d : Int) : Prop where
  w0 : 0 ≤ W.2
  w1 : W.2 < 100
  w2 : W.1.natAbs < 10 ^ 30
  s0 : 0 ≤ S.2
  s1 : S.2 < 100
  s2 : S.1.natAbs < 10 ^ 30
  sp : 0 < S.1
  v : val W = X * val S
  x : X.natAbs < 10 ^ 4
  lo : 18 ≤ d
  hi : d ≤ 21
theorem qsh_ge {o u d : Int} : 0 ≤ qsh o u d ∧ d + 2 + (digs u.natAbs : Int) - (digs o.natAbs : Int) ≤ qsh o u d ∧ (qsh o u d = 0 ∨ qsh o u d = d + 2 + (digs u.natAbs : Int) - (digs o.natAbs : Int)) := by
  unfold qsh; split <;> omega
theorem DIn.key {W S : Int × Int} {X d : Int} (H : DIn W S X d) (hX : X ≠ 0) : ∃ t : Nat, W.1 * 10 ^ (qsh W.1 S.1 d).toNat = S.1 * ((canon X).1 * 10 ^ t) ∧ (t : Int) = (canon X).2 + S.2 - W.2 + qsh W.1 S.1 d ∧ t ≤ 40 := by
  obtain ⟨q0, q1, q2⟩ := @qsh_ge W.1 S.1 d
  have c1 := @canon_val X
  have c2 := @canon_e X
  have c3 : (canon X).1.natAbs ≤ X.natAbs := canon_m
  have hx : (canon X).1 ≠ 0 := fun q => hX (strip_nz q)
  have hS : S.1 ≠ 0 := Int.ne_of_gt H.sp
  have e1 : W.1 * 10 ^ W.2.toNat = S.1 * (canon X).1 * 10 ^ ((canon X).2.toNat + S.2.toNat) := by
    have := H.v
    rw [← c1] at this
    unfold val at this
    rw [this, Int.pow_add]
    simp only [Int.mul_assoc, Int.mul_left_comm]
  have hWz : W.1 ≠ 0 := by
    intro q
    rw [q, Int.zero_mul] at e1
    exact Int.mul_ne_zero (Int.mul_ne_zero hS hx) (Int.ne_of_gt pow_pos') e1.symm
  have e2 : digs W.1.natAbs + W.2.toNat = digs (S.1.natAbs * (canon X).1.natAbs) + ((canon X).2.toNat + S.2.toNat) := by
    have := congrArg (fun z : Int => digs z.natAbs) e1
    simp only [Int.natAbs_mul, Int.natAbs_pow] at this
    rw [show (10 : Int).natAbs = 10 from rfl, digs_mul (na_pos hWz), digs_mul (Nat.mul_pos (na_pos hS) (na_pos hx))] at this
    exact this
  have e3 := @digs_prod S.1.natAbs (canon X).1.natAbs
  have e4 : digs S.1.natAbs ≤ digs (S.1.natAbs * (canon X).1.natAbs) := digs_mono (Nat.le_mul_of_pos_right _ (na_pos hx))
  have e5 : digs (canon X).1.natAbs ≤ 4 := digs_le.mpr (Nat.lt_of_le_of_lt c3 H.x)
  have e6 : digs W.1.natAbs ≤ 30 := digs_le.mpr H.w2
  have l1 := H.lo; have l2 := H.hi
  have kA := Int.toNat_of_nonneg c2
  have kB := Int.toNat_of_nonneg H.s0
  have kC := Int.toNat_of_nonneg H.w0
  have kQ := Int.toNat_of_nonneg q0
  have ht : 0 ≤ (canon X).2 + S.2 - W.2 + qsh W.1 S.1 d := by
    generalize (canon X).2.toNat = A at *; generalize S.2.toNat = B at *; generalize W.2.toNat = C at *
    generalize (canon X).2 = u at *; generalize S.2 = v at *; generalize W.2 = w at *; generalize qsh W.1 S.1 d = q at *
    clear hX c1 c3 hx hS e1 hWz kQ
    omega
  have kT := Int.toNat_of_nonneg ht
  have hT : (canon X).2 + S.2 - W.2 + qsh W.1 S.1 d ≤ 40 := by
    clear kT
    generalize (canon X).2.toNat = A at *; generalize S.2.toNat = B at *; generalize W.2.toNat = C at *
    generalize (canon X).2 = u at *; generalize S.2 = v at *; generalize W.2 = w at *; generalize qsh W.1 S.1 d = q at *
    clear hX c1 c3 hx hS e1 hWz kQ
    omega
  refine ⟨((canon X).2 + S.2 - W.2 + qsh W.1 S.1 d).toNat, ?_, kT, Int.toNat_le.mpr hT⟩
  have hp : (10 : Int) ^ W.2.toNat ≠ 0 := Int.ne_of_gt pow_pos'
  refine Int.eq_of_mul_eq_mul_right hp ?_
  have a1 : W.1 * 10 ^ (qsh W.1 S.1 d).toNat * 10 ^ W.2.toNat = W.1 * 10 ^ W.2.toNat * 10 ^ (qsh W.1 S.1 d).toNat := by rw [Int.mul_assoc, Int.mul_comm (10 ^ _) (10 ^ _), ← Int.mul_assoc]
  rw [a1, e1, Int.mul_assoc (S.1 * _), ← Int.pow_add, ← Int.mul_assoc S.1, Int.mul_assoc (S.1 * _) (10 ^ _), ← Int.pow_add]
  congr 2
  refine Int.ofNat_inj.mp ?_
  rw [Int.natCast_add, Int.natCast_add, Int.natCast_add, kA, kB, kC, kQ, kT]
  clear kA kB kC kQ kT ht hT e2 e1 e3 e4 e5 e6 q1 q2 c2 c1 a1
  omega
theorem DIn.exact {W S : Int × Int} {X d : Int} (H : DIn W S X d) : quok W.1 S.1 (W.2 - S.2) d := by
  have := H.w0; have := H.w1; have := H.s0; have := H.s1
  refine ⟨H.w2, H.sp, H.s2, by omega, H.lo, H.hi, ?_⟩
  rw [Int.fmod_eq_emod_of_nonneg _ (by omega), show (S.1.natAbs : Int) = S.1 from by have := H.sp; omega]
  by_cases hX : X = 0
  · have h1 := H.v
    rw [hX, Int.zero_mul] at h1
    have h2 : W.1 = 0 := (Int.mul_eq_zero.mp h1).elim id fun q => absurd q (Int.ne_of_gt pow_pos')
    rw [h2]
    simp
  · obtain ⟨t, h1, h2, h3⟩ := H.key hX
    refine Int.emod_eq_zero_of_dvd ?_
    have h4 : S.1 ∣ W.1 * 10 ^ (qsh W.1 S.1 d).toNat := ⟨_, h1⟩
    rcases Int.natAbs_eq W.1 with q | q
    · rw [← q]; exact h4
    · have h5 : ((W.1.natAbs : Int)) = -W.1 := by omega
      rw [h5, Int.neg_mul]
      exact Int.dvd_neg.mpr h4
theorem DIn.quo {W S : Int × Int} {X d : Int} (H : DIn W S X d) : strip (quo W.1 S.1 (W.2 - S.2) d).1 (quo W.1 S.1 (W.2 - S.2) d).2 = canon X ∧ (quo W.1 S.1 (W.2 - S.2) d).1.natAbs < 10 ^ 60 ∧ (quo W.1 S.1 (W.2 - S.2) d).2.natAbs < 500 ∧ exa (quo W.1 S.1 (W.2 - S.2) d).1 d := by
  have w0 := H.w0; have w1 := H.w1; have s0 := H.s0; have s1 := H.s1; have lo := H.lo; have hi := H.hi
  have hS : S.1 ≠ 0 := Int.ne_of_gt H.sp
  have hb : (W.2 - S.2 - qsh W.1 S.1 d - 1).natAbs < 500 := by
    obtain ⟨q0, q1, q2⟩ := @qsh_ge W.1 S.1 d
    have e6 : digs S.1.natAbs ≤ 30 := digs_le.mpr H.s2
    omega
  by_cases hX : X = 0
  · have h1 := H.v
    rw [hX, Int.zero_mul] at h1
    have h2 : W.1 = 0 := (Int.mul_eq_zero.mp h1).elim id fun q => absurd q (Int.ne_of_gt pow_pos')
    have h3 : Mine.quo W.1 S.1 (W.2 - S.2) d = (0, W.2 - S.2 - qsh W.1 S.1 d - 1) := by unfold Mine.quo; rw [h2]; simp
    rw [h3, hX]
    refine ⟨by rw [strip_zero]; exact canon_zero.symm, (show (0 : Int).natAbs < 10 ^ 60 by decide), hb, fun h => ?_⟩
    exfalso
    have : digs (0 : Int).natAbs = 0 := digs_zero
    change 0 < ((digs (0 : Int).natAbs : Nat) : Int) - d at h
    rw [this] at h
    omega
  · obtain ⟨t, h1, h2, h3⟩ := H.key hX
    have hx : (canon X).1 ≠ 0 := fun q => hX (strip_nz q)
    have h4 : Mine.quo W.1 S.1 (W.2 - S.2) d = ((canon X).1 * 10 ^ (t + 1), W.2 - S.2 - qsh W.1 S.1 d - 1) := by
      unfold Mine.quo
      rw [h1, Int.mul_ediv_cancel_left _ hS, Int.pow_succ]
      congr 1
      rw [← Int.mul_assoc (canon X).1, Int.mul_comm]
    have c3 : (canon X).1.natAbs ≤ X.natAbs := canon_m
    have e5 : digs (canon X).1.natAbs ≤ 4 := digs_le.mpr (Nat.lt_of_le_of_lt c3 H.x)
    have h5 : digs ((canon X).1 * 10 ^ (t + 1)).natAbs = digs (canon X).1.natAbs + (t + 1) := by
      rw [Int.natAbs_mul, Int.natAbs_pow, show (10 : Int).natAbs = 10 from rfl, digs_mul (na_pos hx)]
    rw [h4]
    refine ⟨?_, ?_, hb, fun h => ?_⟩
    · show strip ((canon X).1 * 10 ^ (t + 1)) (W.2 - S.2 - qsh W.1 S.1 d - 1) = canon X
      rw [strip_pow hx, show W.2 - S.2 - qsh W.1 S.1 d - 1 + ((t + 1 : Nat) : Int) = (canon X).2 from by omega]
      exact strip_of (p := canon X) canon_e canon_val
    · exact digs_le.mp (by rw [h5]; omega)
    · show (((((canon X).1 * 10 ^ (t + 1)).natAbs : Nat) : Int)).fmod _ = 0
      rw [Int.fmod_eq_emod_of_nonneg _ (Int.le_of_lt pow_pos')]
      refine Int.emod_eq_zero_of_dvd ?_
      have h6 : ((digs ((canon X).1 * 10 ^ (t + 1)).natAbs : Int) - d).toNat ≤ t + 1 := by rw [h5]; omega
      refine Int.dvd_natAbs.mpr ?_
      have h7 : (10 : Int) ^ (t + 1) = 10 ^ ((digs ((canon X).1 * 10 ^ (t + 1)).natAbs : Int) - d).toNat * 10 ^ (t + 1 - ((digs ((canon X).1 * 10 ^ (t + 1)).natAbs : Int) - d).toNat) := by
        rw [← Int.pow_add]; congr 1; omega
      exact Int.dvd_trans ⟨_, h7⟩ (Int.dvd_mul_left _ _)
theorem DIn.rok {W S : Int × Int} {X d : Int} (H : DIn W S X d) : rok (Mine.quo W.1 S.1 (W.2 - S.2) d) d := by
  obtain ⟨h1, h2, h3, h4⟩ := H.quo
  have lo := H.lo; have hi := H.hi
  exact ⟨⟨h2, h3, by omega, by omega, h4⟩, fun hz => lead_of h1 (Nat.lt_trans H.x (by decide)) hz⟩
end Mine
end
section
namespace Mine
def szS (y1 y2 : Int) : Int × Int := xad (xmul (canon y1) (canon y1)) (xmul (canon y2) (canon y2))
def szW (p1 p2 y1 y2 : Int) : Int × Int := xad (xmul (canon p1) (canon y1)) (xneg (xmul (canon p2) (canon (-y2))))
def szV (p1 p2 y1 y2 : Int) : Int × Int := xad (xmul (canon p1) (canon (-y2))) (xmul (canon p2) (canon y1))
theorem bd_sml {n : Nat} {v : Int} (h : Bd n v) (k : n < 10 ^ 18) : sml v := sml_of h k
theorem sq_pos {y1 y2 : Int} (h : ¬ (y1 = 0 ∧ y2 = 0)) : 0 < y1 * y1 + y2 * y2 := by
  have h1 := @i_sq y1 y2
  have h2 := @i_sz y1 y2
  rw [Int.mul_neg] at h1 h2
  by_cases q : y1 * y1 - -(y2 * y2) = 0
  · exact absurd (h2.mp q) h
  · omega
theorem i_w1 {a b c d : Int} : (a * c - b * d) * c - (a * d + b * c) * -d = a * (c * c + d * d) := by grind
theorem i_w2 {a b c d : Int} : (a * c - b * d) * -d + (a * d + b * c) * c = b * (c * c + d * d) := by grind
structure VOk (x1 x2 y1 y2 d : Int) : Prop where
  f1 : Bd 9900 x1
  f2 : Bd 9900 x2
  f3 : Bd 9900 y1
  f4 : Bd 9900 y2
  nz : ¬ (y1 = 0 ∧ y2 = 0)
  lo : 18 ≤ d
  hi : d ≤ 21
theorem szS_val {y1 y2 : Int} : val (szS y1 y2) = y1 * y1 + y2 * y2 ∧ 0 ≤ (szS y1 y2).2 ∧ ((szS y1 y2).2 = (xmul (canon y1) (canon y1)).2 ∨ (szS y1 y2).2 = (xmul (canon y2) (canon y2)).2) := by
  have c1 := @canon_e y1; have c2 := @canon_e y2
  obtain ⟨h1, h2, h3⟩ := @val_add (xmul (canon y1) (canon y1)) (xmul (canon y2) (canon y2)) (Int.add_nonneg c1 c1) (Int.add_nonneg c2 c2)
  rw [val_mul c1 c1, val_mul c2 c2, canon_val, canon_val] at h1
  exact ⟨h1, h2, h3⟩
theorem pos_of_val {p : Int × Int} (h : 0 < val p) : 0 < p.1 := by
  unfold val at h
  rcases Int.lt_or_le 0 p.1 with q | q
  · exact q
  · have := Int.mul_nonpos_of_nonpos_of_nonneg q (Int.le_of_lt (@pow_pos' p.2.toNat))
    omega
theorem VOk.sp {x1 x2 y1 y2 d : Int} (H : VOk x1 x2 y1 y2 d) : 0 < (szS y1 y2).1 := pos_of_val (by rw [szS_val.1]; exact sq_pos H.nz)
theorem VOk.bds {x1 x2 y1 y2 d : Int} (H : VOk x1 x2 y1 y2 d) : Bd 196020000 (x1 * y1 - x2 * y2) ∧ Bd 196020000 (x1 * y2 + x2 * y1) :=
  ⟨(H.f1.mul H.f3).sub (H.f2.mul H.f4), (H.f1.mul H.f4).add (H.f2.mul H.f3)⟩
theorem VOk.s {x1 x2 y1 y2 d : Int} (H : VOk x1 x2 y1 y2 d) : 0 ≤ (szS y1 y2).2 ∧ (szS y1 y2).2 < 100 ∧ (szS y1 y2).1.natAbs < 10 ^ 30 := by
  obtain ⟨h1, h2, h3⟩ := @szS_val y1 y2
  have m1 := cm_m (sml_of H.f3 (by decide)) (sml_of H.f3 (by decide))
  have m2 := cm_m (sml_of H.f4 (by decide)) (sml_of H.f4 (by decide))
  refine ⟨h2, by omega, ?_⟩
  have h4 : (szS y1 y2).1.natAbs ≤ (y1 * y1 + y2 * y2).natAbs := mant_le h1
  have h5 : Bd _ (y1 * y1 + y2 * y2) := (H.f3.mul H.f3).add (H.f4.mul H.f4)
  exact Nat.lt_of_le_of_lt (Nat.le_trans h4 h5) (by decide)
theorem VOk.d1 {x1 x2 y1 y2 d : Int} (H : VOk x1 x2 y1 y2 d) : DIn (szW (x1 * y1 - x2 * y2) (x1 * y2 + x2 * y1) y1 y2) (szS y1 y2) x1 d := by
  obtain ⟨b1, b2⟩ := H.bds
  obtain ⟨h1, h2, h3⟩ := @cm_val1 (x1 * y1 - x2 * y2) (x1 * y2 + x2 * y1) y1 (-y2)
  have m1 := cm_m (sml_of b1 (by decide)) (sml_of H.f3 (by decide))
  have m2 := cm_m (sml_of b2 (by decide)) (sml_of H.f4.neg (by decide))
  obtain ⟨s1, s2, s3⟩ := H.s
  refine ⟨h2, by unfold szW; omega, ?_, s1, s2, s3, H.sp, ?_, Nat.lt_of_le_of_lt H.f1 (by decide), H.lo, H.hi⟩
  · have h4 : (szW (x1 * y1 - x2 * y2) (x1 * y2 + x2 * y1) y1 y2).1.natAbs ≤ _ := mant_le h1
    have h5 : Bd _ ((x1 * y1 - x2 * y2) * y1 - (x1 * y2 + x2 * y1) * -y2) := (b1.mul H.f3).sub (b2.mul H.f4.neg)
    exact Nat.lt_of_le_of_lt (Nat.le_trans h4 h5) (by decide)
  · rw [szS_val.1]
    exact h1.trans i_w1
theorem VOk.d2 {x1 x2 y1 y2 d : Int} (H : VOk x1 x2 y1 y2 d) : DIn (szV (x1 * y1 - x2 * y2) (x1 * y2 + x2 * y1) y1 y2) (szS y1 y2) x2 d := by
  obtain ⟨b1, b2⟩ := H.bds
  obtain ⟨h1, h2, h3⟩ := @cm_val2 (x1 * y1 - x2 * y2) (x1 * y2 + x2 * y1) y1 (-y2)
  have m1 := cm_m (sml_of b1 (by decide)) (sml_of H.f4.neg (by decide))
  have m2 := cm_m (sml_of b2 (by decide)) (sml_of H.f3 (by decide))
  obtain ⟨s1, s2, s3⟩ := H.s
  refine ⟨h2, by unfold szV; omega, ?_, s1, s2, s3, H.sp, ?_, Nat.lt_of_le_of_lt H.f2 (by decide), H.lo, H.hi⟩
  · have h4 : (szV (x1 * y1 - x2 * y2) (x1 * y2 + x2 * y1) y1 y2).1.natAbs ≤ _ := mant_le h1
    have h5 : Bd _ ((x1 * y1 - x2 * y2) * -y2 + (x1 * y2 + x2 * y1) * y1) := (b1.mul H.f4.neg).add (b2.mul H.f3)
    exact Nat.lt_of_le_of_lt (Nat.le_trans h4 h5) (by decide)
  · rw [szS_val.1]
    exact h1.trans i_w2
inductive VdRel : List (Addr × Obj) → List Value → Int × Int × Int × Int × Int → Prop
  | mk {news : List (Addr × Obj)} {a b : Addr} {x1 x2 y1 y2 d : Int} {t u : Tok} : CIn news a (canon (x1 * y1 - x2 * y2)) (canon (x1 * y2 + x2 * y1)) → CIn news b (canon y1) (canon y2) → VdRel news [.ref a, .ref b, .int d t, .int 60 u] (x1, x2, y1, y2, d)
abbrev vdT : ToldN (Int × Int × Int × Int × Int) where
  Rel := VdRel
  Ok := fun d => VOk d.1 d.2.1 d.2.2.1 d.2.2.2.1 d.2.2.2.2
  size := fun _ => 8
  Tl := fun _ => True
  Out := fun news r d => cOut news r (canon d.1) (canon d.2.1)
set_option maxRecDepth 100000 in
set_option maxHeartbeats 8000000 in
theorem v_div {w : World} {mean : ExcName → Option Value} {mg mb : Str → Option Value} : ∀ d, TellsN PySem.Challenge.rw_sa0208_01.row.prog w (Mine.hd.heap_39 w.params) Mine.hd.view_39 (looseW Mine.hd.view_39 []) mean mg mb 152 vdT d := by
  k_with_none
  k_fill
  k_with "call ref" => first | (ktn_call (Str.ofString "quotient") quT; walk_at "MY.got") | (ktn_call (Str.ofString "real_neg") xnT; walk_at "MY.got") | (ktn_call (Str.ofString "exact_mul") xmT; walk_at "MY.got") | (ktn_call (Str.ofString "exact_add") xaT; walk_at "MY.got") | (ktn_call (Str.ofString "round_parts") rpT; walk_at "MY.gotc") | (ktn_call (Str.ofString "exact_product") epT; walk_at "MY.gotc")
  k_with "MY.sub" => first | exact sub_refl | (with_reducible (repeat first | exact sub_refl | exact sub_left | refine sub_aa ?_ | refine sub_cc ?_ | refine sub_cons ?_ | refine sub_right ?_); done) | (with_reducible (repeat (first | exact sub_refl | exact sub_left | refine sub_app ?_ ?_ | refine sub_cons ?_ | refine sub_right ?_)); done) | (intro p hp; (simp only [List.mem_append, List.mem_cons, List.not_mem_nil, or_false, or_assoc] at hp ⊢); (repeat' (refine Or.elim hp (fun hp => ?_) (fun hp => ?_))); all_goals (simp only [hp, true_or, or_true]))
  k_with "MY.mem" => first | assumption | (k_mem; done) | ((simp only [List.mem_append, List.mem_cons, true_or, or_true]; done)) | ((refine' (fun {X Y : List (Addr × Obj)} {p : Addr × Obj} (hs : ∀ p ∈ X, p ∈ Y) (h : p ∈ X) => hs p h) ?_ ?h_w1; (case h_w1 => assumption)); walk_at "MY.sub")
  k_with "MY.rin" => first | assumption | exact RIn.nought | exact RIn.tup (by walk_at "MY.mem") | (refine' RIn.mono ?h_w2 ?s_w2; (case h_w2 => assumption); (case s_w2 => walk_at "MY.sub"))
  k_with "MY.up" => first | exact up_nil | (refine up_cons (ktn_ltOf (by first | assumption | tbn_find | exact allLt_of (by assumption))) ?_; walk_at "MY.up") | (refine up_cons (lt_sub (by first | assumption | tbn_find | exact allLt_of (by assumption)) (by walk_at "MY.sub")) ?_; walk_at "MY.up") | (refine up_app ?_ ?_ <;> walk_at "MY.up") | exact up_sub (by assumption) (by walk_at "MY.sub")
  k_with "MY.got" => ((rename rOut _ _ _ => hz); (obtain ⟨a8, e8, hz8⟩ := hz); (subst e8))
  k_with "MY.news" => first | exact nw_n0 (by assumption) | exact nw_p0 (by assumption) | exact nw_p1 (by assumption) | exact nw_p2 (by assumption) | exact nw_p3 (by assumption) | exact nw_n1 (by assumption) | exact nw_n2 (by assumption) | exact nw_n3 (by assumption)
  k_with "subscriptTail" => (k_here; (with_reducible show wpAny _ _ (subscriptTail _ _ (Value.ref _) (Value.int _ _)) _ _ _); (first | (with_reducible refine' rin_item0 ?k1_w6 ?k2_w6 ?k3_w6 ?k4_w6 ?_ ?k6_w6) | (with_reducible refine' rin_item1 ?k1_w6 ?k2_w6 ?k3_w6 ?k4_w6 ?_ ?k6_w6)); (case k1_w6 => k_asm); (case k2_w6 => k_asm); (case k3_w6 => k_asm); (case k4_w6 => walk_at "MY.rin"); (case k6_w6 => with_unfolding_all rfl); k_whole; intro tt)
  k_with "subscriptTail" => (k_here; (with_reducible show wpAny _ _ (subscriptTail _ _ (Value.ref _) (Value.int _ _)) _ _ _); (first | (with_reducible refine' cin_item0 ?k2_w7 ?k4_w7 ?_ ?k6_w7) | (with_reducible refine' cin_item1 ?k2_w7 ?k4_w7 ?_ ?k6_w7)); (case k2_w7 => k_asm); (case k4_w7 => walk_at "MY.cin"); (case k6_w7 => with_unfolding_all rfl); k_whole; intro tt rr)
  k_with "MY.cin" => first | assumption | (refine' CIn.mono ?h_w8 ?s_w8; (case h_w8 => assumption); (case s_w8 => walk_at "MY.sub")) | (refine' CIn.mk ?h1_w8 ?h2_w8 ?h3_w8; (case h1_w8 => walk_at "MY.mem"); (case h2_w8 => walk_at "MY.rin"); (case h3_w8 => walk_at "MY.rin"))
  k_with "MY.gotc" => ((rename cOut _ _ _ _ => hz); (obtain ⟨a8, e8, hz8⟩ := hz); (subst e8))
  k_with "ktr_unf" => (try simp only [rpT, cnT, cjT, epT, rrT, xaT, xmT, xnT, quT, vdT] at *)
  k_with "ktr_rel" => first | assumption | exact QuRel.mk | (refine' XaRel.mk ?h1_w11 ?h2_w11; (case h1_w11 => walk_at "MY.rin"); (case h2_w11 => walk_at "MY.rin")) | (refine' XnRel.mk ?h1_w11; (case h1_w11 => walk_at "MY.rin")) | (refine' RpRel.mk ?h1_w11; (case h1_w11 => walk_at "MY.cin")) | (refine' EpRel.mk ?h1_w11 ?h2_w11; (case h1_w11 => walk_at "MY.cin"); (case h2_w11 => walk_at "MY.cin")) | exact ⟨_, rfl⟩ | exact rfl | exact trivial | exact ⟨by assumption, by assumption⟩
  k_with "ktr_units" => first | (k_dflt exact un3_ok hu (Nat.le_of_ble_eq_true rfl))
  k_with "ktr_room" => first | (k_dflt exact dp1_ok hd (Nat.le_of_ble_eq_true rfl)) | (k_dflt exact dp0_ok hd)
  intro d
  have C0 := @c_quo w mean mg mb
  have C1 := @c_xneg w mean mg mb
  have C2 := @c_xmul w mean mg mb
  have C3 := @c_xadd w mean mg mb
  have C4 := @c_rp w mean mg mb
  have C5 := @c_ep w mean mg mb
  unfold TellsN
  intro dp un gd cn cs a ccd cl outer A₀ base h₀ L m news s vs Q E B F X N T hk hR hok hd hu hret
  cases hR
  rename_i a0 b0 x1 x2 y1 y2 d0 t0 u0 hC hD
  have H := (show VOk x1 x2 y1 y2 d0 from hok)
  have hsp := H.sp
  unfold szS xad xmul at hsp
  dsimp only at hsp
  have e2 := @canon_neg y2
  have D1 := H.d1
  have D2 := H.d2
  unfold szW at D1
  unfold szV at D2
  rw [e2] at D1 D2
  unfold szS at D1 D2
  have hq1 := D1.exact
  have hq2 := D2.exact
  have hr1 := D1.rok
  have hr2 := D2.rok
  have hz1 := D1.quo.1
  have hz2 := D2.quo.1
  have hy1 := sml_of H.f3 (by decide)
  have hy2 := sml_of H.f4 (by decide)
  have hep := cm_ok (sml_of H.bds.1 (by decide)) (sml_of H.bds.2 (by decide)) hy1 (sml_of H.f4.neg (by decide))
  rw [e2] at hep
  have hm1 := cm_m hy1 hy1
  have hm2 := cm_m hy2 hy2
  have hxo : xok (xmul (canon y1) (canon y1)) (xmul (canon y2) (canon y2)) := ⟨hm1.1, hm2.1, by omega⟩
  have ha1 : (canon y1).1.natAbs < 10 ^ 60 := Nat.lt_trans (Nat.lt_of_le_of_lt canon_m hy1) (by decide)
  have ha2 : (canon y2).1.natAbs < 10 ^ 60 := Nat.lt_trans (Nat.lt_of_le_of_lt canon_m hy2) (by decide)
  clear D1 D2 hm1 hm2
  all_goals ktn_open
  all_goals (
    ktr_unf
    refine wpAny_call ?_
    k_dflt ktr_enter
    k_steps)
  all_goals try (exfalso; omega)
  all_goals (refine hret _ _ _ _ (by assumption) (by walk_at "MY.news") (by walk_at "MY.up") trivial ?_)
  all_goals (refine' c_out ?C ?_ ?_; (case C => walk_at "MY.cin"))
  all_goals assumption
end Mine
end
section
open PySem PySem.W PyProof.Rows PySem.Calls
set_option maxRecDepth 100000
namespace Mine
theorem flt_init {p : Params} : findIn (Mine.hd.heap_39 p) (.ref 44) "__init__" = some (some (.ref 28)) := rfl
theorem flt_fn {p : Params} : typeIn (Mine.hd.heap_39 p) (.ref 28) = some (.type "function") := rfl
theorem flt_cls {p : Params} : ∃ nm q bs hdct sn sub ab col dd k0 k1 k2 k3 k5, (Mine.hd.heap_39 p).lookup 44 = some (excClassObj nm q 44 43 bs [.ref 31, .type "Exception", .type "BaseException", .type "object"] hdct sn sub ab col dd k0 k1 k2 k3 k5 "Exception.__new__") := ⟨_, _, _, _, _, _, _, _, _, _, _, _, _, _, rfl⟩
abbrev fltTup (rest : List Value) : Obj := { cls := .type "tuple", data := .seq rest.toArray }
abbrev fltObj (t : Addr) : Obj := { cls := .ref 44, data := .fields #[.ref t, .none, .none, .none, .bool false, .none] }
section
variable {prog : Program} {w w' : World} {A : Around} {R : Result → Shared → Prop} {h : Heap} {g : Array GenState} {d : Drawn} {t : Nat} {os : OsState}
variable {nm q : Str} {bs : List Value} {hdct : Bool} {sn : List Str} {sub : List Value} {ab : Bool} {col : Option Bool} {dd : Option Addr} {k0 k1 k2 k3 k5 : Option Value}
theorem flt_new {rest : List Value} (hC : h.get? 44 = some (excClassObj nm q 44 43 bs [.ref 31, .type "Exception", .type "BaseException", .type "object"] hdct sn sub ab col dd k0 k1 k2 k3 k5 "Exception.__new__")) (hrest : rest.length ≤ sizeLine)
    (hq : R (.ok (.ret (.ref (h.objs.size + 1)))) ⟨(h.push (fltTup rest)).push (fltObj h.objs.size), g, d, t, os⟩) :
    codeAny (model prog w) A (.call (.builtin "Exception.__new__") ⟨.ref 44 :: rest, []⟩) R ⟨h, g, d, t, os⟩ := by
  have Fn := PySem.F.excBase_Exception
  have c1 : (Value.ref 44 :: [Value.ref 31, .type "Exception", .type "BaseException", .type "object"]).contains (.type "Exception") = true := by decide
  have c2 : (Value.ref 44 :: [Value.ref 31, .type "Exception", .type "BaseException", .type "object"]).contains (.type "AttributeError") = false := by decide
  have c3 : (Value.ref 44 :: [Value.ref 31, .type "Exception", .type "BaseException", .type "object"]).contains (.type "NameError") = false := by decide
  have hstar := Fn.noStar
  have hends := Fn.ends
  refine codeAny_call_builtin_code (Code.quiet_builtin _ Fn.quiet) ?_
  simp only [checkBuiltinCall, Fn.newKind, Fn.newSplit, Fn.newRow]
  repeat (first | refine wpAny_loadPart_at hC ?_ | (refine wpAny_isSubtype_exc hC ?_; rw [c1]) | refine wpAny_staticBase_exc hC ?_ | refine wpAny_madeBy_exc hC ?_ | simp only [bne_self_eq_false, Bool.false_eq_true, if_false] | wp_step)
  refine codeAny_builtinAt Fn.entry ?_
  unfold Builtin.«BaseException.__new__»
  refine PySem.wpAt_bind ?_
  show PySem.wpAt _ _ _ (stack >>= _) _ _ _
  refine PySem.wpAt_bind (PySem.wpAt_stack fun p below => PySem.wpAt_of_wpAny ?_)
  wp_walk
  refine PySem.wpAt_of_wpAny ?_
  rw [Fn.owner]
  repeat (first | with_reducible refine wpAny_madeHere_exc Fn.canon hC ?_ | with_reducible refine wpAny_loadPart_at hC ?_ | (with_reducible refine wpAny_isSubtype_exc hC ?_; first | rw [c1] | rw [c2] | rw [c3]) | wp_step)
  show R _ _
  rw [Heap.size_push]
  exact hq
theorem flt_call {v : Value} (X : (Mine.hd.heap_39 w'.params).In h)
    (hq : codeAny (model prog w) (A.under (.builtin "type.__call__" ⟨[.ref 44, v], []⟩)) (.call (.ref 28) ⟨[.ref (h.objs.size + 1), v], []⟩) (InitBack (h.objs.size + 1) R) ⟨(h.push (fltTup [v])).push (fltObj h.objs.size), g, d, t, os⟩) :
    codeAny (model prog w) A (.call (.ref 44) ⟨[v], []⟩) R ⟨h, g, d, t, os⟩ := by
  obtain ⟨nm, q, bs, hdct, sn, sub, ab, col, dd, k0, k1, k2, k3, k5, hl⟩ := @flt_cls w'.params
  have hC := X _ _ hl
  have c0 : (Value.ref 44 :: [Value.ref 31, .type "Exception", .type "BaseException", .type "object"]).contains (.ref 44) = true := by decide
  have call : Looks (model prog w) h (specialOf (.ref 44) "__call__") (some (.builtin "type.__call__")) := looks_specialIn X (by rfl)
  refine codeAny_of_tree ?_
  show wpAny _ _ (callAny (.ref 44) _) _ _ _
  refine nd_load hC ?_
  show wpAny _ _ (callAny.viaDunder (.ref 44) _) _ _ _
  unfold callAny.viaDunder
  refine wpAny_bind (call.at ?_)
  dsimp only
  rw [tc_bind]
  refine wpAny_bind (wpAny_pure (wpAny_bind (wpAny_pure ?_)))
  refine wpAny_pure (a := Fin.again (.call (.builtin "type.__call__") ⟨[.ref 44, v], []⟩)) (And.intro rfl ?_)
  refine codeAny_call_builtin_at (Code.quiet_builtin _ (by decide +kernel)) entry_typeCall (wpAny_check_type_call_sub hC ?_)
  unfold Builtin.«type.__call__»
  repeat (first | with_reducible refine wpAny_loadPart_at hC ?_ | with_reducible refine wpAny_madeBy_exc hC ?_ | wp_step)
  refine flt_new hC (by size_fits) ?_
  show wpAny _ _ _ _ _ _
  have k : ∀ b o, h.get? b = some o → ((h.push (fltTup [v])).push (fltObj h.objs.size)).get? b = some o := fun b o e => Heap.get?_push_of_some _ (Heap.get?_push_of_some _ e)
  have hx : ((h.push (fltTup [v])).push (fltObj h.objs.size)).get? (h.objs.size + 1) = some (fltObj h.objs.size) := by heap_get
  have X' := X.keeps k
  have t1 : Looks (model prog w) ((h.push (fltTup [v])).push (fltObj h.objs.size)) (typeOf (.ref (h.objs.size + 1))) (.ref 44) := (Looks.ld hx).andThen .now
  have s1 : Looks (model prog w) ((h.push (fltTup [v])).push (fltObj h.objs.size)) (isSubtype (.ref 44) (.ref 44)) true := looks_mroIn X' (by rfl)
  have i1 : Looks (model prog w) ((h.push (fltTup [v])).push (fltObj h.objs.size)) (typeLookup (.ref 44) "__init__") (some (.ref 28)) := looks_findIn X' flt_init
  have b1 : Looks (model prog w) ((h.push (fltTup [v])).push (fltObj h.objs.size)) (bindSpecial (.ref 28) (.ref (h.objs.size + 1))) (.ref 28, [.ref (h.objs.size + 1)]) := bind_fn X' _ flt_fn
  unfold isInstance callSpecial? specialOf
  repeat (first | with_reducible refine wpAny_call ?_ | lk)
  refine codeAny_mono hq fun r s' z => ?_
  rcases r with e | (v | _ | _ | _) <;> first | exact z | exact z.elim | skip
  obtain ⟨rfl, z⟩ := z
  exact wpAny_pure (wpAny_pure z)
end
def RaisableF (E : Value → Shared → Prop) (v : Value) (s₁ : Shared) : Prop :=
  ∃ (w : World) (a : Addr) (ob : Obj) (vs : Array Value), v = .ref a ∧ (Mine.hd.heap_39 w.params).In s₁.heap ∧ s₁.heap.get? a = some ob ∧ ob.cls = .ref 44 ∧ ob.data = .fields vs ∧ vs[1]? = some .none ∧ E (.ref a) s₁
section
variable {prog : Program} {w w' : World} {A : Around} {E : Value → Shared → Prop} {s : Shared} {env : Env}
theorem Raise_flt {e : Expr} {pos : Pos} {Q : Flow → Shared → Prop} (hh : A.handled = none)
    (h : wpAny (model prog w) A (eval e env) (RaisableF E) E s) : wpAny (model prog w) A (exec (.Raise (some e) none pos) env) Q E s := by
  show wpAny (model prog w) A (do standAt pos; raiseStmt env (some (do let v ← eval e env; standAt pos; pure v)) none) Q E s
  refine wpAny_bind (wpAny_standAt ?_)
  unfold raiseStmt
  dsimp only
  refine wpAny_bind (wpAny_bind (wpAny_mono h (fun v s₁ h₁ => wpAny_bind (wpAny_standAt (wpAny_pure ?_))) fun _ _ x => x))
  obtain ⟨w', a, ob, vs, rfl, X, ha, hcls, hd, h1, hE⟩ := h₁
  have hnt : ∀ {Q' : Bool → Shared → Prop}, Q' false s₁ → wpAny (model prog w) A (isType (.ref a)) Q' E s₁ := by
    intro Q' hq
    simp only [isType, loadHead]
    refine wpAny_bind (wpAny_loadPart ha ?_)
    rw [hd]; exact wpAny_pure hq
  have t1 : Looks (model prog w) s₁.heap (typeOf (.ref a)) (.ref 44) := (Looks.ld ha).andThen (by rw [hcls]; exact .now)
  have i1 : Looks (model prog w) s₁.heap (isInstance (.ref a) (.type "BaseException")) true := t1.andThen (looks_mroIn X (by rfl))
  have t2 : Looks (model prog w) s₁.heap (typeOf (.ref 44)) (.type "type") := looks_typeIn X (by rfl)
  refine wpAny_bind (wpAny_pure ?_)
  dsimp only
  refine wpAny_bind (wpAny_holding ?_)
  unfold excFromValue isExcClass
  refine wpAny_bind (wpAny_bind (hnt ?_))
  simp only [Bool.false_eq_true, if_false]
  refine wpAny_pure ?_
  simp only [Bool.false_eq_true, if_false]
  refine wpAny_bind (i1.here ?_)
  simp only [if_true]
  refine wpAny_pure ?_
  refine wpAny_bind (hnt ?_)
  simp only [Bool.false_eq_true, if_false]
  unfold raisedInstance
  refine wpAny_bind (wpAny_bind (t1.here (wpAny_bind (t2.here ?_))))
  rw [if_pos (show (Value.type "type" == Value.type "type") = true by simp)]
  refine wpAny_pure ?_
  unfold setFlight raiseNew
  refine wpAny_bind (wpAny_bind (wpAny_field ha hd h1 ?_))
  rw [if_neg (by decide)]
  refine wpAny_pure (wpAny_bind (wpAny_handled ?_))
  rw [hh]
  first
    | exact wpAny_throw hE
    | exact wpAny_bind (wpAny_pure (wpAny_throw hE))
variable {h₀ : Heap} {L : Addr} {m : Str → Option Value} {news : List (Addr × Obj)} {Q : Value → Shared → Prop} {v : Value}
theorem call_flt (F : Fr h₀ L s.heap m) (N : News h₀ L s.heap news) (X : (Mine.hd.heap_39 w'.params).In h₀)
    (hq : ∀ e t h', Fr h₀ L h' m → News h₀ L h' ((e, fltObj t) :: (t, fltTup [v]) :: news) → (∀ p ∈ news, p.1 < t) → t < e →
      codeAny (model prog w) (A.under (.builtin "type.__call__" ⟨[.ref 44, v], []⟩)) (.call (.ref 28) ⟨[.ref e, v], []⟩) (InitBack e fun r s' => match r with | .ok (.ret v) => Q v s' | .ok _ => False | .error e => E e s') { s with heap := h' }) :
    wpAny (model prog w) A (call (.ref 44) [v]) Q E s := by
  obtain ⟨hh, g, d, t, os⟩ := s
  refine wpAny_call (flt_call (X.keeps F.keep) (hq _ hh.objs.size _ ((F.push _).push _) ?_ (fun p hp => Heap.lt_size (N p hp).1) (Nat.lt_succ_self _)))
  have := (N.push F (fltTup [v])).push (F.push _) (fltObj hh.objs.size)
  rwa [Heap.size_push] at this
end
end Mine
end
section
open PySem PySem.W PyProof.Rows PySem.Calls
set_option maxRecDepth 100000
namespace Mine
section
variable {h₀ h : Heap} {L x : Addr} {m : Str → Option Value} {o : Obj} {news : List (Addr × Obj)}
theorem fr_upd (F : Fr h₀ L h m) (hL : x ≠ L) (h0 : h₀.get? x = none) (f : Obj → Obj) : Fr h₀ L (h.update x f) m := by
  refine ⟨?_, fun b o e => ?_, F.above⟩
  · exact F.ns.sameBut (Heap.SameBut.update ..) (fun q => hL q.symm)
  · rw [Heap.get?_update_other _ _ (fun q => by rw [q, e] at h0; cases h0)]
    exact F.keep b o e
theorem nw_upd (N : News h₀ L h ((x, o) :: news)) (hne : ∀ p ∈ news, p.1 ≠ x) (f : Obj → Obj) (hf : (f o).isFreed = false) : News h₀ L (h.update x f) ((x, f o) :: news) := fun p hp => by
  rcases List.mem_cons.mp hp with rfl | hp
  · exact ⟨Heap.get?_update_self f (N _ (.head _)).1 hf, (N _ (.head _)).2⟩
  · have := N p (.tail _ hp)
    exact ⟨by rw [Heap.get?_update_other _ _ (fun q => hne p hp q.symm)]; exact this.1, this.2⟩
end
theorem exc_meta : typeOf (.type "Exception") = pure (.type "type") := by kernel_rfl
theorem exc_initm {K : Frag} : findCls K (.type "Exception") (.type "type") "__init__" = some (.val (.builtin "Exception.__init__")) := by rfl
section
variable {prog : Program} {w w' : World} {A : Around} {E : Value → Shared → Prop} {h : Heap} {g : Array GenState} {d : Drawn} {tk : Nat} {os : OsState} {Q : Value → Shared → Prop} {x t : Addr} {v : Value}
theorem flt_base (X : (Mine.hd.heap_39 w'.params).In h) (hx : h.get? x = some (fltObj t))
    (hq : Q .none ⟨(h.push (fltTup [v])).update x (Obj.mapFields (·.setIfInBounds 0 (.ref h.objs.size))), g, d, tk, os⟩) :
    wpAny (model prog w) A (call (.builtin "Exception.__init__") [.ref x, v]) Q E ⟨h, g, d, tk, os⟩ := by
  have F := PySem.F.excBase_Exception
  obtain ⟨nm, q, bs, hdct, sn, sub, ab, col, dd, k0, k1, k2, k3, k5, hl⟩ := @flt_cls w'.params
  have hC := X _ _ hl
  have c1 : (Value.ref 44 :: [Value.ref 31, .type "Exception", .type "BaseException", .type "object"]).contains (.type "Exception") = true := by decide
  have hshort := F.noStar
  refine wpAny_call (codeAny_call_builtin F.init.plain F.initEntry ?_)
  simp only [checkBuiltinCall, F.initKind, F.initSplit, F.initRow]
  repeat (first | (with_reducible refine wpAny_loadPart_at hx ?_) | with_reducible refine wpAny_loadPart_at hC ?_ | (with_reducible refine wpAny_isSubtype_exc hC ?_; rw [c1]) | wp_step)
  exact hq
end
section
variable {prog : Program} {w w' : World} {A : Around} {E : Value → Shared → Prop} {s : Shared} {Q : Value → Shared → Prop} {x t L : Addr} {v : Value} {h₀ : Heap} {m : Str → Option Value} {news : List (Addr × Obj)} {name : Str} {pl : Sem Bool}
theorem meth_base {Q : Value × List Value → Shared → Prop} (F : Fr h₀ L s.heap m) (X : (Mine.hd.heap_39 w'.params).In h₀) (h : Q (.builtin "Exception.__init__", []) { s with toks := s.toks + 1 }) : wpAny (model prog w) A (getMethod (.type "Exception") "__init__" pl) Q E s :=
  method_type F X exc_meta (by decide +kernel) exc_initm (by decide +kernel) h
theorem call_base (F : Fr h₀ L s.heap m) (N : News h₀ L s.heap ((x, fltObj t) :: news)) (hne : ∀ p ∈ news, p.1 ≠ x) (X : (Mine.hd.heap_39 w'.params).In h₀)
    (hq : ∀ t' h', Fr h₀ L h' m → News h₀ L h' ((x, fltObj t') :: (t', fltTup [v]) :: news) → (∀ p ∈ news, p.1 < t') → x < t' → Q .none { s with heap := h' }) :
    wpAny (model prog w) A (call (.builtin "Exception.__init__") [.ref x, v]) Q E s := by
  obtain ⟨hh, g, d, tk, os⟩ := s
  have hx := N _ (.head _)
  refine flt_base (X.keeps F.keep) hx.1 (hq hh.objs.size _ (fr_upd (F.push _) hx.2.1 hx.2.2 _) ?_ (fun p hp => Heap.lt_size (N p (.tail _ hp)).1) (Heap.lt_size hx.1))
  have N' : News h₀ L (hh.push (fltTup [v])) ((x, fltObj t) :: (hh.objs.size, fltTup [v]) :: news) := fun p hp => by
    have := N.push F (fltTup [v])
    rcases List.mem_cons.mp hp with rfl | hp
    · exact this _ (.tail _ (.head _))
    · rcases List.mem_cons.mp hp with rfl | hp
      · exact this _ (.head _)
      · exact this _ (.tail _ (.tail _ hp))
  have lx : x < hh.objs.size := Heap.lt_size hx.1
  exact nw_upd N' (fun p hp => by
    rcases List.mem_cons.mp hp with rfl | hp
    · exact Nat.ne_of_gt lx
    · exact hne p hp) _ rfl
end
end Mine
end
section
open PySem PySem.W PyProof.Rows PySem.Calls Builtin
set_option maxRecDepth 100000
namespace Mine
theorem exc_passes (self : Value) : refuseLoop self "__setattr__" [.ref 44, .ref 31, .type "Exception", .type "BaseException", .type "object"] = pure () := by
  rw [refuseLoop_ref, refuseLoop_ref]
  kernel_rfl
theorem flt_setm {p : Params} : findIn (Mine.hd.heap_39 p) (.ref 44) "__setattr__" = some (some (.builtin "object.__setattr__")) := rfl
theorem flt_find {p : Params} : findIn (Mine.hd.heap_39 p) (.ref 44) "text" = some none := rfl
theorem flt_mro {p : Params} : ∃ cd, clsIn (Mine.hd.heap_39 p) 44 = some cd ∧ cd.hasDict = true ∧ cd.mro = [.ref 44, .ref 31, .type "Exception", .type "BaseException", .type "object"] := ⟨_, rfl, rfl, rfl⟩
abbrev fltObjD (t dx : Addr) : Obj := { cls := .ref 44, dict := some dx, data := .fields #[.ref t, .none, .none, .none, .bool false, .none] }
section
variable {prog : Program} {w w' : World} {A : Around} {R : Result → Shared → Prop} {E : Value → Shared → Prop} {h : Heap} {g : Array GenState} {d : Drawn} {tk : Nat} {os : OsState} {x t : Addr} {v : Value}
theorem flt_osa {tok : Tok} (X : (Mine.hd.heap_39 w'.params).In h) (hx : h.get? x = some (fltObj t))
    (hq : ∀ h' tk' dx, h'.get? x = some (fltObjD t dx) → (∀ b o, b ≠ x → h.get? b = some o → h'.get? b = some o) → R (.ok (.ret .none)) ⟨h', g, d, tk', os⟩) :
    codeAny (model prog w) A (.call (.builtin "object.__setattr__") ⟨[.ref x, .str "text" tok, v], []⟩) R ⟨h, g, d, tk, os⟩ := by
  have SF := PySem.F.store_object
  obtain ⟨cd, hc, hh, hm⟩ := @flt_mro w'.params
  have t1 : Looks (model prog w) h (typeOf (.ref x)) (.ref 44) := (Looks.ld hx).andThen .now
  have sub : Looks (model prog w) h (isInstance (.ref x) (.type "object")) true := t1.andThen (looks_mroIn X (by rfl))
  have m1 : Looks (model prog w) h (mroOf (.ref 44)) [.ref 44, .ref 31, .type "Exception", .type "BaseException", .type "object"] := by rw [← hm]; exact (looks_clsIn X hc).andThen .now
  have f1 : Looks (model prog w) h (typeLookup (.ref 44) "text") none := looks_findIn X flt_find
  refine codeAny_call_builtin SF.slot.plain SF.entry (@check_slot (model prog w) _ _ _ "object.__setattr__" "object" "__setattr__" (.ref x) [.str "text" tok, v] [] _ SF.kind SF.split sub (SF.args (.ref x) (.str "text" tok) v) ?_)
  rw [osa_eq, refuse_eq]
  refine wpAny_bind (wpAny_bind (t1.at (wpAny_bind (m1.at ?_))))
  rw [exc_passes]
  refine wpAny_pure (wpAny_bind (t1.at (wpAny_bind (f1.at (wpAny_bind ?_)))))
  refine wpAny_pure ?_
  dsimp only
  have hx₁ : (h.push emptyDict).get? x = some (fltObj t) := Heap.get?_push_of_some _ hx
  have hxs : x ≠ h.objs.size := Nat.ne_of_lt (Heap.lt_size hx)
  refine wpAny_bind (wpAny_pure (wpAny_bind (wpAny_bind (wpAny_loadPart hx (wpAny_bind ((looks_clsIn X hc).at ?_))))))
  rw [hh]
  refine wpAny_bind (wpAny_alloc' ?_)
  refine wpAny_bind (wpAny_update' hx₁ ?_)
  refine wpAny_pure ?_
  have hgd : ((h.push emptyDict).update x fun o => { cls := o.cls, dict := some h.objs.size, data := o.data, slots := o.slots }).get? h.objs.size = some emptyDict :=
    (Heap.get?_update_ne _ _ _ _ hxs.symm).trans (Heap.get?_push_at rfl rfl)
  have hnd : ((h.push emptyDict).update x fun o => { cls := o.cls, dict := some h.objs.size, data := o.data, slots := o.slots }).Ns h.objs.size (fun _ => none) :=
    ⟨_, #[], _, hgd, rfl, fun e he => absurd he (by simp), fun _ => rfl⟩
  refine wpAny_bind (wpAny_pure (wpAny_bind (wpAny_nsSet1 (Heap.Ns1.of_empty hnd) fun h' hn' hs => ?_)))
  obtain ⟨oD, esD, epD, hoD, hdD, hcD⟩ := hn'.count (Within.cons "text" v Within.nil)
  refine wpAny_bind (wpAny_lookBehind hoD (by rw [hdD]; exact pastItsLine_dict (Nat.le_trans hcD (by rw [List.length_cons, List.length_nil, sizeLine_eq]; omega))) ?_)
  refine wpAny_pure ?_
  refine hq h' _ h.objs.size ?_ fun b ob hbx hb => ?_
  · exact (hs.2 x hxs).trans (Heap.get?_update_self _ hx₁ rfl)
  · exact (hs.2 b (Nat.ne_of_lt (Heap.lt_size hb))).trans ((Heap.get?_update_ne _ _ _ _ hbx).trans (Heap.get?_push_of_some _ hb))
end
section
variable {prog : Program} {w w' : World} {A : Around} {E : Value → Shared → Prop} {s : Shared} {x t L : Addr} {v : Value} {h₀ : Heap} {m : Str → Option Value} {news : List (Addr × Obj)} {Q : Unit → Shared → Prop}
theorem set_flt (F : Fr h₀ L s.heap m) (N : News h₀ L s.heap ((x, fltObj t) :: news)) (hne : ∀ p ∈ news, p.1 ≠ x) (X : (Mine.hd.heap_39 w'.params).In h₀)
    (hq : ∀ dx h' tk', Fr h₀ L h' m → News h₀ L h' ((x, fltObjD t dx) :: news) → Q () { s with heap := h', toks := tk' }) :
    wpAny (model prog w) A (setAttr (.ref x) "text" v) Q E s := by
  obtain ⟨hh, g, d, tk, os⟩ := s
  have hx := N _ (.head _)
  have X' := X.keeps F.keep
  have t1 : Looks (model prog w) hh (typeOf (.ref x)) (.ref 44) := (Looks.ld hx.1).andThen .now
  have f1 : Looks (model prog w) hh (typeLookup (.ref 44) "__setattr__") (some (.builtin "object.__setattr__")) := looks_findIn X' flt_setm
  refine wpAny_bind (wpAny_mkText (wpAny_bind (wpAny_bind (wpAny_bind (t1.at (f1.at (wpAny_holding ?_)))))))
  rw [PySem.F.store_object.slot.bind]
  refine wpAny_bind (wpAny_pure (wpAny_bind (wpAny_call (flt_osa X' hx.1 fun h' tk' dx e1 e2 => ?_))))
  refine wpAny_pure (wpAny_pure (hq dx h' tk' ?_ fun p hp => ?_))
  · obtain ⟨oL, es, ep, hL, r⟩ := F.ns
    exact ⟨⟨oL, es, ep, e2 _ _ (fun q => hx.2.1 q.symm) hL, r⟩, fun b o e => e2 _ _ (fun q => by rw [q, hx.2.2] at e; cases e) (F.keep _ _ e), F.above⟩
  · rcases List.mem_cons.mp hp with rfl | hp
    · exact ⟨e1, hx.2⟩
    · have := N p (.tail _ hp)
      exact ⟨e2 _ _ (hne p hp) this.1, this.2⟩
end
end Mine
end
section
open PySem PySem.W PyProof.Rows PySem.Calls PySem.Spec
set_option maxRecDepth 100000
namespace Mine
section
variable {M : Model} {A : Around} {E : Value → Shared → Prop} {s' : Shared} {base g h : Heap} {outer : List Env} {L a x t dx : Addr} {m : Str → Option Value} {name : Str} {scope : Scope} {cd : Value} {Q : Unit → Shared → Prop} {news : List (Addr × Obj)}
theorem leave_flt (K : Below A base outer g) (F : Fr g L s'.heap m) (N : News g L s'.heap ((x, fltObjD t dx) :: news)) (hne : ∀ p ∈ news, p.1 ≠ x)
    (hQ : ∀ h', RaisedSN base g outer x (.ref 44) news h' → g.UpToSlots h' → Q () { s' with heap := h' }) (hk : scope.kind = .function := by rfl) :
    wpAny M (A.deeper (envOf name scope L a cd)) (leaving (envOf name scope L a cd) (.ref x)) Q E s' := by
  have K' := K.push (name := name) (a := a) (cd := cd) F hk
  have hx := N _ (.head _)
  have nb : ∀ b o, g.get? b = some o → b ≠ x := fun b o e q => by rw [q, hx.2.2] at e; cases e
  have hin : ∀ env ∈ (envOf name scope L a cd :: outer), ∀ b, env.frame = some b → b ∈ x :: (envOf name scope L a cd :: outer).filterMap (·.frame) := fun env he b hb => .tail _ (List.mem_filterMap.mpr ⟨env, he, hb⟩)
  have sg : ∀ b o, g.get? b = some o → b ∉ outer.filterMap (·.frame) → (hideAll s'.heap (x :: (envOf name scope L a cd :: outer).filterMap (·.frame))).get? b = some o := fun b o q nm => hideAll_get _ (F.keep b o q) fun hm => by
    rcases List.mem_cons.mp hm with z | hm
    · exact nb b o q z
    · rcases kts_mem hm with z | z
      · rw [z, kts_self F] at q; cases q
      · exact nm z
  have st : base.StaysIn (hideAll s'.heap (x :: (envOf name scope L a cd :: outer).filterMap (·.frame))) := fun b o q => hideAll_get _ (K'.stays b o q) fun hm => by
    rcases List.mem_cons.mp hm with z | hm
    · exact nb b o (K.stays b o q) z
    · rw [(K'.frames.mem hm).1] at q; cases q
  have hl : ∀ q ∈ news, (hideAll s'.heap (x :: (envOf name scope L a cd :: outer).filterMap (·.frame))).get? q.1 = some q.2 ∧ g.get? q.1 = none ∧ base.get? q.1 = none := fun q hq => by
    have Nq := N q (.tail _ hq)
    refine ⟨hideAll_get _ Nq.1 fun hm => ?_, Nq.2.2, fresh_of_stays K.stays Nq.2.2⟩
    rcases List.mem_cons.mp hm with z | hm
    · exact hne q hq z
    · obtain ⟨env, he, hf⟩ := List.mem_filterMap.mp hm
      rcases List.mem_cons.mp he with rfl | he
      · exact Nq.2.1 (Option.some.inj hf).symm
      · obtain ⟨o, ho, _⟩ := (K.frames.mem (List.mem_filterMap.mpr ⟨env, he, hf⟩)).2
        rw [Nq.2.2] at ho; cases ho
  have hen : (hideAll s'.heap (x :: (envOf name scope L a cd :: outer).filterMap (·.frame))).get? x = none := hideAll_none _ (.head _)
  refine wpAny_leaving_firstW (a0 := .ref t) K'.stack (funFrames_hide K'.frames hin) rfl hx.1 (fun b o q => of_hideAll _ q) hen rfl rfl rfl fun h' hL => ?_
  obtain ⟨k1, ⟨_, _, k2⟩, k3, k4⟩ := hL
  exact hQ h' ⟨_, .ref t, st, sg, hl, k1, hen, k2, k3⟩ ((Heap.UpToSlots.of_keeps F.keep).trans k4)
end
section
variable {prog : Program} {w w' : World} {A₀ : Around} {E : Value → Shared → Prop} {s' : Shared} {base g g₀ G : Heap} {outer : List Env} {L a e : Addr} {m : Str → Option Value} {name : Str} {scope : Scope} {cd : Value} {cl : List (Str × Addr)}
  {b₀ : Stmt} {suite : List Stmt} {pos np : Pos} {rest : List ExceptHandler} {Q : Flow → Shared → Prop} {news : List (Addr × Obj)}
  {p : Program} {loose : List Str} {mean : ExcName → Option Value} {mg mb : Str → Option Value}
theorem caught_flt (R : RaisedSN base G (envX name scope L a cd cl :: outer) e (.ref 44) news s'.heap) (F : Fr g L G m) (K : Below A₀ base outer g) (hsm : G.UpToSlots s'.heap) (XB : (Mine.hd.heap_39 w'.params).In base) (TB : Top p loose mean mg mb base)
    (D : KtsDicts (outer.filterMap (·.frame)) g) (T0 : KtsTurn (outer.filterMap (·.frame)) g₀ g)
    (k : ∀ h' g', KtsTurn (outer.filterMap (·.frame)) g₀ g' → Fr g' L h' m → News g' L h' news → Below A₀ base outer g' → (Mine.hd.heap_39 w'.params).In g' → Top p loose mean mg mb g' → KtsDicts (outer.filterMap (·.frame)) g' →
      wpAny (model prog w) ((A₀.deeper (envX name scope L a cd cl)).mark (some (.ref e))) (execs (b₀ :: suite) (envX name scope L a cd cl)) Q E { s' with heap := h' })
    (hk : scope.kind = .function := by rfl) (hx : (envX name scope L a cd cl).kindOf "RunFault" = some .globalImplicit := by rfl)
    (hE : PassesOwnAt (model prog w) ((A₀.deeper (envX name scope L a cd cl)).mark (some (.ref e))) (A₀.deeper (envX name scope L a cd cl)) (envX name scope L a cd cl) E := by passes_own) :
    wpAny (model prog w) (A₀.deeper (envX name scope L a cd cl)) (noteFrame (.ref e) (envX name scope L a cd cl))
      (fun _ s₂ => wpAny (model prog w) (A₀.deeper (envX name scope L a cd cl)) (setFlight (.ref e) none) (fun _ s₃ =>
        wpAny (model prog w) (A₀.deeper (envX name scope L a cd cl)) (handleBy (.ref e) (envX name scope L a cd cl) (.ExceptHandler (some (.Name "RunFault" np)) none (b₀ :: suite) pos :: rest)) Q E s₃) E s₂) E s' := by
  obtain ⟨B, a0, hB, hBG, hl, hfl⟩ := R
  have hL : B.get? L = none := by
    obtain ⟨_, ⟨L', _, hf, hn', _⟩, _⟩ := hfl.2.2.1
    obtain rfl : L = L' := Option.some.inj hf
    exact hn'
  obtain ⟨nm, q, bs, hdct, sn, sub, ab, col, dd, k0, k1, k2, k3, k5, hcl⟩ := @flt_cls w'.params
  refine wpAny_looks_onW (Around.frames_deeper K.stack) rfl hfl fun h₄ hheld₄ hsm₄ => ?_
  refine wpAny_landsW hheld₄ fun h₅ hheld hsm₅' => ?_
  have hsm₅ := hsm₄.trans hsm₅'
  obtain ⟨g₅, T₅, F₅, K₅⟩ := kts_ground (name := name) (scope := scope) (a := a) (cd := cd) K F hBG hheld.1 (hsm.trans hsm₅)
  have X₅ : (Mine.hd.heap_39 w'.params).In g₅ := XB.keeps K₅.stays
  have P₅ : TopRead p loose mg mb g₅ := topRead_of (TB.keeps K₅.stays)
  obtain ⟨ob, hob, hobc⟩ := hheld.there
  have hC₅ := F₅.keep _ _ (X₅ _ _ hcl)
  refine wpAny_handleBy_cons (codeAny_handlers_test (nameX_K F₅ X₅ P₅ (v := .ref 44) (by rfl) ?_ hk hx (by decide))) (by intro q; cases q)
  refine wpAny_excMatches_sub_self hC₅ hob hobc (by decide) (codeAny_handlers_suite ?_)
  refine lands_againW hheld fun h₆ hfl₆ hsm₆ => ?_
  obtain ⟨g₆, T₆, F₆, K₆⟩ := kts_ground (name := name) (scope := scope) (a := a) (cd := cd) K F hBG hfl₆.1 ((hsm.trans hsm₅).trans hsm₆)
  have Nl : News g₆ L h₆ news := fun q hq => ⟨hfl₆.1 _ _ (hl q hq).1, (fun z => by have := (hl q hq).1; rw [z, hL] at this; cases this), T₆.none_ _ (kts_none F.keep (hl q hq).2.1)⟩
  exact wpAny_passesOwnAt hE (k h₆ g₆ (T0.trans T₆) F₆ Nl K₆ (XB.keeps K₆.stays) (TB.keeps K₆.stays) (D.turn T₆))
end
section
variable {prog : Program} {w : World} {A₀ A : Around} {s : Shared} {base h₀ : Heap} {L a : Addr} {m : Str → Option Value} {cn : Str} {cs : Scope} {ccd : Value} {news : List (Addr × Obj)} {K : Frag} {p : Program} {loose : List Str} {mean : ExcName → Option Value} {mg mb : Str → Option Value}
    {R : Result → Shared → Prop} {name qual : Str} {params : Arguments} {body : List Stmt} {scope : Scope} {dV kV doc pm cdv ct oc : Value} {an od : Option Addr} {osl : Array (Option Value)} {f : Addr} {args : Args} {binds : List (Str × Value)}
theorem code_defCS0 (B : Below A₀ base [] h₀) (F : Fr h₀ L s.heap m) (X₀ : K.In h₀) (N : News h₀ L s.heap news) (T : Top p loose mean mg mb h₀) (hA : A.frames = some [envOf cn cs L a ccd])
    (ho : K.lookup f = some ⟨oc, od, .func (fnOf name qual params body scope dV kV doc pm an cdv ct), osl⟩) (hcd : codeIn K cdv qual = true) (hroom : A.depth < recursionLimit)
    (hbind : BindsTo s (fnOf name qual params body scope dV kV doc pm an cdv ct) args binds) (hkind : (binds.all fun y => scope.names.lookup y.1 == some .local || scope.names.lookup y.1 == some .cell) = true)
    (hnd : ((cellsFrom 0 scope.names []).map (·.1)).Nodup)
    (h : ∀ g L' h₁ tk cells, Fr h₀ L g m → Fr g L' h₁ (bindL (envOfC qual scope L' f cdv).kindOf binds fun _ => none) → News g L' h₁ (cells ++ news) →
      CellsAre (bindC (envOfC qual scope L' f cdv).kindOf binds fun _ => none) (cellsFrom (L' + 1) scope.names []) cells → Below A base [envOf cn cs L a ccd] g → K.In g → Top p loose mean mg mb g → KtsDicts ([envOf cn cs L a ccd].filterMap (·.frame)) g → (∀ p ∈ news, p.1 < L') →
      wpAny (model prog w) (A.deeper (envOfC qual scope L' f cdv)) (execs body (envOfC qual scope L' f cdv))
        (fun fl s' => LeaveS0 ([envOf cn cs L a ccd].filterMap (·.frame)) h₀ L m g R (match fl with | .ret v => v | _ => .none) s')
        (fun e s' => wpAny (model prog w) (A.deeper (envOfC qual scope L' f cdv)) (leaving (envOfC qual scope L' f cdv) e) (fun _ s'' => R (.error e) s'') (fun e' s'' => R (.error e') s'') s')
        { s with heap := h₁, toks := tk })
    (hck : cs.kind = .function) (hco : scope.isCoroutine = false) (hgen : scope.isGenerator = false) (hk : scope.kind = .function) : codeAny (model prog w) A (.call (.ref f) args) R s := by
  have X := X₀.keeps F.keep
  obtain ⟨oL, es, ep, hLg, hLd, hN, hNs, st, B₂⟩ := kts_enter B F N hA hck
  have FG : Fr h₀ L (hideAll s.heap (news.map (·.1))) m := ⟨hN _ hLg, st, F.above⟩
  have D : KtsDicts ([envOf cn cs L a ccd].filterMap (·.frame)) (hideAll s.heap (news.map (·.1))) := fun b hb => by
    rcases kts_mem hb with rfl | z
    · exact ⟨oL, es, ep, hLg, hLd⟩
    · simp at z
  refine codeAny_call_function (fd := fnOf name qual params body scope dV kV doc pm an cdv ct) hroom (X _ _ ho) rfl hco hgen rfl (codeRec_of X hcd) (hbind _ _ _ _ ?_)
  refine wpAny_newFunctionEnv_cells hk (kindsX hkind _) fun env' he s' x => ?_
  subst he
  refine ⟨(T.nolimit.keeps F.keep).keeps x.toInCall.keep, codeAny_func ?_⟩
  obtain ⟨h₁, tk, rfl, _⟩ := x.done
  have hk₁ := x.toInCall.keep
  obtain ⟨cells, NC, Y⟩ := Cl.news (h₀ := s.heap) (Nat.le_refl _) fun n c hm => ⟨x.cell n c (lookup_of_mem_nodup (cellsFrom_names scope.names 0 (s.heap.objs.size + 1) [] [] rfl ▸ hnd) hm), x.above n c hm⟩
  refine wpAny_mono (h _ s.heap.objs.size h₁ tk cells FG ⟨x.toInCall.ns, fun b o e => hk₁ b o (of_hideAll _ e), Nat.le_of_eq (hideAll_size _ _)⟩ (fun p hp => ?_) Y B₂ (X₀.keeps st) (T.keeps st) D (fun p hp => Heap.lt_size (N p hp).1)) (fun fl s' hl => ?_) fun _ _ y => y
  · rcases List.mem_append.mp hp with hp | hp
    · refine ⟨(NC p hp).1, (NC p hp).2.1, ?_⟩
      cases q : (hideAll s.heap (news.map (·.1))).get? p.1 with
      | none => rfl
      | some o => have := of_hideAll _ q; rw [(NC p hp).2.2] at this; cases this
    · exact ⟨hk₁ _ _ (N p hp).1, Nat.ne_of_lt (Heap.lt_size (N p hp).1), hideAll_none _ (List.mem_map_of_mem hp)⟩
  · obtain ⟨g', L', m', news', T', F', N', k⟩ := hl
    have nL₀ : h₀.get? L = none := kts_self F
    obtain ⟨sl, hs⟩ := T'.up hLg
    refine k ⟨hNs sl _ (F'.keep _ _ hs), fun b o e => F'.keep b o (T'.other b o (st b o e) (fun q => by
      rcases kts_mem q with z | z
      · rw [z, nL₀] at e
        cases e
      · simp at z)), F.above⟩ fun p hp => ⟨(N' p hp).1, fun q => ?_, ?_⟩
    · have := (N' p hp).2.2; rw [q, hs] at this; cases this
    · cases q : h₀.get? p.1 with
      | none => rfl
      | some o =>
        obtain ⟨sl', hs'⟩ := T'.up (st _ _ q)
        have := (N' p hp).2.2
        rw [hs'] at this
        cases this
end
end Mine
end
section
namespace Mine
theorem ne2 {t x : Addr} {o : Obj} {news : List (Addr × Obj)} (l1 : ∀ p ∈ news, p.1 < t) (l2 : @LT.lt Nat _ t x) : ∀ p ∈ (t, o) :: news, p.1 ≠ x := fun p hp => by
  rcases List.mem_cons.mp hp with rfl | hp
  · exact Nat.ne_of_lt l2
  · exact Nat.ne_of_lt (Nat.lt_trans (l1 p hp) l2)
theorem ne3 {t x u : Addr} {o o' : Obj} {news : List (Addr × Obj)} (l1 : ∀ p ∈ news, p.1 < t) (l2 : @LT.lt Nat _ t x) (l3 : @LT.lt Nat _ x u) : ∀ p ∈ (u, o) :: (t, o') :: news, p.1 ≠ x := fun p hp => by
  rcases List.mem_cons.mp hp with rfl | hp
  · exact Nat.ne_of_gt l3
  · exact ne2 l1 l2 p hp
theorem rsn_sub {base G : Heap} {l : List Env} {e : Addr} {cls : Value} {news news' : List (Addr × Obj)} {h : Heap} (R : RaisedSN base G l e cls news h) (hs : ∀ p ∈ news', p ∈ news) : RaisedSN base G l e cls news' h := by
  obtain ⟨B, a0, h1, h2, h3, h4⟩ := R
  exact ⟨B, a0, h1, h2, fun q hq => h3 q (hs q hq), h4⟩
theorem rsb_of {w' : World} {E : Value → Shared → Prop} {s : Shared} {h₀ : Heap} {L x t dx : Addr} {m : Str → Option Value} {news : List (Addr × Obj)} (X : (Mine.hd.heap_39 w'.params).In h₀) (F : Fr h₀ L s.heap m) (N : News h₀ L s.heap ((x, fltObjD t dx) :: news)) (h : E (.ref x) s) : RaisableF E (.ref x) s :=
  ⟨w', x, _, _, rfl, X.keeps F.keep, (N _ (.head _)).1, rfl, rfl, rfl, h⟩
theorem sz0_nil : (xadd ((canon 0).1 * (canon 0).1) ((canon 0).2 + (canon 0).2) ((canon 0).1 * (canon 0).1) ((canon 0).2 + (canon 0).2)).1 = 0 := by
  rw [canon_zero]; rfl
set_option maxRecDepth 100000 in
set_option maxHeartbeats 8000000 in
theorem div_raise {w : World} {mean : ExcName → Option Value} {mg mb : Str → Option Value} : ∀ (dp un : Nat) (gd : Option (List Code)) (cn : Str) (cs : Scope) (a : Addr) (ccd : Value) (cl : List (Str × Addr)) (outer : List Env) (A₀ : Around) (base h₀ : Heap) (L : Addr) (m : Str → Option Value) (news : List (Addr × Obj)) (s : Shared) (vs : List Value)
    (Q E : Value → Shared → Prop) (a0 b0 : Addr) (p1 p2 d0 : Int) (t0 u0 : Tok),
    Below A₀ base outer h₀ → Fr h₀ L s.heap m → (Mine.hd.heap_39 w.params).In h₀ → News h₀ L s.heap news → Top Mine.hd.view_39 (looseW Mine.hd.view_39 []) mean mg mb h₀ → cs.kind = .function →
    CIn news a0 (canon p1) (canon p2) → CIn news b0 (canon 0) (canon 0) → dp + 8 < recursionLimit → un + 8 * 8 < cLine →
    (∀ e g' h' tk, Fr h₀ L g' m → RaisedSN base g' (envX cn cs L a ccd cl :: outer) e (.ref 44) news h' → g'.UpToSlots h' → E (.ref e) { s with heap := h', toks := tk }) →
    wpAny (model PySem.Challenge.rw_sa0208_01.row.prog w) (ktrTop dp un gd cn cs L a ccd cl outer) (call (.ref 152) [.ref a0, .ref b0, .int d0 t0, .int 60 u0]) Q E s := by
  k_with_none
  k_fill
  k_with "call ref" => first | (ktn_call (Str.ofString "exact_mul") xmT; walk_at "MY.got") | (ktn_call (Str.ofString "exact_add") xaT; walk_at "MY.got")
  k_with "MY.sub" => first | exact sub_refl | (with_reducible (repeat first | exact sub_refl | exact sub_left | refine sub_aa ?_ | refine sub_cc ?_ | refine sub_cons ?_ | refine sub_right ?_); done) | (with_reducible (repeat (first | exact sub_refl | exact sub_left | refine sub_app ?_ ?_ | refine sub_cons ?_ | refine sub_right ?_)); done) | (intro p hp; (simp only [List.mem_append, List.mem_cons, List.not_mem_nil, or_false, or_assoc] at hp ⊢); (repeat' (refine Or.elim hp (fun hp => ?_) (fun hp => ?_))); all_goals (simp only [hp, true_or, or_true]))
  k_with "MY.mem" => first | assumption | (k_mem; done) | ((simp only [List.mem_append, List.mem_cons, true_or, or_true]; done)) | ((refine' (fun {X Y : List (Addr × Obj)} {p : Addr × Obj} (hs : ∀ p ∈ X, p ∈ Y) (h : p ∈ X) => hs p h) ?_ ?h_w1; (case h_w1 => assumption)); walk_at "MY.sub")
  k_with "MY.rin" => first | assumption | exact RIn.nought | exact RIn.tup (by walk_at "MY.mem") | (refine' RIn.mono ?h_w2 ?s_w2; (case h_w2 => assumption); (case s_w2 => walk_at "MY.sub"))
  k_with "MY.up" => first | exact up_nil | (refine up_cons (ktn_ltOf (by first | assumption | tbn_find | exact allLt_of (by assumption))) ?_; walk_at "MY.up") | (refine up_cons (lt_sub (by first | assumption | tbn_find | exact allLt_of (by assumption)) (by walk_at "MY.sub")) ?_; walk_at "MY.up") | (refine up_app ?_ ?_ <;> walk_at "MY.up") | exact up_sub (by assumption) (by walk_at "MY.sub")
  k_with "MY.got" => ((rename rOut _ _ _ => hz); (obtain ⟨a8, e8, hz8⟩ := hz); (subst e8))
  k_with "MY.news" => first | exact nw_n0 (by assumption) | exact nw_p0 (by assumption) | exact nw_p1 (by assumption) | exact nw_p2 (by assumption) | exact nw_p3 (by assumption) | exact nw_n1 (by assumption) | exact nw_n2 (by assumption) | exact nw_n3 (by assumption)
  k_with "subscriptTail" => (k_here; (with_reducible show wpAny _ _ (subscriptTail _ _ (Value.ref _) (Value.int _ _)) _ _ _); (first | (with_reducible refine' rin_item0 ?k1_w6 ?k2_w6 ?k3_w6 ?k4_w6 ?_ ?k6_w6) | (with_reducible refine' rin_item1 ?k1_w6 ?k2_w6 ?k3_w6 ?k4_w6 ?_ ?k6_w6)); (case k1_w6 => k_asm); (case k2_w6 => k_asm); (case k3_w6 => k_asm); (case k4_w6 => walk_at "MY.rin"); (case k6_w6 => with_unfolding_all rfl); k_whole; intro tt)
  k_with "subscriptTail" => (k_here; (with_reducible show wpAny _ _ (subscriptTail _ _ (Value.ref _) (Value.int _ _)) _ _ _); (first | (with_reducible refine' cin_item0 ?k2_w7 ?k4_w7 ?_ ?k6_w7) | (with_reducible refine' cin_item1 ?k2_w7 ?k4_w7 ?_ ?k6_w7)); (case k2_w7 => k_asm); (case k4_w7 => walk_at "MY.cin"); (case k6_w7 => with_unfolding_all rfl); k_whole; intro tt rr)
  k_with "MY.cin" => first | assumption | (refine' CIn.mono ?h_w8 ?s_w8; (case h_w8 => assumption); (case s_w8 => walk_at "MY.sub")) | (refine' CIn.mk ?h1_w8 ?h2_w8 ?h3_w8; (case h1_w8 => walk_at "MY.mem"); (case h2_w8 => walk_at "MY.rin"); (case h3_w8 => walk_at "MY.rin"))
  k_with "MY.gotc" => ((rename cOut _ _ _ _ => hz); (obtain ⟨a8, e8, hz8⟩ := hz); (subst e8))
  k_with "MY.gotF" => ((rename rOutF _ _ _ _ => hz); (obtain ⟨tl8, eq8, a8, e8, hz8⟩ := hz); (simp only [List.cons_append, List.append_assoc, List.cons.injEq, true_and, List.append_cancel_left_eq] at eq8); (subst eq8); (subst e8))
  k_with "MY.gotcF" => ((rename cOutF _ _ _ _ _ => hz); (obtain ⟨tl8, eq8, a8, e8, hz8⟩ := hz); (simp only [List.cons_append, List.append_assoc, List.cons.injEq, true_and, List.append_cancel_left_eq] at eq8); (subst eq8); (subst e8))
  k_with "MY.ne2" => exact ne2 (by first | assumption | exact ktn_ltOf (by assumption)) (by assumption)
  k_with "setAttr ref" => (k_here; k_dflt (refine' set_flt ?F_w13 ?N_w13 ?ne_w13 ?X_w13 ?_; (case F_w13 => k_asm); (case N_w13 => k_asm); (case ne_w13 => walk_at "MY.ne3"); (case X_w13 => k_asm); k_whole; intro dx' h' tk' F' N'; (try k_sweep)))
  k_with "MY.ne3" => exact ne3 (by first | assumption | exact ktn_ltOf (by assumption)) (by assumption) (by assumption)
  k_with "getMethod type:Exception" => (k_here; k_dflt (refine' meth_base ?F_w15 ?X_w15 ?_; (case F_w15 => k_asm); (case X_w15 => k_asm); k_whole))
  k_with "call builtin:Exception.__init__" => (k_here; k_dflt (refine' call_base ?F_w16 ?N_w16 ?ne_w16 ?X_w16 ?_; (case F_w16 => k_asm); (case N_w16 => k_asm); (case ne_w16 => exact ne2 (by first | assumption | exact ktn_ltOf (by assumption)) (by assumption)); (case X_w16 => k_asm); k_whole; intro d' h' F' N' l1 l2; (try k_lt l1); (try k_lt2 l2); (try k_sweep)))
  k_with "MY.enter" => (refine' code_def ?k1_w17 ?k2_w17 ?k3_w17 ?k4_w17 ?k5_w17 ?kA_w17 ?kF_w17 ?kK_w17 ?k6_w17 ?k7_w17 ?k8_w17 ?k9_w17 ?kB_w17 ?_ ?c2_w17 ?c3_w17 ?c4_w17 ?c5_w17; (case kA_w17 => exact rfl); (case kF_w17 => exact rfl); (case kK_w17 => first | assumption | exact rfl); (case k1_w17 => k_asm); (case k2_w17 => k_asm); (case k3_w17 => k_asm); (case k4_w17 => k_asm); (case k5_w17 => k_asm); (case k6_w17 => k_is); (case k7_w17 => k_is); (case k8_w17 => ktr_room); (case k9_w17 => exact BindsTo.of_eq rfl); (case c5_w17 => decide); (case kB_w17 => exact locs rfl); (case c2_w17 => exact rfl); (case c3_w17 => exact rfl); (case c4_w17 => exact rfl); k_whole; intro g' L' h' FG' F' N' B' X' T'; (try dsimp only); (try k_fold))
  k_with "ktr_unf" => (try simp only [xaT, xmT] at *)
  k_with "ktr_rel" => first | assumption | (refine' XaRel.mk ?h1_w19 ?h2_w19; (case h1_w19 => walk_at "MY.rin"); (case h2_w19 => walk_at "MY.rin")) | exact ⟨_, rfl⟩ | exact rfl | exact trivial | exact ⟨by assumption, by assumption⟩
  k_with "exec Raise some none" => (k_here; (refine Raise_flt rfl ?_))
  k_with "call ref" => (k_here; (with_reducible show wpAny _ _ (call (Value.ref 44) _) _ _ _); k_dflt (refine' call_flt ?k1_w21 ?k2_w21 ?k3_w21 ?_; (case k1_w21 => k_asm); (case k2_w21 => k_asm); (case k3_w21 => k_asm); k_whole; intro x' d' h' F' N' l1 l2; (try k_lt l1); (try k_lt2 l2); (try k_sweep); walk_at "MY.enter"))
  k_with "ktr_units" => first | (k_dflt exact un3_ok hu (Nat.le_of_ble_eq_true rfl))
  k_with "ktr_room" => first | (k_dflt exact dp1_ok hd (Nat.le_of_ble_eq_true rfl)) | (k_dflt exact dp0_ok hd)
  have C0 := @c_xmul w mean mg mb
  have C1 := @c_xadd w mean mg mb
  intro dp un gd cn cs a ccd cl outer A₀ base h₀ L m news s vs Q E a0 b0 p1 p2 d0 t0 u0 B F X N T hk hR hS hd hu hret
  have hz := sz0_nil
  have hc : (canon 0).1.natAbs < 10 ^ 60 := by rw [canon_zero]; decide
  have hxo : xok (xmul (canon 0) (canon 0)) (xmul (canon 0) (canon 0)) := by rw [canon_zero]; exact ⟨by decide, by decide, by decide⟩
  ktr_unf
  refine wpAny_call ?_
  k_dflt ktr_enter
  k_steps
  all_goals try (exfalso; omega)
  refine' rsb_of ?X ?F ?N ?_
  case X => assumption
  case F => assumption
  case N => assumption
  k_unfold
  try dsimp only
  refine' leave_flt ?K ?F ?N2 ?ne ?_
  case K => assumption
  case F => assumption
  case N2 => assumption
  case ne => walk_at "MY.ne3"
  intro h' R U
  exact hret _ _ _ _ (by assumption) (rsn_sub R (by walk_at "MY.sub")) U
theorem div_raise' {w : World} {mean : ExcName → Option Value} {mg mb : Str → Option Value} {dp un : Nat} {gd : Option (List Code)} {cn : Str} {cs : Scope} {a : Addr} {ccd : Value} {cl : List (Str × Addr)} {outer : List Env} {A₀ : Around} {base h₀ : Heap} {L : Addr} {m : Str → Option Value} {news : List (Addr × Obj)} {s : Shared}
    {Q E : Value → Shared → Prop} {a0 b0 : Addr} {p1 p2 d0 : Int} {t0 u0 : Tok} (B : Below A₀ base outer h₀) (F : Fr h₀ L s.heap m) (X : (Mine.hd.heap_39 w.params).In h₀) (N : News h₀ L s.heap news) (T : Top Mine.hd.view_39 (looseW Mine.hd.view_39 []) mean mg mb h₀) (hk : cs.kind = .function)
    (R : CIn news a0 (canon p1) (canon p2)) (S : CIn news b0 (canon 0) (canon 0)) (hd : dp + 8 < recursionLimit) (hu : un + 8 * 8 < cLine)
    (h : ∀ e g' h' tk, Fr h₀ L g' m → RaisedSN base g' (envX cn cs L a ccd cl :: outer) e (.ref 44) news h' → g'.UpToSlots h' → E (.ref e) { s with heap := h', toks := tk }) :
    wpAny (model PySem.Challenge.rw_sa0208_01.row.prog w) (ktrTop dp un gd cn cs L a ccd cl outer) (call (.ref 152) [.ref a0, .ref b0, .int d0 t0, .int 60 u0]) Q E s :=
  div_raise dp un gd cn cs a ccd cl outer A₀ base h₀ L m news s [] Q E a0 b0 p1 p2 d0 t0 u0 B F X N T hk R S hd hu h
end Mine
end
section
open PySem PySem.W PyProof.Rows PySem.Calls PySem.Spec LCg
set_option maxRecDepth 100000
namespace Mine
def TAt (ax : Addr) (its : Array Value) (news : List (Addr × Obj)) : Prop := ∃ n, (ax, ({ cls := .type "tuple", data := .seq its n } : Obj)) ∈ news
theorem TAt.tup {h₀ h : Heap} {L ax : Addr} {its : Array Value} {news : List (Addr × Obj)} (x : TAt ax its news) (N : News h₀ L h news) : h.IsTuple ax its := by
  obtain ⟨n, hm⟩ := x
  exact ⟨_, (N _ hm).1, rfl, _, rfl⟩
def TupSrc (prog : Program) (w : World) (A : Around) (h₀ : Heap) (L : Addr) (m : Str → Option Value) (env : Env) (elt : PySem.Expr) (x : Str) (scope : Scope) (cl : List (Str × Addr)) (Fin : Shared → List Value → List (Addr × Obj) → Prop) (xv : Value) (s₁ : Shared) : Prop :=
  ∃ ax its news, xv = .ref ax ∧ A.handled = none ∧ Fr h₀ L s₁.heap m ∧ News h₀ L s₁.heap news ∧ TAt ax its news ∧ its.size ≤ sizeLine ∧
    ∀ s₂ : Shared, (∃ h, s₂ = { s₁ with heap := h }) → CompRest prog w A h₀ L m env elt x scope cl s₂ (TAt ax its) (fun i v => its[i]? = some v) (Fin s₂) its.size 0 [] news
section
variable {prog : Program} {w : World} {A : Around} {E : Value → Shared → Prop} {s : Shared} {h₀ : Heap} {L : Addr} {m : Str → Option Value} {env : Env}
theorem tup_src {elt : PySem.Expr} {x : Str} {scope : Scope} {cl : List (Str × Addr)} {Fin : Shared → List Value → List (Addr × Obj) → Prop} {ax : Addr} {v0 v1 v2 : Value} {k : Nat} {news : List (Addr × Obj)} {s₁ : Shared}
    (hh : A.handled = none) (F : Fr h₀ L s₁.heap m) (N : News h₀ L s₁.heap news) (hm : (ax, ({ cls := .type "tuple", data := .seq #[v0, v1, v2] k } : Obj)) ∈ news)
    (h : ∀ g, CompRest prog w A h₀ L m env elt x scope cl { s₁ with heap := g } (TAt ax #[v0, v1, v2]) (fun i v => #[v0, v1, v2][i]? = some v) (Fin { s₁ with heap := g }) 3 0 [] news) :
    TupSrc prog w A h₀ L m env elt x scope cl Fin (.ref ax) s₁ := ⟨ax, _, news, rfl, hh, F, N, ⟨_, hm⟩, (by show 3 ≤ sizeLine; rw [sizeLine_eq]; decide), fun _ ⟨g, e⟩ => e ▸ h g⟩
theorem tup_st {ax I : Addr} {its : Array Value} : ∀ i (h h' : Heap) (o : Obj) (nw : List (Addr × Obj)), (h.IsTupleIter I ax i ∧ h.IsTuple ax its) → h.get? I = some o → h'.get? I = some o → (∀ b o, h₀.get? b = some o → h'.get? b = some o) → News h₀ L h' nw → TAt ax its nw → (h'.IsTupleIter I ax i ∧ h'.IsTuple ax its) :=
  fun i h h' o nw st e e' _ N S => ⟨by obtain ⟨o', q, r⟩ := st.1; rw [e] at q; cases q; exact ⟨o, e', r⟩, S.tup N⟩
theorem Assign_LC_tup {elt iter : PySem.Expr} {x y : Str} {px py : Pos} {scope : Scope} {cl : List (Str × Addr)} {pos spos : Pos} {Q : Flow → Shared → Prop} (_F₀ : Fr h₀ L s.heap m) (hLe : env.locals = L)
    (hsw : swapsWith (.ListComp elt [⟨.Name x px, iter, [], 0⟩] scope pos) (some (.Name y py)) spos.line env = pure true)
    (hclos : closureFor scope env = pure cl) (hcell : ∀ z ∈ scope.names, z.2 ≠ .cell) (hkind : scope.kind = .function)
    (hnames : ∀ z ∈ scope.names, z.2 = .local → scope.names.lookup z.1 = some .local) (hx : scope.names.lookup x = some .local)
    (hy : env.kindOf y = some .local) (hp : (env.scope.kind == .class || (env.scope.kind == .module && env.locals != env.globals)) = false)
    (h : wpAny (model prog w) A (eval iter env) (TupSrc prog w A h₀ L m env elt x scope cl (fun s₂ => FinA h₀ L m s₂ y Q)) E s)
    (hs : ∀ x, foldedSetIterable iter env x = pure x := by intro _; rfl) :
    wpAny (model prog w) A (exec (.Assign [.Name y py] (.ListComp elt [⟨.Name x px, iter, [], 0⟩] scope pos) spos) env) Q E s := by
  subst hLe
  rw [exec_Assign_Name_used _ _ _ _ hsw]
  refine wpAny_bind (wpAny_standAt (wpAny_bind ?_))
  show wpAny _ A (do let _ ← comprehension (.ListComp elt [⟨.Name x px, iter, [], 0⟩] scope pos) scope env _ (newList []) false (eval iter env) (some (assign (.Name y py) env))) _ _ s
  refine wpAny_bind (wpAny_mono (wpAny_comprehension_free (use := some (assign (.Name y py) env)) (Q := fun _ s' => Q .next s') rfl hs hclos hkind hnames
    (wpAny_mono h (fun xv s₁ h₁ => ?_) fun _ _ e => e)) (fun _ s' hq => wpAny_pure (wpAny_pure hq)) fun _ _ e => e)
  obtain ⟨ax, its, news, rfl, hh, F, N, S, hsz, R⟩ := h₁
  have hl := S.tup N
  have hlt : ax < s₁.heap.objs.size := by obtain ⟨_, e, _⟩ := hl; exact Heap.lt_size e
  refine wpAny_pyIter_tuple hl ?_
  have up : ∀ b o, s₁.heap.get? b = some o → (s₁.heap.push { cls := .type "tuple_iterator", data := .fields #[.ref ax, .int 0 0] }).get? b = some o := fun b o e => Heap.get?_push_of_some _ e
  refine block_U (Walks.tuple hh s₁.heap.objs.size ax (Nat.ne_of_lt hlt) its) hsz (fun i h st => by obtain ⟨o, e, _⟩ := st.1; exact ⟨o, e⟩) tup_st hcell hkind hx ⟨⟨_, Heap.get?_push_size _ rfl, rfl, rfl⟩, hl.push _⟩ (fun b hb => ?_)
    (F.keeps up) (N.grown up) (Nat.ne_of_lt F.ns.lt) (next_is_new F) (fun p hp => Nat.ne_of_lt (Heap.lt_size (N p hp).1)) S (R _ ⟨_, rfl⟩) ?_
  · show b < (s₁.heap.push _).objs.size
    rw [Heap.size_push]
    rcases List.mem_cons.mp hb with rfl | hb
    · exact Nat.lt_succ_self _
    · rw [List.mem_singleton.mp hb]; exact Nat.lt_succ_of_lt hlt
  · intro D C h' tk m' ys news' F' N' o1 hn hC₀ hD₀ hCL hDL hCD offC fin
    show wpAny _ A (assign (.Name y py) env (.ref D)) _ _ _
    refine wpAny_assign_Name (wpAny_storeName_local hy F'.ns (fun h₂ hn₂ hs₂ => ?_) hp)
    have hL₀ : h₀.get? env.locals = none := Heap.get?_none_of_le F'.above
    have F₂ : Fr h₀ env.locals h₂ (fun z => if z = y then some (.ref D) else m z) := ⟨hn₂, fun b o e => hs₂.extBut b o (fun q => by rw [q, hL₀] at e; cases e) (F'.keep b o e), F'.above⟩
    refine ⟨m', hn.sameBut hs₂ hCL, fun h'' hs'' => fin D h'' _ (F₂.change hs'' hCL hC₀) (fun p hp => ?_) o1⟩
    have z : h₂.get? p.1 = some p.2 := hs₂.extBut _ _ (N' p hp).2.1 (N' p hp).1
    refine ⟨hs''.extBut _ _ ?_ z, (N' p hp).2⟩
    rcases List.mem_cons.mp hp with rfl | hp
    · exact Ne.symm hCD
    · exact offC p hp
theorem off3_app {I C D : Addr} {oI oC oD : Obj} {news tl : List (Addr × Obj)} (h : Off3 I C D news) (k : ∀ q ∈ (I, oI) :: (C, oC) :: (D, oD) :: news, ∀ p ∈ tl, q.1 < p.1) : Off3 I C D (news ++ tl) :=
  Off3.of fun p hp => by
    rcases List.mem_append.mp hp with hp | hp
    · exact h.mem p hp
    · exact ⟨Nat.ne_of_gt (k (I, oI) (.head _) p hp), Nat.ne_of_gt (k (C, oC) (.tail _ (.head _)) p hp), Nat.ne_of_gt (k (D, oD) (.tail _ (.tail _ (.head _))) p hp)⟩
end
end Mine
end
section
namespace Mine
theorem fm_lo {x m : Int} (h : 1 ≤ m) : 0 ≤ x.fmod m := by rw [Int.fmod_eq_emod_of_nonneg _ (by omega)]; exact Int.emod_nonneg _ (by omega)
theorem fm_hi {x m : Int} (h : 1 ≤ m) : x.fmod m < m := by rw [Int.fmod_eq_emod_of_nonneg _ (by omega)]; exact Int.emod_lt_of_pos _ (by omega)
set_option maxRecDepth 100000 in
set_option maxHeartbeats 8000000 in
theorem sip0 {w : World} {mean : ExcName → Option Value} {mg mb : Str → Option Value} : ∀ (dp un : Nat) (gd : Option (List Code)) (cn : Str) (cs : Scope) (a : Addr) (ccd : Value) (cl : List (Str × Addr)) (outer : List Env) (A₀ : Around) (base h₀ : Heap) (L : Addr) (m : Str → Option Value) (rest : List (Addr × Obj)) (s : Shared)
    (Q E : Value → Shared → Prop) (D R : Addr) (oD : Obj) (vs : List Value) (ns : List Int) (n' : Nat) (k many : Int) (t3 t4 : Tok),
    Below A₀ base outer h₀ → Fr h₀ L s.heap m → (Mine.hd.heap_39 w.params).In h₀ → News h₀ L s.heap ((D, oD) :: (R, PySem.W.listOf vs.toArray n') :: rest) → Top Mine.hd.view_39 (looseW Mine.hd.view_39 []) mean mg mb h₀ → cs.kind = .function → Obj.IsDictOf (PySem.strKind PySem.Challenge.rw_sa0208_01.row.prog w) oD [(Str.ofString "row", .ref R), (Str.ofString "at", .int k t3)] → IntsAre vs ns → ns.length ≤ 30 → 0 ≤ k → k ≤ 20 → 1 ≤ many → many ≤ 200 → (∀ p ∈ rest, p.1 ≠ D) → @LT.lt Nat _ D R → dp + 2 < recursionLimit → un + 8 * 2 < cLine → (∀ v tv oD' t3' h' tk, Fr h₀ L h' m → News h₀ L h' ((D, oD') :: (R, PySem.W.listOf vs.toArray n') :: rest) → Obj.IsDictOf (PySem.strKind PySem.Challenge.rw_sa0208_01.row.prog w) oD' [(Str.ofString "row", .ref R), (Str.ofString "at", .int (k + 1) t3')] → 0 ≤ v → v < many → Q (.int v tv) { s with heap := h', toks := tk }) →
    wpAny (model PySem.Challenge.rw_sa0208_01.row.prog w) (ktrTop dp un gd cn cs L a ccd cl outer) (call (.ref 166) [.ref D, .int many t4]) Q E s := by
  k_with_none
  k_with "k_all" => assumption
  k_fill
  intro dp un gd cn cs a ccd cl outer A₀ base h₀ L m rest s Q E D R oD vs ns n' k many t3 t4 B F X N T hk hD hI hl hk0 hk1 hm0 hm1 hne hRD hd hu hret
  refine wpAny_call ?_
  k_dflt ktr_enter
  k_steps
  all_goals exact hret _ _ _ _ _ _ (by assumption) (by assumption) (by assumption) (fm_lo hm0) (fm_hi hm0)
theorem sip {w : World} {mean : ExcName → Option Value} {mg mb : Str → Option Value} {dp un : Nat} {gd : Option (List Code)} {cn : Str} {cs : Scope} {a : Addr} {ccd : Value} {cl : List (Str × Addr)} {outer : List Env} {A₀ : Around} {base h₀ : Heap} {L : Addr} {m : Str → Option Value} {rest : List (Addr × Obj)} {s : Shared}
    {Q E : Value → Shared → Prop} {D R : Addr} {oD : Obj} {vs : List Value} {ns : List Int} {n' : Nat} {k many : Int} {t3 t4 : Tok}
    (B : Below A₀ base outer h₀) (F : Fr h₀ L s.heap m) (X : (Mine.hd.heap_39 w.params).In h₀) (N : News h₀ L s.heap ((D, oD) :: (R, PySem.W.listOf vs.toArray n') :: rest)) (T : Top Mine.hd.view_39 (looseW Mine.hd.view_39 []) mean mg mb h₀) (hk : cs.kind = .function) (hD : Obj.IsDictOf (PySem.strKind PySem.Challenge.rw_sa0208_01.row.prog w) oD [(Str.ofString "row", .ref R), (Str.ofString "at", .int k t3)]) (hI : IntsAre vs ns) (hl : ns.length ≤ 30) (hk0 : 0 ≤ k) (hk1 : k ≤ 20) (hm0 : 1 ≤ many) (hm1 : many ≤ 200) (hne : (∀ p ∈ rest, p.1 ≠ D)) (hRD : @LT.lt Nat _ D R) (hd : dp + 2 < recursionLimit) (hu : un + 8 * 2 < cLine) (hret : (∀ v tv oD' t3' h' tk, Fr h₀ L h' m → News h₀ L h' ((D, oD') :: (R, PySem.W.listOf vs.toArray n') :: rest) → Obj.IsDictOf (PySem.strKind PySem.Challenge.rw_sa0208_01.row.prog w) oD' [(Str.ofString "row", .ref R), (Str.ofString "at", .int (k + 1) t3')] → 0 ≤ v → v < many → Q (.int v tv) { s with heap := h', toks := tk })) :
    wpAny (model PySem.Challenge.rw_sa0208_01.row.prog w) (ktrTop dp un gd cn cs L a ccd cl outer) (call (.ref 166) [.ref D, .int many t4]) Q E s :=
  sip0 dp un gd cn cs a ccd cl outer A₀ base h₀ L m rest s Q E D R oD vs ns n' k many t3 t4 B F X N T hk hD hI hl hk0 hk1 hm0 hm1 hne hRD hd hu hret
end Mine
end
section
namespace Mine
section
variable {h₀ h : Heap} {L : Addr} {d r q1 q2 q3 q4 : Addr × Obj} {news tl : List (Addr × Obj)}
theorem nw_d1 (N : News h₀ L h (q1 :: d :: r :: news)) : News h₀ L h (d :: r :: q1 :: news) := nw_sub N fun p hp => by
  simp only [List.mem_cons] at hp ⊢
  rcases hp with h | h | h | h <;> simp only [h, true_or, or_true]
theorem nw_d2 (N : News h₀ L h (q1 :: q2 :: d :: r :: news)) : News h₀ L h (d :: r :: q1 :: q2 :: news) := nw_sub N fun p hp => by
  simp only [List.mem_cons] at hp ⊢
  rcases hp with h | h | h | h | h <;> simp only [h, true_or, or_true]
theorem nw_d3 (N : News h₀ L h (q1 :: q2 :: q3 :: d :: r :: news)) : News h₀ L h (d :: r :: q1 :: q2 :: q3 :: news) := nw_sub N fun p hp => by
  simp only [List.mem_cons] at hp ⊢
  rcases hp with h | h | h | h | h | h <;> simp only [h, true_or, or_true]
theorem nw_e (N : News h₀ L h (q1 :: d :: r :: q2 :: (news ++ tl))) : News h₀ L h (d :: r :: (news ++ (q1 :: q2 :: tl))) := nw_sub N fun p hp => by
  simp only [List.mem_append, List.mem_cons] at hp ⊢
  rcases hp with h | h | h | h | h | h <;> simp only [h, true_or, or_true]
end
theorem unr_d {h₀ : Heap} {L I : Addr} {it : Obj} {rest : (Str → Option Value) → List (Addr × Obj) → Prop} {s₁ : Shared} {h' : Heap} {tk : Nat} {m' : Str → Option Value} {d r : Addr × Obj} {news : List (Addr × Obj)} (F : Fr h₀ L h' m') (N : News h₀ L h' (d :: r :: (I, it) :: news))
    (off : ∀ p ∈ d :: r :: news, p.1 ≠ I) (k : rest m' (d :: r :: news)) : UnrEnd h₀ L s₁ I it rest { s₁ with heap := h', toks := tk } :=
  UnrEnd.intro F N (d :: r :: news) (fun p hp => by
    simp only [List.mem_cons] at hp ⊢
    rcases hp with h | h | h | h <;> simp only [h, true_or, or_true]) off k
theorem ne_cons {D a : Addr} {o : Obj} {l : List (Addr × Obj)} (h : a ≠ D) (k : ∀ p ∈ l, p.1 ≠ D) : ∀ p ∈ (a, o) :: l, p.1 ≠ D := fun p hp => by
  rcases List.mem_cons.mp hp with rfl | hp
  · exact h
  · exact k p hp
theorem ne_nil {D : Addr} : ∀ p ∈ ([] : List (Addr × Obj)), p.1 ≠ D := fun _ h => nomatch h
theorem ne_app {D : Addr} {l l' : List (Addr × Obj)} (h : ∀ p ∈ l, p.1 ≠ D) (k : ∀ p ∈ l', p.1 ≠ D) : ∀ p ∈ l ++ l', p.1 ≠ D := fun p hp => (List.mem_append.mp hp).elim (h p) (k p)
theorem ne_tl {D : Addr} {oD : Obj} {N tl : List (Addr × Obj)} (k : ∀ q ∈ (D, oD) :: N, ∀ p ∈ tl, q.1 < p.1) : ∀ p ∈ tl, p.1 ≠ D := fun p hp => Nat.ne_of_gt (k (D, oD) (.head _) p hp)
theorem ne_tlm {D : Addr} {oD : Obj} {N tl : List (Addr × Obj)} (k : ∀ q ∈ N, ∀ p ∈ tl, q.1 < p.1) (hm : (D, oD) ∈ N) : ∀ p ∈ tl, p.1 ≠ D := fun p hp => Nat.ne_of_gt (k (D, oD) hm p hp)
theorem ne_lt {D : Addr} {l : List (Addr × Obj)} (h : AllLt D l) : ∀ p ∈ l, p.1 ≠ D := fun p hp => Nat.ne_of_lt (ktn_ltOf h p hp)
theorem num_v {m e : Int} (h1 : -99 ≤ m) (h2 : m ≤ 99) (he : 0 ≤ e) (h3 : e < 3) : Bd 9900 (m * 10 ^ e.toNat) := by
  rcases (by omega : e = 0 ∨ e = 1 ∨ e = 2) with rfl | rfl | rfl <;> unfold Bd
  · simp; omega
  · have : (10 : Int) ^ (1 : Int).toNat = 10 := rfl
    rw [this]; omega
  · have : (10 : Int) ^ (2 : Int).toNat = 100 := rfl
    rw [this]; omega
theorem num_ok {m e d : Int} (h1 : -99 ≤ m) (h2 : m ≤ 99) (he : 0 ≤ e) (h3 : e < 3) (h4 : 18 ≤ d) (h5 : d ≤ 21) : rok (m, e) d :=
  rok_of he (by show e < 500; omega) (Nat.lt_of_le_of_lt (num_v h1 h2 he h3) (by decide)) h4 (by omega)
theorem num_C {tl1 tl2 tl : List (Addr × Obj)} {a b c : Addr} {n : Nat} {m e m' e' : Int} (hm : (a, ({ cls := .type "tuple", data := .seq #[.ref b, .ref c] n } : Obj)) ∈ tl) (R : RIn tl1 b (strip m e).1 (strip m e).2) (S : RIn tl2 c (strip m' e').1 (strip m' e').2) (he : 0 ≤ e) (he' : 0 ≤ e') (hs : ∀ p ∈ tl1, p ∈ tl) (hs' : ∀ p ∈ tl2, p ∈ tl) : CIn tl a (canon (m * 10 ^ e.toNat)) (canon (m' * 10 ^ e'.toNat)) := by
  rw [← strip_canon he, ← strip_canon he']; exact CIn.mk hm (R.mono hs) (S.mono hs')
set_option maxRecDepth 100000 in
set_option maxHeartbeats 8000000 in
theorem num0 {w : World} {mean : ExcName → Option Value} {mg mb : Str → Option Value} : ∀ (dp un : Nat) (gd : Option (List Code)) (cn : Str) (cs : Scope) (a : Addr) (ccd : Value) (cl : List (Str × Addr)) (outer : List Env) (A₀ : Around) (base h₀ : Heap) (L : Addr) (m : Str → Option Value) (rest : List (Addr × Obj)) (s : Shared)
    (Q E : Value → Shared → Prop) (D R : Addr) (oD : Obj) (vs : List Value) (ns : List Int) (n' : Nat) (k dg : Int) (t3 t4 : Tok),
    Below A₀ base outer h₀ → Fr h₀ L s.heap m → (Mine.hd.heap_39 w.params).In h₀ → News h₀ L s.heap ((D, oD) :: (R, PySem.W.listOf vs.toArray n') :: rest) → Top Mine.hd.view_39 (looseW Mine.hd.view_39 []) mean mg mb h₀ → cs.kind = .function → Obj.IsDictOf (PySem.strKind PySem.Challenge.rw_sa0208_01.row.prog w) oD [(Str.ofString "row", .ref R), (Str.ofString "at", .int k t3)] → IntsAre vs ns → ns.length ≤ 30 → 0 ≤ k → k ≤ 16 → 18 ≤ dg → dg ≤ 21 → (∀ p ∈ rest, p.1 ≠ D) → @LT.lt Nat _ D R → dp + 5 < recursionLimit → un + 8 * 5 < cLine → (∀ a8 v1 v2 oD' t3' tl h' tk, Fr h₀ L h' m → News h₀ L h' ((D, oD') :: (R, PySem.W.listOf vs.toArray n') :: (rest ++ tl)) → Obj.IsDictOf (PySem.strKind PySem.Challenge.rw_sa0208_01.row.prog w) oD' [(Str.ofString "row", .ref R), (Str.ofString "at", .int (k + 4) t3')] → (∀ p ∈ rest ++ tl, p.1 ≠ D) → CIn tl a8 (canon v1) (canon v2) → Bd 9900 v1 → Bd 9900 v2 → Q (.ref a8) { s with heap := h', toks := tk }) →
    wpAny (model PySem.Challenge.rw_sa0208_01.row.prog w) (ktrTop dp un gd cn cs L a ccd cl outer) (call (.ref 173) [.ref D, .int dg t4]) Q E s := by
  k_with_none
  k_fill
  k_with "call ref" => (with_reducible show wpAny _ _ (call (Value.ref 166) _) _ _ _); walk_at "MY.sip"
  k_with "call ref" => ktn_call (Str.ofString "round_real") rrFT; walk_at "MY.gotF"
  k_with "MY.sub" => first | exact sub_refl | (with_reducible (repeat first | exact sub_refl | exact sub_left | refine sub_aa ?_ | refine sub_cc ?_ | refine sub_cons ?_ | refine sub_right ?_); done) | (with_reducible (repeat (first | exact sub_refl | exact sub_left | refine sub_app ?_ ?_ | refine sub_cons ?_ | refine sub_right ?_)); done) | (intro p hp; (simp only [List.mem_append, List.mem_cons, List.not_mem_nil, or_false, or_assoc] at hp ⊢); (repeat' (refine Or.elim hp (fun hp => ?_) (fun hp => ?_))); all_goals (simp only [hp, true_or, or_true]))
  k_with "MY.mem" => first | assumption | (k_mem; done) | ((simp only [List.mem_append, List.mem_cons, true_or, or_true]; done)) | ((refine' (fun {X Y : List (Addr × Obj)} {p : Addr × Obj} (hs : ∀ p ∈ X, p ∈ Y) (h : p ∈ X) => hs p h) ?_ ?h_w1; (case h_w1 => assumption)); walk_at "MY.sub")
  k_with "MY.rin" => first | assumption | exact RIn.nought | exact RIn.tup (by walk_at "MY.mem") | (refine' RIn.mono ?h_w2 ?s_w2; (case h_w2 => assumption); (case s_w2 => walk_at "MY.sub"))
  k_with "MY.up" => first | exact up_nil | (refine up_cons (ktn_ltOf (by first | assumption | tbn_find | exact allLt_of (by assumption))) ?_; walk_at "MY.up") | (refine up_cons (lt_sub (by first | assumption | tbn_find | exact allLt_of (by assumption)) (by walk_at "MY.sub")) ?_; walk_at "MY.up") | (refine up_app ?_ ?_ <;> walk_at "MY.up") | exact up_sub (by assumption) (by walk_at "MY.sub")
  k_with "MY.got" => ((rename rOut _ _ _ => hz); (obtain ⟨a8, e8, hz8⟩ := hz); (subst e8))
  k_with "MY.news" => first | exact nw_n0 (by assumption) | exact nw_p0 (by assumption) | exact nw_p1 (by assumption) | exact nw_p2 (by assumption) | exact nw_p3 (by assumption) | exact nw_n1 (by assumption) | exact nw_n2 (by assumption) | exact nw_n3 (by assumption)
  k_with "subscriptTail" => (k_here; (with_reducible show wpAny _ _ (subscriptTail _ _ (Value.ref _) (Value.int _ _)) _ _ _); (first | (with_reducible refine' rin_item0 ?k1_w6 ?k2_w6 ?k3_w6 ?k4_w6 ?_ ?k6_w6) | (with_reducible refine' rin_item1 ?k1_w6 ?k2_w6 ?k3_w6 ?k4_w6 ?_ ?k6_w6)); (case k1_w6 => k_asm); (case k2_w6 => k_asm); (case k3_w6 => k_asm); (case k4_w6 => walk_at "MY.rin"); (case k6_w6 => with_unfolding_all rfl); k_whole; intro tt)
  k_with "subscriptTail" => (k_here; (with_reducible show wpAny _ _ (subscriptTail _ _ (Value.ref _) (Value.int _ _)) _ _ _); (first | (with_reducible refine' cin_item0 ?k2_w7 ?k4_w7 ?_ ?k6_w7) | (with_reducible refine' cin_item1 ?k2_w7 ?k4_w7 ?_ ?k6_w7)); (case k2_w7 => k_asm); (case k4_w7 => walk_at "MY.cin"); (case k6_w7 => with_unfolding_all rfl); k_whole; intro tt rr)
  k_with "MY.cin" => first | assumption | (refine' CIn.mono ?h_w8 ?s_w8; (case h_w8 => assumption); (case s_w8 => walk_at "MY.sub")) | (refine' CIn.mk ?h1_w8 ?h2_w8 ?h3_w8; (case h1_w8 => walk_at "MY.mem"); (case h2_w8 => walk_at "MY.rin"); (case h3_w8 => walk_at "MY.rin"))
  k_with "MY.gotc" => ((rename cOut _ _ _ _ => hz); (obtain ⟨a8, e8, hz8⟩ := hz); (subst e8))
  k_with "MY.gotF" => ((rename rOutF _ _ _ _ => hz); (obtain ⟨tl8, eq8, a8, e8, hz8⟩ := hz); (simp only [List.cons_append, List.append_assoc, List.cons.injEq, true_and, List.append_cancel_left_eq] at eq8); (subst eq8); (subst e8))
  k_with "MY.gotcF" => ((rename cOutF _ _ _ _ _ => hz); (obtain ⟨tl8, eq8, a8, e8, hz8⟩ := hz); (simp only [List.cons_append, List.append_assoc, List.cons.injEq, true_and, List.append_cancel_left_eq] at eq8); (subst eq8); (subst e8))
  k_with "ktr_unf" => (try simp only [rrFT, rdT, cdT, szT] at *)
  k_with "ktr_rel" => first | assumption | exact RrRelF.mk | (exact num_ok (by omega) (by omega) (by omega) (by omega) (by omega) (by omega)) | exact rfl | exact trivial
  k_with "MY.gt" => first | assumption | exact And.left (by assumption) | exact And.left (And.right (by assumption)) | exact And.left (And.right (And.right (by assumption))) | exact And.left (And.right (And.right (And.right (by assumption)))) | exact And.left (And.right (And.right (And.right (And.right (by assumption)))))
  k_with "MY.ne" => first | assumption | exact ne_tl (by assumption) | exact ne_tlm (by assumption) (by k_mem) | exact ne_lt (And.right (by assumption)) | exact ne_lt (And.right (And.right (by assumption))) | exact ne_lt (And.right (And.right (And.right (by assumption)))) | (refine ne_cons ?_ ?_; (first | exact Nat.ne_of_gt (by walk_at "MY.gt") | exact Nat.ne_of_lt (by walk_at "MY.gt")); walk_at "MY.ne") | exact ne_nil | (refine ne_app ?_ ?_ <;> walk_at "MY.ne")
  k_with "k_all" => walk_at "MY.ne"
  k_with "UnrEnd" => (refine unr_d (by assumption) (by assumption) (by walk_at "MY.ne") ?_)
  k_with "MY.sip" => (refine' sip ?k1_w18 ?k2_w18 ?k3_w18 ?k4_w18 ?k5_w18 ?k6_w18 ?hD_w18 ?hI_w18 ?hl_w18 ?k0_w18 ?k9_w18 ?m0_w18 ?m1_w18 ?ne_w18 ?RD_w18 ?kd_w18 ?ku_w18 ?_; (case hD_w18 => assumption); (case k1_w18 => k_asm); (case k2_w18 => k_asm); (case k3_w18 => k_asm); (case k4_w18 => first | assumption | exact nw_d2 (by assumption) | exact nw_d1 (by assumption) | exact nw_d3 (by assumption)); (case k5_w18 => k_asm); (case k6_w18 => first | exact rfl | assumption); (case hI_w18 => assumption); (case hl_w18 => assumption); (case k0_w18 => omega); (case k9_w18 => omega); (case m0_w18 => decide); (case m1_w18 => decide); (case ne_w18 => walk_at "MY.ne"); (case RD_w18 => assumption); (case kd_w18 => (ktr_unf; ktr_room)); (case ku_w18 => (ktr_unf; ktr_units)); intro v8 t8 o8 t9 h9 tk9 F9 N9 D9 b8 b9; (try dsimp only); (try k_fold))
  k_with "ktr_units" => first | (k_dflt exact un3_ok hu (Nat.le_of_ble_eq_true rfl))
  k_with "ktr_room" => first | (k_dflt exact dp1_ok hd (Nat.le_of_ble_eq_true rfl)) | (k_dflt exact dp0_ok hd)
  intro dp un gd cn cs a ccd cl outer A₀ base h₀ L m rest s Q E D R oD vs ns n' k dg t3 t4 B F X N T hk hD hI hl hk0 hk1 ho7 ho8 hne hRD hd hu hret
  have C0 := @c_rrF w mean mg mb
  refine wpAny_call ?_
  k_dflt ktr_enter
  k_steps
  all_goals (refine' hret _ _ _ _ _ _ _ _ ?F ?N ?hD ?ne ?C ?b1 ?b2; (case F => assumption); (case N => exact nw_e (by assumption)); (case C => (refine' num_C ?c1 ?c2 ?c3 ?c4 ?c5 ?c6 ?c7; (case c1 => exact .head _); (case c2 => assumption); (case c3 => assumption); (case c4 => assumption); (case c5 => assumption); (case c6 => walk_at "MY.sub"); (case c7 => walk_at "MY.sub"))); (case hD => (rw [show k + 4 = k + 1 + 1 + 1 + 1 by omega]; assumption)); (case ne => walk_at "MY.ne"); (case b1 => exact num_v (by omega) (by omega) (by omega) (by omega)); (case b2 => exact num_v (by omega) (by omega) (by omega) (by omega)))
theorem num {w : World} {mean : ExcName → Option Value} {mg mb : Str → Option Value} {dp un : Nat} {gd : Option (List Code)} {cn : Str} {cs : Scope} {a : Addr} {ccd : Value} {cl : List (Str × Addr)} {outer : List Env} {A₀ : Around} {base h₀ : Heap} {L : Addr} {m : Str → Option Value} {rest : List (Addr × Obj)} {s : Shared}
    {Q E : Value → Shared → Prop} {D R : Addr} {oD : Obj} {vs : List Value} {ns : List Int} {n' : Nat} {k dg : Int} {t3 t4 : Tok}
    (B : Below A₀ base outer h₀) (F : Fr h₀ L s.heap m) (X : (Mine.hd.heap_39 w.params).In h₀) (N : News h₀ L s.heap ((D, oD) :: (R, PySem.W.listOf vs.toArray n') :: rest)) (T : Top Mine.hd.view_39 (looseW Mine.hd.view_39 []) mean mg mb h₀) (hk : cs.kind = .function) (hD : Obj.IsDictOf (PySem.strKind PySem.Challenge.rw_sa0208_01.row.prog w) oD [(Str.ofString "row", .ref R), (Str.ofString "at", .int k t3)]) (hI : IntsAre vs ns) (hl : ns.length ≤ 30) (hk0 : 0 ≤ k) (hk1 : k ≤ 16) (ho7 : 18 ≤ dg) (ho8 : dg ≤ 21) (hne : (∀ p ∈ rest, p.1 ≠ D)) (hRD : @LT.lt Nat _ D R) (hd : dp + 5 < recursionLimit) (hu : un + 8 * 5 < cLine) (hret : (∀ a8 v1 v2 oD' t3' tl h' tk, Fr h₀ L h' m → News h₀ L h' ((D, oD') :: (R, PySem.W.listOf vs.toArray n') :: (rest ++ tl)) → Obj.IsDictOf (PySem.strKind PySem.Challenge.rw_sa0208_01.row.prog w) oD' [(Str.ofString "row", .ref R), (Str.ofString "at", .int (k + 4) t3')] → (∀ p ∈ rest ++ tl, p.1 ≠ D) → CIn tl a8 (canon v1) (canon v2) → Bd 9900 v1 → Bd 9900 v2 → Q (.ref a8) { s with heap := h', toks := tk })) :
    wpAny (model PySem.Challenge.rw_sa0208_01.row.prog w) (ktrTop dp un gd cn cs L a ccd cl outer) (call (.ref 173) [.ref D, .int dg t4]) Q E s :=
  num0 dp un gd cn cs a ccd cl outer A₀ base h₀ L m rest s Q E D R oD vs ns n' k dg t3 t4 B F X N T hk hD hI hl hk0 hk1 ho7 ho8 hne hRD hd hu hret
end Mine
end
section
namespace Mine
theorem canon_nn {v : Int} (h : 0 ≤ v) : 0 ≤ (canon v).1 := by
  have h1 := @canon_val v
  rcases Int.lt_or_le (canon v).1 0 with q | q
  · exfalso
    have : val (canon v) < 0 := Int.mul_neg_of_neg_of_pos q pow_pos'
    omega
  · exact q
theorem dz_no {x1 x2 : Int} (h : (decide (x1 * x1 - x2 * -x2 = 0 ∧ x1 * -x2 + x2 * x1 = 0) != decide (x1 = 0 ∧ x2 = 0)) = true) : False := by
  rw [i_dz] at h; simp at h
theorem ne_bb {prog : Program} {w : World} {A : Around} {E : Value → Shared → Prop} {s : Shared} {Q : Value → Shared → Prop} {a b : Bool} (e : a = b) (h : Q (.bool false) s) : wpAny (model prog w) A (compareOp .NotEq (.bool a) (.bool b)) Q E s := by
  subst e
  refine ne_bool ?_
  rw [bne_self_eq_false]
  exact h
theorem nw_tail {h₀ h : Heap} {L : Addr} {q : Addr × Obj} {l : List (Addr × Obj)} (N : News h₀ L h (q :: l)) : News h₀ L h l := fun p hp => N p (.tail _ hp)
theorem cin_ne_t {prog : Program} {w w' : World} {A : Around} {E : Value → Shared → Prop} {s : Shared} {news : List (Addr × Obj)} {a b : Addr} {h₀ : Heap} {L : Addr} {mm : Str → Option Value} {Q : Value → Shared → Prop} {x1 x2 y1 y2 : Int} (F : Fr h₀ L s.heap mm) (N : News h₀ L s.heap news) (X : (Mine.hd.heap_39 w'.params).In h₀) (R : CIn news a (canon x1) (canon x2)) (S : CIn news b (canon y1) (canon y2)) (hu : A.units + 64 < cLine) (e : ¬ (x1 = y1 ∧ x2 = y2))
    (h : Q (.bool true) s) : wpAny (model prog w) A (compareOp .NotEq (.ref a) (.ref b)) Q E s := by
  refine ne_dataH (cin_reads R F N X) (cin_reads S F N X) rfl rfl hu ?_
  rw [eqv_C, decide_eq_false (fun ⟨h, k⟩ => e ⟨canon_inj h, canon_inj k⟩)]
  exact h
theorem ne_nil2 {prog : Program} {w : World} {A : Around} {E : Value → Shared → Prop} {s : Shared} {news : List (Addr × Obj)} {a b : Addr} {h₀ : Heap} {L : Addr} {mm : Str → Option Value} {Q : Value → Shared → Prop} {o o' : Obj} {n n' : Nat} (F : Fr h₀ L s.heap mm) (N : News h₀ L s.heap news) (h1 : (a, o) ∈ news) (e1 : o.cls = .type "list") (d1 : o.data = .seq #[] n) (h2 : (b, o') ∈ news) (e2 : o'.cls = .type "list") (d2 : o'.data = .seq #[] n') (hu : A.units + 64 < cLine)
    (h : Q (.bool false) s) : wpAny (model prog w) A (compareOp .NotEq (.ref a) (.ref b)) Q E s :=
  ne_dataH (da := .list []) (db := .list []) (.list (N _ h1).1 e1 d1 .nil) (.list (N _ h2).1 e2 d2 .nil) rfl rfl hu h
theorem lst_item {prog : Program} {w : World} {A : Around} {E : Value → Shared → Prop} {s : Shared} {news : List (Addr × Obj)} {a : Addr} {h₀ : Heap} {L : Addr} {Q : Value → Shared → Prop} {vs : List Value} {k : Int} {u : Tok} {x : Value} {value slice : Expr} (N : News h₀ L s.heap news) (h1 : (a, LCg.lst vs) ∈ news) (h0 : 0 ≤ k) (hf : k < 2 ^ 63) (hx : vs[k.toNat]? = some x) (h : Q x s)
    (hs : subscripted slice false (.ref a) (.int k u) = operate [.ref a, .int k u] (getItem (.ref a) (.int k u))) (hg : ∀ r, letTemporaryGo value (.ref a) r = pure ()) : wpAny (model prog w) A (subscriptTail value slice (.ref a) (.int k u)) Q E s :=
  item_listL (l := vs) ⟨_, (N _ h1).1, rfl, _, rfl⟩ h0 hf hx h hs hg
theorem off3_sub {I C D : Addr} {A B : List (Addr × Obj)} (h : LCg.Off3 I C D A) (hs : ∀ p ∈ B, p ∈ A) : LCg.Off3 I C D B := LCg.Off3.of fun p hp => h.mem p (hs p hp)
theorem off3_append {I C D : Addr} {A B : List (Addr × Obj)} (h : LCg.Off3 I C D A) (k : LCg.Off3 I C D B) : LCg.Off3 I C D (A ++ B) := LCg.Off3.of fun p hp => (List.mem_append.mp hp).elim (h.mem p) (k.mem p)
theorem off3_cons {I C D : Addr} {q : Addr × Obj} {B : List (Addr × Obj)} (h : LCg.Off3 I C D [q]) (k : LCg.Off3 I C D B) : LCg.Off3 I C D (q :: B) := ⟨h.1, k⟩
theorem off3_tl {I C D : Addr} {oI oC oD : Obj} {X tl : List (Addr × Obj)} (k : ∀ q ∈ (I, oI) :: (C, oC) :: (D, oD) :: X, ∀ p ∈ tl, q.1 < p.1) : LCg.Off3 I C D tl :=
  LCg.Off3.of fun p hp => ⟨Nat.ne_of_gt (k (I, oI) (.head _) p hp), Nat.ne_of_gt (k (C, oC) (.tail _ (.head _)) p hp), Nat.ne_of_gt (k (D, oD) (.tail _ (.tail _ (.head _))) p hp)⟩
def TellsS {D : Type} (prog : Program) (w : World) (K : Frag) (p : Program) (loose : List Str) (mean : ExcName → Option Value) (mg mb : Str → Option Value) (f : Addr) (c : ToldN D) (d : D) : Prop :=
  ∀ (dp un : Nat) (gd : Option (List Code)) (cn : Str) (cs : Scope) (a : Addr) (ccd : Value) (A₀ : Around) (base h₀ : Heap) (L : Addr) (m : Str → Option Value) (news : List (Addr × Obj)) (s : Shared) (vs : List Value)
    (Q E : Value → Shared → Prop),
    Below A₀ base [] h₀ → Fr h₀ L s.heap m → K.In h₀ → News h₀ L s.heap news → Top p loose mean mg mb h₀ → K.In base → Top p loose mean mg mb base → cs.kind = .function → c.Rel news vs d → c.Ok d → dp + c.size d < recursionLimit → un + 8 * c.size d < cLine →
    (∀ r tl h' tk', Fr h₀ L h' m → News h₀ L h' (news ++ tl) → (∀ q ∈ news, ∀ p ∈ tl, q.1 < p.1) → c.Tl tl → c.Out (news ++ tl) r d → Q r { s with heap := h', toks := tk' }) →
    wpAny (model prog w) { handled := none, depth := dp, frames := some [envOf cn cs L a ccd], guards := gd, units := un } (call (.ref f) vs) Q E s
set_option maxRecDepth 100000 in
set_option maxHeartbeats 8000000 in
theorem v_prod {w : World} {mean : ExcName → Option Value} {mg mb : Str → Option Value} : ∀ d, TellsS PySem.Challenge.rw_sa0208_01.row.prog w (Mine.hd.heap_39 w.params) Mine.hd.view_39 (looseW Mine.hd.view_39 []) mean mg mb 192 suT d := by
  k_with_none
  k_fill
  k_with "call ref" => (with_reducible show wpAny _ _ (call (Value.ref 152) _) _ _ _); (by_cases hyz : y1 = 0 ∧ y2 = 0); rotate_left; (ktn_call (Str.ofString "complex_div") vdT; walk_at "MY.gotc"); rotate_left; (obtain ⟨hy9, hy8⟩ := hyz; subst hy9 hy8; refine' div_raise' ?k1 ?k2 ?k3 ?k4 ?k5 ?kK ?kR ?kS ?kd ?ku ?_; (case k1 => k_asm); (case k2 => k_asm); (case k3 => k_asm); (case k4 => k_asm); (case k5 => k_asm); (case kK => first | exact rfl | assumption); (case kR => walk_at "MY.cinv"); (case kS => walk_at "MY.cinv"); (case kd => (ktr_unf; ktr_room)); (case ku => (ktr_unf; ktr_units)); intro e9 g9 h9 tk9 FG9 R9 U9; (try dsimp only))
  k_with "call ref" => first | (ktn_call (Str.ofString "complex_mul") vmFT; walk_at "MY.gotcF") | (ktn_call (Str.ofString "_law_mirrored") miT; walk_at "MY.gotc")
  k_with "MY.sub" => first | exact sub_refl | (with_reducible (repeat first | exact sub_refl | exact sub_left | refine sub_aa ?_ | refine sub_cc ?_ | refine sub_cons ?_ | refine sub_right ?_); done) | (with_reducible (repeat (first | exact sub_refl | exact sub_left | refine sub_app ?_ ?_ | refine sub_cons ?_ | refine sub_right ?_)); done) | (intro p hp; (simp only [List.mem_append, List.mem_cons, List.not_mem_nil, or_false, or_assoc] at hp ⊢); (repeat' (refine Or.elim hp (fun hp => ?_) (fun hp => ?_))); all_goals (simp only [hp, true_or, or_true]))
  k_with "MY.mem" => first | assumption | (k_mem; done) | ((simp only [List.mem_append, List.mem_cons, true_or, or_true]; done)) | ((refine' (fun {X Y : List (Addr × Obj)} {p : Addr × Obj} (hs : ∀ p ∈ X, p ∈ Y) (h : p ∈ X) => hs p h) ?_ ?h_w1; (case h_w1 => assumption)); walk_at "MY.sub")
  k_with "MY.rin" => first | assumption | exact RIn.nought | exact RIn.tup (by walk_at "MY.mem") | (refine' RIn.mono ?h_w2 ?s_w2; (case h_w2 => assumption); (case s_w2 => walk_at "MY.sub"))
  k_with "MY.up" => first | exact up_nil | (refine up_cons (ktn_ltOf (by first | assumption | tbn_find | exact allLt_of (by assumption))) ?_; walk_at "MY.up") | (refine up_cons (lt_sub (by first | assumption | tbn_find | exact allLt_of (by assumption)) (by walk_at "MY.sub")) ?_; walk_at "MY.up") | (refine up_app ?_ ?_ <;> walk_at "MY.up") | exact up_sub (by assumption) (by walk_at "MY.sub")
  k_with "MY.got" => ((rename rOut _ _ _ => hz); (obtain ⟨a8, e8, hz8⟩ := hz); (subst e8))
  k_with "MY.news" => first | exact nw_n0 (by assumption) | exact nw_p0 (by assumption) | exact nw_p1 (by assumption) | exact nw_p2 (by assumption) | exact nw_p3 (by assumption) | exact nw_n1 (by assumption) | exact nw_n2 (by assumption) | exact nw_n3 (by assumption)
  k_with "subscriptTail" => (k_here; (with_reducible show wpAny _ _ (subscriptTail _ _ (Value.ref _) (Value.int _ _)) _ _ _); (first | (with_reducible refine' rin_item0 ?k1_w6 ?k2_w6 ?k3_w6 ?k4_w6 ?_ ?k6_w6) | (with_reducible refine' rin_item1 ?k1_w6 ?k2_w6 ?k3_w6 ?k4_w6 ?_ ?k6_w6)); (case k1_w6 => k_asm); (case k2_w6 => k_asm); (case k3_w6 => k_asm); (case k4_w6 => walk_at "MY.rin"); (case k6_w6 => with_unfolding_all rfl); k_whole; intro tt)
  k_with "subscriptTail" => (k_here; (with_reducible show wpAny _ _ (subscriptTail _ _ (Value.ref _) (Value.int _ _)) _ _ _); (first | (with_reducible refine' cin_item0 ?k2_w7 ?k4_w7 ?_ ?k6_w7) | (with_reducible refine' cin_item1 ?k2_w7 ?k4_w7 ?_ ?k6_w7)); (case k2_w7 => k_asm); (case k4_w7 => walk_at "MY.cin"); (case k6_w7 => with_unfolding_all rfl); k_whole; intro tt rr)
  k_with "MY.cin" => first | assumption | (refine' CIn.mono ?h_w8 ?s_w8; (case h_w8 => assumption); (case s_w8 => walk_at "MY.sub")) | (refine' CIn.mk ?h1_w8 ?h2_w8 ?h3_w8; (case h1_w8 => walk_at "MY.mem"); (case h2_w8 => walk_at "MY.rin"); (case h3_w8 => walk_at "MY.rin"))
  k_with "MY.gotc" => ((rename cOut _ _ _ _ => hz); (obtain ⟨a8, e8, hz8⟩ := hz); (subst e8))
  k_with "MY.gotF" => ((rename rOutF _ _ _ _ => hz); (obtain ⟨tl8, eq8, a8, e8, hz8⟩ := hz); (simp only [List.cons_append, List.append_assoc, List.cons.injEq, true_and, List.append_cancel_left_eq] at eq8); (subst eq8); (subst e8))
  k_with "MY.gotcF" => ((rename cOutF _ _ _ _ _ => hz); (obtain ⟨tl8, eq8, a8, e8, hz8⟩ := hz); (simp only [List.cons_append, List.append_assoc, List.cons.injEq, true_and, List.append_cancel_left_eq] at eq8); (subst eq8); (subst e8))
  k_with "ktr_unf" => (try simp only [vdT, vmFT, vnT, vjT, vaT, vsT, vmT, miT, suT] at *)
  k_with "MY.cinv" => first | assumption | (refine' CIn.mono ?h_w13 ?s_w13; (case h_w13 => assumption); (case s_w13 => walk_at "MY.sub")) | (refine' CIn.nought ?h1_w13 ?h2_w13 ?h3_w13; (case h1_w13 => walk_at "MY.mem"); (case h2_w13 => walk_at "MY.mem"); (case h3_w13 => walk_at "MY.mem")) | (refine' CIn.one ?h1_w13 ?h2_w13 ?h3_w13; (case h1_w13 => walk_at "MY.mem"); (case h2_w13 => walk_at "MY.mem"); (case h3_w13 => walk_at "MY.mem"))
  k_with "MY.bd" => first | with_reducible assumption | with_reducible exact Bd.zero | with_reducible exact Bd.one | with_reducible exact Bd.add (by walk_at "MY.bd") (by walk_at "MY.bd") | with_reducible exact Bd.sub (by walk_at "MY.bd") (by walk_at "MY.bd") | with_reducible exact Bd.mul (by walk_at "MY.bd") (by walk_at "MY.bd") | with_reducible exact Bd.neg (by walk_at "MY.bd")
  k_with "MY.aok" => ((try dsimp only); (first | refine' aok_of ?h1_w15 ?h2_w15 ?h3_w15 ?h4_w15 ?hl_w15 ?hh_w15 ?k_w15 | refine' mok_of ?h1_w15 ?h2_w15 ?h3_w15 ?h4_w15 ?hl_w15 ?hh_w15 ?k_w15); (case h1_w15 => walk_at "MY.bd"); (case h2_w15 => walk_at "MY.bd"); (case h3_w15 => walk_at "MY.bd"); (case h4_w15 => walk_at "MY.bd"); (case hl_w15 => assumption); (case hh_w15 => assumption); (case k_w15 => decide))
  k_with "ktr_rel" => first | assumption | (refine' VdRel.mk ?h1_w16 ?h2_w16; (case h1_w16 => walk_at "MY.cinv"); (case h2_w16 => walk_at "MY.cinv")) | (exact VOk.mk (by assumption) (by assumption) (by assumption) (by assumption) (by assumption) (by assumption) (by assumption)) | (refine' VmRelF.mk ?h1_w16 ?h2_w16; (case h1_w16 => walk_at "MY.cinv"); (case h2_w16 => walk_at "MY.cinv")) | (refine' VnRel.mk ?h1_w16; (case h1_w16 => walk_at "MY.cinv")) | (refine' VjRel.mk ?h0_w16 ?h1_w16; (case h0_w16 => walk_at "MY.mem"); (case h1_w16 => walk_at "MY.cinv")) | (refine' VaRel.mk ?h1_w16 ?h2_w16; (case h1_w16 => walk_at "MY.cinv"); (case h2_w16 => walk_at "MY.cinv")) | walk_at "MY.aok" | exact ⟨_, rfl⟩ | exact rfl | exact trivial
  k_with "MY.id" => with_reducible first | exact rfl | exact Int.add_comm _ _ | exact Int.add_zero _ | exact Int.add_assoc _ _ _ | exact Int.add_right_neg _ | exact Int.sub_add_cancel _ _ | exact Int.neg_neg _ | exact i_d1 | exact i_d2 | exact i_q1 | exact i_q2 | exact i_n | exact i_c1 | exact i_c2 | exact i_o1 | exact i_o2 | exact i_a1 | exact i_a2 | exact i_m1 | exact i_m2 | exact i_s1 | exact i_s2 | exact i_z
  k_with "compareOp NotEq ref ref" => (k_here; (with_reducible show wpAny _ _ (compareOp CmpOp.NotEq (Value.ref _) (Value.ref _)) _ _ _); (with_reducible refine' cin_ne ?F_w18 ?N_w18 ?X_w18 ?R_w18 ?S_w18 ?u_w18 ?e1_w18 ?e2_w18 ?_); (case F_w18 => k_asm); (case N_w18 => k_asm); (case X_w18 => k_asm); (case R_w18 => walk_at "MY.cinv"); (case S_w18 => walk_at "MY.cinv"); (case u_w18 => ktr_units); (case e1_w18 => walk_at "MY.id"); (case e2_w18 => walk_at "MY.id"); k_whole)
  k_with "compareOp Eq ref ref" => (k_here; (with_reducible show wpAny _ _ (compareOp CmpOp.Eq (Value.ref _) (Value.ref _)) _ _ _); (with_reducible refine' cin_eq ?F_w19 ?N_w19 ?X_w19 ?R_w19 ?S_w19 ?u_w19 ?e1_w19 ?e2_w19 ?_); (case F_w19 => k_asm); (case N_w19 => k_asm); (case X_w19 => k_asm); (case R_w19 => walk_at "MY.cinv"); (case S_w19 => walk_at "MY.cinv"); (case u_w19 => ktr_units); (case e1_w19 => walk_at "MY.id"); (case e2_w19 => walk_at "MY.id"); k_whole)
  k_with "MY.enterS" => (refine' code_defCS0 ?k1_w20 ?k2_w20 ?k3_w20 ?k4_w20 ?k5_w20 ?kA_w20 ?k6_w20 ?k7_w20 ?k8_w20 ?k9_w20 ?kB_w20 ?kD_w20 ?_ ?cK_w20 ?c2_w20 ?c3_w20 ?c4_w20; (case kA_w20 => exact rfl); (case k2_w20 => k_asm); (case k1_w20 => k_asm); (case k3_w20 => k_asm); (case k4_w20 => k_asm); (case k5_w20 => k_asm); (case k6_w20 => k_is); (case k7_w20 => k_is); (case k8_w20 => ktr_room); (case k9_w20 => exact BindsTo.of_eq rfl); (case kB_w20 => exact rfl); (case kD_w20 => decide +kernel); (case cK_w20 => assumption); (case c2_w20 => exact rfl); (case c3_w20 => exact rfl); (case c4_w20 => exact rfl); k_whole; intro g' L' h' tk' cells' FG' F' N' Y' B' X' T' D' l1; (try k_lt l1); k_cells Y'; (try simp only [List.cons_append, List.nil_append] at N'); (try dsimp only); (try k_lift B'); (try k_fold))
  k_with "compareOp Eq ref ref" => (k_here; (with_reducible show wpAny _ _ (compareOp CmpOp.Eq (Value.ref _) (Value.ref _)) _ _ _); (first | ((with_reducible refine' cin_eq ?F_w21 ?N_w21 ?X_w21 ?R_w21 ?S_w21 ?u_w21 ?e1_w21 ?e2_w21 ?_); (case F_w21 => k_asm); (case N_w21 => k_asm); (case X_w21 => k_asm); (case R_w21 => walk_at "MY.cinv"); (case S_w21 => walk_at "MY.cinv"); (case u_w21 => ktr_units); (case e1_w21 => walk_at "MY.id"); (case e2_w21 => walk_at "MY.id"); k_whole) | ((with_reducible refine' cin_dec ?F_w21 ?N_w21 ?X_w21 ?R_w21 ?S_w21 ?u_w21 ?_); (case F_w21 => k_asm); (case N_w21 => k_asm); (case X_w21 => k_asm); (case R_w21 => walk_at "MY.cinv"); (case S_w21 => walk_at "MY.cinv"); (case u_w21 => ktr_units); k_whole)))
  k_with "compareOp NotEq ref ref" => (k_here; (with_reducible show wpAny _ _ (compareOp CmpOp.NotEq (Value.ref _) (Value.ref _)) _ _ _); (first | ((with_reducible refine' cin_ne ?F_w22 ?N_w22 ?X_w22 ?R_w22 ?S_w22 ?u_w22 ?e1_w22 ?e2_w22 ?_); (case F_w22 => k_asm); (case N_w22 => k_asm); (case X_w22 => k_asm); (case R_w22 => walk_at "MY.cinv"); (case S_w22 => walk_at "MY.cinv"); (case u_w22 => ktr_units); (case e1_w22 => walk_at "MY.id"); (case e2_w22 => walk_at "MY.id"); k_whole) | ((with_reducible refine' cin_ne_t ?F_w22 ?N_w22 ?X_w22 ?R_w22 ?S_w22 ?u_w22 ?e_w22 ?_); (case F_w22 => k_asm); (case N_w22 => k_asm); (case X_w22 => k_asm); (case R_w22 => walk_at "MY.cinv"); (case S_w22 => walk_at "MY.cinv"); (case u_w22 => ktr_units); (case e_w22 => assumption); k_whole) | ((with_reducible refine' rin_ne ?F_w22 ?N_w22 ?X_w22 ?R_w22 ?S_w22 ?u_w22 ?e1_w22 ?_); (case F_w22 => k_asm); (case N_w22 => k_asm); (case X_w22 => k_asm); (case R_w22 => walk_at "MY.rinv"); (case S_w22 => walk_at "MY.rinv"); (case u_w22 => ktr_units); (case e1_w22 => walk_at "MY.id"); k_whole)))
  k_with "compareOp NotEq ref ref" => (k_here; (with_reducible show wpAny _ _ (compareOp CmpOp.NotEq (Value.ref _) (Value.ref _)) _ _ _); (with_reducible refine' ne_nil2 ?F_w23 ?N_w23 ?h1_w23 ?e1_w23 ?d1_w23 ?h2_w23 ?e2_w23 ?d2_w23 ?u_w23 ?_); (case F_w23 => k_asm); (case N_w23 => k_asm); (case h1_w23 => k_dflt k_mem); (case e1_w23 => with_unfolding_all exact rfl); (case d1_w23 => with_unfolding_all exact rfl); (case h2_w23 => k_dflt k_mem); (case e2_w23 => with_unfolding_all exact rfl); (case d2_w23 => with_unfolding_all exact rfl); (case u_w23 => ktr_units); k_whole)
  k_with "subscriptTail" => (k_here; (with_reducible show wpAny _ _ (subscriptTail _ _ (Value.ref _) (Value.int _ _)) _ _ _); k_dflt (refine' lst_item ?k1_w24 ?k2_w24 ?k3_w24 ?k4_w24 ?k5_w24 ?_ ?k6_w24 ?k7_w24; (case k1_w24 => k_asm); (case k2_w24 => k_mem); (case k3_w24 => decide); (case k4_w24 => decide); (case k5_w24 => exact rfl); (case k6_w24 => with_unfolding_all rfl); (case k7_w24 => (intro _; with_unfolding_all rfl)); k_whole))
  k_with "subscriptTail Name Constant ref int" => (k_here; (with_reducible show wpAny _ _ (subscriptTail _ _ (Value.ref _) (Value.int _ _)) _ _ _); k_dflt (refine' lst_item ?k1_w25 ?k2_w25 ?k3_w25 ?k4_w25 ?k5_w25 ?_ ?k6_w25 ?k7_w25; (case k1_w25 => k_asm); (case k2_w25 => k_mem); (case k3_w25 => decide); (case k4_w25 => decide); (case k5_w25 => exact rfl); (case k6_w25 => with_unfolding_all rfl); (case k7_w25 => (intro _; with_unfolding_all rfl)); k_whole))
  k_with "exec Try" => (k_here; (with_reducible show wpAny _ _ (exec (Stmt.Try _ (_ :: _) _ [] _) (envOfC _ _ _ _ _)) _ _ _); refine' wpAny_Try_except ?_)
  k_with "compareOp NotEq bool bool" => (k_here; with_reducible refine ne_bb i_dz ?_)
  k_with "MY.rinv" => first | assumption | (refine' RIn.mono ?h_w28 ?s_w28; (case h_w28 => assumption); (case s_w28 => walk_at "MY.sub")) | exact RIn.zero (by walk_at "MY.mem")
  k_with "noteFrame ref" => (k_here; (rename RaisedSN _ _ _ _ _ _ _ => rsX); k_dflt (refine' caught_flt ?R_w29 ?F_w29 ?K_w29 ?U_w29 ?XB_w29 ?TB_w29 ?D_w29 ?T0_w29 ?_; (case R_w29 => exact rsX); (case F_w29 => assumption); (case K_w29 => assumption); (case U_w29 => assumption); (case XB_w29 => assumption); (case TB_w29 => assumption); (case D_w29 => assumption); (case T0_w29 => first | assumption | exact KtsTurn.refl); k_whole); intro h' g' T' F' N' K' X' P' D'; (try k_lift K'); (try k_sweep))
  k_with "exec Assign cons ListComp" => (k_here; k_dflt (refine' Assign_LC_tup ?a0_w30 ?a1_w30 ?a2_w30 ?a3_w30 ?a4_w30 ?a5_w30 ?a6_w30 ?a7_w30 ?a8_w30 ?a9_w30 ?_ ?a11_w30; (case a0_w30 => k_asm); (case a1_w30 => rfl); (case a2_w30 => with_unfolding_all rfl); (case a3_w30 => with_unfolding_all rfl); (case a4_w30 => decide); (case a5_w30 => rfl); (case a6_w30 => decide); (case a7_w30 => rfl); (case a8_w30 => rfl); (case a9_w30 => rfl); (case a11_w30 => (intro _; rfl))))
  k_with "TupSrc" => (k_here; k_dflt (refine tup_src (by rfl) (by k_asm) (by k_asm) (by k_mem) ?_; intro g'))
  k_with "CompRest" => (with_unfolding_all first | (refine LCg.CompRest.succ ?_; intro v' I' oI' C' oC' D' m' h' tk' E' hv' hC' hx' F' N' off' ne'; (first | lcg_open hv')) | refine LCg.CompRest.zero ?_)
  k_with "MY.off3" => first | assumption | (refine off3_append ?_ ?_ <;> walk_at "MY.off3") | exact off3_tl (by assumption) | (refine' off3_sub ?h_off ?s_off; (case h_off => assumption); (case s_off => (with_reducible (repeat first | exact sub_left | refine sub_aa ?_ | refine sub_cc ?_ | refine sub_cons ?_ | refine sub_right ?_ | exact sub_refl | exact sub_nil); done))) | (refine off3_cons ?_ ?_ <;> walk_at "MY.off3") | trivial
  k_with "CompEnd" => (k_dflt (first | (refine LCg.CompEnd.intro (by assumption) (by assumption) _ (fun _ h9 => h9) (by walk_at "MY.off3") (by first | exact ⟨_, by k_mem⟩ | exact Or.inr ⟨_, by k_mem, rfl, _, rfl⟩) ?_) | (refine LCg.CompEnd.intro (by assumption) (nw_tail (by assumption)) _ (fun _ h9 => h9) (by walk_at "MY.off3") (by first | exact ⟨_, by k_mem⟩ | exact Or.inr ⟨_, by k_mem, rfl, _, rfl⟩) ?_)))
  k_with "ktr_units" => first | (k_dflt exact un3_ok hu (Nat.le_of_ble_eq_true rfl))
  k_with "ktr_room" => first | (k_dflt exact dp1_ok hd (Nat.le_of_ble_eq_true rfl)) | (k_dflt exact dp0_ok hd)
  intro d
  have C0 := @v_mulF w mean mg mb
  have C1 := @v_mir w mean mg mb
  have C2 := @v_div w mean mg mb
  unfold TellsS
  intro dp un gd cn cs a ccd A₀ base h₀ L m news s vs Q E B F X N T XB TB hk hR hok hd hu hret
  cases hR
  rename_i a0 b0 c0 x1 x2 y1 y2 z1 z2 d0 t0 hC hD hE
  obtain ⟨ho1, ho2, ho3, ho4, ho5, ho6, ho7, ho8⟩ := hok
  have hn1 := canon_nn (@i_sq x1 x2)
  have hn2 := canon_nn (@i_sq y1 y2)
  have hn3 := canon_nn (@i_sq (x1 * y1 - x2 * y2) (x1 * y2 + x2 * y1))
  all_goals (
    ktr_unf
    refine wpAny_call ?_
    k_dflt walk_at "MY.enterS"
    k_steps)
  all_goals try (exfalso; exact dz_no (by assumption))
  all_goals (refine' hret _ [] _ _ ?F ?N up_nil trivial ?_; (case F => assumption); (case N => (rw [List.append_nil]; refine' nw_sub ?h ?s; (case h => assumption); (case s => (intro p hp; (repeat (with_reducible first | exact hp | exact List.mem_append_left _ hp | refine List.mem_cons_of_mem _ ?_ | refine List.mem_append_right _ ?_)))))))
  all_goals exact rfl
end Mine
end
section
namespace Mine
theorem tellsS_use {D : Type} {prog : Program} {w : World} {K : Frag} {p : Program} {loose : List Str} {mean : ExcName → Option Value} {mg mb : Str → Option Value} {f : Addr} {c : ToldN D} {d : D} {dp un : Nat} {gd : Option (List Code)} {cn : Str} {cs : Scope} {a : Addr} {ccd : Value} {A₀ : Around} {base h₀ : Heap} {L : Addr} {m : Str → Option Value} {news : List (Addr × Obj)} {s : Shared} {vs : List Value} {Q E : Value → Shared → Prop}
    (B : Below A₀ base [] h₀) (F : Fr h₀ L s.heap m) (X : K.In h₀) (N : News h₀ L s.heap news) (T : Top p loose mean mg mb h₀) (XB : K.In base) (TB : Top p loose mean mg mb base) (hk : cs.kind = .function) (R : c.Rel news vs d) (C : TellsS prog w K p loose mean mg mb f c d) (ok : c.Ok d) (hd : dp + c.size d < recursionLimit) (hu : un + 8 * c.size d < cLine)
    (ret : ∀ r tl h' tk', Fr h₀ L h' m → News h₀ L h' (news ++ tl) → (∀ q ∈ news, ∀ p ∈ tl, q.1 < p.1) → c.Tl tl → c.Out (news ++ tl) r d → Q r { s with heap := h', toks := tk' }) :
    wpAny (model prog w) { handled := none, depth := dp, frames := some [envOf cn cs L a ccd], guards := gd, units := un } (call (.ref f) vs) Q E s :=
  C dp un gd cn cs a ccd A₀ base h₀ L m news s vs Q E B F X N T XB TB hk R ok hd hu ret
section
variable {h₀ h : Heap} {L : Addr} {q1 q2 : Addr × Obj} {news tl : List (Addr × Obj)}
theorem nw_sw (N : News h₀ L h (q1 :: q2 :: news)) : News h₀ L h (q2 :: q1 :: news) := nw_sub N fun p hp => by
  simp only [List.mem_cons] at hp ⊢
  rcases hp with h | h | h <;> simp only [h, true_or, or_true]
end
set_option maxRecDepth 100000 in
set_option maxHeartbeats 8000000 in
theorem final : PySem.Challenge.rw_sa0208_01.Holds := by
  k_with_none
  k_with "call ref" => ((with_reducible show wpAny _ _ (call (Value.ref 192) _) _ _ _); walk_at "MY.prod")
  k_with "call ref" => ((with_reducible show wpAny _ _ (call (Value.ref 187) _) _ _ _); walk_at "MY.sums")
  k_with "call ref" => ((with_reducible show wpAny _ _ (call (Value.ref 173) _) _ _ _); walk_at "MY.num")
  k_with "call ref" => ((with_reducible show wpAny _ _ (call (Value.ref 166) _) _ _ _); walk_at "MY.sip")
  k_with "MY.sub" => first | exact sub_refl | (with_reducible (repeat first | exact sub_refl | exact sub_left | refine sub_aa ?_ | refine sub_cc ?_ | refine sub_cons ?_ | refine sub_right ?_); done) | (with_reducible (repeat (first | exact sub_refl | exact sub_left | refine sub_app ?_ ?_ | refine sub_cons ?_ | refine sub_right ?_)); done) | (intro p hp; (simp only [List.mem_append, List.mem_cons, List.not_mem_nil, or_false, or_assoc] at hp ⊢); (repeat' (refine Or.elim hp (fun hp => ?_) (fun hp => ?_))); all_goals (simp only [hp, true_or, or_true]))
  k_with "MY.mem" => first | assumption | (k_mem; done) | ((simp only [List.mem_append, List.mem_cons, true_or, or_true]; done)) | ((refine' (fun {X Y : List (Addr × Obj)} {p : Addr × Obj} (hs : ∀ p ∈ X, p ∈ Y) (h : p ∈ X) => hs p h) ?_ ?h_w1; (case h_w1 => assumption)); walk_at "MY.sub")
  k_with "MY.rin" => first | assumption | exact RIn.nought | exact RIn.tup (by walk_at "MY.mem") | (refine' RIn.mono ?h_w2 ?s_w2; (case h_w2 => assumption); (case s_w2 => walk_at "MY.sub"))
  k_with "MY.up" => first | exact up_nil | (refine up_cons (ktn_ltOf (by first | assumption | tbn_find | exact allLt_of (by assumption))) ?_; walk_at "MY.up") | (refine up_cons (lt_sub (by first | assumption | tbn_find | exact allLt_of (by assumption)) (by walk_at "MY.sub")) ?_; walk_at "MY.up") | (refine up_app ?_ ?_ <;> walk_at "MY.up") | exact up_sub (by assumption) (by walk_at "MY.sub")
  k_with "MY.got" => ((rename rOut _ _ _ => hz); (obtain ⟨a8, e8, hz8⟩ := hz); (subst e8))
  k_with "MY.news" => first | exact nw_n0 (by assumption) | exact nw_p0 (by assumption) | exact nw_p1 (by assumption) | exact nw_p2 (by assumption) | exact nw_p3 (by assumption) | exact nw_n1 (by assumption) | exact nw_n2 (by assumption) | exact nw_n3 (by assumption)
  k_with "subscriptTail" => (k_here; (with_reducible show wpAny _ _ (subscriptTail _ _ (Value.ref _) (Value.int _ _)) _ _ _); (first | (with_reducible refine' rin_item0 ?k1_w6 ?k2_w6 ?k3_w6 ?k4_w6 ?_ ?k6_w6) | (with_reducible refine' rin_item1 ?k1_w6 ?k2_w6 ?k3_w6 ?k4_w6 ?_ ?k6_w6)); (case k1_w6 => k_asm); (case k2_w6 => k_asm); (case k3_w6 => k_asm); (case k4_w6 => walk_at "MY.rin"); (case k6_w6 => with_unfolding_all rfl); k_whole; intro tt)
  k_with "subscriptTail" => (k_here; (with_reducible show wpAny _ _ (subscriptTail _ _ (Value.ref _) (Value.int _ _)) _ _ _); (first | (with_reducible refine' cin_item0 ?k2_w7 ?k4_w7 ?_ ?k6_w7) | (with_reducible refine' cin_item1 ?k2_w7 ?k4_w7 ?_ ?k6_w7)); (case k2_w7 => k_asm); (case k4_w7 => walk_at "MY.cin"); (case k6_w7 => with_unfolding_all rfl); k_whole; intro tt rr)
  k_with "MY.cin" => first | assumption | (refine' CIn.mono ?h_w8 ?s_w8; (case h_w8 => assumption); (case s_w8 => walk_at "MY.sub")) | (refine' CIn.mk ?h1_w8 ?h2_w8 ?h3_w8; (case h1_w8 => walk_at "MY.mem"); (case h2_w8 => walk_at "MY.rin"); (case h3_w8 => walk_at "MY.rin"))
  k_with "MY.gotc" => ((rename cOut _ _ _ _ => hz); (obtain ⟨a8, e8, hz8⟩ := hz); (subst e8))
  k_with "MY.gotF" => ((rename rOutF _ _ _ _ => hz); (obtain ⟨tl8, eq8, a8, e8, hz8⟩ := hz); (simp only [List.cons_append, List.append_assoc, List.cons.injEq, true_and, List.append_cancel_left_eq] at eq8); (subst eq8); (subst e8))
  k_with "MY.gotcF" => ((rename cOutF _ _ _ _ _ => hz); (obtain ⟨tl8, eq8, a8, e8, hz8⟩ := hz); (simp only [List.cons_append, List.append_assoc, List.cons.injEq, true_and, List.append_cancel_left_eq] at eq8); (subst eq8); (subst e8))
  k_with "ktr_unf" => (try simp only [vnT, vjT, vaT, vsT, vmT, miT, suT] at *)
  k_with "MY.cinv" => first | assumption | (refine' CIn.mono ?h_w13 ?s_w13; (case h_w13 => assumption); (case s_w13 => walk_at "MY.sub")) | (refine' CIn.nought ?h1_w13 ?h2_w13 ?h3_w13; (case h1_w13 => walk_at "MY.mem"); (case h2_w13 => walk_at "MY.mem"); (case h3_w13 => walk_at "MY.mem")) | (refine' CIn.one ?h1_w13 ?h2_w13 ?h3_w13; (case h1_w13 => walk_at "MY.mem"); (case h2_w13 => walk_at "MY.mem"); (case h3_w13 => walk_at "MY.mem"))
  k_with "MY.bd" => first | with_reducible assumption | with_reducible exact Bd.zero | with_reducible exact Bd.one | with_reducible exact Bd.add (by walk_at "MY.bd") (by walk_at "MY.bd") | with_reducible exact Bd.sub (by walk_at "MY.bd") (by walk_at "MY.bd") | with_reducible exact Bd.mul (by walk_at "MY.bd") (by walk_at "MY.bd") | with_reducible exact Bd.neg (by walk_at "MY.bd")
  k_with "MY.aok" => ((try dsimp only); (first | refine' aok_of ?h1_w15 ?h2_w15 ?h3_w15 ?h4_w15 ?hl_w15 ?hh_w15 ?k_w15 | refine' mok_of ?h1_w15 ?h2_w15 ?h3_w15 ?h4_w15 ?hl_w15 ?hh_w15 ?k_w15); (case h1_w15 => walk_at "MY.bd"); (case h2_w15 => walk_at "MY.bd"); (case h3_w15 => walk_at "MY.bd"); (case h4_w15 => walk_at "MY.bd"); (case hl_w15 => assumption); (case hh_w15 => assumption); (case k_w15 => decide))
  k_with "ktr_rel" => first | assumption | (refine' VnRel.mk ?h1_w16; (case h1_w16 => walk_at "MY.cinv")) | (refine' VjRel.mk ?h0_w16 ?h1_w16; (case h0_w16 => walk_at "MY.mem"); (case h1_w16 => walk_at "MY.cinv")) | (refine' VaRel.mk ?h1_w16 ?h2_w16; (case h1_w16 => walk_at "MY.cinv"); (case h2_w16 => walk_at "MY.cinv")) | walk_at "MY.aok" | exact ⟨_, rfl⟩ | exact rfl | exact trivial
  k_with "MY.id" => with_reducible first | exact rfl | exact Int.add_comm _ _ | exact Int.add_zero _ | exact Int.add_assoc _ _ _ | exact Int.add_right_neg _ | exact Int.sub_add_cancel _ _ | exact Int.neg_neg _ | exact i_d1 | exact i_d2 | exact i_q1 | exact i_q2 | exact i_n | exact i_c1 | exact i_c2 | exact i_o1 | exact i_o2 | exact i_a1 | exact i_a2 | exact i_m1 | exact i_m2 | exact i_s1 | exact i_s2 | exact i_z
  k_with "compareOp NotEq ref ref" => (k_here; (with_reducible show wpAny _ _ (compareOp CmpOp.NotEq (Value.ref _) (Value.ref _)) _ _ _); (with_reducible refine' cin_ne ?F_w18 ?N_w18 ?X_w18 ?R_w18 ?S_w18 ?u_w18 ?e1_w18 ?e2_w18 ?_); (case F_w18 => k_asm); (case N_w18 => k_asm); (case X_w18 => k_asm); (case R_w18 => walk_at "MY.cinv"); (case S_w18 => walk_at "MY.cinv"); (case u_w18 => ktr_units); (case e1_w18 => walk_at "MY.id"); (case e2_w18 => walk_at "MY.id"); k_whole)
  k_with "compareOp Eq ref ref" => (k_here; (with_reducible show wpAny _ _ (compareOp CmpOp.Eq (Value.ref _) (Value.ref _)) _ _ _); (with_reducible refine' cin_eq ?F_w19 ?N_w19 ?X_w19 ?R_w19 ?S_w19 ?u_w19 ?e1_w19 ?e2_w19 ?_); (case F_w19 => k_asm); (case N_w19 => k_asm); (case X_w19 => k_asm); (case R_w19 => walk_at "MY.cinv"); (case S_w19 => walk_at "MY.cinv"); (case u_w19 => ktr_units); (case e1_w19 => walk_at "MY.id"); (case e2_w19 => walk_at "MY.id"); k_whole)
  k_with "MY.gt" => first | assumption | exact And.left (by assumption) | exact And.left (And.right (by assumption)) | exact And.left (And.right (And.right (by assumption))) | exact And.left (And.right (And.right (And.right (by assumption)))) | exact And.left (And.right (And.right (And.right (And.right (by assumption)))))
  k_with "MY.ne" => first | assumption | exact ne_tl (by assumption) | exact ne_tlm (by assumption) (by k_mem) | exact ne_lt (And.right (by assumption)) | exact ne_lt (And.right (And.right (by assumption))) | exact ne_lt (And.right (And.right (And.right (by assumption)))) | (refine ne_cons ?_ ?_; (first | exact Nat.ne_of_gt (by walk_at "MY.gt") | exact Nat.ne_of_lt (by walk_at "MY.gt")); walk_at "MY.ne") | exact ne_nil | (refine ne_app ?_ ?_ <;> walk_at "MY.ne")
  k_with "MY.sip" => (k_dflt (refine' sip ?k1_w22 ?k2_w22 ?k3_w22 ?k4_w22 ?k5_w22 ?k6_w22 ?hD_w22 ?hI_w22 ?hl_w22 ?k0_w22 ?k9_w22 ?m0_w22 ?m1_w22 ?ne_w22 ?RD_w22 ?kd_w22 ?ku_w22 ?_); (case hD_w22 => first | assumption | k_dflt assumption | with_unfolding_all assumption); (case k1_w22 => k_asm); (case k2_w22 => k_asm); (case k3_w22 => k_asm); (case k4_w22 => first | assumption | exact nw_sw (by assumption) | exact nw_d2 (by assumption) | exact nw_d1 (by assumption) | exact nw_d3 (by assumption)); (case k5_w22 => k_asm); (case k6_w22 => first | exact rfl | assumption); (case hI_w22 => assumption); (case hl_w22 => first | assumption | exact List.length_take_le _ _); (case k0_w22 => omega); (case k9_w22 => omega); (case m0_w22 => decide); (case m1_w22 => decide); (case ne_w22 => walk_at "MY.ne"); (case RD_w22 => assumption); (case kd_w22 => (ktr_unf; ktr_room)); (case ku_w22 => (ktr_unf; ktr_units)); intro v8 t8 o8 t9 h9 tk9 F9 N9 D9 b8 b9; (try dsimp only); (try k_fold))
  k_with "MY.num" => (k_dflt (refine' num ?k1_w23 ?k2_w23 ?k3_w23 ?k4_w23 ?k5_w23 ?k6_w23 ?hD_w23 ?hI_w23 ?hl_w23 ?k0_w23 ?k9_w23 ?m0_w23 ?m1_w23 ?ne_w23 ?RD_w23 ?kd_w23 ?ku_w23 ?_); (case hD_w23 => first | assumption | k_dflt assumption | with_unfolding_all assumption); (case k1_w23 => k_asm); (case k2_w23 => k_asm); (case k3_w23 => k_asm); (case k4_w23 => first | assumption | exact nw_sw (by assumption) | exact nw_d2 (by assumption) | exact nw_d1 (by assumption) | exact nw_d3 (by assumption)); (case k5_w23 => k_asm); (case k6_w23 => first | exact rfl | assumption); (case hI_w23 => assumption); (case hl_w23 => first | assumption | exact List.length_take_le _ _); (case k0_w23 => omega); (case k9_w23 => omega); (case m0_w23 => omega); (case m1_w23 => omega); (case ne_w23 => walk_at "MY.ne"); (case RD_w23 => assumption); (case kd_w23 => (ktr_unf; ktr_room)); (case ku_w23 => (ktr_unf; ktr_units)); intro a8 v8 w8 o8 t9 tl9 h9 tk9 F9 N9 D9 ne9 C9 b8 b9; (try dsimp only); (try k_fold))
  k_with "MY.bd" => assumption
  k_with "ktr_rel" => first | assumption | (refine' SuRel.mk ?h1_w25 ?h2_w25 ?h3_w25; (case h1_w25 => walk_at "MY.cinv"); (case h2_w25 => walk_at "MY.cinv"); (case h3_w25 => walk_at "MY.cinv")) | (k_dflt (refine' SOk.mk ?_ ?_ ?_ ?_ ?_ ?_ ?_ ?_ <;> first | assumption | (dsimp only; omega) | omega)) | exact ⟨_, rfl⟩ | exact rfl | exact trivial
  k_with "MY.sums" => (k_dflt (refine' tellsN_use ?k1_w26 ?k2_w26 ?k3_w26 ?k4_w26 ?k5_w26 ?k6_w26 ?R_w26 (v_sums _) ?ko_w26 ?kd_w26 ?ku_w26 ?_); (case k1_w26 => k_asm); (case k2_w26 => k_asm); (case k3_w26 => k_asm); (case k4_w26 => k_asm); (case k5_w26 => k_asm); (case k6_w26 => first | exact rfl | assumption); (case R_w26 => ktr_rel); (case ko_w26 => ktr_rel); (case kd_w26 => (ktr_unf; ktr_room)); (case ku_w26 => (ktr_unf; ktr_units)); intro r9 tl9 h9 tk9 F9 N9 hl9 ht9 ho9; ktr_unf; (try simp only [List.nil_append, List.cons_append, List.append_nil, List.append_assoc] at N9); (subst ho9); (try dsimp only); (try k_fold))
  k_with "MY.prod" => (k_dflt (refine' tellsS_use ?k1_w27 ?k2_w27 ?k3_w27 ?k4_w27 ?k5_w27 ?x1_w27 ?x2_w27 ?k6_w27 ?R_w27 (v_prod _) ?ko_w27 ?kd_w27 ?ku_w27 ?_); (case k1_w27 => k_asm); (case k2_w27 => k_asm); (case k3_w27 => k_asm); (case k4_w27 => k_asm); (case k5_w27 => k_asm); (case x1_w27 => assumption); (case x2_w27 => assumption); (case k6_w27 => first | exact rfl | assumption); (case R_w27 => ktr_rel); (case ko_w27 => ktr_rel); (case kd_w27 => (ktr_unf; ktr_room)); (case ku_w27 => (ktr_unf; ktr_units)); intro r9 tl9 h9 tk9 F9 N9 hl9 ht9 ho9; ktr_unf; (subst ho9); (try dsimp only); (try k_fold))
  refine Mine.hd ?_
  k_go0
  (all_goals try k_fold)
  rename Below callerA _ _ _ => K0
  k_steps
end Mine
end
set_option maxRecDepth 100000 in
theorem PySem.Challenge.cw_sa0208_01_holds : PySem.Challenge.rw_sa0208_01.Holds := by
  exact Mine.final
