import PyProof.Rows.All
import Wide.All
import OpenK.AllK
import Wide.FinOn
import PySem.Challenge.RW_nu0115_01
set_option Elab.async false

section
open PySem PySem.W PyProof.Rows
set_option maxRecDepth 100000
namespace Mine
set_option maxHeartbeats 8000000 in
open_top hd for PySem.Challenge.rw_nu0115_01
end Mine
end

section
open PySem PySem.W PyProof.Rows
set_option maxRecDepth 100000
namespace Mine
/-- A def's contract. Called with `vs` over the ledger `news`, `lev` frames deep at most, it comes back: with the value `R x`, the ledger `news' x`, for some `x` of which `Facts` holds. -/
def Con {α : Type} (f : Addr) (lev : Nat) (news : List (Addr × Obj)) (pre : Prop) (vs : List Value) (news' : α → List (Addr × Obj)) (R : α → Value) (Facts : α → Prop) : Prop :=
  ∀ (w : World) (mean : ExcName → Option Value) (mg mb : Str → Option Value)
    (dp un : Nat) (gd : Option (List Code)) (cn : Str) (cs : Scope) (a : Addr) (ccd : Value) (cl : List (Str × Addr)) (outer : List Env) (A₀ : Around) (base h₀ : Heap) (L : Addr) (m : Str → Option Value) (s : Shared) (Q E : Value → Shared → Prop),
    Below A₀ base outer h₀ → Fr h₀ L s.heap m → (Mine.hd.heap_39 w.params).In h₀ → News h₀ L s.heap news →
    Top Mine.hd.view_39 (looseW Mine.hd.view_39 [Str.ofString "ones_sum", Str.ofString "checksum"]) mean mg mb h₀ → cs.kind = .function →
    pre → dp + lev < recursionLimit → un + 8 * lev < cLine →
    (∀ (x : α) (h' : Heap) (tk' : Nat), Facts x → Fr h₀ L h' m → News h₀ L h' (news' x) → Q (R x) { s with heap := h', toks := tk' }) →
    wpAny (model PySem.Challenge.rw_nu0115_01.row.prog w) (ktrTop dp un gd cn cs L a ccd cl outer) (call (.ref f) vs) Q E s

theorem con_use {α : Type} {f : Addr} {lev : Nat} {news : List (Addr × Obj)} {pre : Prop} {vs : List Value} {news' : α → List (Addr × Obj)} {R : α → Value} {Facts : α → Prop} (C : Con f lev news pre vs news' R Facts)
    {w : World} {mean : ExcName → Option Value} {mg mb : Str → Option Value}
    {dp un : Nat} {gd : Option (List Code)} {cn : Str} {cs : Scope} {a : Addr} {ccd : Value} {cl : List (Str × Addr)} {outer : List Env} {A₀ : Around} {base h₀ : Heap} {L : Addr} {m : Str → Option Value} {s : Shared} {Q E : Value → Shared → Prop}
    (B : Below A₀ base outer h₀) (F : Fr h₀ L s.heap m) (X : (Mine.hd.heap_39 w.params).In h₀) (N : News h₀ L s.heap news)
    (T : Top Mine.hd.view_39 (looseW Mine.hd.view_39 [Str.ofString "ones_sum", Str.ofString "checksum"]) mean mg mb h₀) (hk : cs.kind = .function)
    (hp : pre) (hd : dp + lev < recursionLimit) (hu : un + 8 * lev < cLine)
    (ret : ∀ (x : α) (h' : Heap) (tk' : Nat), Facts x → Fr h₀ L h' m → News h₀ L h' (news' x) → Q (R x) { s with heap := h', toks := tk' }) :
    wpAny (model PySem.Challenge.rw_nu0115_01.row.prog w) (ktrTop dp un gd cn cs L a ccd cl outer) (call (.ref f) vs) Q E s :=
  C w mean mg mb dp un gd cn cs a ccd cl outer A₀ base h₀ L m s Q E B F X N T hk hp hd hu ret

theorem con_retI {α : Type} {h₀ h' : Heap} {L : Addr} {m : Str → Option Value} {news : List (Addr × Obj)} {news' : α → List (Addr × Obj)} {R : α → Value} {Facts : α → Prop} {s : Shared} {Q : Value → Shared → Prop} {tk' : Nat} {v : Value}
    (ret : ∀ (x : α) (h' : Heap) (tk' : Nat), Facts x → Fr h₀ L h' m → News h₀ L h' (news' x) → Q (R x) { s with heap := h', toks := tk' })
    (x : α) (e : v = R x) (hf : Facts x) (F : Fr h₀ L h' m) (N : News h₀ L h' news) (hn : ∀ p ∈ news' x, p ∈ news) : Q v { s with heap := h', toks := tk' } := by
  subst e
  exact ret x h' tk' hf F (fun p hp => N p (hn p hp))

/-- the ones' sum of a number -/
def osum (n : Int) : Int := if n % 65535 = 0 ∧ 0 < n then 65535 else n % 65535

theorem osum_small {k : Int} (h0 : 0 ≤ k) (h1 : k ≤ 65535) : osum k = k := by
  unfold osum; split <;> omega
theorem osum_cong {a b : Int} (h : a % 65535 = b % 65535) (hp : 0 < a ↔ 0 < b) : osum a = osum b := by
  unfold osum; rw [h]; simp only [hp]
theorem osum_range {a : Int} : 0 ≤ osum a ∧ osum a ≤ 65535 := by unfold osum; split <;> omega
theorem osum_mod {a : Int} : osum a % 65535 = a % 65535 := by unfold osum; split <;> omega
theorem osum_pos {a : Int} (h : 0 ≤ a) : 0 < osum a ↔ 0 < a := by unfold osum; split <;> omega
theorem two16 : (2 : Int) ^ Int.toNat 16 = 65536 := by decide

theorem fold_step {k n : Int} (h : 65535 < k) (e : osum k = osum n) :
    0 ≤ Builtin.bitAnd k 65535 + k.fdiv (2 ^ Int.toNat 16) ∧ osum (Builtin.bitAnd k 65535 + k.fdiv (2 ^ Int.toNat 16)) = osum n := by
  rw [bitAnd_m16, two16, Int.fdiv_eq_ediv_of_nonneg _ (by decide)]
  refine ⟨by omega, ?_⟩
  rw [← e]
  refine osum_cong ?_ ?_ <;> omega
theorem fold_less {k : Int} (h : 65535 < k) : (Builtin.bitAnd k 65535 + k.fdiv (2 ^ Int.toNat 16)).toNat < k.toNat := by
  rw [bitAnd_m16, two16, Int.fdiv_eq_ediv_of_nonneg _ (by decide)]
  omega
theorem fold_done {k n : Int} (h0 : 0 ≤ k) (h : ¬ 65535 < k) (e : osum k = osum n) : k = osum n := by
  rw [← e]; exact (osum_small h0 (by omega)).symm

theorem and_high (k : Nat) : ∀ x y : Int, 0 ≤ y → y < 2 ^ k → Builtin.bitAnd (x * 2 ^ k) y = 0 := by
  induction k with
  | zero =>
    intro x y h0 h1
    have : y = 0 := by simp at h1; omega
    subst this
    have := bitAnd_range (x * 2 ^ 0) (Int.le_refl 0)
    omega
  | succ k ih =>
    intro x y h0 h1
    rw [Int.pow_succ] at h1
    rw [kbt_halves]
    have e : x * 2 ^ (k + 1) = 2 * (x * 2 ^ k) := by rw [Int.pow_succ, ← Int.mul_assoc, Int.mul_comm]
    rw [e, Int.mul_ediv_cancel_left _ (by decide), ih x (y / 2) (by omega) (by omega)]
    have : ¬ (2 * (x * 2 ^ k) % 2 = 1 ∧ y % 2 = 1) := by omega
    rw [if_neg this]; rfl
theorem or_high {x y : Int} (h0 : 0 ≤ y) (h1 : y < 256) : Builtin.bitOr (x * 2 ^ Int.toNat 8) y = x * 256 + y := by
  rw [bitOr_and, show (Int.toNat 8) = 8 from rfl, and_high 8 x y h0 (by simpa using h1)]
  omega
theorem turned_eq {n : Int} (h0 : 0 ≤ n) (h1 : n ≤ 65535) : Builtin.bitOr (Builtin.bitAnd n 255 * 2 ^ Int.toNat 8) (n.fdiv (2 ^ Int.toNat 8)) = n % 256 * 256 + n / 256 := by
  rw [bitAnd_m8, pow2_toNat_8, Int.fdiv_eq_ediv_of_nonneg _ (by decide), ← pow2_toNat_8, or_high (by rw [pow2_toNat_8]; omega) (by rw [pow2_toNat_8]; omega), pow2_toNat_8]
theorem join_odd {a1 a2 z : Int} (h : z.fmod 2 = 1) : osum (a1 + (a2 % 256 * 256 + a2 / 256)) = osum (a1 + if z % 2 = 1 then a2 % 256 * 256 + a2 / 256 else a2) := by
  rw [Int.fmod_eq_emod_of_nonneg _ (by decide)] at h; rw [if_pos h]
theorem join_even {a1 a2 z : Int} (h : z.fmod 2 ≠ 1) : osum (a1 + a2) = osum (a1 + if z % 2 = 1 then a2 % 256 * 256 + a2 / 256 else a2) := by
  rw [Int.fmod_eq_emod_of_nonneg _ (by decide)] at h; rw [if_neg h]
theorem half_eq (a : Int) : a.fdiv (2 ^ Int.toNat 16) = a / 65536 := by rw [two16, Int.fdiv_eq_ediv_of_nonneg _ (by decide)]
theorem pseudo_pre {a1 a2 a3 a4 : Int} (h1 : 0 ≤ a1) (h2 : 0 ≤ a2) (h3 : 0 ≤ a3) (h4 : 0 ≤ a4) :
    0 ≤ a1.fdiv (2 ^ Int.toNat 16) + Builtin.bitAnd a1 65535 + (a2.fdiv (2 ^ Int.toNat 16) + Builtin.bitAnd a2 65535) + a3 + a4.fdiv (2 ^ Int.toNat 16) + Builtin.bitAnd a4 65535 := by
  rw [bitAnd_m16, bitAnd_m16, bitAnd_m16, half_eq, half_eq, half_eq]; omega
theorem pseudo_eq {a1 a2 a3 a4 : Int} :
    osum (a1.fdiv (2 ^ Int.toNat 16) + Builtin.bitAnd a1 65535 + (a2.fdiv (2 ^ Int.toNat 16) + Builtin.bitAnd a2 65535) + a3 + a4.fdiv (2 ^ Int.toNat 16) + Builtin.bitAnd a4 65535) = osum (a1 / 65536 + a1 % 65536 + (a2 / 65536 + a2 % 65536) + a3 + a4 / 65536 + a4 % 65536) := by
  rw [bitAnd_m16, bitAnd_m16, bitAnd_m16, half_eq, half_eq, half_eq]
theorem lsum1 {n : Int} (h : n.fmod 65535 = 0) (h1 : 0 < n) : 65535 = osum n := by
  rw [Int.fmod_eq_emod_of_nonneg _ (by decide)] at h; unfold osum; rw [if_pos ⟨h, h1⟩]
theorem lsum2 {n : Int} (h1 : ¬ 0 < n) : n.fmod 65535 = osum n := by
  rw [Int.fmod_eq_emod_of_nonneg _ (by decide)]; unfold osum; rw [if_neg (fun x => h1 x.2)]
theorem lsum3 {n : Int} (h : n.fmod 65535 ≠ 0) : n.fmod 65535 = osum n := by
  rw [Int.fmod_eq_emod_of_nonneg _ (by decide)] at h ⊢; unfold osum; rw [if_neg (fun x => h x.1)]
end Mine
end

section
open PySem PySem.W PyProof.Rows PySem.Calls PyProof.V PySem.Spec
set_option maxRecDepth 100000
namespace Mine
/-- the sum of the 16-bit words that octets make (an odd last one is the high half) -/
def wsum : List Int → Int
  | [] => 0
  | [a] => a * 256
  | a :: b :: r => a * 256 + b + wsum r

theorem even_eq (k : Nat) : (k : Int) - (k : Int).fmod 2 = 2 * ((k / 2 : Nat) : Int) := by
  rw [Int.fmod_eq_emod_of_nonneg _ (by decide)]; omega
theorem wsum_take2 : ∀ (i : Nat) (ks : List Int), 2 * i + 1 < ks.length → wsum (ks.take (2 * (i + 1))) = wsum (ks.take (2 * i)) + (ks.getD (2 * i) 0 * 256 + ks.getD (2 * i + 1) 0)
  | _, [], h => by simp at h
  | _, [_], h => by simp at h
  | 0, a :: b :: r, _ => by simp [wsum]
  | i + 1, a :: b :: r, h => by
    have ih := wsum_take2 i r (by simp only [List.length_cons] at h; omega)
    have e1 : 2 * (i + 1 + 1) = (2 * (i + 1)) + 2 := by omega
    have e2 : 2 * (i + 1) = 2 * i + 2 := by omega
    rw [e1, List.take_succ_cons, List.take_succ_cons, wsum, ih]
    rw [show List.take (2 * (i + 1)) (a :: b :: r) = a :: b :: List.take (2 * i) r from by rw [e2]; rfl, wsum]
    rw [show (a :: b :: r).getD (2 * (i + 1)) 0 = r.getD (2 * i) 0 from by rw [e2]; rfl, show (a :: b :: r).getD (2 * (i + 1) + 1) 0 = r.getD (2 * i + 1) 0 from by rw [e2]; rfl]
    omega
theorem wsum_odd : ∀ (i : Nat) (ks : List Int), ks.length = 2 * i + 1 → wsum ks = wsum (ks.take (2 * i)) + ks.getD (2 * i) 0 * 256
  | _, [], h => by simp at h
  | 0, [a], _ => by simp [wsum]
  | _ + 1, [_], h => by simp at h
  | 0, a :: b :: r, h => by simp at h
  | i + 1, a :: b :: r, h => by
    have ih := wsum_odd i r (by simp only [List.length_cons] at h; omega)
    have e2 : 2 * (i + 1) = 2 * i + 2 := by omega
    rw [wsum, ih]
    rw [show List.take (2 * (i + 1)) (a :: b :: r) = a :: b :: List.take (2 * i) r from by rw [e2]; rfl, wsum]
    rw [show (a :: b :: r).getD (2 * (i + 1)) 0 = r.getD (2 * i) 0 from by rw [e2]; rfl]
    omega
theorem wsum_nonneg : ∀ (ks : List Int), (∀ x ∈ ks, 0 ≤ x ∧ x < 256) → 0 ≤ wsum ks
  | [], _ => by simp [wsum]
  | [a], h => by have := h a (by simp); simp only [wsum]; omega
  | a :: b :: r, h => by
    have h1 := h a (by simp)
    have h2 := h b (by simp)
    have h3 := wsum_nonneg r fun x hx => h x (by simp [hx])
    simp only [wsum]; omega
theorem getD_in {ks : List Int} (h : ∀ x ∈ ks, 0 ≤ x ∧ x < 256) (i : Nat) : 0 ≤ ks.getD i 0 ∧ ks.getD i 0 < 256 := by
  rcases Nat.lt_or_ge i ks.length with hi | hi
  · rw [List.getD_eq_getElem?_getD, List.getElem?_eq_getElem hi]; exact h _ (List.getElem_mem hi)
  · rw [List.getD_eq_getElem?_getD, List.getElem?_eq_none hi]; decide
theorem ones_lt {k : Int} {j N : Nat} (h1 : k = 2 * (j : Int)) (h2 : k < (N : Int) - (N : Int).fmod 2) : 0 ≤ k ∧ k + 1 < (N : Int) := by
  rw [even_eq] at h2; omega
theorem ones_turn {ks pre : List Int} {k tot n : Int} (hin : ∀ x ∈ ks, 0 ≤ x ∧ x < 256) (hk : k = 2 * (pre.length : Int)) (hlt : k + 1 < (ks.length : Int)) (inv : tot = n + wsum (ks.take (2 * pre.length))) :
    tot + Builtin.bitOr (ks.getD k.toNat 0 * 2 ^ Int.toNat 8) (ks.getD (k + 1).toNat 0) = n + wsum (ks.take (2 * (pre ++ [k]).length)) := by
  have g := getD_in hin (k + 1).toNat
  rw [or_high g.1 g.2, List.length_append, inv]
  have e1 : k.toNat = 2 * pre.length := by omega
  have e2 : (k + 1).toNat = 2 * pre.length + 1 := by omega
  rw [e1, e2, show ([k] : List Int).length = 1 from rfl, wsum_take2 pre.length ks (by omega)]
  omega
theorem ones_even {ks pre : List Int} {tot n : Int} (h : ¬ ((ks.length : Int) - (ks.length : Int).fmod 2 < (ks.length : Int))) (hl : pre.length = (((ks.length : Int) - (ks.length : Int).fmod 2).toNat + 1) / 2) (inv : tot = n + wsum (ks.take (2 * pre.length))) :
    tot = n + wsum ks := by
  rw [even_eq] at h hl
  rw [inv, List.take_of_length_le (by omega)]
theorem ones_odd {ks pre : List Int} {tot n : Int} (h : (ks.length : Int) - (ks.length : Int).fmod 2 < (ks.length : Int)) (hl : pre.length = (((ks.length : Int) - (ks.length : Int).fmod 2).toNat + 1) / 2) (inv : tot = n + wsum (ks.take (2 * pre.length))) :
    tot + ks.getD ((ks.length : Int) - (ks.length : Int).fmod 2).toNat 0 * 2 ^ Int.toNat 8 = n + wsum ks := by
  rw [even_eq] at h hl ⊢
  rw [inv, wsum_odd (ks.length / 2) ks (by omega), pow2_toNat_8]
  have e1 : (2 * ((ks.length / 2 : Nat) : Int)).toNat = 2 * (ks.length / 2) := by omega
  have e2 : 2 * pre.length = 2 * (ks.length / 2) := by omega
  rw [e1, e2]; omega
theorem size2 {e : Int} (h0 : 0 ≤ e) (h1 : e < 2 ^ 60) : Builtin.Range.rangeSize 0 e 2 = (((e.toNat + 1) / 2 : Nat) : Int) := by
  unfold Builtin.Range.rangeSize
  split <;> (try split) <;> omega
theorem small2 {e : Int} (h0 : 0 ≤ e) (h1 : e < 2 ^ 60) : Builtin.Range.small 0 e 2 = true := by
  unfold Builtin.Range.small
  rw [size2 h0 h1]
  have h2 : (((e.toNat + 1) / 2 : Nat) : Int) ≤ 2 ^ 60 ∧ 0 ≤ (((e.toNat + 1) / 2 : Nat) : Int) ∧ (((e.toNat + 1) / 2 : Nat) : Int) * 2 ≤ 2 ^ 60 := by omega
  generalize (((e.toNat + 1) / 2 : Nat) : Int) = n at *
  simp only [Builtin.Range.rangeFitsLong, Bool.and_eq_true, Bool.or_eq_true, decide_eq_true_eq, beq_iff_eq]
  rw [if_pos (by decide)]
  simp only [Bool.and_eq_true, decide_eq_true_eq]
  omega

section
variable {prog : Program} {w : World} {A : Around} {E : Value → Shared → Prop} {s : Shared} {env : Env} {h₀ : Heap} {x : Str} {body : List Stmt} {Q : Flow → Shared → Prop}
/-- a for over range(0, e, 2), by a word that holds between the turns -/
theorem range2 {σ : Type} {r : Addr} {e : Int} {t₀ u₀ v₀ : Tok} {m₀ : Str → Option Value} (Led : σ → List (Addr × Obj)) (ps : σ → List (Str × Value)) (Facts : σ → Prop) (stored : List Str) (P : List Int → σ → Prop) (c₀ : σ)
    (hh : A.handled = none) (hr : IsRange s.heap r 0 e 2 t₀ u₀ v₀) (h0 : 0 ≤ e) (h1 : e < 2 ^ 60) (F : Fr h₀ env.locals s.heap m₀) (N : News h₀ env.locals s.heap (Led c₀)) (hf : Facts c₀) (hk : ∀ p ∈ ps c₀, m₀ p.1 = some p.2) (hp : P [] c₀)
    (turn : ∀ (c : σ) (pre : List Int) (k : Int) t (u : Str → Option Value) h tk own, k = 2 * (pre.length : Int) → k < e → OwnOff own ((Led c₀).map (·.1)) → Facts c → P pre c →
      Fr h₀ env.locals h (fun y => if y = x then some (.int k t) else kstB (fun z => if stored.contains z then u z else m₀ z) (ps c) y) → News h₀ env.locals h (Led c ++ own) →
      wpAny (model prog w) A (execs body env) (InvPostN h₀ env.locals (KstS Led ps Facts x stored m₀ P (pre ++ [k])) own ((Led c₀).map (·.1)) { s with heap := h, toks := tk } Q) E { s with heap := h, toks := tk })
    (done : ∀ (c : σ) (pre : List Int) (u : Str → Option Value) h tk, pre.length = (e.toNat + 1) / 2 → Facts c → P pre c → Fr h₀ env.locals h (fun y => if y = x then u y else kstB (fun z => if stored.contains z then u z else m₀ z) (ps c) y) → News h₀ env.locals h (Led c) → Q .next { s with heap := h, toks := tk }) :
    wpAny (model prog w) A (pyIter (.ref r)) (fun it s₂ => LoopAtV prog w A h₀ env x body Q E it s₂) E s := by
  refine wpAny_pyIter_range hr (small2 h0 h1) ?_
  have W : Walks prog w A s.heap.objs.size [s.heap.objs.size] [s.heap.objs.size] ((e.toNat + 1) / 2) (fun i v => i < (e.toNat + 1) / 2 ∧ ∃ t, v = .int (0 + i * 2) t)
      (fun i h => IsRangeIter h s.heap.objs.size (0 + (i : Nat) * 2) ((((e.toNat + 1) / 2 : Nat) : Int) - (i : Nat)) 2) := (Walks.range hh _ 0 2 _).bound
  refine loop_invN (fun i m nx => ∃ pre : List Int, pre.length = i ∧ KstS Led ps Facts x stored m₀ P pre m nx) W
    (fun hm => absurd F.ns.lt ((List.mem_singleton.mp hm) ▸ Nat.lt_irrefl _)) (fun b hb => by rw [List.mem_singleton.mp hb]; exact next_is_new F)
    (fun p hq hI => absurd (Heap.lt_size (N p hq).1) ((List.mem_singleton.mp hI) ▸ Nat.lt_irrefl _)) (fun p hq hI => absurd (Heap.lt_size (N p hq).1) ((List.mem_singleton.mp hI) ▸ Nat.lt_irrefl _))
    (by show IsRangeIter _ _ _ _ _; rw [size2 h0 h1]; simpa using Heap.get?_push_size _ rfl) (F.push _) (fun p hq => ⟨Heap.get?_push_of_some _ (N p hq).1, (N p hq).2⟩)
    ⟨[], rfl, c₀, rfl, hf, hk, fun _ _ _ _ => rfl, hp⟩ ?_ ?_
  · rintro i v m₁ nx h tk own hi ⟨_, t, rfl⟩ _ hoff ⟨pre, hl, c, rfl, hf', g1, g2, hp'⟩ F₁ N₁
    refine wpAny_mono (turn c pre _ t m₁ h tk own (by rw [hl]; omega) (by omega) hoff hf' hp' (kst_fr g1 g2 F₁) N₁) (fun f s₂ p => ?_) fun _ _ z => z
    have up : InvEndN h₀ env.locals (KstS Led ps Facts x stored m₀ P (pre ++ [0 + (i : Int) * 2])) own ((Led c₀).map (·.1)) { s with heap := h, toks := tk } s₂ →
        InvEndN h₀ env.locals (fun m nx => ∃ pre : List Int, pre.length = i + 1 ∧ KstS Led ps Facts x stored m₀ P pre m nx) own ((Led c₀).map (·.1)) { s with heap := h, toks := tk } s₂ := by
      rintro ⟨h', tk', m', news', nx', e', F', N', hn', ho', ha, hS⟩
      exact ⟨h', tk', m', news', nx', e', F', N', hn', ho', ha, _, by rw [List.length_append, hl]; rfl, hS⟩
    cases f with
    | ret v => exact p
    | brk => exact p
    | next => exact up p
    | cont => exact up p
  · rintro m₁ nx h tk ⟨pre, hl, c, rfl, hf', g1, g2, hp'⟩ F₁ N₁
    exact done c pre m₁ h tk hl hf' hp' (kst_frOut g1 g2 F₁) N₁
end
end Mine
end

section
open PySem PySem.W PyProof.Rows
set_option maxRecDepth 100000
namespace Mine
/-- the number that octets make, the first the highest -/
def bnum (ks : List Int) : Int := ks.foldl (fun a b => a * 256 + b) 0
/-- the number of the 16-bit words: an odd last octet is the high half -/
def num (ks : List Int) : Int := if ks.length % 2 = 1 then bnum ks * 256 else bnum ks
theorem bnum_snoc (ks : List Int) (b : Int) : bnum (ks ++ [b]) = bnum ks * 256 + b := by unfold bnum; rw [List.foldl_append]; rfl
theorem bnum_bound : ∀ (n : Nat) (ks : List Int), ks.length = n → (∀ x ∈ ks, 0 ≤ x ∧ x < 256) → 0 ≤ bnum ks ∧ bnum ks < 256 ^ n
  | 0, [], _, _ => by simp [bnum]
  | n + 1, ks, hl, h => by
    have hne : ks ≠ [] := by intro e; rw [e] at hl; simp at hl
    have e := List.dropLast_concat_getLast hne
    have ih := bnum_bound n ks.dropLast (by rw [List.length_dropLast, hl]; rfl) fun x hx => h x ((List.dropLast_subset _) hx)
    have g := h _ (List.getLast_mem hne)
    rw [← e, bnum_snoc, Int.pow_succ]
    omega
theorem bnum_fit {ks : List Int} (hl : ks.length ≤ 24) (h : ∀ x ∈ ks, 0 ≤ x ∧ x < 256) : 0 ≤ bnum ks ∧ bnum ks < 2 ^ 192 := by
  have g := bnum_bound _ ks rfl h
  refine ⟨g.1, Int.lt_of_lt_of_le g.2 ?_⟩
  have : (256 : Int) ^ ks.length ≤ 256 ^ 24 := by
    have := Nat.pow_le_pow_right (n := 256) (by decide) hl
    exact_mod_cast this
  exact Int.le_trans this (by decide)
theorem num_turn {ks pre post : List Int} {n a : Int} (hl : ks.length ≤ 24) (hin : ∀ x ∈ ks, 0 ≤ x ∧ x < 256) (e : ks = pre ++ n :: post) (inv : a = bnum pre) :
    a * 256 + n = bnum (pre ++ [n]) ∧ 0 ≤ a * 256 + n ∧ a * 256 + n < 2 ^ 192 := by
  subst e
  rw [inv, ← bnum_snoc]
  have e2 : pre ++ n :: post = (pre ++ [n]) ++ post := by simp
  rw [e2] at hl hin
  exact ⟨rfl, bnum_fit (by rw [List.length_append] at hl; omega) fun x hx => hin x (List.mem_append.mpr (.inl hx))⟩
theorem num_odd {ks : List Int} {a : Int} (e : a = bnum ks) (h : (ks.length : Int).fmod 2 = 1) : a * 256 = num ks := by
  rw [Int.fmod_eq_emod_of_nonneg _ (by decide)] at h; unfold num; rw [if_pos (by omega), e]
theorem num_even {ks : List Int} {a : Int} (e : a = bnum ks) (h : (ks.length : Int).fmod 2 ≠ 1) : a = num ks := by
  rw [Int.fmod_eq_emod_of_nonneg _ (by decide)] at h; unfold num; rw [if_neg (by omega), e]
theorem num_fit {ks : List Int} (hl : ks.length ≤ 24) (h : ∀ x ∈ ks, 0 ≤ x ∧ x < 256) : 0 ≤ num ks ∧ num ks < 2 ^ 200 := by
  have g := bnum_fit hl h
  unfold num
  split <;> omega
end Mine
namespace Mine
section
variable {prog : Program} {w : World} {A : Around} {E : Value → Shared → Prop} {s : Shared} {a b : Int} {t u : Tok} {Q : Value → Shared → Prop}
theorem log_small {b : Int} (h0 : 0 < b) (h1 : b < 2 ^ 40) : b.natAbs.log2 < 9000 := by
  have h2 : b.natAbs < 2 ^ 40 := by omega
  have h3 := (Nat.log2_lt (k := 40) (n := b.natAbs) (by omega)).mpr h2
  omega
theorem fdiv_by (h0 : 0 < b) (h1 : b < 2 ^ 40) (h : Q (.int (a / b) s.toks) { s with toks := s.toks + 1 }) : wpAny (model prog w) A (binaryOp .FloorDiv (.int a t) (.int b u)) Q E s :=
  floordiv_int (by omega) (by rw [Int.fdiv_eq_ediv_of_nonneg _ (by omega)]; exact h) (.inl (PyProof.noPylong_of_log2 (log_small h0 h1)))
theorem mod_by (h0 : 0 < b) (h1 : b < 2 ^ 40) (h : 0 ≤ a % b → a % b < b → Q (.int (a % b) s.toks) { s with toks := s.toks + 1 }) : wpAny (model prog w) A (binaryOp .Mod (.int a t) (.int b u)) Q E s :=
  mod_int' (by omega) (by rw [Int.fmod_eq_emod_of_nonneg _ (by omega)]; exact h (Int.emod_nonneg _ (by omega)) (Int.emod_lt_of_pos _ h0))
end
end Mine

namespace Mine
/-- as Con, of a def that is handed the law's own list of ints too (it lies in the heap that the law found) -/
def ConS {α : Type} (f : Addr) (lev : Nat) (l : Addr) (us : List Value) (ns : List Int) (news : List (Addr × Obj)) (pre : Prop) (vs : List Value) (news' : α → List (Addr × Obj)) (R : α → Value) (Facts : α → Prop) : Prop :=
  ∀ (w : World) (mean : ExcName → Option Value) (mg mb : Str → Option Value)
    (dp un : Nat) (gd : Option (List Code)) (cn : Str) (cs : Scope) (a : Addr) (ccd : Value) (cl : List (Str × Addr)) (outer : List Env) (A₀ : Around) (base h₀ : Heap) (L : Addr) (m : Str → Option Value) (s : Shared) (Q E : Value → Shared → Prop),
    Below A₀ base outer h₀ → Fr h₀ L s.heap m → (Mine.hd.heap_39 w.params).In h₀ → News h₀ L s.heap news →
    Top Mine.hd.view_39 (looseW Mine.hd.view_39 [Str.ofString "ones_sum", Str.ofString "checksum"]) mean mg mb h₀ → cs.kind = .function →
    base.IsList l us.toArray → IntsAre us ns → ns.length ≤ 63 →
    pre → dp + lev < recursionLimit → un + 8 * lev < cLine →
    (∀ (x : α) (h' : Heap) (tk' : Nat), Facts x → Fr h₀ L h' m → News h₀ L h' (news' x) → Q (R x) { s with heap := h', toks := tk' }) →
    wpAny (model PySem.Challenge.rw_nu0115_01.row.prog w) (ktrTop dp un gd cn cs L a ccd cl outer) (call (.ref f) vs) Q E s

theorem cons_use {α : Type} {f : Addr} {lev : Nat} {l : Addr} {us : List Value} {ns : List Int} {news : List (Addr × Obj)} {pre : Prop} {vs : List Value} {news' : α → List (Addr × Obj)} {R : α → Value} {Facts : α → Prop} (C : ConS f lev l us ns news pre vs news' R Facts)
    {w : World} {mean : ExcName → Option Value} {mg mb : Str → Option Value}
    {dp un : Nat} {gd : Option (List Code)} {cn : Str} {cs : Scope} {a : Addr} {ccd : Value} {cl : List (Str × Addr)} {outer : List Env} {A₀ : Around} {base h₀ : Heap} {L : Addr} {m : Str → Option Value} {s : Shared} {Q E : Value → Shared → Prop}
    (B : Below A₀ base outer h₀) (F : Fr h₀ L s.heap m) (X : (Mine.hd.heap_39 w.params).In h₀) (N : News h₀ L s.heap news)
    (T : Top Mine.hd.view_39 (looseW Mine.hd.view_39 [Str.ofString "ones_sum", Str.ofString "checksum"]) mean mg mb h₀) (hk : cs.kind = .function)
    (hl : base.IsList l us.toArray) (hi : IntsAre us ns) (hn : ns.length ≤ 63)
    (hp : pre) (hd : dp + lev < recursionLimit) (hu : un + 8 * lev < cLine)
    (ret : ∀ (x : α) (h' : Heap) (tk' : Nat), Facts x → Fr h₀ L h' m → News h₀ L h' (news' x) → Q (R x) { s with heap := h', toks := tk' }) :
    wpAny (model PySem.Challenge.rw_nu0115_01.row.prog w) (ktrTop dp un gd cn cs L a ccd cl outer) (call (.ref f) vs) Q E s :=
  C w mean mg mb dp un gd cn cs a ccd cl outer A₀ base h₀ L m s Q E B F X N T hk hl hi hn hp hd hu ret
end Mine

namespace Mine
theorem oct_turn {p q x k : Int} {ks pre : List Int} (h1 : 0 ≤ p) (h2 : 0 ≤ q) (h3 : q < 2147483647) (h4 : ks.length = pre.length) (h5 : KBa.In ks) (h6 : 0 ≤ x ∧ x < 256) :
    0 ≤ p ∧ 0 ≤ q ∧ q < 2147483647 ∧ (ks ++ [x]).length = (pre ++ [k]).length ∧ KBa.In (ks ++ [x]) := by
  refine ⟨h1, h2, h3, by rw [List.length_append, List.length_append, h4]; rfl, fun y hy => ?_⟩
  rcases List.mem_append.mp hy with hy | hy
  · exact h5 y hy
  · rw [List.mem_singleton.mp hy]; exact h6
end Mine

namespace Mine
theorem oct_len {ks : List Int} {d : Int} (h : KBa.In ks) (hl : ks.length = (d - 0).toNat) (hd : d < 18 + 1) : (KBw.bInts (byteArr ks)).length ≤ 18 := by
  rw [KBa.ints_make h]; omega
/-- a contract over a ledger that opens with one object, said over any ledger that holds it -/
theorem con_lift {α : Type} {f : Addr} {lev : Nat} {sa : Addr} {o : Obj} {P : Prop} {vs : List Value} {o' : α → Obj} {R : α → Value} {Facts : α → Prop}
    (C : ∀ rest, Con f lev ((sa, o) :: rest) (OwnOff rest [sa] ∧ P) vs (fun x => (sa, o' x) :: rest) R Facts) (news : List (Addr × Obj)) (g : Obj → List (Addr × Obj)) :
    Con f lev news (UpdF sa o news g ∧ P) vs (fun x => g (o' x)) R Facts := by
  intro w mean mg mb dp un gd cn cs a ccd cl outer A₀ base h₀ L m s Q E B F X N T hk hp hd hu hret
  obtain ⟨U, hP⟩ := hp
  obtain ⟨pre, post, e1, e2, h1, h2⟩ := U.split
  subst e1
  refine con_use (C (pre ++ post)) B F X (fun y hy => N y ?_) T hk ⟨?_, hP⟩ hd hu (fun x h' tk' hf F' N' => hret x h' tk' hf F' ?_)
  · rcases List.mem_cons.mp hy with rfl | hy
    · simp
    · rcases List.mem_append.mp hy with hy | hy <;> simp [hy]
  · intro y hy b hb
    rw [List.mem_singleton.mp hb]
    rcases List.mem_append.mp hy with hy | hy
    · exact h1 y hy
    · exact h2 y hy
  · show News h₀ L h' (g _)
    rw [e2]
    intro y hy
    refine N' y ?_
    rcases List.mem_append.mp hy with hy | hy
    · simp [hy]
    · rcases List.mem_cons.mp hy with rfl | hy <;> simp [*]
end Mine
end

section
set_option maxRecDepth 100000
namespace Mine
open PySem PySem.W PyProof.Rows PySem.Calls
theorem bmi_no_bytes : typeLookup (.type "int") "__bytes__" = pure none := by rw [typeLookup_type, builtinLookup_eq_fast]; kernel_rfl
section
variable {prog : Program} {w : World} {A : Around} {E : Value → Shared → Prop} {s : Shared} {n : Int} {t : Tok}
theorem bmi_new {Q : Value → Shared → Prop} (h0 : 0 ≤ n) (h1 : n ≤ 16777216)
    (hQ : ∀ t k, Q (.bytes (Array.replicate n.toNat 0) t) { s with toks := k }) :
    codeAny (model prog w) A (.call (.builtin "bytes.__new__") ⟨[.type "bytes", .int n t], []⟩) (wants Q E) s := by
  refine codeAny_of_tree ?_
  show wpAny _ A.in1 (do checkBuiltinCall "bytes.__new__" ⟨[.type "bytes", .int n t], []⟩; again (.builtin "bytes.__new__" ⟨[.type "bytes", .int n t], []⟩)) _ _ s
  refine wpAny_bind (wpAny_of_eq (F.bm_newCall _) (wpAny_pure ⟨plainId_quiet F.bm_plain _, codeAny_builtin F.bm_entry ?_⟩))
  rw [Around.under_plainId F.bm_plain _]
  have hT : s.TypeIs (.int n t) "int" := rfl
  unfold Builtin.«bytes.__new__»
  refine wpAny_bind (wpAny_of_eq (a := true) rfl ?_)
  refine bm_if_false rfl ?_
  refine wpAny_bind (wpAny_of_eq F.bm_sub ?_)
  refine bm_if_false rfl ?_
  refine wpAny_bind (wpAny_of_eq (F.bm_bind _) ?_)
  refine wpAny_bind (wpAny_of_eq (a := ()) rfl ?_)
  refine wpAny_bind (wpAny_of_eq (a := ()) rfl ?_)
  refine bm_if_false rfl ?_
  refine wpAny_bind (wpAny_specialOf hT bmi_no_bytes ?_)
  refine wpAny_bind (wpAny_of_eq (a := false) rfl ?_)
  refine bm_if_false rfl ?_
  refine wpAny_bind (wpAny_specialOf hT int_index ?_)
  refine bm_if_false rfl ?_
  refine wpAny_bind (wpAny_attempt (wpAny_of_eq (rfl : asIndex (.int n t) = pure n) ?_))
  dsimp only
  refine bm_if_false (by simp only [Builtin.Bytes.fitsIndex, Bool.not_eq_false', Bool.and_eq_true, decide_eq_true_eq]; omega) ?_
  refine wpAny_ite (KBy.ite_no (by omega) ?_)
  refine wpAny_ite (KBy.ite_no (by omega) ?_)
  refine bm_if_false (KBy.tooLong_not (by omega)) ?_
  refine wpAny_bind (wpAny_rule ?_)
  refine wpAny_bind (wpAny_mkBytes ?_ (by rw [Array.size_replicate, sizeLine_eq]; omega))
  show wpAny _ _ (if (Value.type "bytes" == Value.type "bytes") = true then _ else _) _ _ _
  refine bm_if_true (by decide) ?_
  first
    | exact wpAny_pure (hQ _ _)
    | exact wpAny_bind (wpAny_pure (wpAny_pure (hQ _ _)))
theorem call_bytes_int {Q : Value → Shared → Prop} (h0 : 0 ≤ n) (h1 : n ≤ 16777216)
    (hQ : ∀ t' k, Q (.bytes (Array.replicate n.toNat 0) t') { s with toks := k }) : wpAny (model prog w) A (call (.type "bytes") [.int n t]) Q E s := by
  refine callType_codes (Q₁ := fun obj s₁ => s₁.TypeIs obj "bytes" ∧ Q obj s₁) F.bm_called (F.bm_typeCall _) F.entry_object_init
    (bmi_new h0 h1 fun t k => ⟨PySem.W.typeIs_bytes _ _ _, hQ t k⟩) fun obj s₁ h₁ => ?_
  exact ⟨h₁.1, F.args_object_init_2 obj _, object_init_meets F.bm_called.init.lookup F.bm_called.made (by decide) prog w A.in1 _ s₁ ⟨h₁.1, rfl, h₁.2⟩⟩
end
theorem ints_zeros (k : Nat) : KBw.bInts (Array.replicate k 0) = List.replicate k 0 := by
  unfold KBw.bInts
  simp
section
variable {prog : Program} {w : World} {A : Around} {E : Value → Shared → Prop} {s : Shared} {n : Int} {t : Tok}
theorem zeros_K {Q : Value → Shared → Prop} (h0 : 0 ≤ n) (h1 : n ≤ 16777216)
    (hQ : ∀ t' k, KBw.bInts (Array.replicate n.toNat 0) = List.replicate n.toNat 0 → Q (.bytes (Array.replicate n.toNat 0) t') { s with toks := k }) : wpAny (model prog w) A (call (.type "bytes") [.int n t]) Q E s :=
  call_bytes_int h0 h1 fun t' k => hQ t' k (ints_zeros _)
end
end Mine
end

section
set_option maxRecDepth 100000
namespace Mine
open PySem PySem.W PyProof.Rows PySem.Calls
theorem xor_all : ∀ x : Fin 256, ∀ k : Fin 8, (Builtin.bitXor ((x.val : Nat) : Int) (2 ^ k.val) = (x.val : Int) + 2 ^ k.val ∨ Builtin.bitXor ((x.val : Nat) : Int) (2 ^ k.val) = (x.val : Int) - 2 ^ k.val) ∧ 0 ≤ Builtin.bitXor ((x.val : Nat) : Int) (2 ^ k.val) ∧ Builtin.bitXor ((x.val : Nat) : Int) (2 ^ k.val) < 256 := by decide +kernel
theorem xor_bit {x k : Int} (h0 : 0 ≤ x) (h1 : x < 256) (k0 : 0 ≤ k) (k1 : k < 8) :
    (Builtin.bitXor x (2 ^ k.toNat) = x + 2 ^ k.toNat ∨ Builtin.bitXor x (2 ^ k.toNat) = x - 2 ^ k.toNat) ∧ 0 ≤ Builtin.bitXor x (2 ^ k.toNat) ∧ Builtin.bitXor x (2 ^ k.toNat) < 256 := by
  have h := xor_all ⟨x.toNat, by omega⟩ ⟨k.toNat, by omega⟩
  dsimp only at h
  rw [Int.toNat_of_nonneg h0] at h
  exact h
section
variable {prog : Program} {w : World} {A : Around} {E : Value → Shared → Prop} {s : Shared} {h₀ : Heap} {L D : Addr} {m : PySem.Str → Option Value} {news : List (Addr × Obj)} {vs : List Value} {ns ks ls : List Int} {b c : Array UInt8} {t u : Tok} {x k : Int}
/-- two bytes put together, told by their octets alone -/
theorem add_G {Q : Value → Shared → Prop} (hb : KBw.bInts b = ks) (hc : KBw.bInts c = ls) (hsz : ks.length + ls.length ≤ 16777216)
    (h : ∀ (d : Array UInt8) (es : List Int) t' k, KBw.bInts d = es → es = ks ++ ls → es.length = ks.length + ls.length → Q (.bytes d t') { s with toks := k }) :
    wpAny (model prog w) A (binaryOp .Add (.bytes b t) (.bytes c u)) Q E s :=
  KBa.add_K hb hc hsz fun t' k e => h _ _ t' k e rfl List.length_append
theorem make_G {Q : Value → Shared → Prop} (F : Fr h₀ L s.heap m) (N : News h₀ L s.heap news) (hh : A.handled = none) (hl : s.heap.IsList D vs.toArray) (hi : IntsAre vs ns) (hr : KBa.In ns) (hn : ns.length ≤ 16777216)
    (h : ∀ (d : Array UInt8) h' t' k, Fr h₀ L h' m → News h₀ L h' news → KBw.bInts d = ns → Q (.bytes d t') { s with heap := h', toks := k }) : wpAny (model prog w) A (call (.type "bytes") [.ref D]) Q E s :=
  KBa.make_K F N hh hl hi hr hn fun h' t' k F' N' hin => h _ h' t' k F' N' (KBa.ints_make hin)
theorem xor_G {Q : Value → Shared → Prop} (h0 : 0 ≤ x) (h1 : x < 256) (k0 : 0 ≤ k) (k1 : k < 8)
    (h : ∀ z, 0 ≤ z → z < 256 → (z = x + 2 ^ k.toNat ∨ z = x - 2 ^ k.toNat) → Q (.int z s.toks) { s with toks := s.toks + 1 }) :
    wpAny (model prog w) A (binaryOp .BitXor (.int x t) (.int (2 ^ k.toNat) u)) Q E s :=
  have g := xor_bit h0 h1 k0 k1
  xor_int (h _ g.2.1 g.2.2 g.1)
theorem eqnil_G {Q : Value → Shared → Prop} (hb : KBw.bInts b = ks) (h : Q (.bool (decide (ks.length = 0))) s) : wpAny (model prog w) A (compareOp .Eq (.bytes b t) (.bytes #[] u)) Q E s := by
  refine eq_bytes ?_
  have e : (b.toList == (#[] : Array UInt8).toList) = decide (ks.length = 0) := by
    rw [← hb, KBw.ints_length]
    cases h : b.toList with
    | nil => have : b.size = 0 := by rw [← Array.length_toList, h]; rfl
             rw [this]; rfl
    | cons x r => have : b.size = r.length + 1 := by rw [← Array.length_toList, h]; rfl
                  rw [this]; simp
  rw [e]; exact h
end
theorem in1 {a : Int} (h0 : 0 ≤ a) (h1 : a < 256) : KBa.In [a] := by
  intro n hn
  rw [List.mem_singleton.mp hn]; exact ⟨h0, h1⟩
theorem in2 {a b : Int} (h0 : 0 ≤ a) (h1 : a < 256) (h2 : 0 ≤ b) (h3 : b < 256) : KBa.In [a, b] := by
  intro n hn
  rcases List.mem_cons.mp hn with rfl | hn
  · exact ⟨h0, h1⟩
  · rw [List.mem_singleton.mp hn]; exact ⟨h2, h3⟩
end Mine
namespace Mine
open PySem PySem.W PyProof.Rows PySem.Calls
section
variable {prog : Program} {w : World} {A : Around} {E : Value → Shared → Prop} {s : Shared} {value slice : PySem.Expr} {b : Array UInt8} {t ti : Tok} {h₀ : Heap} {L : Addr} {m : PySem.Str → Option Value} {news : List (Addr × Obj)} {Q : Value → Shared → Prop} {ks : List Int} {i : Int}
/-- b[:i] -/
theorem cutTo_G (hF : Fr h₀ L s.heap m) (hN : News h₀ L s.heap news) (hk : KBw.bInts b = ks) (h0 : 0 ≤ i) (h1 : i ≤ ks.length) (hz : ks.length ≤ 16777216)
    (h : ∀ (d : Array UInt8) es h' t' k, Fr h₀ L h' m → News h₀ L h' news → KBw.bInts d = es → es = ks.take i.toNat → (es.length : Int) = i → Q (.bytes d t') { s with heap := h', toks := k })
    (hs : subscripted slice false (.bytes b t) (.ref s.heap.objs.size) = operate [.ref s.heap.objs.size, .bytes b t] (getItem (.bytes b t) (.ref s.heap.objs.size)) := by with_unfolding_all rfl)
    (ht : ∀ r, letTemporaryGo value (.bytes b t) r = pure () := by intro _; with_unfolding_all rfl) :
    wpAny (model prog w) A (subscriptTail value slice (.bytes b t) (.ref s.heap.objs.size)) Q E { s with heap := s.heap.push { cls := .type "slice", data := .fields #[.none, .int i ti, .none] } } :=
  KBc.slice_K hF hN hk .none (.int i ti) hz (fun h' t' k F' N' e => by
    have e2 : KBw.bInts (KBy.picked b none (some i)) = ks.take i.toNat := by
      rw [e]
      simp only [Option.elim, List.drop_zero, Nat.sub_zero]
      rw [clipAt_in h0 h1]
    exact h _ _ h' t' k F' N' rfl e2 (by rw [e2, List.length_take]; omega)) hs ht
/-- b[i:] -/
theorem cutFrom_G (hF : Fr h₀ L s.heap m) (hN : News h₀ L s.heap news) (hk : KBw.bInts b = ks) (h0 : 0 ≤ i) (h1 : i ≤ ks.length) (hz : ks.length ≤ 16777216)
    (h : ∀ (d : Array UInt8) es h' t' k, Fr h₀ L h' m → News h₀ L h' news → KBw.bInts d = es → es = ks.drop i.toNat → (es.length : Int) = ks.length - i → Q (.bytes d t') { s with heap := h', toks := k })
    (hs : subscripted slice false (.bytes b t) (.ref s.heap.objs.size) = operate [.ref s.heap.objs.size, .bytes b t] (getItem (.bytes b t) (.ref s.heap.objs.size)) := by with_unfolding_all rfl)
    (ht : ∀ r, letTemporaryGo value (.bytes b t) r = pure () := by intro _; with_unfolding_all rfl) :
    wpAny (model prog w) A (subscriptTail value slice (.bytes b t) (.ref s.heap.objs.size)) Q E { s with heap := s.heap.push { cls := .type "slice", data := .fields #[.int i ti, .none, .none] } } :=
  KBc.slice_K hF hN hk (.int i ti) .none hz (fun h' t' k F' N' e => by
    have e2 : KBw.bInts (KBy.picked b (some i) none) = ks.drop i.toNat := by
      rw [e]
      simp only [Option.elim]
      rw [clipAt_in h0 h1]
      exact List.take_of_length_le (by rw [List.length_drop]; omega)
    exact h _ _ h' t' k F' N' rfl e2 (by rw [e2, List.length_drop]; omega)) hs ht
end
end Mine
namespace Mine
open PySem PySem.W PyProof.Rows PySem.Calls
/-- a state's count of tokens, told by a name -/
theorem gen_toks {α : Type} {M : Model} {A : Around} {T : Sem α} {Q : α → Shared → Prop} {E : Value → Shared → Prop} {h : Heap} {g : Array GenState} {d : Drawn} {o : OsState} {X : Nat}
    (k : ∀ tk : Nat, wpAny M A T Q E ⟨h, g, d, tk, o⟩) : wpAny M A T Q E ⟨h, g, d, X, o⟩ := k X
end Mine
end

section
open PySem PySem.W PyProof.Rows
set_option maxRecDepth 100000
set_option linter.unusedVariables false
namespace Mine
/-- the sum of the words that octets make where the first one is a low half -/
def hsum : List Int → Int
  | [] => 0
  | a :: r => a + wsum r
theorem wsum_cons : ∀ (a : Int) (r : List Int), wsum (a :: r) = a * 256 + hsum r
  | a, [] => by simp [wsum, hsum]
  | a, b :: r => by simp only [wsum, hsum]; omega
theorem hsum_cons (a : Int) (r : List Int) : hsum (a :: r) = a + wsum r := rfl
theorem sum_append : ∀ (l r : List Int), wsum (l ++ r) = wsum l + (if l.length % 2 = 0 then wsum r else hsum r) ∧ hsum (l ++ r) = hsum l + (if l.length % 2 = 0 then hsum r else wsum r)
  | [], r => by simp [wsum, hsum]
  | a :: l, r => by
    have ih := sum_append l r
    rw [List.cons_append, wsum_cons, wsum_cons, hsum_cons, hsum_cons, ih.1, ih.2, List.length_cons]
    by_cases h : l.length % 2 = 0
    · rw [if_pos h, if_pos h, if_neg (by omega), if_neg (by omega)]; constructor <;> omega
    · rw [if_neg h, if_neg h, if_pos (by omega), if_pos (by omega)]; constructor <;> omega
theorem wsum_even {l : List Int} (r : List Int) (h : l.length % 2 = 0) : wsum (l ++ r) = wsum l + wsum r := by rw [(sum_append l r).1, if_pos h]
theorem wsum_oddA {l : List Int} (r : List Int) (h : ¬ l.length % 2 = 0) : wsum (l ++ r) = wsum l + hsum r := by rw [(sum_append l r).1, if_neg h]
abbrev Oct (ks : List Int) : Prop := ∀ x ∈ ks, 0 ≤ x ∧ x < 256
theorem oct_of {d : Array UInt8} {ks : List Int} (hb : KBw.bInts d = ks) : Oct ks := fun _ hx => KBw.ints_in (hb ▸ hx)
/-- nothing is negative; both sums are nought together; the one is 256 times the other, but for 65535s -/
theorem sum_facts : ∀ (ks : List Int), Oct ks → 0 ≤ wsum ks ∧ 0 ≤ hsum ks ∧ (0 < wsum ks ↔ 0 < hsum ks) ∧ (256 * wsum ks - hsum ks) % 65535 = 0 ∧ (256 * hsum ks - wsum ks) % 65535 = 0
  | [], _ => by simp [wsum, hsum]
  | a :: r, h => by
    have ha := h a (by simp)
    have ih := sum_facts r fun x hx => h x (by simp [hx])
    rw [wsum_cons, hsum_cons]
    omega
theorem oct_take {ks : List Int} (h : Oct ks) (i : Nat) : Oct (ks.take i) := fun x hx => h x (List.mem_of_mem_take hx)
theorem oct_drop {ks : List Int} (h : Oct ks) (i : Nat) : Oct (ks.drop i) := fun x hx => h x (List.mem_of_mem_drop hx)
theorem turned_mod {x : Int} (h0 : 0 ≤ x) (h1 : x ≤ 65535) : 0 ≤ x % 256 * 256 + x / 256 ∧ (x % 256 * 256 + x / 256 - 256 * x) % 65535 = 0 ∧ (0 < x % 256 * 256 + x / 256 ↔ 0 < x) := by omega
theorem zero_sums : ∀ k : Nat, wsum (List.replicate k 0) = 0 ∧ hsum (List.replicate k 0) = 0
  | 0 => by simp [wsum, hsum]
  | k + 1 => by
    have ih := zero_sums k
    rw [List.replicate_succ, wsum_cons, hsum_cons, ih.1, ih.2]; omega
theorem osum_eq {a b : Int} (h : (a - b) % 65535 = 0) (hp : 0 < a ↔ 0 < b) : osum a = osum b := osum_cong (by omega) hp

/-! the law's number -/
def numF (a : Int) (ks : List Int) : Int := ks.foldl (fun a b => a * 256 + b) a
theorem numF_two (a x y : Int) (r : List Int) : numF a (x :: y :: r) = numF ((a * 256 + x) * 256 + y) r := rfl
theorem num_facts : ∀ (ks : List Int) (a : Int), 0 ≤ a → Oct ks →
    ((if ks.length % 2 = 1 then numF a ks * 256 else numF a ks) - (a + wsum ks)) % 65535 = 0 ∧ (0 < (if ks.length % 2 = 1 then numF a ks * 256 else numF a ks) ↔ 0 < a + wsum ks)
  | [], a, _, _ => by simp [numF, wsum]
  | [x], a, h0, h => by
    have hx := h x (by simp)
    simp only [List.length_cons, List.length_nil, numF, List.foldl_cons, List.foldl_nil, wsum]
    rw [if_pos (by decide)]
    omega
  | x :: y :: r, a, h0, h => by
    have hx := h x (by simp)
    have hy := h y (by simp)
    have ih := num_facts r ((a * 256 + x) * 256 + y) (by omega) fun z hz => h z (by simp [hz])
    have hr := (sum_facts r fun z hz => h z (by simp [hz])).1
    rw [numF_two]
    simp only [List.length_cons, wsum]
    have e : (r.length + 1 + 1) % 2 = r.length % 2 := by omega
    simp only [e]
    generalize (if r.length % 2 = 1 then numF ((a * 256 + x) * 256 + y) r * 256 else numF ((a * 256 + x) * 256 + y) r) = n at ih ⊢
    omega
theorem num_mod {ks : List Int} (h : Oct ks) : (num ks - wsum ks) % 65535 = 0 ∧ (0 < num ks ↔ 0 < wsum ks) := by
  have g := num_facts ks 0 (by decide) h
  simp only [Int.zero_add] at g
  exact g
theorem law_num {ks : List Int} (n : Int) (h : Oct ks) (hn : 0 ≤ n) : osum (n + wsum ks) = osum (n + num ks) := by
  have g := num_mod h
  have f := sum_facts ks h
  have p : 0 ≤ num ks := by
    unfold num bnum
    have := (bnum_bound _ ks rfl h).1
    unfold bnum at this
    split <;> omega
  exact osum_eq (by omega) (by omega)
theorem law_num0 {ks : List Int} (h : Oct ks) : osum (0 + wsum ks) = osum (num ks) := by
  have e := law_num 0 h (Int.le_refl 0)
  rw [Int.zero_add (num ks)] at e
  exact e

/-! a cut -/
theorem cut_eq1 {ks : List Int} {c : Int} (h : Oct ks) (h0 : 0 ≤ c) (h1 : c < (ks.length : Int) + 1) {A B : List Int} (eA : A = ks.take c.toNat) (eB : B = ks.drop c.toNat) (hl : (A.length : Int) = c) :
    osum (osum (0 + wsum A) + if (A.length : Int) % 2 = 1 then osum (0 + wsum B) % 256 * 256 + osum (0 + wsum B) / 256 else osum (0 + wsum B)) = osum (0 + wsum ks) := by
  have hA : Oct A := eA ▸ oct_take h _
  have hB : Oct B := eB ▸ oct_drop h _
  have e : ks = A ++ B := by rw [eA, eB, List.take_append_drop]
  have fA := sum_facts A hA
  have fB := sum_facts B hB
  have rA := osum_range (a := 0 + wsum A)
  have rB := osum_range (a := 0 + wsum B)
  have mA := osum_mod (a := 0 + wsum A)
  have mB := osum_mod (a := 0 + wsum B)
  have pA := osum_pos (a := 0 + wsum A) (by omega)
  have pB := osum_pos (a := 0 + wsum B) (by omega)
  generalize osum (0 + wsum A) = a at *
  generalize osum (0 + wsum B) = b at *
  by_cases hc : (A.length : Int) % 2 = 1
  · rw [if_pos hc, e, wsum_oddA B (by omega)]
    have t := turned_mod rB.1 rB.2
    generalize b % 256 * 256 + b / 256 = b' at *
    refine osum_eq ?_ ?_ <;> omega
  · rw [if_neg hc, e, wsum_even B (by omega)]
    refine osum_eq ?_ ?_ <;> omega
theorem cut_eq2 {ks : List Int} {c : Int} (h : Oct ks) (h0 : 0 ≤ c) (h1 : c < (ks.length : Int) + 1) (h2 : c % 2 = 0) {A B : List Int} (eA : A = ks.take c.toNat) (eB : B = ks.drop c.toNat) (hl : (A.length : Int) = c) :
    osum (osum (0 + wsum A) + wsum B) = osum (0 + wsum ks) := by
  have hA : Oct A := eA ▸ oct_take h _
  have hB : Oct B := eB ▸ oct_drop h _
  have e : ks = A ++ B := by rw [eA, eB, List.take_append_drop]
  have fA := sum_facts A hA
  have fB := sum_facts B hB
  have rA := osum_range (a := 0 + wsum A)
  have mA := osum_mod (a := 0 + wsum A)
  have pA := osum_pos (a := 0 + wsum A) (by omega)
  generalize osum (0 + wsum A) = a at *
  rw [e, wsum_even B (by omega)]
  refine osum_eq ?_ ?_ <;> omega
theorem cut_eq3 {ks : List Int} {c : Int} (h : Oct ks) (h0 : 0 ≤ c) (h1 : c ≤ (ks.length : Int)) (h2 : c % 2 = 0) {A B C D : List Int} (eA : A = ks.take c.toNat) (eB : B = ks.drop c.toNat) (hl : (A.length : Int) = c) (hl2 : (B.length : Int) = (ks.length : Int) - c)
    (eC : C = B ++ List.replicate ((ks.length : Int) % 2).toNat 0) (lC : C.length = B.length + ((ks.length : Int) % 2).toNat) (eD : D = C ++ A) :
    osum (0 + wsum D) = osum (0 + wsum ks) := by
  have e : ks = A ++ B := by rw [eA, eB, List.take_append_drop]
  have z := zero_sums ((ks.length : Int) % 2).toNat
  have s1 : wsum ks = wsum A + wsum B := by rw [e]; exact wsum_even B (by omega)
  have s2 : wsum D = wsum C + wsum A := by rw [eD]; exact wsum_even A (by omega)
  have s3 : wsum C = wsum B := by
    rw [eC, (sum_append _ _).1, z.1, z.2]; split <;> omega
  rw [s1, s2, s3]; congr 1; omega

/-! the checksum behind -/
theorem full_even {ks fs : List Int} (l : fs.length = ks.length + ((ks.length : Int) % 2).toNat) : fs.length % 2 = 0 := by omega
theorem two_words (x : Int) (r : List Int) : wsum (x / 256 :: x % 256 :: r) = x + wsum r := by simp only [wsum]; omega
theorem chk2 {fs ss : List Int} (h : Oct fs) (he : fs.length % 2 = 0) (e : ss = fs ++ [(65535 - osum (0 + wsum fs)) / 256, (65535 - osum (0 + wsum fs)) % 256]) :
    osum (0 + wsum ss) = 65535 := by
  have f := sum_facts fs h
  have r := osum_range (a := 0 + wsum fs)
  have m := osum_mod (a := 0 + wsum fs)
  have p := osum_pos (a := 0 + wsum fs) (by omega)
  have s : wsum ss = wsum fs + (65535 - osum (0 + wsum fs)) := by
    rw [e, wsum_even _ he, two_words]; simp only [wsum]; omega
  rw [s]
  generalize osum (0 + wsum fs) = o at *
  have : osum (0 + (wsum fs + (65535 - o))) = osum 65535 := osum_eq (by omega) (by omega)
  rw [this]; decide
theorem pow8 {k : Int} (h0 : 0 ≤ k) (h1 : k < 8) : 1 ≤ (2 : Int) ^ k.toNat ∧ (2 : Int) ^ k.toNat ≤ 128 := by
  have h : k = 0 ∨ k = 1 ∨ k = 2 ∨ k = 3 ∨ k = 4 ∨ k = 5 ∨ k = 6 ∨ k = 7 := by omega
  rcases h with h | h | h | h | h | h | h | h <;> subst h <;> decide
theorem osum_full {a : Int} (h : osum a = 65535) : a % 65535 = 0 := by unfold osum at h; split at h <;> omega
theorem chk4 {ss es e1 e2 e3 : List Int} {bit z : Int} (hs : osum (0 + wsum ss) = 65535) (h0 : 0 ≤ bit) (h1 : bit < 8 * (ss.length : Int))
    (hz : z = ss.getD (bit / 8).toNat 0 + 2 ^ (bit % 8).toNat ∨ z = ss.getD (bit / 8).toNat 0 - 2 ^ (bit % 8).toNat)
    (q3 : e3 = ss.take (bit / 8).toNat) (q2 : e2 = e3 ++ [z]) (q1 : e1 = ss.drop (bit / 8 + 1).toNat) (q : es = e2 ++ e1) : osum (0 + wsum es) ≠ 65535 := by
  intro h
  have d1 := osum_full hs
  have d2 := osum_full h
  have hj : (bit / 8).toNat < ss.length := by omega
  have p := pow8 (k := bit % 8) (by omega) (by omega)
  have eg : ss.getD (bit / 8).toNat 0 = ss[(bit / 8).toNat] := by rw [List.getD_eq_getElem?_getD, List.getElem?_eq_getElem hj]; rfl
  have es1 : es = ss.take (bit / 8).toNat ++ (z :: ss.drop ((bit / 8).toNat + 1)) := by
    rw [q, q2, q3, q1, List.append_assoc, show (bit / 8 + 1).toNat = (bit / 8).toNat + 1 from by omega]; rfl
  have es2 : ss = ss.take (bit / 8).toNat ++ (ss[(bit / 8).toNat] :: ss.drop ((bit / 8).toNat + 1)) := by
    rw [← List.drop_eq_getElem_cons hj, List.take_append_drop]
  rw [eg] at hz
  have w1 := (sum_append (ss.take (bit / 8).toNat) (z :: ss.drop ((bit / 8).toNat + 1))).1
  have w2 := (sum_append (ss.take (bit / 8).toNat) (ss[(bit / 8).toNat] :: ss.drop ((bit / 8).toNat + 1))).1
  rw [← es1, wsum_cons, hsum_cons] at w1
  rw [← es2, wsum_cons, hsum_cons] at w2
  generalize ss[(bit / 8).toNat] = y at *
  generalize hsum (ss.drop ((bit / 8).toNat + 1)) = u at *
  generalize wsum (ss.drop ((bit / 8).toNat + 1)) = v at *
  generalize wsum (ss.take (bit / 8).toNat) = t at *
  generalize wsum es = x1 at *
  generalize wsum ss = x2 at *
  generalize (2 : Int) ^ (bit % 8).toNat = pw at *
  clear es1 es2 q q1 q2 q3 eg h hs h0 h1 hj
  split at w1 <;> (rename_i hc; first | rw [if_pos hc] at w2 | rw [if_neg hc] at w2) <;> rcases hz with hz | hz <;> omega
theorem adj_eq {fs later e3 e2 e1 : List Int} {at' new : Int} (h : Oct fs) (he : fs.length % 2 = 0) (h0 : 0 ≤ at') (h1 : at' < (fs.length : Int) / 2) (n0 : 0 ≤ new) (n1 : new ≤ 65535)
    (q3 : e3 = fs.take (2 * at').toNat) (q2 : e2 = e3 ++ [new / 256, new % 256]) (q1 : e1 = fs.drop (2 * at' + 2).toNat) (q : later = e2 ++ e1) (hn : num later ≠ 0) (hb : Oct later) :
    65535 - osum (65535 - (65535 - osum (0 + wsum fs)) + (65535 - (fs.getD (2 * at').toNat 0 * 256 + fs.getD (2 * at' + 1).toNat 0)) + new) = 65535 - osum (0 + wsum later) := by
  have hj : (2 * at').toNat < fs.length := by omega
  have hj2 : (2 * at').toNat + 1 < fs.length := by omega
  have g1 : fs.getD (2 * at').toNat 0 = fs[(2 * at').toNat] := by rw [List.getD_eq_getElem?_getD, List.getElem?_eq_getElem hj]; rfl
  have g2 : fs.getD (2 * at' + 1).toNat 0 = fs[(2 * at').toNat + 1] := by rw [show (2 * at' + 1).toNat = (2 * at').toNat + 1 from by omega, List.getD_eq_getElem?_getD, List.getElem?_eq_getElem hj2]; rfl
  have o1 := h _ (List.getElem_mem hj)
  have o2 := h _ (List.getElem_mem hj2)
  have es1 : later = fs.take (2 * at').toNat ++ (new / 256 :: new % 256 :: fs.drop ((2 * at').toNat + 1 + 1)) := by
    rw [q, q2, q3, q1, List.append_assoc, show (2 * at' + 2).toNat = (2 * at').toNat + 1 + 1 from by omega]; rfl
  have es2 : fs = fs.take (2 * at').toNat ++ (fs[(2 * at').toNat] :: fs[(2 * at').toNat + 1] :: fs.drop ((2 * at').toNat + 1 + 1)) := by
    rw [← List.drop_eq_getElem_cons hj2, ← List.drop_eq_getElem_cons hj, List.take_append_drop]
  have hl : (fs.take (2 * at').toNat).length % 2 = 0 := by rw [List.length_take]; omega
  have w1 := wsum_even (new / 256 :: new % 256 :: fs.drop ((2 * at').toNat + 1 + 1)) hl
  have w2 := wsum_even (fs[(2 * at').toNat] :: fs[(2 * at').toNat + 1] :: fs.drop ((2 * at').toNat + 1 + 1)) hl
  rw [← es1, two_words] at w1
  rw [← es2] at w2
  simp only [wsum] at w2
  have f := sum_facts fs h
  have r := osum_range (a := 0 + wsum fs)
  have m := osum_mod (a := 0 + wsum fs)
  have p := osum_pos (a := 0 + wsum fs) (by omega)
  have gl := num_mod hb
  have fl := sum_facts later hb
  have ft := sum_facts _ (oct_take h (2 * at').toNat)
  have fd := sum_facts _ (oct_drop h ((2 * at').toNat + 1 + 1))
  have pn : 0 ≤ num later := by
    unfold num bnum
    have := (bnum_bound _ later rfl hb).1
    unfold bnum at this
    split <;> omega
  rw [g1, g2]
  congr 1
  generalize osum (0 + wsum fs) = o at *
  generalize fs[(2 * at').toNat] = y1 at *
  generalize fs[(2 * at').toNat + 1] = y2 at *
  refine osum_eq ?_ ?_ <;> omega

theorem cut_no1 {ks A B : List Int} {c : Int} (hne : osum (osum (0 + wsum A) + if (A.length : Int) % 2 = 1 then osum (0 + wsum B) % 256 * 256 + osum (0 + wsum B) / 256 else osum (0 + wsum B)) ≠ osum (0 + wsum ks))
    (eA : A = ks.take c.toNat) (eB : B = ks.drop c.toNat) (hl : (A.length : Int) = c) (h0 : 0 ≤ c) (h1 : c < (ks.length : Int) + 1) (h : Oct ks) : False :=
  hne (cut_eq1 h h0 h1 eA eB hl)
theorem cut_no2 {ks A B : List Int} {c : Int} (hne : osum (osum (0 + wsum A) + wsum B) ≠ osum (0 + wsum ks))
    (eA : A = ks.take c.toNat) (eB : B = ks.drop c.toNat) (hl : (A.length : Int) = c) (h0 : 0 ≤ c) (h1 : c < (ks.length : Int) + 1) (h2 : c % 2 = 0) (h : Oct ks) : False :=
  hne (cut_eq2 h h0 h1 h2 eA eB hl)
theorem cut_yes {ks A B C D : List Int} {c : Int} (eD : D = C ++ A) (eC : C = B ++ List.replicate ((ks.length : Int) % 2).toNat 0) (lC : C.length = B.length + ((ks.length : Int) % 2).toNat)
    (eA : A = ks.take c.toNat) (eB : B = ks.drop c.toNat) (hl : (A.length : Int) = c) (hl2 : (B.length : Int) = (ks.length : Int) - c) (h0 : 0 ≤ c) (h1 : c ≤ (ks.length : Int)) (h2 : c % 2 = 0) (h : Oct ks) :
    (osum (0 + wsum D) == osum (0 + wsum ks)) = true :=
  beq_iff_eq.mpr (cut_eq3 h h0 h1 h2 eA eB hl hl2 eC lC eD)
theorem chk_no1 {d : Array UInt8} {fs : List Int} (hne : 65535 - osum (0 + wsum fs) ≠ 65535 - osum (num fs)) (hb : KBw.bInts d = fs) : False :=
  hne (by rw [law_num0 (oct_of hb)])
theorem chk_no2 {d : Array UInt8} {ks fs ss : List Int} (hne : osum (0 + wsum ss) ≠ 65535) (e : ss = fs ++ [(65535 - osum (0 + wsum fs)) / 256, (65535 - osum (0 + wsum fs)) % 256]) (l : fs.length = ks.length + ((ks.length : Int) % 2).toNat) (hb : KBw.bInts d = fs) : False :=
  hne (chk2 (oct_of hb) (full_even l) e)
theorem chk_no4 {ss es e1 e2 e3 : List Int} {bit z : Int} (h : osum (0 + wsum es) = 65535) (q : es = e2 ++ e1) (q1 : e1 = ss.drop (bit / 8 + 1).toNat) (q2 : e2 = e3 ++ [z]) (q3 : e3 = ss.take (bit / 8).toNat)
    (hz : z = ss.getD (bit / 8).toNat 0 + 2 ^ (bit % 8).toNat ∨ z = ss.getD (bit / 8).toNat 0 - 2 ^ (bit % 8).toNat) (hs : osum (0 + wsum ss) = 65535) (h0 : 0 ≤ bit) (h1 : bit < 8 * (ss.length : Int)) : False :=
  chk4 hs h0 h1 hz q3 q2 q1 q h
theorem chk_no3 {ss : List Int} (hne : 65535 - osum (0 + wsum ss) ≠ 0) (h : osum (0 + wsum ss) = 65535) : False := hne (by rw [h]; rfl)
theorem law_no1 {d : Array UInt8} {ks : List Int} (hne : osum (0 + wsum ks) ≠ osum (num ks)) (hb : KBw.bInts d = ks) : False := hne (law_num0 (oct_of hb))
theorem law_no2 {d : Array UInt8} {ks : List Int} {n : Int} (hne : osum (n + wsum ks) ≠ osum (n + num ks)) (hb : KBw.bInts d = ks) (h0 : 0 ≤ n) : False := hne (law_num n (oct_of hb) h0)
end Mine
end

section
open PySem PySem.W PyProof.Rows
set_option maxRecDepth 100000
namespace Mine
set_option maxHeartbeats 8000000 in
theorem c_fold (news : List (Addr × Obj)) (n : Int) (t : Tok) : Con 21 1 news (0 ≤ n) [.int n t] (fun _ : Tok => news) (fun t' => .int (osum n) t') (fun _ => 0 ≤ osum n ∧ osum n ≤ 65535) := by
  w_top off
  k_with_none
  unfold Con
  k_fill
  intro w mean mg mb dp un gd cn cs a ccd cl outer A₀ base h₀ L m s Q E B F X N T hk hp hd hu hret
  refine wpAny_call ?_
  k_dflt (refine' code_def ?k1 ?k2 ?k3 ?k4 ?k5 ?kA ?kF ?kK ?k6 ?k7 ?k8 ?k9 ?kB ?_ ?c2 ?c3 ?c4 ?c5; (case kA => exact rfl); (case kF => exact rfl); (case kK => assumption); (case k1 => k_asm); (case k2 => k_asm); (case k3 => k_asm); (case k4 => k_asm); (case k5 => k_asm); (case k6 => k_is); (case k7 => k_is); (case k8 => ktr_room); (case k9 => first | exact BindsTo.of_eq rfl | exact binds_K (by k_in) rfl (by k_is) rfl rfl rfl); (case c5 => decide); (case kB => exact locs rfl); (case c2 => exact rfl); (case c3 => exact rfl); (case c4 => exact rfl); k_whole; intro g' L' h' FG' F' N' B' X' T'; (try dsimp only); (try k_lift B'); (try k_fold))
  k_with "exec While Compare cons nil" => k_while (fun _ k => 0 ≤ k ∧ osum k = osum n) (fun _ k => k.toNat) "total"
  k_with "state" => first | exact ⟨hp, rfl⟩ | exact fold_step (by assumption) (by assumption)
  k_with "measure" => exact fold_less (by assumption)
  k_steps
  exact con_retI hret _ (congrArg (fun z => Value.int z _) (fold_done (by assumption) (by assumption) (by assumption))) osum_range (by k_asm) (by k_asm) (fun _ h => h)

local macro_rules | `(tactic| walk_at "call ref") => `(tactic| (k_here; (with_reducible show wpAny _ _ (call (Value.ref 21) _) _ _ _); k_dflt (refine' con_use (c_fold _ _ _) ?k1 ?k2 ?k3 ?k4 ?k5 ?kK ?kp ?kd ?ku ?kR; (case k1 => k_asm); (case k2 => k_asm); (case k3 => k_asm); (case k4 => k_asm); (case k5 => k_asm); (case kK => first | exact rfl | assumption); (case kp => ((try dsimp only); first | assumption | omega | k_extra "pre" | (simp_all; done))); (case kd => ktr_room); (case ku => ktr_units); intro x9 h9 tk9 hf9 F9 N9; (try dsimp only); (try k_fold))))
set_option maxHeartbeats 8000000 in
theorem c_turned (news : List (Addr × Obj)) (n : Int) (t : Tok) : Con 28 1 news (0 ≤ n ∧ n ≤ 65535) [.int n t] (fun _ : Tok => news) (fun t' => .int (n % 256 * 256 + n / 256) t') (fun _ => True) := by
  w_top off
  k_with_none
  unfold Con
  k_fill
  intro w mean mg mb dp un gd cn cs a ccd cl outer A₀ base h₀ L m s Q E B F X N T hk hp hd hu hret
  obtain ⟨hb0, hb1⟩ := bitAnd_range n (y := 255) (by decide)
  refine wpAny_call ?_
  k_dflt (refine' code_def ?k1 ?k2 ?k3 ?k4 ?k5 ?kA ?kF ?kK ?k6 ?k7 ?k8 ?k9 ?kB ?_ ?c2 ?c3 ?c4 ?c5; (case kA => exact rfl); (case kF => exact rfl); (case kK => assumption); (case k1 => k_asm); (case k2 => k_asm); (case k3 => k_asm); (case k4 => k_asm); (case k5 => k_asm); (case k6 => k_is); (case k7 => k_is); (case k8 => ktr_room); (case k9 => first | exact BindsTo.of_eq rfl | exact binds_K (by k_in) rfl (by k_is) rfl rfl rfl); (case c5 => decide); (case kB => exact locs rfl); (case c2 => exact rfl); (case c3 => exact rfl); (case c4 => exact rfl); k_whole; intro g' L' h' FG' F' N' B' X' T'; (try dsimp only); (try k_lift B'); (try k_fold))
  k_steps
  exact con_retI hret _ (congrArg (fun z => Value.int z _) (turned_eq hp.1 hp.2)) trivial (by k_asm) (by k_asm) (fun _ h => h)

end Mine
end

section
open PySem PySem.W PyProof.Rows
set_option maxRecDepth 100000
namespace Mine
local macro_rules | `(tactic| walk_at "call ref") => `(tactic| (k_here; (with_reducible show wpAny _ _ (call (Value.ref 21) _) _ _ _); k_dflt (refine' con_use (c_fold _ _ _) ?k1 ?k2 ?k3 ?k4 ?k5 ?kK ?kp ?kd ?ku ?_; (case k1 => k_asm); (case k2 => k_asm); (case k3 => k_asm); (case k4 => k_asm); (case k5 => k_asm); (case kK => first | exact rfl | assumption); (case kp => ((try dsimp only); first | assumption | omega | k_extra "pre" | (simp_all; done))); (case kd => ktr_room); (case ku => ktr_units); intro x9 h9 tk9 hf9 F9 N9; (try dsimp only); (try k_fold))))
set_option maxHeartbeats 8000000 in
theorem c_ones (news : List (Addr × Obj)) (b : Array UInt8) (tb : Tok) (n : Int) (t : Tok) (ks : List Int) : Con 36 2 news (0 ≤ n ∧ n ≤ 65535 ∧ KBw.bInts b = ks ∧ ks.length ≤ 24) [.bytes b tb, .int n t] (fun _ : Tok => news) (fun t' => .int (osum (n + wsum ks)) t') (fun _ => 0 ≤ osum (n + wsum ks) ∧ osum (n + wsum ks) ≤ 65535) := by
  w_top off
  k_with_none
  unfold Con
  k_fill
  intro w mean mg mb dp un gd cn cs a ccd cl outer A₀ base h₀ L m s Q E B F X N T hk hp hd hu hret
  obtain ⟨hn0, hn1, hb, hlen⟩ := hp
  have hin : ∀ x ∈ ks, 0 ≤ x ∧ x < 256 := fun x hx => KBw.ints_in (hb ▸ hx)
  have kMark := kstMark
  refine wpAny_call ?_
  k_dflt (refine' code_def ?k1 ?k2 ?k3 ?k4 ?k5 ?kA ?kF ?kK ?k6 ?k7 ?k8 ?k9 ?kB ?_ ?c2 ?c3 ?c4 ?c5; (case kA => exact rfl); (case kF => exact rfl); (case kK => assumption); (case k1 => k_asm); (case k2 => k_asm); (case k3 => k_asm); (case k4 => k_asm); (case k5 => k_asm); (case k6 => k_is); (case k7 => k_is); (case k8 => ktr_room); (case k9 => first | exact BindsTo.of_eq rfl | exact binds_K (by k_in) rfl (by k_is) rfl rfl rfl); (case c5 => decide); (case kB => exact locs rfl); (case c2 => exact rfl); (case c3 => exact rfl); (case c4 => exact rfl); k_whole; intro g' L' h' FG' F' N' B' X' T'; (try dsimp only); (try k_lift B'); (try k_fold))
  k_with "pyIter ref" => ((rename Fr _ _ _ _ => lF'); (rename News _ _ _ _ => lN'); (rename IsRange _ _ _ _ _ _ _ _ => rgX); (with_unfolding_all refine' range2 (σ := Int × Nat) (fun _ => news) (fun c => [(Str.ofString "total", Value.int c.1 c.2)]) (fun _ => True) [] (fun pre c => c.1 = n + wsum (ks.take (2 * pre.length))) (n, t) (by rfl) rgX ?ka ?kb lF' lN' trivial ?kk ?kp ?kturn ?kdone); (case ka => (have := even_eq ks.length; omega)); (case kb => (have := even_eq ks.length; omega)); (case kk => kst_all); (case kp => simp [wsum]); clear lF' lN'; (case' kturn => (rintro ⟨kTot, kTotT⟩ kPre kN kT kU kH kTk kOwn kEq kLt kOff kFacts kInv kFr kNews; (obtain ⟨kN0, kN1⟩ := ones_lt kEq kLt); (try dsimp only at kInv); (try dsimp only [kstB] at kFr); (try dsimp only at kNews))); (case' kdone => (rintro ⟨kTot, kTotT⟩ kPre kU kH kTk kLen kFacts kInv kFr kNews; (have hwn := wsum_nonneg (ks.take (2 * kPre.length)) (fun x hx => hin x (List.mem_of_mem_take hx))); (try dsimp only at kInv); (try dsimp only [kstB] at kFr); (try dsimp only at kNews))); (all_goals (try k_fold)))
  k_with "state" => exact ones_turn hin (by assumption) (by assumption) (by assumption)
  k_with "pre" => (rw [pow2_toNat_8]; omega)
  k_steps
  · exact con_retI hret _ (congrArg (fun z => Value.int (osum z) _) (ones_odd (by assumption) (by assumption) (by assumption))) osum_range (by k_asm) (by k_asm) (fun _ h => h)
  · exact con_retI hret _ (congrArg (fun z => Value.int (osum z) _) (ones_even (by assumption) (by assumption) (by assumption))) osum_range (by k_asm) (by k_asm) (fun _ h => h)

set_option maxHeartbeats 8000000 in
theorem c_ones1 (news : List (Addr × Obj)) (b : Array UInt8) (tb : Tok) (ks : List Int) : Con 36 2 news (0 ≤ (0 : Int) ∧ (0 : Int) ≤ 65535 ∧ KBw.bInts b = ks ∧ ks.length ≤ 24) [.bytes b tb] (fun _ : Tok => news) (fun t' => .int (osum ((0 : Int) + wsum ks)) t') (fun _ => 0 ≤ osum ((0 : Int) + wsum ks) ∧ osum ((0 : Int) + wsum ks) ≤ 65535) := by
  w_top off
  k_with_none
  unfold Con
  k_fill
  intro w mean mg mb dp un gd cn cs a ccd cl outer A₀ base h₀ L m s Q E B F X N T hk hp hd hu hret
  obtain ⟨hn0, hn1, hb, hlen⟩ := hp
  have hin : ∀ x ∈ ks, 0 ≤ x ∧ x < 256 := fun x hx => KBw.ints_in (hb ▸ hx)
  have kMark := kstMark
  refine wpAny_call ?_
  k_dflt (refine' code_def ?k1 ?k2 ?k3 ?k4 ?k5 ?kA ?kF ?kK ?k6 ?k7 ?k8 ?k9 ?kB ?_ ?c2 ?c3 ?c4 ?c5; (case kA => exact rfl); (case kF => exact rfl); (case kK => assumption); (case k1 => k_asm); (case k2 => k_asm); (case k3 => k_asm); (case k4 => k_asm); (case k5 => k_asm); (case k6 => k_is); (case k7 => k_is); (case k8 => ktr_room); (case k9 => first | exact BindsTo.of_eq rfl | exact binds_K (by k_in) rfl (by k_is) rfl rfl rfl); (case c5 => decide); (case kB => exact locs rfl); (case c2 => exact rfl); (case c3 => exact rfl); (case c4 => exact rfl); k_whole; intro g' L' h' FG' F' N' B' X' T'; (try dsimp only); (try k_lift B'); (try k_fold))
  k_with "pyIter ref" => ((rename Fr _ _ _ _ => lF'); (rename News _ _ _ _ => lN'); (rename IsRange _ _ _ _ _ _ _ _ => rgX); (with_unfolding_all refine' range2 (σ := Int × Nat) (fun _ => news) (fun c => [(Str.ofString "total", Value.int c.1 c.2)]) (fun _ => True) [] (fun pre c => c.1 = (0 : Int) + wsum (ks.take (2 * pre.length))) ((0 : Int), 205) (by rfl) rgX ?ka ?kb lF' lN' trivial ?kk ?kp ?kturn ?kdone); (case ka => (have := even_eq ks.length; omega)); (case kb => (have := even_eq ks.length; omega)); (case kk => kst_all); (case kp => simp [wsum]); clear lF' lN'; (case' kturn => (rintro ⟨kTot, kTotT⟩ kPre kN kT kU kH kTk kOwn kEq kLt kOff kFacts kInv kFr kNews; (obtain ⟨kN0, kN1⟩ := ones_lt kEq kLt); (try dsimp only at kInv); (try dsimp only [kstB] at kFr); (try dsimp only at kNews))); (case' kdone => (rintro ⟨kTot, kTotT⟩ kPre kU kH kTk kLen kFacts kInv kFr kNews; (have hwn := wsum_nonneg (ks.take (2 * kPre.length)) (fun x hx => hin x (List.mem_of_mem_take hx))); (try dsimp only at kInv); (try dsimp only [kstB] at kFr); (try dsimp only at kNews))); (all_goals (try k_fold)))
  k_with "state" => exact ones_turn hin (by assumption) (by assumption) (by assumption)
  k_with "pre" => (rw [pow2_toNat_8]; omega)
  k_steps
  · exact con_retI hret _ (congrArg (fun z => Value.int (osum z) _) (ones_odd (by assumption) (by assumption) (by assumption))) osum_range (by k_asm) (by k_asm) (fun _ h => h)
  · exact con_retI hret _ (congrArg (fun z => Value.int (osum z) _) (ones_even (by assumption) (by assumption) (by assumption))) osum_range (by k_asm) (by k_asm) (fun _ h => h)

end Mine
end

section
open PySem PySem.W PyProof.Rows
set_option maxRecDepth 100000
namespace Mine
local macro_rules | `(tactic| walk_at "call ref") => `(tactic| (k_here; (with_reducible show wpAny _ _ (call (Value.ref 21) _) _ _ _); k_dflt (refine' con_use (c_fold _ _ _) ?k1 ?k2 ?k3 ?k4 ?k5 ?kK ?kp ?kd ?ku ?_; (case k1 => k_asm); (case k2 => k_asm); (case k3 => k_asm); (case k4 => k_asm); (case k5 => k_asm); (case kK => first | exact rfl | assumption); (case kp => ((try dsimp only); first | assumption | omega | k_extra "pre" | (simp_all; done))); (case kd => ktr_room); (case ku => ktr_units); intro x9 h9 tk9 hf9 F9 N9; (try dsimp only); (try k_fold))))
local macro_rules | `(tactic| walk_at "call ref") => `(tactic| (k_here; (with_reducible show wpAny _ _ (call (Value.ref 28) _) _ _ _); k_dflt (refine' con_use (c_turned _ _ _) ?k1 ?k2 ?k3 ?k4 ?k5 ?kK ?kp ?kd ?ku ?_; (case k1 => k_asm); (case k2 => k_asm); (case k3 => k_asm); (case k4 => k_asm); (case k5 => k_asm); (case kK => first | exact rfl | assumption); (case kp => ((try dsimp only); first | assumption | omega | k_extra "pre" | (simp_all; done))); (case kd => ktr_room); (case ku => ktr_units); intro x9 h9 tk9 hf9 F9 N9; (try dsimp only); (try k_fold))))
local macro_rules | `(tactic| walk_at "call ref") => `(tactic| (k_here; (with_reducible show wpAny _ _ (call (Value.ref 36) [_, _]) _ _ _); k_dflt (refine' con_use (c_ones _ _ _ _ _ _) ?k1 ?k2 ?k3 ?k4 ?k5 ?kK ?kp ?kd ?ku ?_; (case k1 => k_asm); (case k2 => k_asm); (case k3 => k_asm); (case k4 => k_asm); (case k5 => k_asm); (case kK => first | exact rfl | assumption); (case kp => ((try dsimp only); (refine ⟨?p1, ?p2, ?p3, ?p4⟩; (case p3 => kba_ints2); (case p1 => omega); (case p2 => omega); (case p4 => ((try simp only [List.length_append, List.length_take, List.length_drop, List.length_cons, List.length_nil, List.length_map, List.length_replicate]); first | omega | k_extra "len"))))); (case kd => ktr_room); (case ku => ktr_units); intro x9 h9 tk9 hf9 F9 N9; (try dsimp only); (try k_fold))))
local macro_rules | `(tactic| walk_at "call ref") => `(tactic| (k_here; (with_reducible show wpAny _ _ (call (Value.ref 36) [_]) _ _ _); k_dflt (refine' con_use (c_ones1 _ _ _ _) ?k1 ?k2 ?k3 ?k4 ?k5 ?kK ?kp ?kd ?ku ?_; (case k1 => k_asm); (case k2 => k_asm); (case k3 => k_asm); (case k4 => k_asm); (case k5 => k_asm); (case kK => first | exact rfl | assumption); (case kp => ((try dsimp only); (refine ⟨?p1, ?p2, ?p3, ?p4⟩; (case p3 => kba_ints2); (case p1 => omega); (case p2 => omega); (case p4 => ((try simp only [List.length_append, List.length_take, List.length_drop, List.length_cons, List.length_nil, List.length_map, List.length_replicate]); first | omega | k_extra "len"))))); (case kd => ktr_room); (case ku => ktr_units); intro x9 h9 tk9 hf9 F9 N9; (try dsimp only); (try k_fold))))
set_option maxHeartbeats 8000000 in
theorem c_check (news : List (Addr × Obj)) (b : Array UInt8) (tb : Tok) (ks : List Int) : Con 44 3 news (KBw.bInts b = ks ∧ ks.length ≤ 24) [.bytes b tb] (fun _ : Tok => news) (fun t' => .int (65535 - osum (0 + wsum ks)) t') (fun _ => 0 ≤ osum (0 + wsum ks) ∧ osum (0 + wsum ks) ≤ 65535) := by
  w_top off
  k_with_none
  unfold Con
  k_fill
  intro w mean mg mb dp un gd cn cs a ccd cl outer A₀ base h₀ L m s Q E B F X N T hk hp hd hu hret
  obtain ⟨hb, hlen⟩ := hp
  refine wpAny_call ?_
  k_dflt (refine' code_def ?k1 ?k2 ?k3 ?k4 ?k5 ?kA ?kF ?kK ?k6 ?k7 ?k8 ?k9 ?kB ?_ ?c2 ?c3 ?c4 ?c5; (case kA => exact rfl); (case kF => exact rfl); (case kK => assumption); (case k1 => k_asm); (case k2 => k_asm); (case k3 => k_asm); (case k4 => k_asm); (case k5 => k_asm); (case k6 => k_is); (case k7 => k_is); (case k8 => ktr_room); (case k9 => first | exact BindsTo.of_eq rfl | exact binds_K (by k_in) rfl (by k_is) rfl rfl rfl); (case c5 => decide); (case kB => exact locs rfl); (case c2 => exact rfl); (case c3 => exact rfl); (case c4 => exact rfl); k_whole; intro g' L' h' FG' F' N' B' X' T'; (try dsimp only); (try k_lift B'); (try k_fold))
  k_steps
  all_goals exact con_retI hret _ (congrArg (fun z => Value.int z _) (by first | exact rfl)) osum_range (by k_asm) (by k_asm) (fun _ h => h)

set_option maxHeartbeats 8000000 in
theorem c_join (news : List (Addr × Obj)) (a1 : Int) (t1 : Tok) (z : Int) (t2 : Tok) (a2 : Int) (t3 : Tok) : Con 51 2 news (0 ≤ a1 ∧ a1 ≤ 65535 ∧ 0 ≤ a2 ∧ a2 ≤ 65535) [.int a1 t1, .int z t2, .int a2 t3] (fun _ : Tok => news) (fun t' => .int (osum (a1 + if z % 2 = 1 then a2 % 256 * 256 + a2 / 256 else a2)) t') (fun _ => True) := by
  w_top off
  k_with_none
  unfold Con
  k_fill
  intro w mean mg mb dp un gd cn cs a ccd cl outer A₀ base h₀ L m s Q E B F X N T hk hp hd hu hret
  obtain ⟨ha0, ha1, hb0, hb1⟩ := hp
  refine wpAny_call ?_
  k_dflt (refine' code_def ?k1 ?k2 ?k3 ?k4 ?k5 ?kA ?kF ?kK ?k6 ?k7 ?k8 ?k9 ?kB ?_ ?c2 ?c3 ?c4 ?c5; (case kA => exact rfl); (case kF => exact rfl); (case kK => assumption); (case k1 => k_asm); (case k2 => k_asm); (case k3 => k_asm); (case k4 => k_asm); (case k5 => k_asm); (case k6 => k_is); (case k7 => k_is); (case k8 => ktr_room); (case k9 => first | exact BindsTo.of_eq rfl | exact binds_K (by k_in) rfl (by k_is) rfl rfl rfl); (case c5 => decide); (case kB => exact locs rfl); (case c2 => exact rfl); (case c3 => exact rfl); (case c4 => exact rfl); k_whole; intro g' L' h' FG' F' N' B' X' T'; (try dsimp only); (try k_lift B'); (try k_fold))
  k_steps
  all_goals exact con_retI hret _ (congrArg (fun z => Value.int z _) (by first | exact join_odd (by assumption) | exact join_even (by assumption))) trivial (by k_asm) (by k_asm) (fun _ h => h)

set_option maxHeartbeats 8000000 in
theorem c_adj (news : List (Addr × Obj)) (a1 : Int) (t1 : Tok) (z : Int) (t2 : Tok) (a2 : Int) (t3 : Tok) : Con 58 2 news (a1 ≤ 65535 ∧ z ≤ 65535 ∧ 0 ≤ a2) [.int a1 t1, .int z t2, .int a2 t3] (fun _ : Tok => news) (fun t' => .int (65535 - osum (65535 - a1 + (65535 - z) + a2)) t') (fun _ => True) := by
  w_top off
  k_with_none
  unfold Con
  k_fill
  intro w mean mg mb dp un gd cn cs a ccd cl outer A₀ base h₀ L m s Q E B F X N T hk hp hd hu hret
  obtain ⟨ha0, ha1, hb0⟩ := hp
  refine wpAny_call ?_
  k_dflt (refine' code_def ?k1 ?k2 ?k3 ?k4 ?k5 ?kA ?kF ?kK ?k6 ?k7 ?k8 ?k9 ?kB ?_ ?c2 ?c3 ?c4 ?c5; (case kA => exact rfl); (case kF => exact rfl); (case kK => assumption); (case k1 => k_asm); (case k2 => k_asm); (case k3 => k_asm); (case k4 => k_asm); (case k5 => k_asm); (case k6 => k_is); (case k7 => k_is); (case k8 => ktr_room); (case k9 => first | exact BindsTo.of_eq rfl | exact binds_K (by k_in) rfl (by k_is) rfl rfl rfl); (case c5 => decide); (case kB => exact locs rfl); (case c2 => exact rfl); (case c3 => exact rfl); (case c4 => exact rfl); k_whole; intro g' L' h' FG' F' N' B' X' T'; (try dsimp only); (try k_lift B'); (try k_fold))
  k_steps
  all_goals exact con_retI hret _ (congrArg (fun z => Value.int z _) (by first | exact rfl)) trivial (by k_asm) (by k_asm) (fun _ h => h)

set_option maxHeartbeats 8000000 in
theorem c_pseudo (news : List (Addr × Obj)) (a1 : Int) (t1 : Tok) (a2 : Int) (t2 : Tok) (a3 : Int) (t3 : Tok) (a4 : Int) (t4 : Tok) : Con 65 2 news (0 ≤ a1 ∧ 0 ≤ a2 ∧ 0 ≤ a3 ∧ 0 ≤ a4) [.int a1 t1, .int a2 t2, .int a3 t3, .int a4 t4] (fun _ : Tok => news) (fun t' => .int (osum (a1 / 65536 + a1 % 65536 + (a2 / 65536 + a2 % 65536) + a3 + a4 / 65536 + a4 % 65536)) t') (fun _ => True) := by
  w_top off
  k_with_none
  unfold Con
  k_fill
  intro w mean mg mb dp un gd cn cs a ccd cl outer A₀ base h₀ L m s Q E B F X N T hk hp hd hu hret
  obtain ⟨ha0, ha1, hb0, hb1⟩ := hp
  refine wpAny_call ?_
  k_dflt (refine' code_def ?k1 ?k2 ?k3 ?k4 ?k5 ?kA ?kF ?kK ?k6 ?k7 ?k8 ?k9 ?kB ?_ ?c2 ?c3 ?c4 ?c5; (case kA => exact rfl); (case kF => exact rfl); (case kK => assumption); (case k1 => k_asm); (case k2 => k_asm); (case k3 => k_asm); (case k4 => k_asm); (case k5 => k_asm); (case k6 => k_is); (case k7 => k_is); (case k8 => ktr_room); (case k9 => first | exact BindsTo.of_eq rfl | exact binds_K (by k_in) rfl (by k_is) rfl rfl rfl); (case c5 => decide); (case kB => exact locs rfl); (case c2 => exact rfl); (case c3 => exact rfl); (case c4 => exact rfl); k_whole; intro g' L' h' FG' F' N' B' X' T'; (try dsimp only); (try k_lift B'); (try k_fold))
  k_with "pre" => exact pseudo_pre (by assumption) (by assumption) (by assumption) (by assumption)
  k_steps
  all_goals exact con_retI hret _ (congrArg (fun z => Value.int z _) (by first | exact pseudo_eq)) trivial (by k_asm) (by k_asm) (fun _ h => h)

set_option maxHeartbeats 8000000 in
theorem c_lsum (news : List (Addr × Obj)) (n : Int) (t : Tok) : Con 100 1 news (0 ≤ n) [.int n t] (fun _ : Tok => news) (fun t' => .int (osum n) t') (fun _ => True) := by
  w_top off
  k_with_none
  unfold Con
  k_fill
  intro w mean mg mb dp un gd cn cs a ccd cl outer A₀ base h₀ L m s Q E B F X N T hk hp hd hu hret
  refine wpAny_call ?_
  k_dflt (refine' code_def ?k1 ?k2 ?k3 ?k4 ?k5 ?kA ?kF ?kK ?k6 ?k7 ?k8 ?k9 ?kB ?_ ?c2 ?c3 ?c4 ?c5; (case kA => exact rfl); (case kF => exact rfl); (case kK => assumption); (case k1 => k_asm); (case k2 => k_asm); (case k3 => k_asm); (case k4 => k_asm); (case k5 => k_asm); (case k6 => k_is); (case k7 => k_is); (case k8 => ktr_room); (case k9 => first | exact BindsTo.of_eq rfl | exact binds_K (by k_in) rfl (by k_is) rfl rfl rfl); (case c5 => decide); (case kB => exact locs rfl); (case c2 => exact rfl); (case c3 => exact rfl); (case c4 => exact rfl); k_whole; intro g' L' h' FG' F' N' B' X' T'; (try dsimp only); (try k_lift B'); (try k_fold))
  k_steps
  all_goals exact con_retI hret _ (congrArg (fun z => Value.int z _) (by first | exact lsum1 (by assumption) (by assumption) | exact lsum2 (by assumption) | exact lsum3 (by assumption))) trivial (by k_asm) (by k_asm) (fun _ h => h)

end Mine
end

section
open PySem PySem.W PyProof.Rows
set_option maxRecDepth 100000
namespace Mine
set_option maxHeartbeats 8000000 in
theorem c_number (news : List (Addr × Obj)) (b : Array UInt8) (tb : Tok) (ks : List Int) : Con 93 1 news (KBw.bInts b = ks ∧ ks.length ≤ 24) [.bytes b tb] (fun _ : Tok => news) (fun t' => .int (num ks) t') (fun _ => 0 ≤ num ks ∧ num ks < 2 ^ 200) := by
  w_top off
  k_with_none
  unfold Con
  k_fill
  intro w mean mg mb dp un gd cn cs a ccd cl outer A₀ base h₀ L m s Q E B F X N T hk hp hd hu hret
  obtain ⟨hb, hlen⟩ := hp
  have hin : ∀ x ∈ ks, 0 ≤ x ∧ x < 256 := fun x hx => KBw.ints_in (hb ▸ hx)
  refine wpAny_call ?_
  k_dflt (refine' code_def ?k1 ?k2 ?k3 ?k4 ?k5 ?kA ?kF ?kK ?k6 ?k7 ?k8 ?k9 ?kB ?_ ?c2 ?c3 ?c4 ?c5; (case kA => exact rfl); (case kF => exact rfl); (case kK => assumption); (case k1 => k_asm); (case k2 => k_asm); (case k3 => k_asm); (case k4 => k_asm); (case k5 => k_asm); (case k6 => k_is); (case k7 => k_is); (case k8 => ktr_room); (case k9 => first | exact BindsTo.of_eq rfl | exact binds_K (by k_in) rfl (by k_is) rfl rfl rfl); (case c5 => decide); (case kB => exact locs rfl); (case c2 => exact rfl); (case c3 => exact rfl); (case c4 => exact rfl); k_whole; intro g' L' h' FG' F' N' B' X' T'; (try dsimp only); (try k_lift B'); (try k_fold))
  k_with "pyIter bytes" => k_state (fun pre a => a = bnum pre ∧ 0 ≤ a ∧ a < 2 ^ 192) "number"
  k_with "state" => first | exact ⟨rfl, by decide, by decide⟩ | exact num_turn hlen hin (by assumption) (by assumption)
  k_steps
  all_goals exact con_retI hret _ (congrArg (fun z => Value.int z _) (by first | exact num_odd (by assumption) (by assumption) | exact num_even (by assumption) (by assumption))) (num_fit hlen hin) (by k_asm) (by k_asm) (fun _ h => h)

local macro_rules | `(tactic| walk_at "subscriptTail Name Constant ref int") => `(tactic| (k_here; (with_reducible show wpAny _ _ (subscriptTail _ _ (Value.ref _) (Value.int _ _)) _ _ _); k_dflt (with_unfolding_all refine' item_litK ?k1 ?k2 ?k3 ?k4 ?_ ?k6; (case k1 => exact News.isList (by k_asm) (by k_mem)); (case k2 => decide); (case k3 => decide); (case k4 => rfl); (case k6 => with_unfolding_all rfl); k_whole)))
local macro_rules | `(tactic| walk_at "binaryOp FloorDiv int int") => `(tactic| (with_reducible refine fdiv_by ?_ ?_ ?_; first | decide | omega; first | decide | omega))
local macro_rules | `(tactic| walk_at "binaryOp Mod int int") => `(tactic| (with_reducible refine mod_by ?_ ?_ ?_; first | decide | omega; first | decide | omega; intro mLo mHi))
set_option maxHeartbeats 8000000 in
theorem c_take0 (sa : Addr) (n : Nat) (p : Int) (tp : Tok) (q : Int) (tq : Tok) (rest : List (Addr × Obj)) (top : Int) (tt : Tok) : Con 79 1 ((sa, listOf [Value.int p tp, Value.int q tq].toArray n) :: rest) (OwnOff rest [sa] ∧ 0 ≤ p ∧ 0 ≤ q ∧ q < 2147483647 ∧ 1 ≤ top ∧ top < 2 ^ 40) [.ref sa, .int top tt] (fun x : Int × Tok × Int × Tok × Int × Tok => (sa, listOf [Value.int x.2.2.1 x.2.2.2.1, Value.int x.2.2.2.2.1 x.2.2.2.2.2].toArray n) :: rest) (fun x => .int x.1 x.2.1) (fun x => 0 ≤ x.1 ∧ x.1 < top ∧ 0 ≤ x.2.2.1 ∧ 0 ≤ x.2.2.2.2.1 ∧ x.2.2.2.2.1 < 2147483647) := by
  w_top off
  k_with_none
  unfold Con
  k_fill
  intro w mean mg mb dp un gd cn cs a ccd cl outer A₀ base h₀ L m s Q E B F X N T hk hp hd hu hret
  obtain ⟨hoff, hp0, hq0, hq1, ht0, ht1⟩ := hp
  have kMark := kstMark
  refine wpAny_call ?_
  k_dflt (refine' code_def ?k1 ?k2 ?k3 ?k4 ?k5 ?kA ?kF ?kK ?k6 ?k7 ?k8 ?k9 ?kB ?_ ?c2 ?c3 ?c4 ?c5; (case kA => exact rfl); (case kF => exact rfl); (case kK => assumption); (case k1 => k_asm); (case k2 => k_asm); (case k3 => k_asm); (case k4 => k_asm); (case k5 => k_asm); (case k6 => k_is); (case k7 => k_is); (case k8 => ktr_room); (case k9 => first | exact BindsTo.of_eq rfl | exact binds_K (by k_in) rfl (by k_is) rfl rfl rfl); (case c5 => decide); (case kB => exact locs rfl); (case c2 => exact rfl); (case c3 => exact rfl); (case c4 => exact rfl); k_whole; intro g' L' h' FG' F' N' B' X' T'; (try dsimp only); (try k_lift B'); (try k_fold))
  k_steps
  all_goals (refine' con_retI hret (_, _, _, _, _, _) rfl ?e1 ?e2 ?e3 (fun _ h => h); (case e2 => k_asm); (case e3 => k_asm); (case e1 => (dsimp only; (refine ⟨?_, ?_, ?_, ?_, ?_⟩ <;> first | assumption | omega | exact Int.ediv_nonneg (by omega) (by omega)))))

theorem c_take (sa : Addr) (n : Nat) (p : Int) (tp : Tok) (q : Int) (tq : Tok) (news : List (Addr × Obj)) (g : Obj → List (Addr × Obj)) (top : Int) (tt : Tok) :
    Con 79 1 news (UpdF sa (listOf [Value.int p tp, Value.int q tq].toArray n) news g ∧ 0 ≤ p ∧ 0 ≤ q ∧ q < 2147483647 ∧ 1 ≤ top ∧ top < 2 ^ 40) [.ref sa, .int top tt] (fun x : Int × Tok × Int × Tok × Int × Tok => g (listOf [Value.int x.2.2.1 x.2.2.2.1, Value.int x.2.2.2.2.1 x.2.2.2.2.2].toArray n)) (fun x => .int x.1 x.2.1) (fun x => 0 ≤ x.1 ∧ x.1 < top ∧ 0 ≤ x.2.2.1 ∧ 0 ≤ x.2.2.2.2.1 ∧ x.2.2.2.2.1 < 2147483647) := by
  intro w mean mg mb dp un gd cn cs a ccd cl outer A₀ base h₀ L m s Q E B F X N T hk hp hd hu hret
  obtain ⟨U, hp0, hq0, hq1, ht0, ht1⟩ := hp
  obtain ⟨pre, post, e1, e2, h1, h2⟩ := U.split
  subst e1
  refine con_use (c_take0 sa n p tp q tq (pre ++ post) top tt) B F X (fun y hy => N y ?_) T hk ⟨?_, hp0, hq0, hq1, ht0, ht1⟩ hd hu (fun x h' tk' hf F' N' => hret x h' tk' hf F' ?_)
  · rcases List.mem_cons.mp hy with rfl | hy
    · simp
    · rcases List.mem_append.mp hy with hy | hy <;> simp [hy]
  · intro y hy b hb
    rw [List.mem_singleton.mp hb]
    rcases List.mem_append.mp hy with hy | hy
    · exact h1 y hy
    · exact h2 y hy
  · show News h₀ L h' (g _)
    rw [e2]
    intro y hy
    refine N' y ?_
    rcases List.mem_append.mp hy with hy | hy
    · simp [hy]
    · rcases List.mem_cons.mp hy with rfl | hy <;> simp [*]

set_option maxHeartbeats 8000000 in
theorem c_pool (sa : Addr) (us : List Value) (ns : List Int) (news : List (Addr × Obj)) (k : Int) (tk : Tok) : ConS 72 1 sa us ns news (0 ≤ k ∧ k < 64) [.ref sa, .int k tk] (fun x : Addr × Int × Tok × Int × Tok => (x.1, listOf [Value.int x.2.1 x.2.2.1, Value.int x.2.2.2.1 x.2.2.2.2].toArray 0) :: news) (fun x => .ref x.1) (fun x => (∀ p ∈ news, p.1 < x.1) ∧ 0 ≤ x.2.1 ∧ 0 ≤ x.2.2.2.1 ∧ x.2.2.2.1 < 2147483647) := by
  w_top off
  k_with_none
  unfold ConS
  k_fill
  intro w mean mg mb dp un gd cn cs a ccd cl outer A₀ base h₀ L m s Q E B F X N T hk hl hi hn hp hd hu hret
  obtain ⟨hk0, hk1⟩ := hp
  refine wpAny_call ?_
  k_dflt (refine' code_def ?k1 ?k2 ?k3 ?k4 ?k5 ?kA ?kF ?kK ?k6 ?k7 ?k8 ?k9 ?kB ?_ ?c2 ?c3 ?c4 ?c5; (case kA => exact rfl); (case kF => exact rfl); (case kK => assumption); (case k1 => k_asm); (case k2 => k_asm); (case k3 => k_asm); (case k4 => k_asm); (case k5 => k_asm); (case k6 => k_is); (case k7 => k_is); (case k8 => ktr_room); (case k9 => first | exact BindsTo.of_eq rfl | exact binds_K (by k_in) rfl (by k_is) rfl rfl rfl); (case c5 => decide); (case kB => exact locs rfl); (case c2 => exact rfl); (case c3 => exact rfl); (case c4 => exact rfl); k_whole; intro g' L' h' FG' F' N' B' X' T'; (try dsimp only); (try k_lift B'); (try k_fold))
  k_steps
  all_goals (refine' con_retI hret (_, _, _, _, _) rfl ?e1 ?e2 ?e3 (fun _ h => h); (case e2 => k_asm); (case e3 => k_asm); (case e1 => (dsimp only; (refine ⟨?_, ?_, ?_, ?_⟩ <;> first | assumption | omega | (split <;> omega)))))

end Mine
end

section
open PySem PySem.W PyProof.Rows
namespace Mine
theorem two32 : (2 : Int) ^ Int.toNat 32 = 4294967296 := by decide
section
variable {prog : Program} {w : World} {A : Around} {E : Value → Shared → Prop} {s : Shared} {a b : Int} {t u : Tok} {Q : Value → Shared → Prop}
theorem mul_l (h0 : 0 ≤ a) (h1 : a < 1099511627776) (h : Q (.int (a * b) s.toks) { s with toks := s.toks + 1 }) : wpAny (model prog w) A (binaryOp .Mult (.int a t) (.int b u)) Q E s :=
  mul_int h (.of_left (intBits_le_64 (by omega) (by omega)))
end
theorem proto_in {d : Int} (h0 : 0 ≤ d) (h1 : d < 4) : 1 ≤ ([1, 6, 17, 255] : List Int).getD d.toNat 0 := by
  have h : d = 0 ∨ d = 1 ∨ d = 2 ∨ d = 3 := by omega
  rcases h with h | h | h | h <;> subst h <;> decide
theorem two96 : (2 : Int) ^ Int.toNat 96 = 79228162514264337593543950336 := by decide
theorem two64 : (2 : Int) ^ Int.toNat 64 = 18446744073709551616 := by decide
theorem psr_pre {a b c d : Int} (h1 : 0 ≤ a) (h2 : 0 ≤ b) (h3 : 0 ≤ c) (h4 : 0 ≤ d) (h5 : d < 4) :
    0 ≤ a * 2 ^ Int.toNat 96 + b * 2 ^ Int.toNat 64 + c * 2 ^ Int.toNat 32 + ([1, 6, 17, 255] : List Int).getD d.toNat 0 := by
  have h := proto_in h4 h5
  rw [two96, two64, two32]
  omega
theorem psr_eq {a b c d : Int} (h1 : 0 ≤ a) (h2 : 0 ≤ b) (h3 : 0 ≤ c) (h4 : 0 ≤ d) (h5 : d < 4) :
    osum (a / 65536 + a % 65536 + (b / 65536 + b % 65536) + ([1, 6, 17, 255] : List Int).getD d.toNat 0 + c / 65536 + c % 65536)
     = osum (a * 2 ^ Int.toNat 96 + b * 2 ^ Int.toNat 64 + c * 2 ^ Int.toNat 32 + ([1, 6, 17, 255] : List Int).getD d.toNat 0) := by
  have h := proto_in h4 h5
  generalize ([1, 6, 17, 255] : List Int).getD d.toNat 0 = e at h ⊢
  rw [two96, two64, two32]
  refine osum_cong ?_ ?_
  · have e1 : (79228162514264337593543950336 : Int) = 65535 * 1208944266564192954665505 + 1 - 65535 * 0 + 65535 * (0) + (79228162514264337593543950336 - 65535 * 1208944266564192954665505 - 1) := by decide
    have r1 : a * 79228162514264337593543950336 % 65535 = a % 65535 := by
      rw [Int.mul_emod, show (79228162514264337593543950336 : Int) % 65535 = 1 from by decide, Int.mul_one, Int.emod_emod_of_dvd _ (Int.dvd_refl _)]
    have r2 : b * 18446744073709551616 % 65535 = b % 65535 := by
      rw [Int.mul_emod, show (18446744073709551616 : Int) % 65535 = 1 from by decide, Int.mul_one, Int.emod_emod_of_dvd _ (Int.dvd_refl _)]
    have r3 : c * 4294967296 % 65535 = c % 65535 := by
      rw [Int.mul_emod, show (4294967296 : Int) % 65535 = 1 from by decide, Int.mul_one, Int.emod_emod_of_dvd _ (Int.dvd_refl _)]
    generalize a * 79228162514264337593543950336 = x at *
    generalize b * 18446744073709551616 = y at *
    generalize c * 4294967296 = z at *
    clear e1
    omega
  · omega
end Mine
end

section
open PySem PySem.W PyProof.Rows
set_option maxRecDepth 100000
namespace Mine
local macro_rules | `(tactic| walk_at "subscriptTail Name Constant ref int") => `(tactic| (k_here; (with_reducible show wpAny _ _ (subscriptTail _ _ (Value.ref _) (Value.int _ _)) _ _ _); k_dflt (with_unfolding_all refine' item_litK ?k1 ?k2 ?k3 ?k4 ?_ ?k6; (case k1 => exact News.isList (by k_asm) (by k_mem)); (case k2 => decide); (case k3 => decide); (case k4 => rfl); (case k6 => with_unfolding_all rfl); k_whole)))
local macro_rules | `(tactic| walk_at "binaryOp FloorDiv int int") => `(tactic| (with_reducible refine fdiv_by ?_ ?_ ?_; first | decide | omega; first | decide | omega))
local macro_rules | `(tactic| walk_at "binaryOp Mod int int") => `(tactic| (with_reducible refine mod_by ?_ ?_ ?_; first | decide | omega; first | decide | omega; intro mLo mHi))
local macro_rules | `(tactic| walk_at "call ref") => `(tactic| (k_here; (with_reducible show wpAny _ _ (call (Value.ref 79) _) _ _ _); k_dflt (refine' con_use (c_take _ _ _ _ _ _ _ _ _ _) ?k1 ?k2 ?k3 ?k4 ?k5 ?kK ?kp ?kd ?ku ?_; (case k1 => k_asm); (case k2 => k_asm); (case k3 => k_asm); (case k4 => k_asm); (case k5 => k_asm); (case kK => first | exact rfl | assumption); (case kp => ((try dsimp only); (refine ⟨?p1, ?p2, ?p3, ?p4, ?p5, ?p6⟩; (case p1 => k_updF); (case p2 => first | assumption | omega); (case p3 => first | assumption | omega); (case p4 => first | assumption | omega); (case p5 => first | decide | omega); (case p6 => first | decide | omega)))); (case kd => ktr_room); (case ku => ktr_units); intro x9 h9 tk9 hf9 F9 N9; (obtain ⟨d9, td9, p9, tp9, q9, tq9⟩ := x9); (try dsimp only at hf9); (obtain ⟨dLo9, dHi9, pLo9, qLo9, qHi9⟩ := hf9); (try dsimp only at N9); (try dsimp only); (try k_fold))))
set_option maxHeartbeats 8000000 in
theorem c_oct0 (sa : Addr) (n : Nat) (p : Int) (tp : Tok) (q : Int) (tq : Tok) (rest : List (Addr × Obj)) (tt : Tok) : Con 86 2 ((sa, listOf [Value.int p tp, Value.int q tq].toArray n) :: rest) (OwnOff rest [sa] ∧ 0 ≤ p ∧ 0 ≤ q ∧ q < 2147483647) [.ref sa, .int 18 tt] (fun x : Array UInt8 × Tok × Int × Tok × Int × Tok => (sa, listOf [Value.int x.2.2.1 x.2.2.2.1, Value.int x.2.2.2.2.1 x.2.2.2.2.2].toArray n) :: rest) (fun x => .bytes x.1 x.2.1) (fun x => (KBw.bInts x.1).length ≤ 18 ∧ 0 ≤ x.2.2.1 ∧ 0 ≤ x.2.2.2.2.1 ∧ x.2.2.2.2.1 < 2147483647) := by
  w_top off
  k_with_none
  unfold Con
  k_fill
  intro w mean mg mb dp un gd cn cs a ccd cl outer A₀ base h₀ L m s Q E B F X N T hk hp hd hu hret
  obtain ⟨hoff, hp0, hq0, hq1⟩ := hp
  have kMark := kstMark
  refine wpAny_call ?_
  k_dflt (refine' code_def ?k1 ?k2 ?k3 ?k4 ?k5 ?kA ?kF ?kK ?k6 ?k7 ?k8 ?k9 ?kB ?_ ?c2 ?c3 ?c4 ?c5; (case kA => exact rfl); (case kF => exact rfl); (case kK => assumption); (case k1 => k_asm); (case k2 => k_asm); (case k3 => k_asm); (case k4 => k_asm); (case k5 => k_asm); (case k6 => k_is); (case k7 => k_is); (case k8 => ktr_room); (case k9 => first | exact BindsTo.of_eq rfl | exact binds_K (by k_in) rfl (by k_is) rfl rfl rfl); (case c5 => decide); (case kB => exact locs rfl); (case c2 => exact rfl); (case c3 => exact rfl); (case c4 => exact rfl); k_whole; intro g' L' h' FG' F' N' B' X' T'; (try dsimp only); (try k_lift B'); (try k_fold))
  k_with "pyIter ref" => ((rename Fr _ _ _ _ => lF'); (rename News _ _ _ _ => lN'); (rename IsRange _ _ _ _ _ _ _ _ => rgX); (with_unfolding_all refine' kst_range (σ := Int × Tok × Int × Tok × List Value × List Int × Nat) (fun c => (_, listOf c.2.2.2.2.1.toArray c.2.2.2.2.2.2) :: (sa, listOf [Value.int c.1 c.2.1, Value.int c.2.2.1 c.2.2.2.1].toArray n) :: rest) (fun _ => []) (fun c => IntsAre c.2.2.2.2.1 c.2.2.2.2.2.1) [Str.ofString "way"] (fun pre c => 0 ≤ c.1 ∧ 0 ≤ c.2.2.1 ∧ c.2.2.1 < 2147483647 ∧ c.2.2.2.2.2.1.length = pre.length ∧ KBa.In c.2.2.2.2.2.1) (_, _, _, _, [], [], 0) (by rfl) rgX ?ka ?kb lF' lN' ?kf ?kk ?kp ?kturn ?kdone); (case ka => exact small_one (by omega) (by omega) (by omega) (by omega)); (case kb => exact rangeSize_nat _ _); (case kf => exact IntsAre.nil); (case kk => kst_all); (case kp => exact ⟨by omega, by omega, by omega, rfl, fun _ h => nomatch h⟩); clear lF' lN'; (case' kturn => (rintro ⟨cP, cTp, cQ, cTq, cVs, cKs, cN⟩ kPre kN kT kU kH kTk kOwn kEq kLt kOff kFacts ⟨kI1, kI2, kI3, kI4, kI5⟩ kFr kNews; (have kMark := kstMark); (try dsimp only at kFacts kI1 kI2 kI3 kI4 kI5); (try dsimp only [kstB] at kFr); (try dsimp only at kNews); (try simp only [List.nil_append, List.cons_append, List.append_nil] at kNews); (try dsimp only at kOff); (try simp only [List.map_cons, List.map_nil] at kOff))); (case' kdone => (rintro ⟨cP, cTp, cQ, cTq, cVs, cKs, cN⟩ kU kH kTk kFacts ⟨kI1, kI2, kI3, kI4, kI5⟩ kFr kNews; (have kMark := kstMark); (try dsimp only at kFacts kI1 kI2 kI3 kI4 kI5); (rw [rangeKs_length] at kI4); (try dsimp only [kstB] at kFr); (try dsimp only at kNews); (try simp only [List.nil_append, List.cons_append, List.append_nil] at kNews))); (all_goals (try k_fold)))
  k_with "state" => exact oct_turn (by assumption) (by assumption) (by assumption) (by assumption) (by assumption) (by omega)
  k_steps
  all_goals (refine' con_retI hret (_, _, cP, cTp, cQ, cTq) rfl ?e1 ?e2 ?e3 ?e4; (case e2 => k_asm); (case e3 => k_asm); (case e4 => exact fun _ h => List.Mem.tail _ h); (case e1 => exact ⟨oct_len (by assumption) (by assumption) (by assumption), by assumption, by assumption, by assumption⟩))

theorem c_oct (sa : Addr) (n : Nat) (p : Int) (tp : Tok) (q : Int) (tq : Tok) (news : List (Addr × Obj)) (g : Obj → List (Addr × Obj)) (tt : Tok) :
    Con 86 2 news (UpdF sa (listOf [Value.int p tp, Value.int q tq].toArray n) news g ∧ 0 ≤ p ∧ 0 ≤ q ∧ q < 2147483647) [.ref sa, .int 18 tt] (fun x : Array UInt8 × Tok × Int × Tok × Int × Tok => g (listOf [Value.int x.2.2.1 x.2.2.2.1, Value.int x.2.2.2.2.1 x.2.2.2.2.2].toArray n)) (fun x => .bytes x.1 x.2.1) (fun x => (KBw.bInts x.1).length ≤ 18 ∧ 0 ≤ x.2.2.1 ∧ 0 ≤ x.2.2.2.2.1 ∧ x.2.2.2.2.1 < 2147483647) :=
  con_lift (fun rest => c_oct0 sa n p tp q tq rest tt) news g

end Mine
end

section
open PySem PySem.W PyProof.Rows
set_option maxRecDepth 100000
namespace Mine
local macro_rules | `(tactic| walk_at "subscriptTail Name Constant ref int") => `(tactic| (k_here; (with_reducible show wpAny _ _ (subscriptTail _ _ (Value.ref _) (Value.int _ _)) _ _ _); k_dflt (with_unfolding_all refine' item_litK ?k1 ?k2 ?k3 ?k4 ?_ ?k6; (case k1 => exact News.isList (by k_asm) (by k_mem)); (case k2 => decide); (case k3 => decide); (case k4 => rfl); (case k6 => with_unfolding_all rfl); k_whole)))
local macro_rules | `(tactic| walk_at "binaryOp FloorDiv int int") => `(tactic| (with_reducible refine fdiv_by ?_ ?_ ?_; first | decide | omega; first | decide | omega))
local macro_rules | `(tactic| walk_at "binaryOp Mod int int") => `(tactic| (with_reducible refine mod_by ?_ ?_ ?_; first | decide | omega; first | decide | omega; intro mLo mHi))
local macro_rules | `(tactic| walk_at "CompSrc") => `(tactic| (k_here; k_dflt (refine LCg.CompSrc.range (n := 2) (by rfl) (by k_asm) (by k_asm) (by assumption) (by first | decide | rfl) (by first | rfl | decide) (by decide) ?_; intro g')))
local macro_rules | `(tactic| walk_at "call ref") => `(tactic| (k_here; (with_reducible show wpAny _ _ (call (Value.ref 79) _) _ _ _); k_dflt (refine' con_use (c_take _ _ _ _ _ _ _ _ _ _) ?k1 ?k2 ?k3 ?k4 ?k5 ?kK ?kp ?kd ?ku ?_; (case k1 => k_asm); (case k2 => k_asm); (case k3 => k_asm); (case k4 => k_asm); (case k5 => k_asm); (case kK => first | exact rfl | assumption); (case kp => ((try dsimp only); (refine ⟨?p1, ?p2, ?p3, ?p4, ?p5, ?p6⟩; (case p1 => k_updF); (case p2 => first | assumption | omega); (case p3 => first | assumption | omega); (case p4 => first | assumption | omega); (case p5 => first | decide | omega); (case p6 => first | decide | omega)))); (case kd => ktr_room); (case ku => ktr_units); intro x9 h9 tk9 hf9 F9 N9; (obtain ⟨d9, td9, p9, tp9, q9, tq9⟩ := x9); (try dsimp only at hf9); (obtain ⟨dLo9, dHi9, pLo9, qLo9, qHi9⟩ := hf9); (try rw [two32] at dHi9); (try dsimp only at N9); (try dsimp only); (try k_fold))))
local macro_rules | `(tactic| walk_at "call ref") => `(tactic| (k_here; (with_reducible show wpAny _ _ (call (Value.ref 65) _) _ _ _); k_dflt (refine' con_use (c_pseudo _ _ _ _ _ _ _ _ _) ?k1 ?k2 ?k3 ?k4 ?k5 ?kK ?kp ?kd ?ku ?_; (case k1 => k_asm); (case k2 => k_asm); (case k3 => k_asm); (case k4 => k_asm); (case k5 => k_asm); (case kK => first | exact rfl | assumption); (case kp => ((try dsimp only); exact ⟨by assumption, by assumption, Int.le_trans (by decide) (proto_in (by assumption) (by assumption)), by assumption⟩)); (case kd => ktr_room); (case ku => ktr_units); intro x9 h9 tk9 hf9 F9 N9; (try dsimp only); (try k_fold))))
local macro_rules | `(tactic| walk_at "call ref") => `(tactic| (k_here; (with_reducible show wpAny _ _ (call (Value.ref 100) _) _ _ _); k_dflt (refine' con_use (c_lsum _ _ _) ?k1 ?k2 ?k3 ?k4 ?k5 ?kK ?kp ?kd ?ku ?_; (case k1 => k_asm); (case k2 => k_asm); (case k3 => k_asm); (case k4 => k_asm); (case k5 => k_asm); (case kK => first | exact rfl | assumption); (case kp => ((try dsimp only); first | assumption | omega | k_extra "pre")); (case kd => ktr_room); (case ku => ktr_units); intro x9 h9 tk9 hf9 F9 N9; (try dsimp only); (try k_fold))))
local macro_rules | `(tactic| walk_at "binaryOp Mult int int") => `(tactic| (with_reducible refine mul_l ?_ ?_ ?_; first | assumption | omega; first | assumption | omega))
local macro_rules | `(tactic| walk_at "binaryOp Pow int int") => `(tactic| (with_reducible refine pow_int_small ?kb1 ?kb2 ?kb3 ?_; (case kb1 => first | decide | omega); (case kb2 => first | decide | omega); (case kb3 => decide)))
set_option maxHeartbeats 8000000 in
theorem c_psr0 (sa : Addr) (n : Nat) (p : Int) (tp : Tok) (q : Int) (tq : Tok) (rest : List (Addr × Obj)) : Con 119 3 ((sa, listOf [Value.int p tp, Value.int q tq].toArray n) :: rest) (OwnOff rest [sa] ∧ 0 ≤ p ∧ 0 ≤ q ∧ q < 2147483647) [.ref sa] (fun x : Int × Tok × Int × Tok => (sa, listOf [Value.int x.1 x.2.1, Value.int x.2.2.1 x.2.2.2].toArray n) :: rest) (fun _ => .bool true) (fun x => 0 ≤ x.1 ∧ 0 ≤ x.2.2.1 ∧ x.2.2.1 < 2147483647) := by
  w_top off
  k_with_none
  unfold Con
  k_fill
  intro w mean mg mb dp un gd cn cs a ccd cl outer A₀ base h₀ L m s Q E B F X N T hk hp hd hu hret
  obtain ⟨hoff, hp0, hq0, hq1⟩ := hp
  have kMark := kstMark
  refine wpAny_call ?_
  k_dflt (refine' code_defC ?k1 ?k2 ?k3 ?k4 ?k5 ?kA ?kF ?kK ?k6 ?k7 ?k8 ?k9 ?kB ?kD ?_ ?c2 ?c3 ?c4; (case kA => exact rfl); (case kF => exact rfl); (case kK => assumption); (case k1 => k_asm); (case k2 => k_asm); (case k3 => k_asm); (case k4 => k_asm); (case k5 => k_asm); (case k6 => k_is); (case k7 => k_is); (case k8 => ktr_room); (case k9 => first | exact BindsTo.of_eq rfl | exact binds_K (by k_in) rfl (by k_is) rfl rfl rfl); (case kB => exact rfl); (case kD => decide +kernel); (case c2 => exact rfl); (case c3 => exact rfl); (case c4 => exact rfl); k_whole; intro g' L' h' tk' cells' FG' F' N' Y' B' X' T' l1; (try k_lt l1); k_cells Y'; (try simp only [List.cons_append, List.nil_append] at N'); (try dsimp only); (try k_lift B'); (try k_fold))
  k_with "pre" => exact psr_pre (by assumption) (by assumption) (by assumption) (by assumption) (by assumption)
  k_steps
  (rename News _ _ _ _ => nC; refine LCg.CompEnd.intro (by k_asm) nC ((_, _) :: (sa, _) :: rest) (fun x h => h) (by assumption) trivial ?_; clear nC)
  k_steps
  (rename News _ _ _ _ => nC; refine LCg.CompEnd.intro (by k_asm) nC ((_, _) :: (sa, _) :: rest) (fun x h => h) (by assumption) trivial ?_; clear nC)
  k_steps
  all_goals (refine' con_retI hret (_, _, _, _) ?e0 ?e1 ?e2 ?e3 ?e4; (case e0 => exact congrArg Value.bool (beq_iff_eq.mpr (psr_eq (by assumption) (by assumption) (by assumption) (by assumption) (by assumption)))); (case e2 => k_asm); (case e3 => k_asm); (case e4 => (intro p9 h9; repeat (first | exact h9 | refine List.Mem.tail _ ?_))); (case e1 => exact ⟨by assumption, by assumption, by assumption⟩))


end Mine
end

section
open PySem PySem.W PyProof.Rows
set_option maxRecDepth 100000
namespace Mine
local macro_rules | `(tactic| walk_at "subscriptTail Name Constant ref int") => `(tactic| (k_here; (with_reducible show wpAny _ _ (subscriptTail _ _ (Value.ref _) (Value.int _ _)) _ _ _); k_dflt (with_unfolding_all refine' item_litK ?k1 ?k2 ?k3 ?k4 ?_ ?k6; (case k1 => exact News.isList (by k_asm) (by k_mem)); (case k2 => decide); (case k3 => decide); (case k4 => rfl); (case k6 => with_unfolding_all rfl); k_whole)))
local macro_rules | `(tactic| walk_at "binaryOp FloorDiv int int") => `(tactic| (with_reducible refine fdiv_by ?_ ?_ ?_; first | decide | omega; first | decide | omega))
local macro_rules | `(tactic| walk_at "binaryOp Mod int int") => `(tactic| (with_reducible refine mod_by ?_ ?_ ?_; first | decide | omega; first | decide | omega; intro mLo mHi))
local macro_rules | `(tactic| walk_at "call ref") => `(tactic| (k_here; (with_reducible show wpAny _ _ (call (Value.ref 79) _) _ _ _); k_dflt (refine' con_use (c_take _ _ _ _ _ _ _ _ _ _) ?k1 ?k2 ?k3 ?k4 ?k5 ?kK ?kp ?kd ?ku ?_; (case k1 => k_asm); (case k2 => k_asm); (case k3 => k_asm); (case k4 => k_asm); (case k5 => k_asm); (case kK => first | exact rfl | assumption); (case kp => ((try dsimp only); (refine ⟨?p1, ?p2, ?p3, ?p4, ?p5, ?p6⟩; (case p1 => k_updF); (case p2 => first | assumption | omega); (case p3 => first | assumption | omega); (case p4 => first | assumption | omega); (case p5 => first | decide | omega); (case p6 => first | decide | omega)))); (case kd => ktr_room); (case ku => ktr_units); intro x9 h9 tk9 hf9 F9 N9; (obtain ⟨d9, td9, p9, tp9, q9, tq9⟩ := x9); (try dsimp only at hf9); (obtain ⟨dLo9, dHi9, pLo9, qLo9, qHi9⟩ := hf9); (try rw [two32] at dHi9); (try dsimp only at N9); (try dsimp only); (try k_fold))))
local macro_rules | `(tactic| walk_at "call ref") => `(tactic| (k_here; (with_reducible show wpAny _ _ (call (Value.ref 36) [_, _]) _ _ _); k_dflt (refine' con_use (c_ones _ _ _ _ _ _) ?k1 ?k2 ?k3 ?k4 ?k5 ?kK ?kp ?kd ?ku ?_; (case k1 => k_asm); (case k2 => k_asm); (case k3 => k_asm); (case k4 => k_asm); (case k5 => k_asm); (case kK => first | exact rfl | assumption); (case kp => ((try dsimp only); (refine ⟨?p1, ?p2, ?p3, ?p4⟩; (case p3 => kba_ints2); (case p1 => omega); (case p2 => omega); (case p4 => ((try simp only [List.length_append, List.length_take, List.length_drop, List.length_cons, List.length_nil, List.length_map, List.length_replicate]); first | omega | k_extra "len"))))); (case kd => ktr_room); (case ku => ktr_units); intro x9 h9 tk9 hf9 F9 N9; (try dsimp only); (try k_fold))))
local macro_rules | `(tactic| walk_at "call ref") => `(tactic| (k_here; (with_reducible show wpAny _ _ (call (Value.ref 36) [_]) _ _ _); k_dflt (refine' con_use (c_ones1 _ _ _ _) ?k1 ?k2 ?k3 ?k4 ?k5 ?kK ?kp ?kd ?ku ?_; (case k1 => k_asm); (case k2 => k_asm); (case k3 => k_asm); (case k4 => k_asm); (case k5 => k_asm); (case kK => first | exact rfl | assumption); (case kp => ((try dsimp only); (refine ⟨?p1, ?p2, ?p3, ?p4⟩; (case p3 => kba_ints2); (case p1 => omega); (case p2 => omega); (case p4 => ((try simp only [List.length_append, List.length_take, List.length_drop, List.length_cons, List.length_nil, List.length_map, List.length_replicate]); first | omega | k_extra "len"))))); (case kd => ktr_room); (case ku => ktr_units); intro x9 h9 tk9 hf9 F9 N9; (try dsimp only); (try k_fold))))
local macro_rules | `(tactic| walk_at "call ref") => `(tactic| (k_here; (with_reducible show wpAny _ _ (call (Value.ref 51) _) _ _ _); k_dflt (refine' con_use (c_join _ _ _ _ _ _ _) ?k1 ?k2 ?k3 ?k4 ?k5 ?kK ?kp ?kd ?ku ?_; (case k1 => k_asm); (case k2 => k_asm); (case k3 => k_asm); (case k4 => k_asm); (case k5 => k_asm); (case kK => first | exact rfl | assumption); (case kp => ((try dsimp only); omega)); (case kd => ktr_room); (case ku => ktr_units); intro x9 h9 tk9 hf9 F9 N9; (try dsimp only); (try k_fold))))
local macro_rules | `(tactic| walk_at "eval Call") => `(tactic| (k_here; (with_reducible show wpAny _ _ (eval (Expr.Call (Expr.Name _ _) _ [] _) _) _ _ _); k_dflt (refine Call_ ?_)))
local macro_rules | `(tactic| walk_at "call type:bytes") => `(tactic| (k_here; (with_reducible show wpAny _ _ (call (Value.type "bytes") [Value.int _ _]) _ _ _); (refine zeros_K ?kb1 ?kb2 ?_; (case kb1 => omega); (case kb2 => omega)); intro _ _ kbaZ))
local macro_rules | `(tactic| walk_at "binaryOp Add bytes bytes") => `(tactic| (k_here; (with_reducible show wpAny _ _ (binaryOp Operator.Add (Value.bytes _ _) (Value.bytes _ _)) _ _ _); (refine' add_G ?kb1 ?kb2 ?kb3 ?_; (case kb1 => kba_ints2); (case kb2 => kba_ints2); (case kb3 => ((try simp only [List.length_append, List.length_take, List.length_drop, List.length_cons, List.length_nil, List.length_map, List.length_replicate]); omega))); intro d9 e9 _ _ kbaI kbaE kbaL; (try simp only [List.length_cons, List.length_nil, List.length_replicate, List.length_take, List.length_drop] at kbaL)))
local macro_rules | `(tactic| walk_at "subscriptTail") => `(tactic| (k_here; (with_reducible show wpAny _ _ (subscriptTail _ (Expr.Slice _ _ none _) (Value.bytes _ _) (Value.ref _)) _ _ _); (with_reducible rename Fr _ _ _ _ => F'); (with_reducible rename News _ _ _ _ => N'); (first | refine cutTo_G (s := ⟨_, _, _, _, _⟩) F' N' (by kba_ints) (by omega) (by omega) (by omega) ?_ | refine cutFrom_G (s := ⟨_, _, _, _, _⟩) F' N' (by kba_ints) (by omega) (by omega) (by omega) ?_); clear F' N'; intro d9 e9 _ _ _ F' N' kbaI kbaE kbaL))
local macro_rules | `(tactic| walk_at "execs cons") => `(tactic| (k_here; k_dflt (refine wpAny_execs_cons ?_); (try dsimp only); (refine gen_toks ?_; intro tk9)))
set_option maxHeartbeats 8000000 in
theorem c_cut0 (sa : Addr) (n : Nat) (p : Int) (tp : Tok) (q : Int) (tq : Tok) (rest : List (Addr × Obj)) (b : Array UInt8) (tb : Tok) (ks : List Int) : Con 107 3 ((sa, listOf [Value.int p tp, Value.int q tq].toArray n) :: rest) (OwnOff rest [sa] ∧ 0 ≤ p ∧ 0 ≤ q ∧ q < 2147483647 ∧ KBw.bInts b = ks ∧ ks.length ≤ 18) [.ref sa, .bytes b tb] (fun x : Int × Tok × Int × Tok => (sa, listOf [Value.int x.1 x.2.1, Value.int x.2.2.1 x.2.2.2].toArray n) :: rest) (fun _ => .bool true) (fun x => 0 ≤ x.1 ∧ 0 ≤ x.2.2.1 ∧ x.2.2.1 < 2147483647) := by
  w_top off
  k_with_none
  unfold Con
  k_fill
  intro w mean mg mb dp un gd cn cs a ccd cl outer A₀ base h₀ L m s Q E B F X N T hk hp hd hu hret
  obtain ⟨hoff, hp0, hq0, hq1, hb, hlen⟩ := hp
  have kMark := kstMark
  refine wpAny_call ?_
  k_dflt (refine' code_def ?k1 ?k2 ?k3 ?k4 ?k5 ?kA ?kF ?kK ?k6 ?k7 ?k8 ?k9 ?kB ?_ ?c2 ?c3 ?c4 ?c5; (case kA => exact rfl); (case kF => exact rfl); (case kK => assumption); (case k1 => k_asm); (case k2 => k_asm); (case k3 => k_asm); (case k4 => k_asm); (case k5 => k_asm); (case k6 => k_is); (case k7 => k_is); (case k8 => ktr_room); (case k9 => first | exact BindsTo.of_eq rfl | exact binds_K (by k_in) rfl (by k_is) rfl rfl rfl); (case c5 => decide); (case kB => exact locs rfl); (case c2 => exact rfl); (case c3 => exact rfl); (case c4 => exact rfl); k_whole; intro g' L' h' FG' F' N' B' X' T'; (try dsimp only); (try k_lift B'); (try k_fold))
  k_steps
  all_goals first | exact absurd trivial (fun _ => cut_no2  (by assumption) (by assumption) (by assumption) (by assumption) (by assumption) (by assumption) (by assumption) (oct_of  (by assumption))) | exact absurd trivial (fun _ => cut_no1  (by assumption) (by assumption) (by assumption) (by assumption) (by assumption) (by assumption) (oct_of  (by assumption))) | (refine' con_retI hret (_, _, _, _) ?e0 ?e1 ?e2 ?e3 ?e4; (case e0 => first | exact congrArg Value.bool (cut_yes  (by assumption) (by assumption) (by assumption) (by assumption) (by assumption) (by assumption) (by assumption) (by omega) (by omega) (by omega) (oct_of  (by assumption)))); (case e2 => k_asm); (case e3 => k_asm); (case e4 => (intro p9 h9; repeat (first | exact h9 | refine List.Mem.tail _ ?_))); (case e1 => exact ⟨by assumption, by assumption, by assumption⟩))


end Mine
end

section
open PySem PySem.W PyProof.Rows
set_option maxRecDepth 100000
namespace Mine
local macro_rules | `(tactic| walk_at "subscriptTail Name Constant ref int") => `(tactic| (k_here; (with_reducible show wpAny _ _ (subscriptTail _ _ (Value.ref _) (Value.int _ _)) _ _ _); k_dflt (with_unfolding_all refine' item_litK ?k1 ?k2 ?k3 ?k4 ?_ ?k6; (case k1 => exact News.isList (by k_asm) (by k_mem)); (case k2 => decide); (case k3 => decide); (case k4 => rfl); (case k6 => with_unfolding_all rfl); k_whole)))
local macro_rules | `(tactic| walk_at "binaryOp FloorDiv int int") => `(tactic| (with_reducible refine fdiv_by ?_ ?_ ?_; first | decide | omega; first | decide | omega))
local macro_rules | `(tactic| walk_at "binaryOp Mod int int") => `(tactic| (with_reducible refine mod_by ?_ ?_ ?_; first | decide | omega; first | decide | omega; intro mLo mHi))
local macro_rules | `(tactic| walk_at "call ref") => `(tactic| (k_here; (with_reducible show wpAny _ _ (call (Value.ref 79) _) _ _ _); k_dflt (refine' con_use (c_take _ _ _ _ _ _ _ _ _ _) ?k1 ?k2 ?k3 ?k4 ?k5 ?kK ?kp ?kd ?ku ?_; (case k1 => k_asm); (case k2 => k_asm); (case k3 => k_asm); (case k4 => k_asm); (case k5 => k_asm); (case kK => first | exact rfl | assumption); (case kp => ((try dsimp only); (refine ⟨?p1, ?p2, ?p3, ?p4, ?p5, ?p6⟩; (case p1 => k_updF); (case p2 => first | assumption | omega); (case p3 => first | assumption | omega); (case p4 => first | assumption | omega); (case p5 => first | decide | omega); (case p6 => first | decide | omega)))); (case kd => ktr_room); (case ku => ktr_units); intro x9 h9 tk9 hf9 F9 N9; (obtain ⟨d9, td9, p9, tp9, q9, tq9⟩ := x9); (try dsimp only at hf9); (obtain ⟨dLo9, dHi9, pLo9, qLo9, qHi9⟩ := hf9); (try rw [two32] at dHi9); (try dsimp only at N9); (try dsimp only); (try k_fold))))
local macro_rules | `(tactic| walk_at "call ref") => `(tactic| (k_here; (with_reducible show wpAny _ _ (call (Value.ref 36) [_, _]) _ _ _); k_dflt (refine' con_use (c_ones _ _ _ _ _ _) ?k1 ?k2 ?k3 ?k4 ?k5 ?kK ?kp ?kd ?ku ?_; (case k1 => k_asm); (case k2 => k_asm); (case k3 => k_asm); (case k4 => k_asm); (case k5 => k_asm); (case kK => first | exact rfl | assumption); (case kp => ((try dsimp only); (refine ⟨?p1, ?p2, ?p3, ?p4⟩; (case p3 => kba_ints2); (case p1 => omega); (case p2 => omega); (case p4 => ((try simp only [List.length_append, List.length_take, List.length_drop, List.length_cons, List.length_nil, List.length_map, List.length_replicate]); first | omega | k_extra "len"))))); (case kd => ktr_room); (case ku => ktr_units); intro x9 h9 tk9 hf9 F9 N9; (try dsimp only); (try k_fold))))
local macro_rules | `(tactic| walk_at "call ref") => `(tactic| (k_here; (with_reducible show wpAny _ _ (call (Value.ref 36) [_]) _ _ _); k_dflt (refine' con_use (c_ones1 _ _ _ _) ?k1 ?k2 ?k3 ?k4 ?k5 ?kK ?kp ?kd ?ku ?_; (case k1 => k_asm); (case k2 => k_asm); (case k3 => k_asm); (case k4 => k_asm); (case k5 => k_asm); (case kK => first | exact rfl | assumption); (case kp => ((try dsimp only); (refine ⟨?p1, ?p2, ?p3, ?p4⟩; (case p3 => kba_ints2); (case p1 => omega); (case p2 => omega); (case p4 => ((try simp only [List.length_append, List.length_take, List.length_drop, List.length_cons, List.length_nil, List.length_map, List.length_replicate]); first | omega | k_extra "len"))))); (case kd => ktr_room); (case ku => ktr_units); intro x9 h9 tk9 hf9 F9 N9; (try dsimp only); (try k_fold))))
local macro_rules | `(tactic| walk_at "call ref") => `(tactic| (k_here; (with_reducible show wpAny _ _ (call (Value.ref 44) _) _ _ _); k_dflt (refine' con_use (c_check _ _ _ _) ?k1 ?k2 ?k3 ?k4 ?k5 ?kK ?kp ?kd ?ku ?_; (case k1 => k_asm); (case k2 => k_asm); (case k3 => k_asm); (case k4 => k_asm); (case k5 => k_asm); (case kK => first | exact rfl | assumption); (case kp => ((try dsimp only); (refine ⟨?p3, ?p4⟩; (case p3 => kba_ints2); (case p4 => ((try simp only [List.length_append, List.length_take, List.length_drop, List.length_cons, List.length_nil, List.length_map, List.length_replicate]); first | omega | k_extra "len"))))); (case kd => ktr_room); (case ku => ktr_units); intro x9 h9 tk9 hf9 F9 N9; (try dsimp only); (try k_fold))))
local macro_rules | `(tactic| walk_at "call ref") => `(tactic| (k_here; (with_reducible show wpAny _ _ (call (Value.ref 93) _) _ _ _); k_dflt (refine' con_use (c_number _ _ _ _) ?k1 ?k2 ?k3 ?k4 ?k5 ?kK ?kp ?kd ?ku ?_; (case k1 => k_asm); (case k2 => k_asm); (case k3 => k_asm); (case k4 => k_asm); (case k5 => k_asm); (case kK => first | exact rfl | assumption); (case kp => ((try dsimp only); (refine ⟨?p3, ?p4⟩; (case p3 => kba_ints2); (case p4 => ((try simp only [List.length_append, List.length_take, List.length_drop, List.length_cons, List.length_nil, List.length_map, List.length_replicate]); first | omega | k_extra "len"))))); (case kd => ktr_room); (case ku => ktr_units); intro x9 h9 tk9 hf9 F9 N9; (obtain ⟨nLo9, nHi9⟩ := hf9); (try dsimp only); (try k_fold))))
local macro_rules | `(tactic| walk_at "call ref") => `(tactic| (k_here; (with_reducible show wpAny _ _ (call (Value.ref 100) _) _ _ _); k_dflt (refine' con_use (c_lsum _ _ _) ?k1 ?k2 ?k3 ?k4 ?k5 ?kK ?kp ?kd ?ku ?_; (case k1 => k_asm); (case k2 => k_asm); (case k3 => k_asm); (case k4 => k_asm); (case k5 => k_asm); (case kK => first | exact rfl | assumption); (case kp => ((try dsimp only); first | assumption | omega | k_extra "pre")); (case kd => ktr_room); (case ku => ktr_units); intro x9 h9 tk9 hf9 F9 N9; (try dsimp only); (try k_fold))))
local macro_rules | `(tactic| walk_at "call ref") => `(tactic| (k_here; (with_reducible show wpAny _ _ (call (Value.ref 58) _) _ _ _); k_dflt (refine' con_use (c_adj _ _ _ _ _ _ _) ?k1 ?k2 ?k3 ?k4 ?k5 ?kK ?kp ?kd ?ku ?_; (case k1 => k_asm); (case k2 => k_asm); (case k3 => k_asm); (case k4 => k_asm); (case k5 => k_asm); (case kK => first | exact rfl | assumption); (case kp => ((try dsimp only); ((try kmn_bounds); omega))); (case kd => ktr_room); (case ku => ktr_units); intro x9 h9 tk9 hf9 F9 N9; (try dsimp only); (try k_fold))))
local macro_rules | `(tactic| walk_at "eval Call") => `(tactic| (k_here; (with_reducible show wpAny _ _ (eval (Expr.Call (Expr.Name _ _) _ [] _) _) _ _ _); k_dflt (refine Call_ ?_)))
local macro_rules | `(tactic| walk_at "call type:bytes") => `(tactic| (k_here; (with_reducible show wpAny _ _ (call (Value.type "bytes") [Value.int _ _]) _ _ _); (refine zeros_K ?kb1 ?kb2 ?_; (case kb1 => omega); (case kb2 => omega)); intro _ _ kbaZ))
local macro_rules | `(tactic| walk_at "binaryOp Add bytes bytes") => `(tactic| (k_here; (with_reducible show wpAny _ _ (binaryOp Operator.Add (Value.bytes _ _) (Value.bytes _ _)) _ _ _); (refine' add_G ?kb1 ?kb2 ?kb3 ?_; (case kb1 => kba_ints2); (case kb2 => kba_ints2); (case kb3 => ((try simp only [List.length_append, List.length_take, List.length_drop, List.length_cons, List.length_nil, List.length_map, List.length_replicate]); omega))); intro d9 e9 _ _ kbaI kbaE kbaL; (try simp only [List.length_cons, List.length_nil, List.length_replicate, List.length_take, List.length_drop] at kbaL)))
local macro_rules | `(tactic| walk_at "binaryOp BitXor int int") => `(tactic| (k_here; (refine' xor_G ?kb1 ?kb2 ?kb3 ?kb4 ?_; (case kb1 => first | assumption | omega); (case kb2 => first | assumption | omega); (case kb3 => first | assumption | omega); (case kb4 => first | assumption | omega)); intro z9 zLo9 zHi9 zE9))
local macro_rules | `(tactic| walk_at "compareOp Eq bytes bytes") => `(tactic| (k_here; k_dflt (refine eqnil_G (by kba_ints) ?_)))
local macro_rules | `(tactic| walk_at "binaryOp Pow int int") => `(tactic| (with_reducible refine pow_int_small ?kb1 ?kb2 ?kb3 ?_; (case kb1 => first | decide | omega); (case kb2 => first | decide | omega); (case kb3 => decide)))
local macro_rules | `(tactic| walk_at "call type:bytes") => `(tactic| (k_here; (with_reducible show wpAny _ _ (call (Value.type "bytes") [Value.ref _]) _ _ _); k_dflt (refine' make_G ?kbaF ?kbaN ?kbah ?kbal ?kbai ?kbar ?kban ?_; (case kbaF => k_asm); (case kbaN => k_asm); (case kbah => rfl); (case kbal => kba_isList); (case kbai => kba_listInts); (case kbar => ((try kmn_bounds); first | exact in2 (by omega) (by omega) (by omega) (by omega) | exact in1 (by omega) (by omega))); (case kban => ((simp only [List.length_cons, List.length_nil]); omega))); intro d9 _ _ _ F' N' kbaI))
local macro_rules | `(tactic| walk_at "subscriptTail") => `(tactic| (k_here; (with_reducible show wpAny _ _ (subscriptTail _ (Expr.Slice _ _ none _) (Value.bytes _ _) (Value.ref _)) _ _ _); (with_reducible rename Fr _ _ _ _ => F'); (with_reducible rename News _ _ _ _ => N'); (first | refine cutTo_G (s := ⟨_, _, _, _, _⟩) F' N' (by kba_ints) (by omega) (by omega) (by omega) ?_ | refine cutFrom_G (s := ⟨_, _, _, _, _⟩) F' N' (by kba_ints) (by omega) (by omega) (by omega) ?_); clear F' N'; intro d9 e9 _ _ _ F' N' kbaI kbaE kbaL))
local macro_rules | `(tactic| walk_at "execs cons") => `(tactic| (k_here; k_dflt (refine wpAny_execs_cons ?_); (try dsimp only); (refine gen_toks ?_; intro tk9)))
set_option maxHeartbeats 8000000 in
theorem c_chk0 (sa : Addr) (n : Nat) (p : Int) (tp : Tok) (q : Int) (tq : Tok) (rest : List (Addr × Obj)) (b : Array UInt8) (tb : Tok) (ks : List Int) : Con 114 4 ((sa, listOf [Value.int p tp, Value.int q tq].toArray n) :: rest) (OwnOff rest [sa] ∧ 0 ≤ p ∧ 0 ≤ q ∧ q < 2147483647 ∧ KBw.bInts b = ks ∧ ks.length ≤ 18) [.ref sa, .bytes b tb] (fun x : Int × Tok × Int × Tok => (sa, listOf [Value.int x.1 x.2.1, Value.int x.2.2.1 x.2.2.2].toArray n) :: rest) (fun _ => .bool true) (fun x => 0 ≤ x.1 ∧ 0 ≤ x.2.2.1 ∧ x.2.2.1 < 2147483647) := by
  w_top off
  k_with_none
  unfold Con
  k_fill
  intro w mean mg mb dp un gd cn cs a ccd cl outer A₀ base h₀ L m s Q E B F X N T hk hp hd hu hret
  obtain ⟨hoff, hp0, hq0, hq1, hb, hlen⟩ := hp
  have kMark := kstMark
  refine wpAny_call ?_
  k_dflt (refine' code_def ?k1 ?k2 ?k3 ?k4 ?k5 ?kA ?kF ?kK ?k6 ?k7 ?k8 ?k9 ?kB ?_ ?c2 ?c3 ?c4 ?c5; (case kA => exact rfl); (case kF => exact rfl); (case kK => assumption); (case k1 => k_asm); (case k2 => k_asm); (case k3 => k_asm); (case k4 => k_asm); (case k5 => k_asm); (case k6 => k_is); (case k7 => k_is); (case k8 => ktr_room); (case k9 => first | exact BindsTo.of_eq rfl | exact binds_K (by k_in) rfl (by k_is) rfl rfl rfl); (case c5 => decide); (case kB => exact locs rfl); (case c2 => exact rfl); (case c3 => exact rfl); (case c4 => exact rfl); k_whole; intro g' L' h' FG' F' N' B' X' T'; (try dsimp only); (try k_lift B'); (try k_fold))
  k_steps
  all_goals first | exact absurd trivial (fun _ => chk_no1  (by assumption)  (by assumption)) | exact absurd trivial (fun _ => chk_no2  (by assumption) (by assumption) (by assumption) (by assumption)) | exact absurd trivial (fun _ => chk_no3  (by assumption)  (by assumption)) | exact absurd trivial (fun _ => chk_no4  (by assumption) (by assumption) (by assumption) (by assumption) (by assumption) (by assumption) (by assumption) (by assumption) (by assumption)) | (refine' con_retI hret (_, _, _, _) ?e0 ?e1 ?e2 ?e3 ?e4; (case e0 => first | exact congrArg Value.bool (beq_iff_eq.mpr (adj_eq (oct_of  (by assumption)) (full_even  (by assumption))  (by assumption)  (by assumption) (by (try kmn_bounds); omega) (by (try kmn_bounds); omega)  (by assumption)  (by assumption)  (by assumption)  (by assumption)  (by assumption) (oct_of  (by assumption)))) | exact congrArg Value.bool (beq_iff_eq.mpr  (by assumption)) | exact rfl); (case e2 => k_asm); (case e3 => k_asm); (case e4 => (intro p9 h9; repeat (first | exact h9 | refine List.Mem.tail _ ?_))); (case e1 => exact ⟨by assumption, by assumption, by assumption⟩))


end Mine
end

section
open PySem PySem.W PyProof.Rows
set_option maxRecDepth 100000
namespace Mine
theorem own_off {news : List (Addr × Obj)} {sa : Addr} (h : ∀ p ∈ news, p.1 < sa) : OwnOff news [sa] := by
  intro y hy b hb
  rw [List.mem_singleton.mp hb]
  exact Nat.ne_of_lt (h y hy)
theorem range_e {h : Heap} {r : Addr} {n : Int} {t u v : Tok} (H : IsRange h r 0 (if (if 4 < n then 4 else n) > 1 then if 4 < n then 4 else n else 1) 1 t u v) : ∃ e, 1 ≤ e ∧ e ≤ 4 ∧ IsRange h r 0 e 1 t u v :=
  ⟨_, by repeat' split
         all_goals omega, by repeat' split
                             all_goals omega, H⟩
theorem c_psr (sa : Addr) (n : Nat) (p : Int) (tp : Tok) (q : Int) (tq : Tok) (news : List (Addr × Obj)) (g : Obj → List (Addr × Obj)) :
    Con 119 3 news (UpdF sa (listOf [Value.int p tp, Value.int q tq].toArray n) news g ∧ 0 ≤ p ∧ 0 ≤ q ∧ q < 2147483647) [.ref sa] (fun x : Int × Tok × Int × Tok => g (listOf [Value.int x.1 x.2.1, Value.int x.2.2.1 x.2.2.2].toArray n)) (fun _ => .bool true) (fun x => 0 ≤ x.1 ∧ 0 ≤ x.2.2.1 ∧ x.2.2.1 < 2147483647) :=
  con_lift (fun rest => c_psr0 sa n p tp q tq rest) news g

theorem c_cut (sa : Addr) (n : Nat) (p : Int) (tp : Tok) (q : Int) (tq : Tok) (b : Array UInt8) (tb : Tok) (ks : List Int) (news : List (Addr × Obj)) (g : Obj → List (Addr × Obj)) :
    Con 107 3 news (UpdF sa (listOf [Value.int p tp, Value.int q tq].toArray n) news g ∧ 0 ≤ p ∧ 0 ≤ q ∧ q < 2147483647 ∧ KBw.bInts b = ks ∧ ks.length ≤ 18) [.ref sa, .bytes b tb] (fun x : Int × Tok × Int × Tok => g (listOf [Value.int x.1 x.2.1, Value.int x.2.2.1 x.2.2.2].toArray n)) (fun _ => .bool true) (fun x => 0 ≤ x.1 ∧ 0 ≤ x.2.2.1 ∧ x.2.2.1 < 2147483647) :=
  con_lift (fun rest => c_cut0 sa n p tp q tq rest b tb ks) news g

theorem c_chk (sa : Addr) (n : Nat) (p : Int) (tp : Tok) (q : Int) (tq : Tok) (b : Array UInt8) (tb : Tok) (ks : List Int) (news : List (Addr × Obj)) (g : Obj → List (Addr × Obj)) :
    Con 114 4 news (UpdF sa (listOf [Value.int p tp, Value.int q tq].toArray n) news g ∧ 0 ≤ p ∧ 0 ≤ q ∧ q < 2147483647 ∧ KBw.bInts b = ks ∧ ks.length ≤ 18) [.ref sa, .bytes b tb] (fun x : Int × Tok × Int × Tok => g (listOf [Value.int x.1 x.2.1, Value.int x.2.2.1 x.2.2.2].toArray n)) (fun _ => .bool true) (fun x => 0 ≤ x.1 ∧ 0 ≤ x.2.2.1 ∧ x.2.2.1 < 2147483647) :=
  con_lift (fun rest => c_chk0 sa n p tp q tq rest b tb ks) news g

local macro_rules | `(tactic| walk_at "subscriptTail Name Constant ref int") => `(tactic| (k_here; (with_reducible show wpAny _ _ (subscriptTail _ _ (Value.ref _) (Value.int _ _)) _ _ _); k_dflt (with_unfolding_all refine' item_litK ?k1 ?k2 ?k3 ?k4 ?_ ?k6; (case k1 => exact News.isList (by k_asm) (by k_mem)); (case k2 => decide); (case k3 => decide); (case k4 => rfl); (case k6 => with_unfolding_all rfl); k_whole)))
local macro_rules | `(tactic| walk_at "binaryOp FloorDiv int int") => `(tactic| (with_reducible refine fdiv_by ?_ ?_ ?_; first | decide | omega; first | decide | omega))
local macro_rules | `(tactic| walk_at "binaryOp Mod int int") => `(tactic| (with_reducible refine mod_by ?_ ?_ ?_; first | decide | omega; first | decide | omega; intro mLo mHi))
local macro_rules | `(tactic| walk_at "call ref") => `(tactic| (k_here; (with_reducible show wpAny _ _ (call (Value.ref 21) _) _ _ _); k_dflt (refine' con_use (c_fold _ _ _) ?k1 ?k2 ?k3 ?k4 ?k5 ?kK ?kp ?kd ?ku ?_; (case k1 => k_asm); (case k2 => k_asm); (case k3 => k_asm); (case k4 => k_asm); (case k5 => k_asm); (case kK => first | exact rfl | assumption); (case kp => ((try dsimp only); first | assumption | omega | k_extra "pre" | (simp_all; done))); (case kd => ktr_room); (case ku => ktr_units); intro x9 h9 tk9 hf9 F9 N9; (try dsimp only); (try k_fold))))
local macro_rules | `(tactic| walk_at "call ref") => `(tactic| (k_here; (with_reducible show wpAny _ _ (call (Value.ref 79) _) _ _ _); k_dflt (refine' con_use (c_take _ _ _ _ _ _ _ _ _ _) ?k1 ?k2 ?k3 ?k4 ?k5 ?kK ?kp ?kd ?ku ?_; (case k1 => k_asm); (case k2 => k_asm); (case k3 => k_asm); (case k4 => k_asm); (case k5 => k_asm); (case kK => first | exact rfl | assumption); (case kp => ((try dsimp only); (refine ⟨?p1, ?p2, ?p3, ?p4, ?p5, ?p6⟩; (case p1 => k_updF); (case p2 => first | assumption | omega); (case p3 => first | assumption | omega); (case p4 => first | assumption | omega); (case p5 => first | decide | omega); (case p6 => first | decide | omega)))); (case kd => ktr_room); (case ku => ktr_units); intro x9 h9 tk9 hf9 F9 N9; (obtain ⟨d9, td9, p9, tp9, q9, tq9⟩ := x9); (try dsimp only at hf9); (obtain ⟨dLo9, dHi9, pLo9, qLo9, qHi9⟩ := hf9); (try rw [two32] at dHi9); (try dsimp only at N9); (try dsimp only); (try k_fold))))
local macro_rules | `(tactic| walk_at "call ref") => `(tactic| (k_here; (with_reducible show wpAny _ _ (call (Value.ref 36) [_, _]) _ _ _); k_dflt (refine' con_use (c_ones _ _ _ _ _ _) ?k1 ?k2 ?k3 ?k4 ?k5 ?kK ?kp ?kd ?ku ?_; (case k1 => k_asm); (case k2 => k_asm); (case k3 => k_asm); (case k4 => k_asm); (case k5 => k_asm); (case kK => first | exact rfl | assumption); (case kp => ((try dsimp only); (refine ⟨?p1, ?p2, ?p3, ?p4⟩; (case p3 => kba_ints2); (case p1 => omega); (case p2 => omega); (case p4 => ((try simp only [List.length_append, List.length_take, List.length_drop, List.length_cons, List.length_nil, List.length_map, List.length_replicate]); first | omega | k_extra "len"))))); (case kd => ktr_room); (case ku => ktr_units); intro x9 h9 tk9 hf9 F9 N9; (try dsimp only); (try k_fold))))
local macro_rules | `(tactic| walk_at "call ref") => `(tactic| (k_here; (with_reducible show wpAny _ _ (call (Value.ref 36) [_]) _ _ _); k_dflt (refine' con_use (c_ones1 _ _ _ _) ?k1 ?k2 ?k3 ?k4 ?k5 ?kK ?kp ?kd ?ku ?_; (case k1 => k_asm); (case k2 => k_asm); (case k3 => k_asm); (case k4 => k_asm); (case k5 => k_asm); (case kK => first | exact rfl | assumption); (case kp => ((try dsimp only); (refine ⟨?p1, ?p2, ?p3, ?p4⟩; (case p3 => kba_ints2); (case p1 => omega); (case p2 => omega); (case p4 => ((try simp only [List.length_append, List.length_take, List.length_drop, List.length_cons, List.length_nil, List.length_map, List.length_replicate]); first | omega | k_extra "len"))))); (case kd => ktr_room); (case ku => ktr_units); intro x9 h9 tk9 hf9 F9 N9; (try dsimp only); (try k_fold))))
local macro_rules | `(tactic| walk_at "call ref") => `(tactic| (k_here; (with_reducible show wpAny _ _ (call (Value.ref 44) _) _ _ _); k_dflt (refine' con_use (c_check _ _ _ _) ?k1 ?k2 ?k3 ?k4 ?k5 ?kK ?kp ?kd ?ku ?_; (case k1 => k_asm); (case k2 => k_asm); (case k3 => k_asm); (case k4 => k_asm); (case k5 => k_asm); (case kK => first | exact rfl | assumption); (case kp => ((try dsimp only); (refine ⟨?p3, ?p4⟩; (case p3 => kba_ints2); (case p4 => ((try simp only [List.length_append, List.length_take, List.length_drop, List.length_cons, List.length_nil, List.length_map, List.length_replicate]); first | omega | k_extra "len"))))); (case kd => ktr_room); (case ku => ktr_units); intro x9 h9 tk9 hf9 F9 N9; (try dsimp only); (try k_fold))))
local macro_rules | `(tactic| walk_at "call ref") => `(tactic| (k_here; (with_reducible show wpAny _ _ (call (Value.ref 93) _) _ _ _); k_dflt (refine' con_use (c_number _ _ _ _) ?k1 ?k2 ?k3 ?k4 ?k5 ?kK ?kp ?kd ?ku ?_; (case k1 => k_asm); (case k2 => k_asm); (case k3 => k_asm); (case k4 => k_asm); (case k5 => k_asm); (case kK => first | exact rfl | assumption); (case kp => ((try dsimp only); (refine ⟨?p3, ?p4⟩; (case p3 => kba_ints2); (case p4 => ((try simp only [List.length_append, List.length_take, List.length_drop, List.length_cons, List.length_nil, List.length_map, List.length_replicate]); first | omega | k_extra "len"))))); (case kd => ktr_room); (case ku => ktr_units); intro x9 h9 tk9 hf9 F9 N9; (obtain ⟨nLo9, nHi9⟩ := hf9); (try dsimp only); (try k_fold))))
local macro_rules | `(tactic| walk_at "call ref") => `(tactic| (k_here; (with_reducible show wpAny _ _ (call (Value.ref 100) _) _ _ _); k_dflt (refine' con_use (c_lsum _ _ _) ?k1 ?k2 ?k3 ?k4 ?k5 ?kK ?kp ?kd ?ku ?_; (case k1 => k_asm); (case k2 => k_asm); (case k3 => k_asm); (case k4 => k_asm); (case k5 => k_asm); (case kK => first | exact rfl | assumption); (case kp => ((try dsimp only); first | assumption | omega | k_extra "pre")); (case kd => ktr_room); (case ku => ktr_units); intro x9 h9 tk9 hf9 F9 N9; (try dsimp only); (try k_fold))))
local macro_rules | `(tactic| walk_at "call ref") => `(tactic| (k_here; (with_reducible show wpAny _ _ (call (Value.ref 72) _) _ _ _); k_dflt (refine' cons_use (c_pool _ _ _ _ _ _) ?k1 ?k2 ?k3 ?k4 ?k5 ?kK ?kl ?ki ?kn ?kp ?kd ?ku ?_; (case k1 => k_asm); (case k2 => k_asm); (case k3 => k_asm); (case k4 => k_asm); (case k5 => k_asm); (case kK => first | exact rfl | assumption); (case kl => first | assumption | is_list); (case ki => assumption); (case kn => omega); (case kp => (constructor <;> omega)); (case kd => ktr_room); (case ku => ktr_units); intro x9 h9 tk9 hf9 F9 N9; (obtain ⟨sa9, p9, tp9, q9, tq9⟩ := x9); (try dsimp only at hf9); (obtain ⟨sLt9, pLo9, qLo9, qHi9⟩ := hf9); (have kOff9 := own_off sLt9); (try dsimp only at N9); (try dsimp only); (try k_fold))))
local macro_rules | `(tactic| walk_at "call ref") => `(tactic| (k_here; (with_reducible show wpAny _ _ (call (Value.ref 86) _) _ _ _); k_dflt (refine' con_use (c_oct _ _ _ _ _ _ _ _ _) ?k1 ?k2 ?k3 ?k4 ?k5 ?kK ?kp ?kd ?ku ?_; (case k1 => k_asm); (case k2 => k_asm); (case k3 => k_asm); (case k4 => k_asm); (case k5 => k_asm); (case kK => first | exact rfl | assumption); (case kp => ((try dsimp only); (refine ⟨?p1, ?p2, ?p3, ?p4⟩; (case p1 => k_updF); (case p2 => first | assumption | omega); (case p3 => first | assumption | omega); (case p4 => first | assumption | omega)))); (case kd => ktr_room); (case ku => ktr_units); intro x9 h9 tk9 hf9 F9 N9; (obtain ⟨b9, tb9, p9, tp9, q9, tq9⟩ := x9); (try dsimp only at hf9); (obtain ⟨bLen9, pLo9, qLo9, qHi9⟩ := hf9); (try dsimp only at N9); (obtain ⟨ks9, kI9⟩ := (⟨_, rfl⟩ : ∃ ks, KBw.bInts b9 = ks)); (rw [kI9] at bLen9); (try dsimp only); (try k_fold))))
local macro_rules | `(tactic| walk_at "call ref") => `(tactic| (k_here; (with_reducible show wpAny _ _ (call (Value.ref 107) _) _ _ _); k_dflt (refine' con_use (c_cut _ _ _ _ _ _ _ _ _ _ _) ?k1 ?k2 ?k3 ?k4 ?k5 ?kK ?kp ?kd ?ku ?_; (case k1 => k_asm); (case k2 => k_asm); (case k3 => k_asm); (case k4 => k_asm); (case k5 => k_asm); (case kK => first | exact rfl | assumption); (case kp => ((try dsimp only); (refine ⟨?p1, ?p2, ?p3, ?p4, ?p5, ?p6⟩; (case p1 => k_updF); (case p2 => first | assumption | omega); (case p3 => first | assumption | omega); (case p4 => first | assumption | omega); (case p5 => kba_ints2); (case p6 => first | assumption | omega)))); (case kd => ktr_room); (case ku => ktr_units); intro x9 h9 tk9 hf9 F9 N9; (obtain ⟨p9, tp9, q9, tq9⟩ := x9); (try dsimp only at hf9); (obtain ⟨pLo9, qLo9, qHi9⟩ := hf9); (try dsimp only at N9); (try dsimp only); (try k_fold))))
local macro_rules | `(tactic| walk_at "call ref") => `(tactic| (k_here; (with_reducible show wpAny _ _ (call (Value.ref 114) _) _ _ _); k_dflt (refine' con_use (c_chk _ _ _ _ _ _ _ _ _ _ _) ?k1 ?k2 ?k3 ?k4 ?k5 ?kK ?kp ?kd ?ku ?_; (case k1 => k_asm); (case k2 => k_asm); (case k3 => k_asm); (case k4 => k_asm); (case k5 => k_asm); (case kK => first | exact rfl | assumption); (case kp => ((try dsimp only); (refine ⟨?p1, ?p2, ?p3, ?p4, ?p5, ?p6⟩; (case p1 => k_updF); (case p2 => first | assumption | omega); (case p3 => first | assumption | omega); (case p4 => first | assumption | omega); (case p5 => kba_ints2); (case p6 => first | assumption | omega)))); (case kd => ktr_room); (case ku => ktr_units); intro x9 h9 tk9 hf9 F9 N9; (obtain ⟨p9, tp9, q9, tq9⟩ := x9); (try dsimp only at hf9); (obtain ⟨pLo9, qLo9, qHi9⟩ := hf9); (try dsimp only at N9); (try dsimp only); (try k_fold))))
local macro_rules | `(tactic| walk_at "call ref") => `(tactic| (k_here; (with_reducible show wpAny _ _ (call (Value.ref 119) _) _ _ _); k_dflt (refine' con_use (c_psr _ _ _ _ _ _ _ _) ?k1 ?k2 ?k3 ?k4 ?k5 ?kK ?kp ?kd ?ku ?_; (case k1 => k_asm); (case k2 => k_asm); (case k3 => k_asm); (case k4 => k_asm); (case k5 => k_asm); (case kK => first | exact rfl | assumption); (case kp => ((try dsimp only); (refine ⟨?p1, ?p2, ?p3, ?p4⟩; (case p1 => k_updF); (case p2 => first | assumption | omega); (case p3 => first | assumption | omega); (case p4 => first | assumption | omega)))); (case kd => ktr_room); (case ku => ktr_units); intro x9 h9 tk9 hf9 F9 N9; (obtain ⟨p9, tp9, q9, tq9⟩ := x9); (try dsimp only at hf9); (obtain ⟨pLo9, qLo9, qHi9⟩ := hf9); (try dsimp only at N9); (try dsimp only); (try k_fold))))
local macro_rules | `(tactic| walk_at "eval Call") => `(tactic| (k_here; (with_reducible show wpAny _ _ (eval (Expr.Call (Expr.Name _ _) _ [] _) _) _ _ _); k_dflt (refine Call_ ?_)))
local macro_rules | `(tactic| walk_at "execs cons") => `(tactic| (k_here; k_dflt (refine wpAny_execs_cons ?_); (try dsimp only); (refine gen_toks ?_; intro tk9)))
local macro_rules | `(tactic| walk_at "pyIter ref") => `(tactic| k_dflt (((rename Fr _ _ _ _ => lF'); (rename News _ _ _ _ => lN'); (rename IsRange _ _ _ _ _ _ _ _ => rgX); (obtain ⟨e9, he1, he4, rgX⟩ := range_e rgX); (with_unfolding_all refine' kst_range (σ := Unit) (fun _ => []) (fun _ => []) (fun _ => True) [Str.ofString "source", Str.ofString "octets", Str.ofString "begin", Str.ofString "words"] (fun pre _ => True) () (by rfl) rgX ?ka ?kb lF' lN' trivial ?kk trivial ?kturn ?kdone); (case ka => exact small_one (by omega) (by omega) (by omega) (by omega)); (case kb => exact rangeSize_nat _ _); (case kk => (intro y9 hy9; exact nomatch hy9)); clear lF' lN'; (case' kturn => (rintro _ kPre kN kT kU kH kTk kOwn kEq kLt kOff _ _ kFr kNews; (have kMark := kstMark); (have kLo9 : 0 ≤ kN := by omega); (have kHi9 : kN < 64 := by omega); (try dsimp only [kstB] at kFr); (try dsimp only at kNews); (try simp only [List.nil_append, List.cons_append, List.append_nil] at kNews))); (case' kdone => (rintro _ kU kH kTk _ _ kFr kNews; (have kMark := kstMark); (try dsimp only [kstB] at kFr); (try dsimp only at kNews))); (all_goals (try k_fold)))))
set_option maxHeartbeats 16000000 in
theorem holds : PySem.Challenge.rw_nu0115_01.Holds := Mine.hd (by
  w_top off
  k_with_none
  k_go0
  (all_goals try k_fold)
  k_with "state" => trivial
  k_with "end" => first | exact absurd trivial (fun _ => law_no1 (by assumption) (by assumption)) | exact absurd trivial (fun _ => law_no2 (by assumption) (by assumption) (by assumption))
  k_steps
)

end Mine
end

open PySem PySem.W PyProof.Rows
set_option maxRecDepth 100000 in
set_option maxHeartbeats 8000000 in
theorem PySem.Challenge.cw_nu0115_01_holds : PySem.Challenge.rw_nu0115_01.Holds := by
  exact Mine.holds
