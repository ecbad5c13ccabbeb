import PyProof.Rows.All
import Wide.All
import OpenK.AllK
import Wide.FinOn
import PySem.Challenge.RW_pb0309_01
open PySem PySem.W PyProof.Rows
set_option Elab.async false
set_option maxRecDepth 100000
set_option maxHeartbeats 8000000
open_top Mine.hd for PySem.Challenge.rw_pb0309_01
local macro_rules | `(tactic| walk_at $s:str) => `(tactic| k_extra $s)
namespace Mine
open PySem PySem.W PyProof.Rows PySem.Spec PySem.Calls
/-- what a call of the def at `f` gives: the frame stays, the ledger becomes `news'`, the value is `r`, and `Post news' r` -/
abbrev Con (w : World) (mean : ExcName → Option Value) (mg mb : Str → Option Value) (f : Addr) (D : Nat) (news : List (Addr × Obj)) (vs : List Value) (Post : List (Addr × Obj) → Value → Prop) : Prop :=
  ∀ (dp un : Nat) (gd : Option (List Code)) (cn : Str) (cs : Scope) (a : Addr) (ccd : Value) (cl : List (Str × Addr)) (outer : List Env) (A₀ : Around) (base h₀ : Heap) (L : Addr) (m : Str → Option Value) (s : Shared) (Q E : Value → Shared → Prop),
    Below A₀ base outer h₀ → Fr h₀ L s.heap m → (Mine.hd.heap_39 w.params).In h₀ → News h₀ L s.heap news → Top Mine.hd.view_39 (looseW Mine.hd.view_39 []) mean mg mb h₀ → cs.kind = .function →
    dp + D < recursionLimit → un + 8 * D < cLine →
    (∀ r news' h' tk', Fr h₀ L h' m → News h₀ L h' news' → Post news' r → Q r { s with heap := h', toks := tk' }) →
    wpAny (model PySem.Challenge.rw_pb0309_01.row.prog w) (ktrTop dp un gd cn cs L a ccd cl outer) (call (.ref f) vs) Q E s
theorem fmod_nn {a b : Int} (hb : 0 < b) : 0 ≤ a.fmod b := Int.fmod_nonneg_of_pos a hb
theorem fmod_up {a b : Int} (hb : 0 < b) : a.fmod b < b := Int.fmod_lt_of_pos a hb
theorem con_use2 {w : World} {mean : ExcName → Option Value} {mg mb : Str → Option Value} {f : Addr} {D : Nat} {news : List (Addr × Obj)} {vs : List Value} {Post : List (Addr × Obj) → Value → Prop}
    {dp un : Nat} {gd : Option (List Code)} {cn : Str} {cs : Scope} {a : Addr} {ccd : Value} {cl : List (Str × Addr)} {outer : List Env} {A₀ : Around} {base h₀ : Heap} {L : Addr} {m : Str → Option Value} {s : Shared} {Q E : Value → Shared → Prop}
    (F : Fr h₀ L s.heap m) (N : News h₀ L s.heap news) (C : Con w mean mg mb f D news vs Post)
    (B : Below A₀ base outer h₀) (X : (Mine.hd.heap_39 w.params).In h₀) (T : Top Mine.hd.view_39 (looseW Mine.hd.view_39 []) mean mg mb h₀) (hk : cs.kind = .function)
    (hd : dp + D < recursionLimit) (hu : un + 8 * D < cLine)
    (ret : ∀ r news' h' tk', Fr h₀ L h' m → News h₀ L h' news' → Post news' r → Q r { s with heap := h', toks := tk' }) :
    wpAny (model PySem.Challenge.rw_pb0309_01.row.prog w) (ktrTop dp un gd cn cs L a ccd cl outer) (call (.ref f) vs) Q E s := C dp un gd cn cs a ccd cl outer A₀ base h₀ L m s Q E B F X N T hk hd hu ret
end Mine
namespace Mine
open PySem PySem.W PyProof.Rows
theorem and_pred_zero (n : Nat) : 0 < n → n &&& (n - 1) = 0 → ∃ j, n = 2 ^ j := by
  induction n using Nat.strongRecOn with
  | _ n ih =>
    intro h0 h
    have h2 : (n &&& (n - 1)) / 2 = n / 2 &&& (n - 1) / 2 := Nat.and_div_two
    rw [h] at h2
    rcases Nat.mod_two_eq_zero_or_one n with he | he
    · have e1 : (n - 1) / 2 = n / 2 - 1 := by omega
      rw [e1] at h2
      obtain ⟨j, hj⟩ := ih (n / 2) (by omega) (by omega) (by simpa using h2.symm)
      exact ⟨j + 1, by rw [Nat.pow_succ]; omega⟩
    · have e1 : (n - 1) / 2 = n / 2 := by omega
      rw [e1, Nat.and_self] at h2
      exact ⟨0, by simp at h2 ⊢; omega⟩
theorem and_pred_pow (j : Nat) : 2 ^ j &&& (2 ^ j - 1) = 0 := by
  rw [Nat.and_two_pow_sub_one_eq_mod, Nat.mod_self]
theorem bitAnd_nat (a b : Nat) : Builtin.bitAnd (a : Int) (b : Int) = ((a &&& b : Nat) : Int) := by
  unfold Builtin.bitAnd
  simp
theorem lt_of_pow32 {k : Nat} (h : 2 ^ k < 4294967296) : k < 32 := by
  by_cases hk : k < 32
  · exact hk
  · have : 2 ^ 32 ≤ 2 ^ k := Nat.pow_le_pow_right (by decide) (by omega)
    omega
theorem cast_pow (k : Nat) : (((2 ^ k : Nat)) : Int) = (2 : Int) ^ k := by simp
/-- the power of two that a word is, or -1 -/
def pidx (x : Int) : Int := match (List.range 32).find? (fun k => x == (2 : Int) ^ k) with | some k => (k : Int) | none => -1
theorem pow_inj {a b : Nat} (h : (2 : Int) ^ a = (2 : Int) ^ b) : a = b := by
  rw [← cast_pow, ← cast_pow] at h
  exact (Nat.pow_right_inj (by decide)).mp (Int.ofNat.inj h)
theorem pidx_pow {k : Nat} (hk : k < 32) : pidx ((2 : Int) ^ k) = k := by
  unfold pidx
  have : (List.range 32).find? (fun j => (2 : Int) ^ k == (2 : Int) ^ j) = some k := by
    rw [List.find?_eq_some_iff_append]
    refine ⟨by simp, List.range k, (List.range' (k + 1) (31 - k)), ?_, ?_⟩
    · rw [List.range_eq_range', List.range_eq_range', ← List.range'_succ]
      have := @List.range'_append 0 k (31 - k + 1) 1
      simp only [Nat.one_mul, Nat.zero_add] at this
      rw [this]; congr 1; omega
    · intro j hj
      have : j < k := by simpa using hj
      simp only [Bool.not_eq_true', beq_eq_false_iff_ne, ne_eq]
      intro h
      have := pow_inj h
      omega
  rw [this]
theorem pidx_none {x : Int} (h : ∀ k : Nat, k < 32 → x ≠ (2 : Int) ^ k) : pidx x = -1 := by
  unfold pidx
  have : (List.range 32).find? (fun j => x == (2 : Int) ^ j) = none := by
    rw [List.find?_eq_none]
    intro k hk
    simpa using h k (by simpa using hk)
  rw [this]
theorem pidx_cases (x : Int) : (∃ k : Nat, k < 32 ∧ x = (2 : Int) ^ k ∧ pidx x = k) ∨ ((∀ k : Nat, k < 32 → x ≠ (2 : Int) ^ k) ∧ pidx x = -1) := by
  by_cases h : ∃ k : Nat, k < 32 ∧ x = (2 : Int) ^ k
  · obtain ⟨k, hk, rfl⟩ := h
    exact .inl ⟨k, hk, rfl, pidx_pow hk⟩
  · have h' : ∀ k : Nat, k < 32 → x ≠ (2 : Int) ^ k := fun k hk e => h ⟨k, hk, e⟩
    exact .inr ⟨h', pidx_none h'⟩
theorem pidx_zero : pidx 0 = -1 := pidx_none fun k _ h => by
  have : (0 : Int) < (2 : Int) ^ k := Int.pow_pos (by decide)
  omega
theorem bits_pow {x : Int} (h0 : 0 ≤ x) (h1 : x < 4294967296) (hx : x ≠ 0) (hb : Builtin.bitAnd x (x - 1) = 0) : ∃ k : Nat, k < 32 ∧ x = (2 : Int) ^ k := by
  obtain ⟨n, rfl⟩ := Int.eq_ofNat_of_zero_le h0
  have e : ((n : Int) - 1) = ((n - 1 : Nat) : Int) := by omega
  rw [e, bitAnd_nat] at hb
  obtain ⟨j, hj⟩ := and_pred_zero n (by omega) (by omega)
  subst hj
  exact ⟨j, lt_of_pow32 (by omega), cast_pow j⟩
theorem bits_npow {x : Int} (hb : Builtin.bitAnd x (x - 1) ≠ 0) : pidx x = -1 := by
  refine pidx_none fun k _ h => hb ?_
  subst h
  have : (0 : Nat) < 2 ^ k := Nat.pow_pos (by decide)
  have e : ((2 : Int) ^ k - 1) = ((2 ^ k - 1 : Nat) : Int) := by rw [← cast_pow]; omega
  rw [e, ← cast_pow, bitAnd_nat, and_pred_pow]; rfl
/-- what a turn of power_index's while keeps -/
def pinv (x k : Int) : Prop := 0 ≤ k ∧ k ≤ 32 ∧ (k = 0 ∨ (2 : Int) ^ (k.toNat - 1) < x)
theorem pinv_all {x k : Int} (h : pinv x k) : 0 ≤ k ∧ k ≤ 32 ∧ pinv x k := ⟨h.1, h.2.1, h⟩
theorem pinv_zero (x : Int) : pinv x 0 := ⟨by omega, by omega, .inl rfl⟩
theorem pinv_next {x k : Int} (h1 : x < 4294967296) (h : pinv x k) (ht : 1 * 2 ^ k.toNat < x) : pinv x (k + 1) := by
  obtain ⟨h0, h32, _⟩ := h
  rw [Int.one_mul] at ht
  have h3 : k.toNat < 32 := lt_of_pow32 (by have := cast_pow k.toNat; omega)
  refine ⟨by omega, by omega, .inr ?_⟩
  have : (k + 1).toNat - 1 = k.toNat := by omega
  rw [this]; exact ht
theorem pow_lt_of {a b : Nat} (h : (2 : Int) ^ a < (2 : Int) ^ b) : a < b := by
  rw [← cast_pow, ← cast_pow] at h
  exact (Nat.pow_lt_pow_iff_right (by decide)).mp (Int.ofNat_lt.mp h)
theorem pinv_end {x k : Int} (h0 : 0 ≤ x) (h1 : x < 4294967296) (hx : x ≠ 0) (hb : Builtin.bitAnd x (x - 1) = 0) (h : pinv x k) (ht : ¬1 * 2 ^ k.toNat < x) : pidx x = k := by
  obtain ⟨j, hj, rfl⟩ := bits_pow h0 h1 hx hb
  obtain ⟨hk0, hk1, hk⟩ := h
  rw [Int.one_mul] at ht
  rw [pidx_pow hj]
  have h2 : ¬ k.toNat < j := fun hlt => ht (by rw [← cast_pow, ← cast_pow]; exact Int.ofNat_lt.mpr (Nat.pow_lt_pow_right (by decide) hlt))
  rcases hk with rfl | hk
  · omega
  · have := pow_lt_of hk
    omega
end Mine
namespace Mine
open PySem PySem.W PyProof.Rows
abbrev T3 (a s b : Int) : Dat := Dat.tuple [Dat.int a, Dat.int s, Dat.int b]
def fA (c k : Int) : Option Dat := if 0 ≤ pidx ((c - 1 * 2 ^ k.toNat).fmod 4294967296) ∧ pidx ((c - 1 * 2 ^ k.toNat).fmod 4294967296) < k then some (T3 k 1 (pidx ((c - 1 * 2 ^ k.toNat).fmod 4294967296))) else none
def fB (c k : Int) : Option Dat := if 0 ≤ pidx ((1 * 2 ^ k.toNat - c).fmod 4294967296) then some (T3 k (-1) (pidx ((1 * 2 ^ k.toNat - c).fmod 4294967296))) else none
def wA (c : Int) (pre : List Int) (out : List Dat) : Prop := out = pre.filterMap (fA c)
def wB (c : Int) (pre : List Int) (out : List Dat) : Prop := out = (rangeKs 0 32).filterMap (fA c) ++ pre.filterMap (fB c)
def termsD (c : Int) : List Dat := (rangeKs 0 32).filterMap (fA c) ++ (rangeKs 0 33).filterMap (fB c)
theorem wA_len {c : Int} {pre : List Int} {out : List Dat} (h : wA c pre out) : out.length ≤ pre.length := by
  unfold wA at h; rw [h]; exact List.length_filterMap_le _ _
theorem wB_len {c : Int} {pre : List Int} {out : List Dat} (h : wB c pre out) : out.length ≤ 32 + pre.length := by
  unfold wB at h; rw [h, List.length_append]
  have h1 := List.length_filterMap_le (fA c) (rangeKs 0 32)
  have h2 := List.length_filterMap_le (fB c) pre
  rw [rangeKs_length] at h1
  omega
theorem wA_0 (c : Int) : wA c [] [] := rfl
theorem wB_0 {c : Int} {out : List Dat} (h : wA c (rangeKs 0 ((32 : Int) - 0).toNat) out) : wB c [] out := by
  have e : ((32 : Int) - 0).toNat = 32 := rfl
  rw [e] at h
  unfold wA at h; unfold wB; rw [h]; simp
theorem wB_end {c : Int} {out : List Dat} (h : wB c (rangeKs 0 ((33 : Int) - 0).toNat) out) : out = termsD c := h
theorem wA_yes {c k : Int} {pre : List Int} {out : List Dat} (h : wA c pre out) (h1 : 0 ≤ pidx ((c - 1 * 2 ^ k.toNat).fmod 4294967296)) (h2 : pidx ((c - 1 * 2 ^ k.toNat).fmod 4294967296) < k) :
    wA c (pre ++ [k]) (out ++ [T3 k 1 (pidx ((c - 1 * 2 ^ k.toNat).fmod 4294967296))]) := by
  have e : fA c k = some _ := if_pos ⟨h1, h2⟩
  unfold wA at *; rw [List.filterMap_append, h, List.filterMap_cons_some e, List.filterMap_nil]
theorem wA_no1 {c k : Int} {pre : List Int} {out : List Dat} (h : wA c pre out) (h1 : ¬ 0 ≤ pidx ((c - 1 * 2 ^ k.toNat).fmod 4294967296)) : wA c (pre ++ [k]) out := by
  have e : fA c k = none := if_neg fun q => h1 q.1
  unfold wA at *; rw [List.filterMap_append, h, List.filterMap_cons_none e, List.filterMap_nil, List.append_nil]
theorem wA_no2 {c k : Int} {pre : List Int} {out : List Dat} (h : wA c pre out) (h1 : ¬ pidx ((c - 1 * 2 ^ k.toNat).fmod 4294967296) < k) : wA c (pre ++ [k]) out := by
  have e : fA c k = none := if_neg fun q => h1 q.2
  unfold wA at *; rw [List.filterMap_append, h, List.filterMap_cons_none e, List.filterMap_nil, List.append_nil]
theorem wB_yes {c k : Int} {pre : List Int} {out : List Dat} (h : wB c pre out) (h1 : 0 ≤ pidx ((1 * 2 ^ k.toNat - c).fmod 4294967296)) :
    wB c (pre ++ [k]) (out ++ [T3 k (-1) (pidx ((1 * 2 ^ k.toNat - c).fmod 4294967296))]) := by
  have e : fB c k = some _ := if_pos h1
  unfold wB at *; rw [List.filterMap_append, h, List.filterMap_cons_some e, List.filterMap_nil, List.append_assoc]
theorem wB_no {c k : Int} {pre : List Int} {out : List Dat} (h : wB c pre out) (h1 : ¬ 0 ≤ pidx ((1 * 2 ^ k.toNat - c).fmod 4294967296)) : wB c (pre ++ [k]) out := by
  have e : fB c k = none := if_neg h1
  unfold wB at *; rw [List.filterMap_append, h, List.filterMap_cons_none e, List.filterMap_nil, List.append_nil]
/-- these are the forms of two terms -/
structure TD (c : Int) (ds : List Dat) : Prop where
  eq : ds = termsD c
theorem termsD_shape (c : Int) : ∀ d ∈ termsD c, ∃ a s b : Int, d = Dat.tuple [Dat.int a, Dat.int s, Dat.int b] := by
  intro d hd
  unfold termsD at hd
  rcases List.mem_append.mp hd with hd | hd
  · obtain ⟨k, _, hk⟩ := List.mem_filterMap.mp hd
    unfold fA at hk
    split at hk
    · exact ⟨_, _, _, (Option.some.inj hk).symm⟩
    · cases hk
  · obtain ⟨k, _, hk⟩ := List.mem_filterMap.mp hd
    unfold fB at hk
    split at hk
    · exact ⟨_, _, _, (Option.some.inj hk).symm⟩
    · cases hk
/-- the rows that a form takes -/
def cost3 (a s b : Int) : Int := if s = 0 then 1 else 1 + (if a > 0 then 1 else 0) + (if b > 0 then 1 else 0)
def costD : Dat → Int
  | .tuple [.int a, .int s, .int b] => cost3 a s b
  | _ => 0
def stepD (b d : Dat) : Dat := match b with
  | .none => d
  | b => if costD d < costD b then d else b
def bestD (l : List Dat) : Dat := l.foldl stepD Dat.none
def leastD (c : Int) : Dat :=
  if c.fmod 4294967296 = 0 then T3 32 0 0
  else if 0 ≤ pidx (c.fmod 4294967296) then T3 (pidx (c.fmod 4294967296)) 0 0
  else bestD (termsD c)
/-- what least_form's loop keeps -/
def wL (pre : List Dat) (best : Dat) : Prop := best = bestD pre
def isForm (d : Dat) : Prop := d = Dat.none ∨ ∃ a s b : Int, d = Dat.tuple [Dat.int a, Dat.int s, Dat.int b]
theorem isForm.out {d : Dat} (h : isForm d) : d = Dat.none ∨ ∃ a s b : Int, d = Dat.tuple [Dat.int a, Dat.int s, Dat.int b] := h
theorem wL_0 : wL [] Dat.none := rfl
theorem wL_first {pre : List Dat} {d : Dat} (h : wL pre Dat.none) : wL (pre ++ [d]) d := by
  unfold wL bestD at *; rw [List.foldl_append, ← h]; rfl
theorem wL_yes {pre : List Dat} {a s b a' s' b' : Int} (h : wL pre (T3 a s b)) (hc : cost3 a' s' b' < cost3 a s b) : wL (pre ++ [T3 a' s' b']) (T3 a' s' b') := by
  unfold wL bestD at *; rw [List.foldl_append, ← h]; exact (if_pos hc).symm
theorem wL_no {pre : List Dat} {a s b a' s' b' : Int} (h : wL pre (T3 a s b)) (hc : ¬ cost3 a' s' b' < cost3 a s b) : wL (pre ++ [T3 a' s' b']) (T3 a s b) := by
  unfold wL bestD at *; rw [List.foldl_append, ← h]; exact (if_neg hc).symm
theorem isForm_n : isForm Dat.none := .inl rfl
theorem isForm_t {a s b : Int} : isForm (T3 a s b) := .inr ⟨a, s, b, rfl⟩
theorem TD.shape {c : Int} {ds : List Dat} (h : TD c ds) : ∀ d ∈ ds, ∃ a s b : Int, d = Dat.tuple [Dat.int a, Dat.int s, Dat.int b] := by rw [h.eq]; exact termsD_shape c
theorem least_best {c : Int} {ds : List Dat} {best : Dat} (h : TD c ds) (hw : wL ds best) (h1 : c.fmod 4294967296 ≠ 0) (h2 : pidx (c.fmod 4294967296) < 0) : best = leastD c := by
  unfold leastD
  rw [if_neg h1, if_neg (by omega), ← h.eq]
  exact hw
theorem least_zero {c : Int} (h : c.fmod 4294967296 = 0) : leastD c = T3 32 0 0 := if_pos h
theorem least_one {c : Int} (h1 : c.fmod 4294967296 ≠ 0) (h2 : ¬ pidx (c.fmod 4294967296) < 0) : leastD c = T3 (pidx (c.fmod 4294967296)) 0 0 := by
  unfold leastD
  rw [if_neg h1, if_pos (by omega)]
end Mine
namespace Mine
open PySem PySem.W PyProof.Rows PySem.Spec PySem.Calls
theorem fdiv_nn {a b : Int} (ha : 0 ≤ a) (hb : 0 < b) : 0 ≤ a.fdiv b := Int.fdiv_nonneg ha (Int.le_of_lt hb)
local macro_rules | `(tactic| k_all) => `(tactic| assumption)
theorem digit_con (w : World) (mean : ExcName → Option Value) (mg mb : Str → Option Value) (p c : Addr) (vs : List Value) (ns : List Int) (rest : List (Addr × Obj)) (spot d most : Int) (t1 t2 tm : Tok)
   (hI : IntsAre vs ns) (hl1 : 1 ≤ ns.length) (hl2 : ns.length ≤ 40) (hcp : c ≠ p) (hrest : ∀ q ∈ rest, q.1 ≠ p) (hs0 : 0 ≤ spot) (hs1 : spot ≤ 1000) (hd0 : 0 ≤ d) (hm0 : 0 < most) (hm1 : most ≤ 1048576) :
   Con w mean mg mb 70 1 ((p, W.listOf #[.ref c, .int spot t1, .int d t2] 0) :: (c, W.listOf vs.toArray 0) :: rest) [.ref p, .int most tm]
    (fun news' r => ∃ (spot' d' v : Int) (t1' t2' t : Tok), 0 ≤ spot' ∧ spot' ≤ spot + 1 ∧ 0 ≤ d' ∧ 0 ≤ v ∧ v < most ∧
       news' = (p, W.listOf #[.ref c, .int spot' t1', .int d' t2'] 0) :: (c, W.listOf vs.toArray 0) :: rest ∧ r = .int v t) := by
  unfold Con
  w_top off
  k_with_none
  k_fill
  intro dp un gd cn cs a ccd cl outer A₀ base h₀ L m s Q E B F X N T hk hd hu hret
  refine wpAny_call ?_
  k_dflt ktr_enter
  k_steps
  all_goals (first
    | (refine hret _ _ _ _ (by assumption) (fun p hp => (by assumption : News h₀ L _ _) p (.tail _ hp)) ⟨_, _, _, _, _, _, ?_, ?_, ?_, ?_, ?_, rfl, rfl⟩)
    | (refine hret _ _ _ _ (by assumption) (by assumption) ⟨_, _, _, _, _, _, ?_, ?_, ?_, ?_, ?_, rfl, rfl⟩))
  all_goals first | omega | exact fmod_nn hm0 | exact fmod_up hm0 | exact fdiv_nn hd0 hm0 | exact fdiv_nn (fmod_nn (by decide)) hm0
end Mine
namespace Mine
open PySem PySem.W PyProof.Rows PySem.Spec PySem.Calls
theorem vint {x y : Int} {t : Tok} (h : x = y) : ∃ t' : Tok, Value.int x t = Value.int y t' := ⟨t, by rw [h]⟩
theorem pidx_con (w : World) (mean : ExcName → Option Value) (mg mb : Str → Option Value) (news : List (Addr × Obj)) (x : Int) (t : Tok)
   (hx0 : 0 ≤ x) (hx1 : x < 4294967296) :
   Con w mean mg mb 21 1 news [.int x t] (fun news' r => news' = news ∧ ∃ t' : Tok, r = .int (pidx x) t') := by
  unfold Con
  w_top off
  k_with_none
  k_fill
  intro dp un gd cn cs a ccd cl outer A₀ base h₀ L m s Q E B F X N T hk hd hu hret
  refine wpAny_call ?_
  k_dflt ktr_enter
  (k_with "exec While Compare cons nil" => k_while (fun script k => 0 ≤ k ∧ k ≤ 32 ∧ pinv x k) (fun script k => (32 - k).toNat) "power")
  (k_with "state" => first | exact ⟨by omega, by omega, pinv_zero _⟩ | exact pinv_all (pinv_next hx1 (by assumption) (by assumption)))
  (k_with "measure" => (have hm9 := pinv_all (pinv_next hx1 (by assumption) (by assumption)); omega))
  k_steps
  all_goals refine hret _ _ _ _ (by assumption) (by assumption) ⟨rfl, vint ?_⟩
  all_goals first
    | exact (bits_npow (by assumption)).symm
    | exact (pinv_end hx0 hx1 (by assumption) (by assumption) (by assumption) (by assumption)).symm
    | (rename x = 0 => hx; rw [hx, pidx_zero])
end Mine
namespace Mine
open PySem PySem.W PyProof.Rows PySem.Spec PySem.Calls
theorem two_con (w : World) (mean : ExcName → Option Value) (mg mb : Str → Option Value) (news : List (Addr × Obj)) (c : Int) (t : Tok) :
   Con w mean mg mb 35 2 news [.int c t] (fun news' r => ∃ (l : Addr) (vs : List Value) (n : Nat) (tl : List (Addr × Obj)) (ds : List Dat), news' = (l, W.listOf vs.toArray n) :: (news ++ tl) ∧ DatAll (news ++ tl) vs ds ∧ TD c ds ∧ (∀ p ∈ news, p.1 < l) ∧ r = .ref l) := by
  unfold Con
  w_top off
  k_with_none
  k_fill
  intro dp un gd cn cs a ccd cl outer A₀ base h₀ L m s Q E B F X N T hk hd hu hret
  refine wpAny_call ?_
  k_dflt ktr_enter
  (k_with "call ref" => ((with_reducible show wpAny _ _ (call (Value.ref 21) _) _ _ _); k_dflt (refine con_use2 (by k_asm) (by k_asm) (pidx_con _ _ _ _ _ _ _ (fmod_nn (by decide)) (fmod_up (by decide))) (by k_asm) (by k_asm) (by k_asm) (by first | exact rfl | assumption) (by ktr_room) (by ktr_units) ?_); intro r9 news9 h9 tk9 F9 N9 P9; obtain ⟨e9, t9, e8⟩ := P9; subst e9; subst e8; (try dsimp only); (try k_fold)))
  (k_with "pyIter ref" => k_dat (fun pre out => wB c pre out ∧ out.length ≤ 32 + pre.length) "found*")
  (k_with "pyIter ref" => k_dat (fun pre out => wA c pre out ∧ out.length ≤ pre.length) "found*")
  (k_with "state" => first
     | exact ⟨wA_0 c, Nat.le_refl 0⟩
     | exact ⟨wB_0 (by assumption), wB_len (wB_0 (by assumption))⟩
     | exact ⟨wA_yes (by assumption) (by assumption) (by assumption), wA_len (wA_yes (by assumption) (by assumption) (by assumption))⟩
     | exact ⟨wA_no1 (by assumption) (by assumption), wA_len (wA_no1 (by assumption) (by assumption))⟩
     | exact ⟨wA_no2 (by assumption) (by assumption), wA_len (wA_no2 (by assumption) (by assumption))⟩
     | exact ⟨wB_yes (by assumption) (by assumption), wB_len (wB_yes (by assumption) (by assumption))⟩
     | exact ⟨wB_no (by assumption) (by assumption), wB_len (wB_no (by assumption) (by assumption))⟩)
  k_steps
  all_goals exact hret _ _ _ _ (by assumption) (by assumption) ⟨_, _, _, _, _, by rw [List.append_assoc], by rw [← List.append_assoc]; assumption, ⟨wB_end (by assumption)⟩, by assumption, rfl⟩
end Mine
namespace Mine
open PySem PySem.W PyProof.Rows PySem.Spec PySem.Calls
theorem unr_one {h₀ : Heap} {L I : Addr} {o : Obj} {s₁ : Shared} {rest : (Str → Option Value) → List (Addr × Obj) → Prop} {h' : Heap} {tk : Nat} {m' : Str → Option Value} {news : List (Addr × Obj)}
    (F : Fr h₀ L h' m') (N : News h₀ L h' ((I, o) :: news)) (off : ∀ p ∈ news, p.1 < I) (r : rest m' news) : UnrEndW h₀ L s₁ [(I, o)] rest { s₁ with heap := h', toks := tk } :=
  ⟨h', tk, m', news, rfl, F, N, fun p hp q hq => by rw [List.mem_singleton.mp hq]; exact Nat.ne_of_lt (off p hp), r⟩
theorem cost_con (w : World) (mean : ExcName → Option Value) (mg mb : Str → Option Value) (news : List (Addr × Obj)) (q : Addr) (a9 s9 b9 : Int) (t1 t2 t3 : Tok) (n : Nat)
   (hq : (q, ({ cls := .type "tuple", data := .seq #[.int a9 t1, .int s9 t2, .int b9 t3] n } : Obj)) ∈ news) :
   Con w mean mg mb 42 1 news [.ref q] (fun news' r => news' = news ∧ ∃ t' : Tok, r = .int (cost3 a9 s9 b9) t') := by
  unfold Con
  w_top off
  k_with_none
  k_fill
  intro dp un gd cn cs a ccd cl outer A₀ base h₀ L m s Q E B F X N T hk hd hu hret
  refine wpAny_call ?_
  k_dflt ktr_enter
  (k_with "pyIter ref" => ((with_reducible show wpAny _ _ (pyIter (Value.ref _)) (fun it s₂ => TurnsAt _ _ _ _ _ _ _ _ _ it s₂) _ _); (rename Fr _ _ _ _ => lF'); (rename News _ _ _ _ => lN'); (with_unfolding_all refine iter_tupTurns (vs := [_, _]) (by rfl) lF' lN' (List.Mem.head _) (by rfl) (by rfl) ?_); clear lF'; intro i' l1))
  (k_with "UnrEndW" => ((rename News _ _ _ _ => nE'); refine unr_one (by assumption) nE' (by assumption) ⟨⟨List.Mem.head _, trivial⟩, ?_⟩))
  k_steps
  all_goals ((rename News h₀ L _ _ => nZ); refine hret _ _ _ _ (by assumption) (by first | exact nZ | exact fun p hp => nZ p (.tail _ hp)) ⟨rfl, vint ?_⟩)
  all_goals (unfold cost3; (repeat' split) <;> omega)
end Mine
namespace Mine
open PySem PySem.W PyProof.Rows PySem.Spec PySem.Calls
abbrev tup3 (a s b : Int) (t1 t2 t3 : Tok) (n : Nat) : Obj := { cls := .type "tuple", data := .seq #[.int a t1, .int s t2, .int b t3] n }
theorem least_con (w : World) (mean : ExcName → Option Value) (mg mb : Str → Option Value) (news : List (Addr × Obj)) (c : Int) (t : Tok) :
   Con w mean mg mb 49 3 news [.int c t] (fun news' r => (r = .none ∧ leastD c = Dat.none ∧ news' = news) ∨ ∃ (q : Addr) (a s b : Int) (t1 t2 t3 : Tok) (n : Nat), news' = (q, tup3 a s b t1 t2 t3 n) :: news ∧ leastD c = T3 a s b ∧ r = .ref q) := by
  unfold Con
  w_top off
  k_with_none
  k_fill
  intro dp un gd cn cs a ccd cl outer A₀ base h₀ L m s Q E B F X N T hk hd hu hret
  refine wpAny_call ?_
  k_dflt cell_enter
  (k_with "call ref" => ((with_reducible show wpAny _ _ (call (Value.ref 28) _) _ _ _); refine wpAny_call ?_; k_dflt ((refine code_def (by k_asm) (by k_asm) (by k_asm) (by k_asm) (by k_asm) rfl rfl (by first | exact rfl | assumption) (by k_is) (by k_is) (by ktr_room) (by exact BindsTo.of_eq rfl) (by exact locs rfl) ?_ (by exact rfl) (by exact rfl) (by exact rfl) (by decide)); k_whole; intro g' L' h' FG' F' N' B' X' T'; (try dsimp only); (try k_fold))))
  (k_with "call ref" => ((with_reducible show wpAny _ _ (call (Value.ref 42) _) _ _ _); k_dflt (refine con_use2 (by k_asm) (by k_asm) (cost_con _ _ _ _ _ _ _ _ _ _ _ _ _ (by kd_mem)) (by k_asm) (by k_asm) (by k_asm) (by first | exact rfl | assumption) (by ktr_room) (by ktr_units) ?_); intro r9 news9 h9 tk9 F9 N9 P9; obtain ⟨e9, t9, e8⟩ := P9; (replace e9 := e9.symm); subst e9; subst e8; (try dsimp only); (try k_fold)))
  (k_with "call ref" => ((with_reducible show wpAny _ _ (call (Value.ref 35) _) _ _ _); k_dflt (refine con_use2 (by k_asm) (by k_asm) (two_con _ _ _ _ _ _ _) (by k_asm) (by k_asm) (by k_asm) (by first | exact rfl | assumption) (by ktr_room) (by ktr_units) ?_); intro r9 news9 h9 tk9 F9 N9 P9; obtain ⟨l9, vs9, n9, tl9, ds9, e9, hd9, ht9, hl9, e8⟩ := P9; subst e9; subst e8; (have hs9 := TD.shape ht9); (try dsimp only); (try k_fold)))
  (k_with "call ref" => ((with_reducible show wpAny _ _ (call (Value.ref 21) _) _ _ _); k_dflt (refine con_use2 (by k_asm) (by k_asm) (pidx_con _ _ _ _ _ _ _ (fmod_nn (by decide)) (fmod_up (by decide))) (by k_asm) (by k_asm) (by k_asm) (by first | exact rfl | assumption) (by ktr_room) (by ktr_units) ?_); intro r9 news9 h9 tk9 F9 N9 P9; obtain ⟨e9, t9, e8⟩ := P9; (replace e9 := e9.symm); subst e9; subst e8; (try dsimp only); (try k_fold)))
  (k_with "pyIter ref" => fail)
  k_steps
  rotate_left
  (k_with "state" => first
     | exact ⟨wL_0, isForm_n⟩
     | exact ⟨wL_first (by assumption), isForm_t⟩
     | exact ⟨wL_yes (by assumption) (by assumption), isForm_t⟩
     | exact ⟨wL_no (by assumption) (by assumption), isForm_t⟩)
  focus (k_dat (fun pre best => wL pre best ∧ isForm best) "best*"; all_goals ((rename isForm _ => hsh); rcases isForm.out hsh with hsh | ⟨a9, s9, b9, hsh⟩ <;> kd_spec trivial))
  · k_steps
  · k_steps
  · k_steps
    (rename News h₀ L _ _ => nZ)
    exact hret _ _ _ _ (by assumption) (fun p hp => nZ p (.tail _ (List.mem_append.mpr (.inl (List.mem_append.mpr (.inl hp)))))) (.inl ⟨rfl, (least_best (by assumption) (by assumption) (by assumption) (by assumption)).symm, rfl⟩)
  · k_steps
    (rename News h₀ L _ _ => nZ)
    exact hret _ _ _ _ (by assumption) (fun p hp => by
      rcases List.mem_cons.mp hp with rfl | hp
      · exact nZ _ (by assumption)
      · exact nZ p (.tail _ (List.mem_append.mpr (.inl (List.mem_append.mpr (.inl hp)))))) (.inr ⟨_, _, _, _, _, _, _, _, rfl, (least_best (by assumption) (by assumption) (by assumption) (by assumption)).symm, rfl⟩)
  all_goals (rename News h₀ L _ _ => nZ)
  all_goals first
    | exact hret _ _ _ _ (by assumption) nZ (.inr ⟨_, _, _, _, _, _, _, _, rfl, least_zero (by assumption), rfl⟩)
    | exact hret _ _ _ _ (by assumption) nZ (.inr ⟨_, _, _, _, _, _, _, _, rfl, least_one (by assumption) (by assumption), rfl⟩)
end Mine
namespace Mine
open PySem PySem.W PyProof.Rows PySem.Spec PySem.Calls
abbrev row4 (nm : String) (a b c : Int) (t0 t1 t2 t3 : Tok) (n : Nat) : Obj := { cls := .type "tuple", data := .seq #[.str (Str.ofString nm) t0, .int a t1, .int b t2, .int c t3] n }
/-- the rows of a form stand in the ledger: the list `q`, its `k` rows -/
inductive RowsAt (L : List (Addr × Obj)) (a s b : Int) (q : Addr) : Nat → Prop where
  | movi {q0 : Addr} {t00 t01 t02 t03 : Tok} {n n0 : Nat} (ha : a = 32) (hs : s = 0) (hq : (q, W.listOf #[.ref q0] n) ∈ L) (h0 : (q0, row4 "MOVI" 4 0 0 t00 t01 t02 t03 n0) ∈ L) : RowsAt L a s b q 1
  | lsli {q0 : Addr} {t00 t01 t02 t03 : Tok} {n n0 : Nat} (ha : a ≠ 32) (hs : s = 0) (hq : (q, W.listOf #[.ref q0] n) ∈ L) (h0 : (q0, row4 "LSLI" 4 1 a t00 t01 t02 t03 n0) ∈ L) : RowsAt L a s b q 1
  | Mza {q0 q1 : Addr} {t00 t01 t02 t03 t10 t11 t12 t13 : Tok} {n n0 n1 : Nat} (ha : a = 32) (hb : b = 0) (hs : 0 < s) (hq : (q, W.listOf #[.ref q0, .ref q1] n) ∈ L) (h0 : (q0, row4 "MOVI" 4 0 0 t00 t01 t02 t03 n0) ∈ L) (h1 : (q1, row4 "ADD" 4 4 1 t10 t11 t12 t13 n1) ∈ L) : RowsAt L a s b q 2
  | Mzs {q0 q1 : Addr} {t00 t01 t02 t03 t10 t11 t12 t13 : Tok} {n n0 n1 : Nat} (ha : a = 32) (hb : b = 0) (hs : s ≠ 0) (hs0 : ¬ 0 < s) (hq : (q, W.listOf #[.ref q0, .ref q1] n) ∈ L) (h0 : (q0, row4 "MOVI" 4 0 0 t00 t01 t02 t03 n0) ∈ L) (h1 : (q1, row4 "SUB" 4 4 1 t10 t11 t12 t13 n1) ∈ L) : RowsAt L a s b q 2
  | Mla {q0 q1 q2 : Addr} {t00 t01 t02 t03 t10 t11 t12 t13 t20 t21 t22 t23 : Tok} {n n0 n1 n2 : Nat} (ha : a = 32) (hb : b ≠ 0) (hs : 0 < s) (hq : (q, W.listOf #[.ref q0, .ref q1, .ref q2] n) ∈ L) (h0 : (q0, row4 "MOVI" 4 0 0 t00 t01 t02 t03 n0) ∈ L) (h1 : (q1, row4 "LSLI" 5 1 b t10 t11 t12 t13 n1) ∈ L) (h2 : (q2, row4 "ADD" 4 4 5 t20 t21 t22 t23 n2) ∈ L) : RowsAt L a s b q 3
  | Mls {q0 q1 q2 : Addr} {t00 t01 t02 t03 t10 t11 t12 t13 t20 t21 t22 t23 : Tok} {n n0 n1 n2 : Nat} (ha : a = 32) (hb : b ≠ 0) (hs : s ≠ 0) (hs0 : ¬ 0 < s) (hq : (q, W.listOf #[.ref q0, .ref q1, .ref q2] n) ∈ L) (h0 : (q0, row4 "MOVI" 4 0 0 t00 t01 t02 t03 n0) ∈ L) (h1 : (q1, row4 "LSLI" 5 1 b t10 t11 t12 t13 n1) ∈ L) (h2 : (q2, row4 "SUB" 4 4 5 t20 t21 t22 t23 n2) ∈ L) : RowsAt L a s b q 3
  | Zza {q0 : Addr} {t00 t01 t02 t03 : Tok} {n n0 : Nat} (ha : a = 0) (hb : b = 0) (hs : 0 < s) (hq : (q, W.listOf #[.ref q0] n) ∈ L) (h0 : (q0, row4 "ADD" 4 1 1 t00 t01 t02 t03 n0) ∈ L) : RowsAt L a s b q 1
  | Zzs {q0 : Addr} {t00 t01 t02 t03 : Tok} {n n0 : Nat} (ha : a = 0) (hb : b = 0) (hs : s ≠ 0) (hs0 : ¬ 0 < s) (hq : (q, W.listOf #[.ref q0] n) ∈ L) (h0 : (q0, row4 "SUB" 4 1 1 t00 t01 t02 t03 n0) ∈ L) : RowsAt L a s b q 1
  | Zla {q0 q1 : Addr} {t00 t01 t02 t03 t10 t11 t12 t13 : Tok} {n n0 n1 : Nat} (ha : a = 0) (hb : b ≠ 0) (hs : 0 < s) (hq : (q, W.listOf #[.ref q0, .ref q1] n) ∈ L) (h0 : (q0, row4 "LSLI" 5 1 b t00 t01 t02 t03 n0) ∈ L) (h1 : (q1, row4 "ADD" 4 1 5 t10 t11 t12 t13 n1) ∈ L) : RowsAt L a s b q 2
  | Zls {q0 q1 : Addr} {t00 t01 t02 t03 t10 t11 t12 t13 : Tok} {n n0 n1 : Nat} (ha : a = 0) (hb : b ≠ 0) (hs : s ≠ 0) (hs0 : ¬ 0 < s) (hq : (q, W.listOf #[.ref q0, .ref q1] n) ∈ L) (h0 : (q0, row4 "LSLI" 5 1 b t00 t01 t02 t03 n0) ∈ L) (h1 : (q1, row4 "SUB" 4 1 5 t10 t11 t12 t13 n1) ∈ L) : RowsAt L a s b q 2
  | Lza {q0 q1 : Addr} {t00 t01 t02 t03 t10 t11 t12 t13 : Tok} {n n0 n1 : Nat} (ha : a ≠ 32) (ha0 : a ≠ 0) (hb : b = 0) (hs : 0 < s) (hq : (q, W.listOf #[.ref q0, .ref q1] n) ∈ L) (h0 : (q0, row4 "LSLI" 4 1 a t00 t01 t02 t03 n0) ∈ L) (h1 : (q1, row4 "ADD" 4 4 1 t10 t11 t12 t13 n1) ∈ L) : RowsAt L a s b q 2
  | Lzs {q0 q1 : Addr} {t00 t01 t02 t03 t10 t11 t12 t13 : Tok} {n n0 n1 : Nat} (ha : a ≠ 32) (ha0 : a ≠ 0) (hb : b = 0) (hs : s ≠ 0) (hs0 : ¬ 0 < s) (hq : (q, W.listOf #[.ref q0, .ref q1] n) ∈ L) (h0 : (q0, row4 "LSLI" 4 1 a t00 t01 t02 t03 n0) ∈ L) (h1 : (q1, row4 "SUB" 4 4 1 t10 t11 t12 t13 n1) ∈ L) : RowsAt L a s b q 2
  | Lla {q0 q1 q2 : Addr} {t00 t01 t02 t03 t10 t11 t12 t13 t20 t21 t22 t23 : Tok} {n n0 n1 n2 : Nat} (ha : a ≠ 32) (ha0 : a ≠ 0) (hb : b ≠ 0) (hs : 0 < s) (hq : (q, W.listOf #[.ref q0, .ref q1, .ref q2] n) ∈ L) (h0 : (q0, row4 "LSLI" 4 1 a t00 t01 t02 t03 n0) ∈ L) (h1 : (q1, row4 "LSLI" 5 1 b t10 t11 t12 t13 n1) ∈ L) (h2 : (q2, row4 "ADD" 4 4 5 t20 t21 t22 t23 n2) ∈ L) : RowsAt L a s b q 3
  | Lls {q0 q1 q2 : Addr} {t00 t01 t02 t03 t10 t11 t12 t13 t20 t21 t22 t23 : Tok} {n n0 n1 n2 : Nat} (ha : a ≠ 32) (ha0 : a ≠ 0) (hb : b ≠ 0) (hs : s ≠ 0) (hs0 : ¬ 0 < s) (hq : (q, W.listOf #[.ref q0, .ref q1, .ref q2] n) ∈ L) (h0 : (q0, row4 "LSLI" 4 1 a t00 t01 t02 t03 n0) ∈ L) (h1 : (q1, row4 "LSLI" 5 1 b t10 t11 t12 t13 n1) ∈ L) (h2 : (q2, row4 "SUB" 4 4 5 t20 t21 t22 t23 n2) ∈ L) : RowsAt L a s b q 3
theorem drop_one {h₀ h : Heap} {L : Addr} {own news : List (Addr × Obj)} {q : Addr × Obj} (N : News h₀ L h (own ++ q :: news)) : News h₀ L h (own ++ news) := fun p hp => N p ((List.mem_append.mp hp).elim (fun h => List.mem_append.mpr (.inl h)) fun h => List.mem_append.mpr (.inr (.tail _ h)))
theorem rows_con (w : World) (mean : ExcName → Option Value) (mg mb : Str → Option Value) (news : List (Addr × Obj)) (c : Int) (t1 t4 t5 t : Tok) :
   Con w mean mg mb 63 4 news [.int 1 t1, .int 4 t4, .int 5 t5, .int c t] (fun news' r => (r = .none ∧ leastD c = Dat.none ∧ news' = news) ∨ ∃ (own : List (Addr × Obj)) (q : Addr) (k : Nat) (a s b : Int), news' = own ++ news ∧ r = .ref q ∧ leastD c = T3 a s b ∧ RowsAt own a s b q k ∧ (∀ e ∈ own, ∀ x ∈ news.map (·.1), x ≠ e.1)) := by
  unfold Con
  w_top off
  k_with_none
  k_fill
  intro dp un gd cn cs a ccd cl outer A₀ base h₀ L m s Q E B F X N T hk hd hu hret
  refine wpAny_call ?_
  k_dflt cell_enter
  (k_with "call ref" => ((with_reducible show wpAny _ _ (call (Value.ref 56) _) _ _ _); refine wpAny_call ?_; k_dflt ((refine code_def (by k_asm) (by k_asm) (by k_asm) (by k_asm) (by k_asm) rfl rfl (by first | exact rfl | assumption) (by k_is) (by k_is) (by ktr_room) (by exact BindsTo.of_eq rfl) (by exact locs rfl) ?_ (by exact rfl) (by exact rfl) (by exact rfl) (by decide)); k_whole; intro g' L' h' FG' F' N' B' X' T'; (try dsimp only); (try k_fold))))
  (k_with "call ref" => ((with_reducible show wpAny _ _ (call (Value.ref 49) _) _ _ _); k_dflt (refine con_use2 (by k_asm) (by k_asm) (least_con _ _ _ _ _ _ _) (by k_asm) (by k_asm) (by k_asm) (by first | exact rfl | assumption) (by ktr_room) (by ktr_units) ?_); intro r9 news9 h9 tk9 F9 N9 P9; rcases P9 with ⟨e8, hl9, e9⟩ | ⟨q9, a9, s9, b9, ta9, tb9, tc9, n9, e9, hl9, e8⟩ <;> ((replace e9 := e9.symm); subst e9; subst e8; (try dsimp only); (try k_fold))))
  k_steps
  · (rename News h₀ L _ _ => nZ); exact hret _ _ _ _ (by assumption) nZ (.inl ⟨rfl, by assumption, rfl⟩)
  all_goals (rename News h₀ L _ _ => nZ)
  all_goals (
   (first
    | (refine' hret _ _ _ _ (by assumption) (drop_one (own := [_, _]) nZ) (.inr ⟨[_, _], _, _, _, _, _, rfl, rfl, by assumption, ?kr, ?ko⟩))
    | (refine' hret _ _ _ _ (by assumption) (drop_one (own := [_, _, _]) nZ) (.inr ⟨[_, _, _], _, _, _, _, _, rfl, rfl, by assumption, ?kr, ?ko⟩))
    | (refine' hret _ _ _ _ (by assumption) (drop_one (own := [_, _, _, _]) nZ) (.inr ⟨[_, _, _, _], _, _, _, _, _, rfl, rfl, by assumption, ?kr, ?ko⟩))
    | (refine' hret _ _ _ _ (by assumption) (drop_one (own := [_, _, _, _, _]) nZ) (.inr ⟨[_, _, _, _, _], _, _, _, _, _, rfl, rfl, by assumption, ?kr, ?ko⟩))
    | (refine' hret _ _ _ _ (by assumption) (drop_one (own := [_, _, _, _, _, _]) nZ) (.inr ⟨[_, _, _, _, _, _], _, _, _, _, _, rfl, rfl, by assumption, ?kr, ?ko⟩))
    | (refine' hret _ _ _ _ (by assumption) (drop_one (own := [_, _, _, _, _, _, _]) nZ) (.inr ⟨[_, _, _, _, _, _, _], _, _, _, _, _, rfl, rfl, by assumption, ?kr, ?ko⟩))
    | (refine' hret _ _ _ _ (by assumption) (drop_one (own := [_, _, _, _, _, _, _, _]) nZ) (.inr ⟨[_, _, _, _, _, _, _, _], _, _, _, _, _, rfl, rfl, by assumption, ?kr, ?ko⟩))
    | (refine' hret _ _ _ _ (by assumption) (drop_one (own := [_, _, _, _, _, _, _, _, _]) nZ) (.inr ⟨[_, _, _, _, _, _, _, _, _], _, _, _, _, _, rfl, rfl, by assumption, ?kr, ?ko⟩))
    | (refine' hret _ _ _ _ (by assumption) (drop_one (own := [_, _, _, _, _, _, _, _, _, _]) nZ) (.inr ⟨[_, _, _, _, _, _, _, _, _, _], _, _, _, _, _, rfl, rfl, by assumption, ?kr, ?ko⟩))
    | (refine' hret _ _ _ _ (by assumption) (drop_one (own := [_, _, _, _, _, _, _, _, _, _, _]) nZ) (.inr ⟨[_, _, _, _, _, _, _, _, _, _, _], _, _, _, _, _, rfl, rfl, by assumption, ?kr, ?ko⟩))
    | (refine' hret _ _ _ _ (by assumption) (drop_one (own := [_, _, _, _, _, _, _, _, _, _, _, _]) nZ) (.inr ⟨[_, _, _, _, _, _, _, _, _, _, _, _], _, _, _, _, _, rfl, rfl, by assumption, ?kr, ?ko⟩))
    | (refine' hret _ _ _ _ (by assumption) (drop_one (own := [_, _, _, _, _, _, _, _, _, _, _, _, _]) nZ) (.inr ⟨[_, _, _, _, _, _, _, _, _, _, _, _, _], _, _, _, _, _, rfl, rfl, by assumption, ?kr, ?ko⟩)));
   (case kr => (first
    | (refine' RowsAt.movi (by assumption) (by assumption) ?m0 ?m1; (case m0 => kst_entry) ; (case m1 => kst_entry))
    | (refine' RowsAt.lsli (by assumption) (by assumption) ?m0 ?m1; (case m0 => kst_entry) ; (case m1 => kst_entry))
    | (refine' RowsAt.Mza (by assumption) (by assumption) (by assumption) ?m0 ?m1 ?m2; (case m0 => kst_entry) ; (case m1 => kst_entry) ; (case m2 => kst_entry))
    | (refine' RowsAt.Mzs (by assumption) (by assumption) (by assumption) (by assumption) ?m0 ?m1 ?m2; (case m0 => kst_entry) ; (case m1 => kst_entry) ; (case m2 => kst_entry))
    | (refine' RowsAt.Mla (by assumption) (by assumption) (by assumption) ?m0 ?m1 ?m2 ?m3; (case m0 => kst_entry) ; (case m1 => kst_entry) ; (case m2 => kst_entry) ; (case m3 => kst_entry))
    | (refine' RowsAt.Mls (by assumption) (by assumption) (by assumption) (by assumption) ?m0 ?m1 ?m2 ?m3; (case m0 => kst_entry) ; (case m1 => kst_entry) ; (case m2 => kst_entry) ; (case m3 => kst_entry))
    | (refine' RowsAt.Zza (by assumption) (by assumption) (by assumption) ?m0 ?m1; (case m0 => kst_entry) ; (case m1 => kst_entry))
    | (refine' RowsAt.Zzs (by assumption) (by assumption) (by assumption) (by assumption) ?m0 ?m1; (case m0 => kst_entry) ; (case m1 => kst_entry))
    | (refine' RowsAt.Zla (by assumption) (by assumption) (by assumption) ?m0 ?m1 ?m2; (case m0 => kst_entry) ; (case m1 => kst_entry) ; (case m2 => kst_entry))
    | (refine' RowsAt.Zls (by assumption) (by assumption) (by assumption) (by assumption) ?m0 ?m1 ?m2; (case m0 => kst_entry) ; (case m1 => kst_entry) ; (case m2 => kst_entry))
    | (refine' RowsAt.Lza (by assumption) (by assumption) (by assumption) (by assumption) ?m0 ?m1 ?m2; (case m0 => kst_entry) ; (case m1 => kst_entry) ; (case m2 => kst_entry))
    | (refine' RowsAt.Lzs (by assumption) (by assumption) (by assumption) (by assumption) (by assumption) ?m0 ?m1 ?m2; (case m0 => kst_entry) ; (case m1 => kst_entry) ; (case m2 => kst_entry))
    | (refine' RowsAt.Lla (by assumption) (by assumption) (by assumption) (by assumption) ?m0 ?m1 ?m2 ?m3; (case m0 => kst_entry) ; (case m1 => kst_entry) ; (case m2 => kst_entry) ; (case m3 => kst_entry))
    | (refine' RowsAt.Lls (by assumption) (by assumption) (by assumption) (by assumption) (by assumption) ?m0 ?m1 ?m2 ?m3; (case m0 => kst_entry) ; (case m1 => kst_entry) ; (case m2 => kst_entry) ; (case m3 => kst_entry))
    | fail "no rows"));
   (case ko => kd_addB))
end Mine
namespace Mine
open PySem PySem.W PyProof.Rows
/-- the constant is what a form says, in words -/
structure CM (c a s b : Int) : Prop where
  say : ∃ z : Int, c = 2 ^ a.toNat + s * 2 ^ b.toNat + z * 4294967296
theorem m32 : (2 : Int) ^ Int.toNat 32 = 4294967296 := by decide
theorem fm (x : Int) : x.fmod 4294967296 = x % 4294967296 := Int.fmod_eq_emod_of_nonneg x (by decide)
theorem CM.mul {c a s b : Int} (h : CM c a s b) (x : Int) : ∃ w : Int, x * c = x * 2 ^ a.toNat + s * (x * 2 ^ b.toNat) + w * 4294967296 := by
  obtain ⟨z, rfl⟩ := h.say
  refine ⟨x * z, ?_⟩
  rw [Int.mul_add, Int.mul_add, Int.mul_assoc x z, Int.mul_left_comm x s]
theorem v_movi {c a s b x : Int} (h : CM c a s b) (ha : a = 32) (hs : s = 0) : Int.fmod 0 (2 ^ Int.toNat 32) = (x * c).fmod (2 ^ Int.toNat 32) := by
  obtain ⟨w, e⟩ := h.mul x
  subst ha hs
  rw [m32, fm, fm, e, m32]; omega
theorem v_lsli {c a s b x : Int} (h : CM c a s b) (hs : s = 0) : (x * 2 ^ a.toNat).fmod (2 ^ Int.toNat 32) = (x * c).fmod (2 ^ Int.toNat 32) := by
  obtain ⟨w, e⟩ := h.mul x
  subst hs
  rw [m32, fm, fm, e]; generalize x * 2 ^ a.toNat = p; omega
theorem sg1 {s : Int} (h : s = 0 ∨ s = 1 ∨ s = -1) (hs : 0 < s) : s = 1 := by omega
theorem sg2 {s : Int} (h : s = 0 ∨ s = 1 ∨ s = -1) (hs : s ≠ 0) (hs0 : ¬ 0 < s) : s = -1 := by omega
theorem p0 (x : Int) : x * 2 ^ Int.toNat 0 = x := by simp
section
variable {c a s b x : Int} (h : CM c a s b) (g : s = 0 ∨ s = 1 ∨ s = -1)
include h g
theorem v_Mza (ha : a = 32) (hb : b = 0) (hs : 0 < s) : (Int.fmod 0 (2 ^ Int.toNat 32) + x).fmod (2 ^ Int.toNat 32) = (x * c).fmod (2 ^ Int.toNat 32) := by
  obtain ⟨w, e⟩ := h.mul x
  have := sg1 g hs; subst ha hb this
  rw [p0, m32] at e
  rw [m32, fm, fm, fm, e]; omega
theorem v_Mzs (ha : a = 32) (hb : b = 0) (hs : s ≠ 0) (hs0 : ¬ 0 < s) : (Int.fmod 0 (2 ^ Int.toNat 32) - x).fmod (2 ^ Int.toNat 32) = (x * c).fmod (2 ^ Int.toNat 32) := by
  obtain ⟨w, e⟩ := h.mul x
  have := sg2 g hs hs0; subst ha hb this
  rw [p0, m32] at e
  rw [m32, fm, fm, fm, e]; omega
theorem v_Mla (ha : a = 32) (hs : 0 < s) : (Int.fmod 0 (2 ^ Int.toNat 32) + (x * 2 ^ b.toNat).fmod (2 ^ Int.toNat 32)).fmod (2 ^ Int.toNat 32) = (x * c).fmod (2 ^ Int.toNat 32) := by
  obtain ⟨w, e⟩ := h.mul x
  have := sg1 g hs; subst ha this
  rw [m32] at e
  rw [m32, fm, fm, fm, fm, e]; generalize x * 2 ^ b.toNat = p; omega
theorem v_Mls (ha : a = 32) (hs : s ≠ 0) (hs0 : ¬ 0 < s) : (Int.fmod 0 (2 ^ Int.toNat 32) - (x * 2 ^ b.toNat).fmod (2 ^ Int.toNat 32)).fmod (2 ^ Int.toNat 32) = (x * c).fmod (2 ^ Int.toNat 32) := by
  obtain ⟨w, e⟩ := h.mul x
  have := sg2 g hs hs0; subst ha this
  rw [m32] at e
  rw [m32, fm, fm, fm, fm, e]; generalize x * 2 ^ b.toNat = p; omega
theorem v_Zza (ha : a = 0) (hb : b = 0) (hs : 0 < s) : (x + x).fmod (2 ^ Int.toNat 32) = (x * c).fmod (2 ^ Int.toNat 32) := by
  obtain ⟨w, e⟩ := h.mul x
  have := sg1 g hs; subst ha hb this
  rw [p0] at e
  rw [m32, fm, fm, e]; omega
theorem v_Zzs (ha : a = 0) (hb : b = 0) (hs : s ≠ 0) (hs0 : ¬ 0 < s) : (x - x).fmod (2 ^ Int.toNat 32) = (x * c).fmod (2 ^ Int.toNat 32) := by
  obtain ⟨w, e⟩ := h.mul x
  have := sg2 g hs hs0; subst ha hb this
  rw [p0] at e
  rw [m32, fm, fm, e]; omega
theorem v_Zla (ha : a = 0) (hs : 0 < s) : (x + (x * 2 ^ b.toNat).fmod (2 ^ Int.toNat 32)).fmod (2 ^ Int.toNat 32) = (x * c).fmod (2 ^ Int.toNat 32) := by
  obtain ⟨w, e⟩ := h.mul x
  have := sg1 g hs; subst ha this
  rw [p0] at e
  rw [m32, fm, fm, fm, e]; generalize x * 2 ^ b.toNat = p; omega
theorem v_Zls (ha : a = 0) (hs : s ≠ 0) (hs0 : ¬ 0 < s) : (x - (x * 2 ^ b.toNat).fmod (2 ^ Int.toNat 32)).fmod (2 ^ Int.toNat 32) = (x * c).fmod (2 ^ Int.toNat 32) := by
  obtain ⟨w, e⟩ := h.mul x
  have := sg2 g hs hs0; subst ha this
  rw [p0] at e
  rw [m32, fm, fm, fm, e]; generalize x * 2 ^ b.toNat = p; omega
theorem v_Lza (hb : b = 0) (hs : 0 < s) : ((x * 2 ^ a.toNat).fmod (2 ^ Int.toNat 32) + x).fmod (2 ^ Int.toNat 32) = (x * c).fmod (2 ^ Int.toNat 32) := by
  obtain ⟨w, e⟩ := h.mul x
  have := sg1 g hs; subst hb this
  rw [p0] at e
  rw [m32, fm, fm, fm, e]; generalize x * 2 ^ a.toNat = p; omega
theorem v_Lzs (hb : b = 0) (hs : s ≠ 0) (hs0 : ¬ 0 < s) : ((x * 2 ^ a.toNat).fmod (2 ^ Int.toNat 32) - x).fmod (2 ^ Int.toNat 32) = (x * c).fmod (2 ^ Int.toNat 32) := by
  obtain ⟨w, e⟩ := h.mul x
  have := sg2 g hs hs0; subst hb this
  rw [p0] at e
  rw [m32, fm, fm, fm, e]; generalize x * 2 ^ a.toNat = p; omega
theorem v_Lla (hs : 0 < s) : ((x * 2 ^ a.toNat).fmod (2 ^ Int.toNat 32) + (x * 2 ^ b.toNat).fmod (2 ^ Int.toNat 32)).fmod (2 ^ Int.toNat 32) = (x * c).fmod (2 ^ Int.toNat 32) := by
  obtain ⟨w, e⟩ := h.mul x
  have := sg1 g hs; subst this
  rw [m32, fm, fm, fm, fm, e]; generalize x * 2 ^ a.toNat = p; generalize x * 2 ^ b.toNat = q; omega
theorem v_Lls (hs : s ≠ 0) (hs0 : ¬ 0 < s) : ((x * 2 ^ a.toNat).fmod (2 ^ Int.toNat 32) - (x * 2 ^ b.toNat).fmod (2 ^ Int.toNat 32)).fmod (2 ^ Int.toNat 32) = (x * c).fmod (2 ^ Int.toNat 32) := by
  obtain ⟨w, e⟩ := h.mul x
  have := sg2 g hs hs0; subst this
  rw [m32, fm, fm, fm, fm, e]; generalize x * 2 ^ a.toNat = p; generalize x * 2 ^ b.toNat = q; omega
end
end Mine
namespace Mine
open PySem PySem.W PyProof.Rows PySem.Spec PySem.Calls
theorem gen_toks {M : Model} {A : Around} {α : Type} {t : Sem α} {Q : α → Shared → Prop} {E : Value → Shared → Prop} {hp : Heap} {g : Array GenState} {d : Drawn} {x y : Nat} {os : OsState} (h : ∀ tk, wpAny M A t Q E ⟨hp, g, d, tk, os⟩) : wpAny M A t Q E ⟨hp, g, d, x + y, os⟩ := h (x + y)
theorem off_of {I d : Addr} {o o' : Obj} {news : List (Addr × Obj)} (h : ∀ p ∈ (d, o) :: news, p.1 < I) : ∀ p ∈ (d, o') :: news, p.1 < I := fun p hp => by
  rcases List.mem_cons.mp hp with rfl | hp
  · exact h (d, o) (.head _)
  · exact h p (.tail _ hp)
theorem below_of {I d : Addr} {o : Obj} {news : List (Addr × Obj)} (h : ∀ p ∈ (d, o) :: news, p.1 < I) : @LT.lt Nat _ d I := h (d, o) (.head _)
local macro_rules | `(tactic| k_all) => `(tactic| assumption)
local macro_rules | `(tactic| k_mem) => `(tactic| first | (refine List.Mem.tail _ (List.Mem.tail _ ?_); assumption) | (refine List.Mem.tail _ ?_; assumption) | fail "k_mem: mine")
abbrev tup2 (v x : Int) (t t' : Tok) (n : Nat) : Obj := { cls := .type "tuple", data := .seq #[.int v t, .int x t'] n }
theorem tup_news {h₀ h : Heap} {L D : Addr} {v v' x : Int} {t t' : Tok} {n : Nat} {e : Addr × Obj} {news : List (Addr × Obj)} (N : News h₀ L h ((D, tup2 v x t t' n) :: e :: news)) (hv : v = v') : News h₀ L h ((D, tup2 v' x t t' n) :: news) := by
  subst hv
  intro p hp
  rcases List.mem_cons.mp hp with rfl | hp
  · exact N _ (.head _)
  · exact N p (.tail _ (.tail _ hp))
/-- what the rows `vs` do to the registers: from 4 = `u`, 5 = `v` (1 = `x`) to 4 = `f` -/
inductive Run (L : List (Addr × Obj)) (x f : Int) : List Value → Int → Int → Prop where
  | done {v : Int} : Run L x f [] f v
  | movi {q0 : Addr} {t0 t1 t2 t3 : Tok} {n0 : Nat} {vs : List Value} {u v : Int}  (h0 : (q0, row4 "MOVI" 4 0 0 t0 t1 t2 t3 n0) ∈ L) (r : Run L x f vs (Int.fmod 0 (2 ^ Int.toNat 32)) v) : Run L x f (.ref q0 :: vs) u v
  | lsl4 {q0 : Addr} {t0 t1 t2 t3 : Tok} {n0 : Nat} {vs : List Value} {u v : Int} {a : Int} (ha0 : 0 ≤ a) (ha1 : a ≤ 32) (h0 : (q0, row4 "LSLI" 4 1 a t0 t1 t2 t3 n0) ∈ L) (r : Run L x f vs ((x * 2 ^ a.toNat).fmod (2 ^ Int.toNat 32)) v) : Run L x f (.ref q0 :: vs) u v
  | lsl5 {q0 : Addr} {t0 t1 t2 t3 : Tok} {n0 : Nat} {vs : List Value} {u v : Int} {a : Int} (ha0 : 0 ≤ a) (ha1 : a ≤ 32) (h0 : (q0, row4 "LSLI" 5 1 a t0 t1 t2 t3 n0) ∈ L) (r : Run L x f vs (u) ((x * 2 ^ a.toNat).fmod (2 ^ Int.toNat 32))) : Run L x f (.ref q0 :: vs) u v
  | a11 {q0 : Addr} {t0 t1 t2 t3 : Tok} {n0 : Nat} {vs : List Value} {u v : Int}  (h0 : (q0, row4 "ADD" 4 1 1 t0 t1 t2 t3 n0) ∈ L) (r : Run L x f vs ((x + x).fmod (2 ^ Int.toNat 32)) v) : Run L x f (.ref q0 :: vs) u v
  | a15 {q0 : Addr} {t0 t1 t2 t3 : Tok} {n0 : Nat} {vs : List Value} {u v : Int}  (h0 : (q0, row4 "ADD" 4 1 5 t0 t1 t2 t3 n0) ∈ L) (r : Run L x f vs ((x + v).fmod (2 ^ Int.toNat 32)) v) : Run L x f (.ref q0 :: vs) u v
  | a41 {q0 : Addr} {t0 t1 t2 t3 : Tok} {n0 : Nat} {vs : List Value} {u v : Int}  (h0 : (q0, row4 "ADD" 4 4 1 t0 t1 t2 t3 n0) ∈ L) (r : Run L x f vs ((u + x).fmod (2 ^ Int.toNat 32)) v) : Run L x f (.ref q0 :: vs) u v
  | a45 {q0 : Addr} {t0 t1 t2 t3 : Tok} {n0 : Nat} {vs : List Value} {u v : Int}  (h0 : (q0, row4 "ADD" 4 4 5 t0 t1 t2 t3 n0) ∈ L) (r : Run L x f vs ((u + v).fmod (2 ^ Int.toNat 32)) v) : Run L x f (.ref q0 :: vs) u v
  | s11 {q0 : Addr} {t0 t1 t2 t3 : Tok} {n0 : Nat} {vs : List Value} {u v : Int}  (h0 : (q0, row4 "SUB" 4 1 1 t0 t1 t2 t3 n0) ∈ L) (r : Run L x f vs ((x - x).fmod (2 ^ Int.toNat 32)) v) : Run L x f (.ref q0 :: vs) u v
  | s15 {q0 : Addr} {t0 t1 t2 t3 : Tok} {n0 : Nat} {vs : List Value} {u v : Int}  (h0 : (q0, row4 "SUB" 4 1 5 t0 t1 t2 t3 n0) ∈ L) (r : Run L x f vs ((x - v).fmod (2 ^ Int.toNat 32)) v) : Run L x f (.ref q0 :: vs) u v
  | s41 {q0 : Addr} {t0 t1 t2 t3 : Tok} {n0 : Nat} {vs : List Value} {u v : Int}  (h0 : (q0, row4 "SUB" 4 4 1 t0 t1 t2 t3 n0) ∈ L) (r : Run L x f vs ((u - x).fmod (2 ^ Int.toNat 32)) v) : Run L x f (.ref q0 :: vs) u v
  | s45 {q0 : Addr} {t0 t1 t2 t3 : Tok} {n0 : Nat} {vs : List Value} {u v : Int}  (h0 : (q0, row4 "SUB" 4 4 5 t0 t1 t2 t3 n0) ∈ L) (r : Run L x f vs ((u - v).fmod (2 ^ Int.toNat 32)) v) : Run L x f (.ref q0 :: vs) u v
/-- the registers' dict -/
def RG (w : World) (x : Int) (t : Tok) (o : Obj) (u v : Int) : Prop := ∃ t4 t5 : Tok, Obj.IsDictOf (intKind PySem.Challenge.rw_pb0309_01.row.prog w) o (intKeyPairs [(Value.int 1 0, Value.int x t), (Value.int 4 0, Value.int u t4), (Value.int 5 0, Value.int v t5)]) ∧ PyProof.V.FlatPairs PyData.int (intKeyPairs [(Value.int 1 0, Value.int x t), (Value.int 4 0, Value.int u t4), (Value.int 5 0, Value.int v t5)]) [(PyData.int 1, PyData.int x), (PyData.int 4, PyData.int u), (PyData.int 5, PyData.int v)]
theorem m_hide {D : Addr} {m : Str → Option Value} (h : m (Str.ofString "regs") = some (.ref D)) : m = fun y => if y = Str.ofString "regs" then some (.ref D) else m y := by
  funext y
  by_cases e : y = Str.ofString "regs"
  · rw [if_pos e, e, h]
  · rw [if_neg e]
theorem run_items {w : World} {L : List (Addr × Obj)} {x f : Int} {t : Tok} {D : Addr} {J : List Itm → (Str → Option Value) → List (Addr × Obj) → Prop}
    (h0 : ∀ (v : Int) (o : Obj) (r : Str → Option Value), RG w x t o f v → J [] (fun y => if y = Str.ofString "regs" then some (.ref D) else r y) ((D, o) :: L))
    (hmovi : ∀ (q0 : Addr) (t0 t1 t2 t3 : Tok) (n0 : Nat) (vs : List Value) (u v : Int) (o : Obj) (r : Str → Option Value), (q0, row4 "MOVI" 4 0 0 t0 t1 t2 t3 n0) ∈ L → RG w x t o u v → (∀ (o : Obj) (m : Str → Option Value), m (Str.ofString "regs") = some (.ref D) → RG w x t o (Int.fmod 0 (2 ^ Int.toNat 32)) v → J (vs.map .val) m ((D, o) :: L)) → J (.val (.ref q0) :: vs.map .val) (fun y => if y = Str.ofString "regs" then some (.ref D) else r y) ((D, o) :: L))
    (hlsl4 : ∀ (q0 : Addr) (t0 t1 t2 t3 : Tok) (n0 : Nat) (vs : List Value) (u v a : Int) (o : Obj) (r : Str → Option Value), 0 ≤ a → a ≤ 32 → (q0, row4 "LSLI" 4 1 a t0 t1 t2 t3 n0) ∈ L → RG w x t o u v → (∀ (o : Obj) (m : Str → Option Value), m (Str.ofString "regs") = some (.ref D) → RG w x t o ((x * 2 ^ a.toNat).fmod (2 ^ Int.toNat 32)) v → J (vs.map .val) m ((D, o) :: L)) → J (.val (.ref q0) :: vs.map .val) (fun y => if y = Str.ofString "regs" then some (.ref D) else r y) ((D, o) :: L))
    (hlsl5 : ∀ (q0 : Addr) (t0 t1 t2 t3 : Tok) (n0 : Nat) (vs : List Value) (u v a : Int) (o : Obj) (r : Str → Option Value), 0 ≤ a → a ≤ 32 → (q0, row4 "LSLI" 5 1 a t0 t1 t2 t3 n0) ∈ L → RG w x t o u v → (∀ (o : Obj) (m : Str → Option Value), m (Str.ofString "regs") = some (.ref D) → RG w x t o (u) ((x * 2 ^ a.toNat).fmod (2 ^ Int.toNat 32)) → J (vs.map .val) m ((D, o) :: L)) → J (.val (.ref q0) :: vs.map .val) (fun y => if y = Str.ofString "regs" then some (.ref D) else r y) ((D, o) :: L))
    (ha11 : ∀ (q0 : Addr) (t0 t1 t2 t3 : Tok) (n0 : Nat) (vs : List Value) (u v : Int) (o : Obj) (r : Str → Option Value), (q0, row4 "ADD" 4 1 1 t0 t1 t2 t3 n0) ∈ L → RG w x t o u v → (∀ (o : Obj) (m : Str → Option Value), m (Str.ofString "regs") = some (.ref D) → RG w x t o ((x + x).fmod (2 ^ Int.toNat 32)) v → J (vs.map .val) m ((D, o) :: L)) → J (.val (.ref q0) :: vs.map .val) (fun y => if y = Str.ofString "regs" then some (.ref D) else r y) ((D, o) :: L))
    (ha15 : ∀ (q0 : Addr) (t0 t1 t2 t3 : Tok) (n0 : Nat) (vs : List Value) (u v : Int) (o : Obj) (r : Str → Option Value), (q0, row4 "ADD" 4 1 5 t0 t1 t2 t3 n0) ∈ L → RG w x t o u v → (∀ (o : Obj) (m : Str → Option Value), m (Str.ofString "regs") = some (.ref D) → RG w x t o ((x + v).fmod (2 ^ Int.toNat 32)) v → J (vs.map .val) m ((D, o) :: L)) → J (.val (.ref q0) :: vs.map .val) (fun y => if y = Str.ofString "regs" then some (.ref D) else r y) ((D, o) :: L))
    (ha41 : ∀ (q0 : Addr) (t0 t1 t2 t3 : Tok) (n0 : Nat) (vs : List Value) (u v : Int) (o : Obj) (r : Str → Option Value), (q0, row4 "ADD" 4 4 1 t0 t1 t2 t3 n0) ∈ L → RG w x t o u v → (∀ (o : Obj) (m : Str → Option Value), m (Str.ofString "regs") = some (.ref D) → RG w x t o ((u + x).fmod (2 ^ Int.toNat 32)) v → J (vs.map .val) m ((D, o) :: L)) → J (.val (.ref q0) :: vs.map .val) (fun y => if y = Str.ofString "regs" then some (.ref D) else r y) ((D, o) :: L))
    (ha45 : ∀ (q0 : Addr) (t0 t1 t2 t3 : Tok) (n0 : Nat) (vs : List Value) (u v : Int) (o : Obj) (r : Str → Option Value), (q0, row4 "ADD" 4 4 5 t0 t1 t2 t3 n0) ∈ L → RG w x t o u v → (∀ (o : Obj) (m : Str → Option Value), m (Str.ofString "regs") = some (.ref D) → RG w x t o ((u + v).fmod (2 ^ Int.toNat 32)) v → J (vs.map .val) m ((D, o) :: L)) → J (.val (.ref q0) :: vs.map .val) (fun y => if y = Str.ofString "regs" then some (.ref D) else r y) ((D, o) :: L))
    (hs11 : ∀ (q0 : Addr) (t0 t1 t2 t3 : Tok) (n0 : Nat) (vs : List Value) (u v : Int) (o : Obj) (r : Str → Option Value), (q0, row4 "SUB" 4 1 1 t0 t1 t2 t3 n0) ∈ L → RG w x t o u v → (∀ (o : Obj) (m : Str → Option Value), m (Str.ofString "regs") = some (.ref D) → RG w x t o ((x - x).fmod (2 ^ Int.toNat 32)) v → J (vs.map .val) m ((D, o) :: L)) → J (.val (.ref q0) :: vs.map .val) (fun y => if y = Str.ofString "regs" then some (.ref D) else r y) ((D, o) :: L))
    (hs15 : ∀ (q0 : Addr) (t0 t1 t2 t3 : Tok) (n0 : Nat) (vs : List Value) (u v : Int) (o : Obj) (r : Str → Option Value), (q0, row4 "SUB" 4 1 5 t0 t1 t2 t3 n0) ∈ L → RG w x t o u v → (∀ (o : Obj) (m : Str → Option Value), m (Str.ofString "regs") = some (.ref D) → RG w x t o ((x - v).fmod (2 ^ Int.toNat 32)) v → J (vs.map .val) m ((D, o) :: L)) → J (.val (.ref q0) :: vs.map .val) (fun y => if y = Str.ofString "regs" then some (.ref D) else r y) ((D, o) :: L))
    (hs41 : ∀ (q0 : Addr) (t0 t1 t2 t3 : Tok) (n0 : Nat) (vs : List Value) (u v : Int) (o : Obj) (r : Str → Option Value), (q0, row4 "SUB" 4 4 1 t0 t1 t2 t3 n0) ∈ L → RG w x t o u v → (∀ (o : Obj) (m : Str → Option Value), m (Str.ofString "regs") = some (.ref D) → RG w x t o ((u - x).fmod (2 ^ Int.toNat 32)) v → J (vs.map .val) m ((D, o) :: L)) → J (.val (.ref q0) :: vs.map .val) (fun y => if y = Str.ofString "regs" then some (.ref D) else r y) ((D, o) :: L))
    (hs45 : ∀ (q0 : Addr) (t0 t1 t2 t3 : Tok) (n0 : Nat) (vs : List Value) (u v : Int) (o : Obj) (r : Str → Option Value), (q0, row4 "SUB" 4 4 5 t0 t1 t2 t3 n0) ∈ L → RG w x t o u v → (∀ (o : Obj) (m : Str → Option Value), m (Str.ofString "regs") = some (.ref D) → RG w x t o ((u - v).fmod (2 ^ Int.toNat 32)) v → J (vs.map .val) m ((D, o) :: L)) → J (.val (.ref q0) :: vs.map .val) (fun y => if y = Str.ofString "regs" then some (.ref D) else r y) ((D, o) :: L))
    {vs : List Value} {u v : Int} (R : Run L x f vs u v) : ∀ (o : Obj) (m : Str → Option Value), m (Str.ofString "regs") = some (.ref D) → RG w x t o u v → J (vs.map .val) m ((D, o) :: L) := by
  induction R with
  | done => exact fun o m hm hg => by rw [m_hide hm]; exact h0 _ o m hg
  | movi b3 _ ih => exact fun o m hm hg => by rw [m_hide hm]; exact hmovi _ _ _ _ _ _ _ _ _ o m b3 hg ih
  | lsl4 b1 b2 b3 _ ih => exact fun o m hm hg => by rw [m_hide hm]; exact hlsl4 _ _ _ _ _ _ _ _ _ _ o m b1 b2 b3 hg ih
  | lsl5 b1 b2 b3 _ ih => exact fun o m hm hg => by rw [m_hide hm]; exact hlsl5 _ _ _ _ _ _ _ _ _ _ o m b1 b2 b3 hg ih
  | a11 b3 _ ih => exact fun o m hm hg => by rw [m_hide hm]; exact ha11 _ _ _ _ _ _ _ _ _ o m b3 hg ih
  | a15 b3 _ ih => exact fun o m hm hg => by rw [m_hide hm]; exact ha15 _ _ _ _ _ _ _ _ _ o m b3 hg ih
  | a41 b3 _ ih => exact fun o m hm hg => by rw [m_hide hm]; exact ha41 _ _ _ _ _ _ _ _ _ o m b3 hg ih
  | a45 b3 _ ih => exact fun o m hm hg => by rw [m_hide hm]; exact ha45 _ _ _ _ _ _ _ _ _ o m b3 hg ih
  | s11 b3 _ ih => exact fun o m hm hg => by rw [m_hide hm]; exact hs11 _ _ _ _ _ _ _ _ _ o m b3 hg ih
  | s15 b3 _ ih => exact fun o m hm hg => by rw [m_hide hm]; exact hs15 _ _ _ _ _ _ _ _ _ o m b3 hg ih
  | s41 b3 _ ih => exact fun o m hm hg => by rw [m_hide hm]; exact hs41 _ _ _ _ _ _ _ _ _ o m b3 hg ih
  | s45 b3 _ ih => exact fun o m hm hg => by rw [m_hide hm]; exact hs45 _ _ _ _ _ _ _ _ _ o m b3 hg ih
theorem run_of {L : List (Addr × Obj)} {c a9 s9 b9 x : Int} {q : Addr} {k : Nat} (ha0 : 0 ≤ a9) (ha1 : a9 ≤ 32) (hb0 : 0 ≤ b9) (hb1 : b9 ≤ 31) (hg : s9 = 0 ∨ s9 = 1 ∨ s9 = -1) (hM : CM c a9 s9 b9) (hR : RowsAt L a9 s9 b9 q k) :
    ∃ (vs : List Value) (n : Nat), (q, W.listOf vs.toArray n) ∈ L ∧ Run L x ((x * c).fmod (2 ^ Int.toNat 32)) vs 77 88 := by
  have hb2 : b9 ≤ 32 := by omega
  cases hR with
  | movi ha hs hq h0 => exact ⟨_, _, hq, by rw [← v_movi (x := x) hM ha hs]; exact .movi h0 .done⟩
  | lsli ha hs hq h0 => exact ⟨_, _, hq, by rw [← v_lsli (x := x) hM hs]; exact .lsl4 ha0 ha1 h0 .done⟩
  | Mza ha hb hs hq h0 h1 => exact ⟨_, _, hq, by rw [← v_Mza (x := x) hM hg ha hb hs]; exact .movi h0 (.a41 h1 .done)⟩
  | Mzs ha hb hs hs0 hq h0 h1 => exact ⟨_, _, hq, by rw [← v_Mzs (x := x) hM hg ha hb hs hs0]; exact .movi h0 (.s41 h1 .done)⟩
  | Mla ha hb hs hq h0 h1 h2 => exact ⟨_, _, hq, by rw [← v_Mla (x := x) hM hg ha hs]; exact .movi h0 (.lsl5 hb0 hb2 h1 (.a45 h2 .done))⟩
  | Mls ha hb hs hs0 hq h0 h1 h2 => exact ⟨_, _, hq, by rw [← v_Mls (x := x) hM hg ha hs hs0]; exact .movi h0 (.lsl5 hb0 hb2 h1 (.s45 h2 .done))⟩
  | Zza ha hb hs hq h0 => exact ⟨_, _, hq, by rw [← v_Zza (x := x) hM hg ha hb hs]; exact .a11 h0 .done⟩
  | Zzs ha hb hs hs0 hq h0 => exact ⟨_, _, hq, by rw [← v_Zzs (x := x) hM hg ha hb hs hs0]; exact .s11 h0 .done⟩
  | Zla ha hb hs hq h0 h1 => exact ⟨_, _, hq, by rw [← v_Zla (x := x) hM hg ha hs]; exact .lsl5 hb0 hb2 h0 (.a15 h1 .done)⟩
  | Zls ha hb hs hs0 hq h0 h1 => exact ⟨_, _, hq, by rw [← v_Zls (x := x) hM hg ha hs hs0]; exact .lsl5 hb0 hb2 h0 (.s15 h1 .done)⟩
  | Lza ha ha0' hb hs hq h0 h1 => exact ⟨_, _, hq, by rw [← v_Lza (x := x) hM hg hb hs]; exact .lsl4 ha0 ha1 h0 (.a41 h1 .done)⟩
  | Lzs ha ha0' hb hs hs0 hq h0 h1 => exact ⟨_, _, hq, by rw [← v_Lzs (x := x) hM hg hb hs hs0]; exact .lsl4 ha0 ha1 h0 (.s41 h1 .done)⟩
  | Lla ha ha0' hb hs hq h0 h1 h2 => exact ⟨_, _, hq, by rw [← v_Lla (x := x) hM hg hs]; exact .lsl4 ha0 ha1 h0 (.lsl5 hb0 hb2 h1 (.a45 h2 .done))⟩
  | Lls ha ha0' hb hs hs0 hq h0 h1 h2 => exact ⟨_, _, hq, by rw [← v_Lls (x := x) hM hg hs hs0]; exact .lsl4 ha0 ha1 h0 (.lsl5 hb0 hb2 h1 (.s45 h2 .done))⟩
theorem step_con (w : World) (mean : ExcName → Option Value) (mg mb : Str → Option Value) (news : List (Addr × Obj)) (c a9 s9 b9 x : Int) (q : Addr) (k : Nat) (t : Tok)
   (hx0 : 0 ≤ x) (hx1 : x < 4294967296) (ha0 : 0 ≤ a9) (ha1 : a9 ≤ 32) (hb0 : 0 ≤ b9) (hb1 : b9 ≤ 31) (hg : s9 = 0 ∨ s9 = 1 ∨ s9 = -1) (hM : CM c a9 s9 b9) (hR : RowsAt news a9 s9 b9 q k) :
   Con w mean mg mb 84 1 news [.ref q, .int x t] (fun news' r => ∃ (z : Addr) (t1 t2 : Tok) (n : Nat), r = .ref z ∧ news' = (z, tup2 ((x * c).fmod (2 ^ Int.toNat 32)) x t1 t2 n) :: news) := by
  unfold Con
  w_top off
  k_with_none
  k_fill
  intro dp un gd cn cs a ccd cl outer A₀ base h₀ L m s Q E B F X N T hk hd hu hret
  obtain ⟨vs9, n9, hq9, hR9⟩ := run_of (x := x) ha0 ha1 hb0 hb1 hg hM hR
  clear hR hM hg ha0 ha1 hb0 hb1
  refine wpAny_call ?_
  k_dflt cell_enter
  (k_with "execs cons" => (k_here; refine gen_toks ?_; intro tk9))
  (k_with "execs nil" => (k_here; refine gen_toks ?_; intro tk9))
  (k_with "exec For Tuple Name cons nil" => ((rename Fr _ _ _ _ => lF'); (with_unfolding_all refine' For_turns lF' ?_; k_whole)))
  (k_with "pyIter ref" => ((with_reducible show wpAny _ _ (pyIter (Value.ref _)) (fun it s₂ => TurnsAt _ _ _ _ _ _ _ _ _ it s₂) _ _); (rename Fr _ _ _ _ => lF'); (rename News _ _ _ _ => lN'); (with_unfolding_all refine iter_listTurns (vs := vs9) (by rfl) lF' lN' (.tail _ hq9) (by rfl) (by rfl) ?_); clear lF'; intro i' l1; (have l2 := below_of l1); (rename Obj.IsDictOf _ _ _ => hd7); (rename PyProof.V.FlatPairs _ _ _ => hf7); (k_dflt (refine' run_items (J := fun l m n => ItemsRest _ _ _ _ _ _ _ _ _ _ _ _ l m n) ?g0 ?g1 ?g2 ?g3 ?g4 ?g5 ?g6 ?g7 ?g8 ?g9 ?g10 ?g11 hR9 _ _ (by with_unfolding_all rfl) ⟨_, _, hd7, hf7⟩)); clear hd7 hf7 lN'; (case' g0 => (intro v7 o7 r7 hg7)); (case' g1 => (intro q7 b0 b1 b2 b3 n7 vs7 u7 v7 o7 r7 hm7 hg7 ih7)); (case' g2 => (intro q7 b0 b1 b2 b3 n7 vs7 u7 v7 a7 o7 r7 ha7 ha8 hm7 hg7 ih7)); (case' g3 => (intro q7 b0 b1 b2 b3 n7 vs7 u7 v7 a7 o7 r7 ha7 ha8 hm7 hg7 ih7)); (case' g4 => (intro q7 b0 b1 b2 b3 n7 vs7 u7 v7 o7 r7 hm7 hg7 ih7)); (case' g5 => (intro q7 b0 b1 b2 b3 n7 vs7 u7 v7 o7 r7 hm7 hg7 ih7)); (case' g6 => (intro q7 b0 b1 b2 b3 n7 vs7 u7 v7 o7 r7 hm7 hg7 ih7)); (case' g7 => (intro q7 b0 b1 b2 b3 n7 vs7 u7 v7 o7 r7 hm7 hg7 ih7)); (case' g8 => (intro q7 b0 b1 b2 b3 n7 vs7 u7 v7 o7 r7 hm7 hg7 ih7)); (case' g9 => (intro q7 b0 b1 b2 b3 n7 vs7 u7 v7 o7 r7 hm7 hg7 ih7)); (case' g10 => (intro q7 b0 b1 b2 b3 n7 vs7 u7 v7 o7 r7 hm7 hg7 ih7)); (case' g11 => (intro q7 b0 b1 b2 b3 n7 vs7 u7 v7 o7 r7 hm7 hg7 ih7)); all_goals (k_dflt (obtain ⟨t4, t5, hd8, hf8⟩ := hg7)); all_goals (try (k_dflt (show ItemsRest _ _ _ _ _ _ _ _ _ _ _ _ _ _ _)))))
  (k_with "UnrEndW" => ((rename News _ _ _ _ => nE'); (rename Obj.IsDictOf _ _ _ => hd7); (rename PyProof.V.FlatPairs _ _ _ => hf7); (k_dflt (refine unr_one (by assumption) nE' (off_of (by assumption)) ⟨⟨.tail _ hq9, trivial⟩, ih7 _ _ (by with_unfolding_all rfl) ⟨_, _, hd7, hf7⟩⟩))))
  k_steps
  (rename News h₀ L _ _ => nZ)
  refine hret _ _ _ _ (by assumption) (tup_news nZ rfl) ⟨_, _, _, _, rfl, rfl⟩
end Mine
namespace Mine
open PySem PySem.W PyProof.Rows
/-- the row of the first `n` bits of a word, the highest first -/
def rowS (x : Int) : Nat → Str
  | 0 => Str.ofString ""
  | n + 1 => Txt.item (Str.ofString "01") ((x.fdiv (2 ^ n)).fmod 2) ++ rowS x n
structure rowI (x : Int) (pre : List Int) (row : Str) : Prop where
  eq : row = rowS x pre.length
/-- the bit of a word at a place -/
def bitN (x : Int) (n : Nat) : Nat := ((x.fdiv (2 ^ n)).fmod 2).toNat
theorem bit_01 (x : Int) (n : Nat) : (x.fdiv (2 ^ n)).fmod 2 = 0 ∨ (x.fdiv (2 ^ n)).fmod 2 = 1 := by
  have h1 : 0 ≤ (x.fdiv (2 ^ n)).fmod 2 := Int.fmod_nonneg_of_pos _ (by decide)
  have h2 : (x.fdiv (2 ^ n)).fmod 2 < 2 := Int.fmod_lt_of_pos _ (by decide)
  omega
theorem bit_str (x : Int) (n : Nat) : Txt.item (Str.ofString "01") ((x.fdiv (2 ^ n)).fmod 2) = ⟨#[48 + bitN x n]⟩ := by
  unfold bitN
  rcases bit_01 x n with h | h <;> rw [h] <;> decide
theorem rowS_cps (x : Int) : ∀ n, (rowS x n).cps.toList = ((List.range n).map fun i => 48 + bitN x i).reverse
  | 0 => rfl
  | n + 1 => by
    unfold rowS
    rw [bit_str, Str.cps_append, Array.toList_append, rowS_cps x n, List.range_succ, List.map_append, List.reverse_append]
    rfl
theorem rowS_len (x : Int) (n : Nat) : (rowS x n).length = n := by
  have h := congrArg List.length (rowS_cps x n)
  rw [List.length_reverse, List.length_map, List.length_range] at h
  exact h
theorem rowI_0 (x : Int) : rowI x [] (Str.ofString "") := ⟨rfl⟩
theorem rowI_len {x : Int} {pre : List Int} {row : Str} (h : rowI x pre row) : row.length = pre.length := by rw [h.eq, rowS_len]
theorem rowI_next {x k : Int} {pre : List Int} {row : Str} (h : rowI x pre row) (hk : k = 0 + (pre.length : Int)) : rowI x (pre ++ [k]) (Txt.item (Str.ofString "01") ((x.fdiv (2 ^ k.toNat)).fmod 2) ++ row) := by
  refine ⟨?_⟩
  have e : k.toNat = pre.length := by omega
  rw [List.length_append, e, h.eq]; rfl
theorem len32 {row : Str} (h : row.length = (rangeKs 0 ((32 : Int) - 0).toNat).length) : row.length = 32 := by
  rw [h, rangeKs_length]; decide
theorem rowI_eq {x : Int} {row : Str} (h : rowI x (rangeKs 0 ((32 : Int) - 0).toNat) row) : row = rowS x 32 := by
  rw [h.eq, rangeKs_length]; rfl
theorem item_row (x : Int) {i : Nat} (hi : i < 32) : Txt.item (rowS x 32) (i : Int) = ⟨#[48 + bitN x (31 - i)]⟩ := by
  have hl := rowS_len x 32
  have hc := rowS_cps x 32
  have hg : (rowS x 32).cps[i]? = some (48 + bitN x (31 - i)) := by
    rw [← Array.getElem?_toList, hc, List.getElem?_reverse (by simpa using hi), List.getElem?_map, List.length_map, List.length_range, List.getElem?_range (by omega)]
    rfl
  have hs : seqIndex? (i : Int) (rowS x 32).length = some i := by
    rw [hl]
    unfold seqIndex?
    simp only []
    split <;> (try omega)
    simp
    omega
  show (⟨#[(Txt.charAt (rowS x 32) (i : Int)).getD 0]⟩ : Str) = _
  unfold Txt.charAt
  rw [hs]
  show (⟨#[((rowS x 32).cps[i]?).getD 0]⟩ : Str) = _
  rw [hg]; rfl
theorem bitN_01 (x : Int) (n : Nat) : bitN x n = 0 ∨ bitN x n = 1 := by
  unfold bitN
  rcases bit_01 x n with h | h <;> rw [h] <;> simp
theorem row_ends {x : Int} {row : Str} (h : rowI x (rangeKs 0 ((32 : Int) - 0).toNat) row) : (Txt.item row 31 = Str.ofString "1" ∨ Txt.item row 31 = Str.ofString "0") ∧ (Txt.item row 0 = Str.ofString "1" ∨ Txt.item row 0 = Str.ofString "0") := by
  rw [rowI_eq h]
  have h1 := item_row x (i := 31) (by decide)
  have h0 := item_row x (i := 0) (by decide)
  constructor
  · rw [show ((31 : Nat) : Int) = 31 from rfl] at h1
    rw [h1]
    rcases bitN_01 x (31 - 31) with e | e <;> rw [e]
    · right; decide
    · left; decide
  · rw [show ((0 : Nat) : Int) = 0 from rfl] at h0
    rw [h0]
    rcases bitN_01 x (31 - 0) with e | e <;> rw [e]
    · right; decide
    · left; decide
/-- what _law_fewest says of a row -/
def fewS (row : Str) : Int :=
  if Txt.count row (Str.ofString "1") < 2 then 1
  else if Txt.count row (Str.ofString "1") = 2 ∨ Txt.count (Txt.stripChars row (Str.ofString "0")) (Str.ofString "0") = 0 ∨ (Txt.item row 0 = Str.ofString "1" ∧ Txt.count (Txt.lstripChars row (Str.ofString "1")) (Str.ofString "1") = 1)
    then (if Txt.item row 31 = Str.ofString "1" then 2 else 3) else 0
theorem ne01 : Str.ofString "0" ≠ Str.ofString "1" := by decide
section
variable {row : Str}
theorem fe_lt (h : Txt.count row (Str.ofString "1") < 2) : fewS row = 1 := if_pos h
theorem fe_y (h : ¬ Txt.count row (Str.ofString "1") < 2) (h2 : Txt.count row (Str.ofString "1") = 2 ∨ Txt.count (Txt.stripChars row (Str.ofString "0")) (Str.ofString "0") = 0 ∨ (Txt.item row 0 = Str.ofString "1" ∧ Txt.count (Txt.lstripChars row (Str.ofString "1")) (Str.ofString "1") = 1)) (h3 : Txt.item row 31 = Str.ofString "1") : fewS row = 2 := by
  unfold fewS; rw [if_neg h, if_pos h2, if_pos h3]
theorem fe_z (h : ¬ Txt.count row (Str.ofString "1") < 2) (h2 : Txt.count row (Str.ofString "1") = 2 ∨ Txt.count (Txt.stripChars row (Str.ofString "0")) (Str.ofString "0") = 0 ∨ (Txt.item row 0 = Str.ofString "1" ∧ Txt.count (Txt.lstripChars row (Str.ofString "1")) (Str.ofString "1") = 1)) (h3 : Txt.item row 31 = Str.ofString "0") : fewS row = 3 := by
  unfold fewS; rw [if_neg h, if_pos h2, if_neg (by rw [h3]; exact ne01)]
theorem fe_n (h : ¬ Txt.count row (Str.ofString "1") < 2) (ha : Txt.count row (Str.ofString "1") ≠ 2) (hb : Txt.count (Txt.stripChars row (Str.ofString "0")) (Str.ofString "0") ≠ 0) (hc : Txt.item row 0 = Str.ofString "0" ∨ Txt.count (Txt.lstripChars row (Str.ofString "1")) (Str.ofString "1") ≠ 1) : fewS row = 0 := by
  unfold fewS; rw [if_neg h, if_neg]
  rintro (e | e | ⟨e1, e2⟩)
  · exact ha e
  · exact hb e
  · rcases hc with hc | hc
    · exact ne01 (hc ▸ e1)
    · exact hc e2
end
theorem mem_all {M d : Int} {ns : List Int} (h : M ∈ ns) (hd : ∀ a ∈ ns, a = d) : M = d := hd M h
end Mine
namespace Mine
open PySem PySem.W PyProof.Rows PySem.Spec PySem.Calls
theorem item_is {prog : Program} {w : World} {A : Around} {E : Value → Shared → Prop} {s : Shared} {value slice : PySem.Expr} {x v : PySem.Str} {t u : Tok} {i : Int} {Q : Value → Shared → Prop}
    (hk : x.length = 32) (h0 : -(32 : Int) ≤ i) (h1 : i < (32 : Int)) (e : Txt.item x i = v) (h : Q (.str v s.toks) { s with toks := s.toks + 1 })
    (hs : subscripted slice false (.str x t) (.int i u) = operate [.str x t, .int i u] (getItem (.str x t) (.int i u)) := by with_unfolding_all rfl)
    (ht : ∀ r, letTemporaryGo value (.str x t) r = pure () := by intro _; with_unfolding_all rfl) :
    wpAny (model prog w) A (subscriptTail value slice (.str x t) (.int i u)) Q E s :=
  KXi.item (n := 32) hk h0 h1 (by decide) (fun _ => e ▸ h) hs ht
theorem mem_hd {M d : Int} {ns : List Int} (h : M ∈ d :: ns) (hd : ∀ a ∈ ns, a = d) : M = d := by
  rcases List.mem_cons.mp h with h | h
  · exact h
  · exact hd M h
section
variable {prog : Program} {w : World} {A : Around} {E : Value → Shared → Prop} {s : Shared} {h₀ : Heap} {L a b : Addr} {v v2 v3 : Int} {t t2 t3 : Tok} {n n0 : Nat} {rest : List (Addr × Obj)} {Q : Value → Shared → Prop}
theorem few_ne1 (N : News h₀ L s.heap ((b, W.listOf #[] n0) :: (a, W.listOf (#[].push (.int v t)) n) :: rest)) (hu : A.units + 64 < cLine) (h : Q (.bool true) s) : wpAny (model prog w) A (compareOp .NotEq (.ref a) (.ref b)) Q E s :=
  ke_ne_ints (xs := [.int v t]) (ns := [v]) (ys := []) (ms := []) (News.isList N (.tail _ (.head _))) (News.isList N (.head _)) (.cons _ _ .nil) .nil hu (by simpa using h)
theorem few_ne2 (N : News h₀ L s.heap ((b, W.listOf #[] n0) :: (a, W.listOf ((#[].push (.int v t)).push (.int v2 t2)) n) :: rest)) (hu : A.units + 64 < cLine) (h : Q (.bool true) s) : wpAny (model prog w) A (compareOp .NotEq (.ref a) (.ref b)) Q E s :=
  ke_ne_ints (xs := [.int v t, .int v2 t2]) (ns := [v, v2]) (ys := []) (ms := []) (News.isList N (.tail _ (.head _))) (News.isList N (.head _)) (.cons _ _ (.cons _ _ .nil)) .nil hu (by simpa using h)
theorem few_ne3 (N : News h₀ L s.heap ((b, W.listOf #[] n0) :: (a, W.listOf (((#[].push (.int v t)).push (.int v2 t2)).push (.int v3 t3)) n) :: rest)) (hu : A.units + 64 < cLine) (h : Q (.bool true) s) : wpAny (model prog w) A (compareOp .NotEq (.ref a) (.ref b)) Q E s :=
  ke_ne_ints (xs := [.int v t, .int v2 t2, .int v3 t3]) (ns := [v, v2, v3]) (ys := []) (ms := []) (News.isList N (.tail _ (.head _))) (News.isList N (.head _)) (.cons _ _ (.cons _ _ (.cons _ _ .nil))) .nil hu (by simpa using h)
end
theorem vint' {x y : Int} {t : Tok} (h : x = y) : ∃ t' : Tok, Value.int x t = Value.int y t' := ⟨t, by rw [h]⟩
theorem few_con (w : World) (mean : ExcName → Option Value) (mg mb : Str → Option Value) (news : List (Addr × Obj)) (x : Int) (t : Tok)
   (hx0 : 0 ≤ x) (hx1 : x < 4294967296) :
   Con w mean mg mb 91 20 news [.int x t] (fun news' r => news' = news ∧ ∃ t' : Tok, r = .int (fewS (rowS x 32)) t') := by
  unfold Con
  w_top off
  k_with_none
  k_fill
  intro dp un gd cn cs a ccd cl outer A₀ base h₀ L m s Q E B F X N T hk hd hu hret
  refine wpAny_call ?_
  k_dflt cell_enter
  (k_with "subscriptTail Name Constant str int" => ((with_reducible show wpAny _ _ (subscriptTail _ _ (Value.str _ _) (Value.int _ _)) _ _ _); (refine item_is (by assumption) (by decide) (by decide) (by assumption) ?_)))
  (k_with "call builtin:min" => (k_here; (with_reducible show wpAny _ _ (call (Value.builtin _) [Value.ref _]) _ _ _); (with_unfolding_all refine kso_min (by k_asm) (by k_asm) (by kso_list) (by l_ints) (by kso_len) (by with_unfolding_all rfl) ?_; k_whole); intro h' M' t' k' F' N' a' b'; clear b'; (have e9 := mem_hd a' (by simp)); clear a'; subst e9))
  (k_with "compareOp NotEq ref ref" => (k_here; (with_reducible show wpAny _ _ (compareOp CmpOp.NotEq (Value.ref _) (Value.ref _)) _ _ _); (first | refine few_ne1 (by assumption) (by ke_room) ?_ | refine few_ne2 (by assumption) (by ke_room) ?_ | refine few_ne3 (by assumption) (by ke_room) ?_)))
  (k_with "state" => first | exact ⟨rfl, rowI_0 x⟩ | exact ⟨rowI_len (rowI_next (by assumption) (by assumption)), rowI_next (by assumption) (by assumption)⟩)
  (k_with "pyIter ref" => (k_state (fun pre row => row.length = pre.length ∧ rowI x pre row) "row"; all_goals (try ((rename rowI x (rangeKs _ _) _ => hri); (have hl := len32 (rowI_len hri)); (obtain ⟨h31, h00⟩ := row_ends hri); rcases h31 with h31 | h31 <;> rcases h00 with h00 | h00))))
  k_steps
  all_goals ((rename News h₀ L _ _ => nZ); (rename rowI x (rangeKs _ _) _ => hri); refine hret _ _ _ _ (by assumption) (by first | exact nZ | exact fun p hp => nZ p (.tail _ hp) | exact fun p hp => nZ p (.tail _ (.tail _ hp))) ⟨rfl, vint' ?_⟩; rw [← rowI_eq hri])
  all_goals first
    | exact (fe_lt (by assumption)).symm
    | exact (fe_n (by assumption) (by assumption) (by assumption) (.inl (by assumption))).symm
    | exact (fe_n (by assumption) (by assumption) (by assumption) (.inr (by assumption))).symm
    | exact (fe_y (by assumption) (.inl (by assumption)) (by assumption)).symm
    | exact (fe_y (by assumption) (.inr (.inl (by assumption))) (by assumption)).symm
    | exact (fe_y (by assumption) (.inr (.inr ⟨by assumption, by assumption⟩)) (by assumption)).symm
    | exact (fe_z (by assumption) (.inl (by assumption)) (by assumption)).symm
    | exact (fe_z (by assumption) (.inr (.inl (by assumption))) (by assumption)).symm
    | exact (fe_z (by assumption) (.inr (.inr ⟨by assumption, by assumption⟩)) (by assumption)).symm
    | exact Eq.trans (by assumption) (fe_y (by assumption) (.inl (by assumption)) (by assumption)).symm
    | exact Eq.trans (by assumption) (fe_y (by assumption) (.inr (.inl (by assumption))) (by assumption)).symm
    | exact Eq.trans (by assumption) (fe_y (by assumption) (.inr (.inr ⟨by assumption, by assumption⟩)) (by assumption)).symm
    | exact Eq.trans (by assumption) (fe_z (by assumption) (.inl (by assumption)) (by assumption)).symm
    | exact Eq.trans (by assumption) (fe_z (by assumption) (.inr (.inl (by assumption))) (by assumption)).symm
    | exact Eq.trans (by assumption) (fe_z (by assumption) (.inr (.inr ⟨by assumption, by assumption⟩)) (by assumption)).symm
end Mine
namespace Mine
open PySem PySem.W PyProof.Rows PySem.Spec PySem.Calls
abbrev poolO (c : Addr) (spot d : Int) (t1 t2 : Tok) : Obj := W.listOf #[.ref c, .int spot t1, .int d t2] 0
theorem cell_ne {h₀ h : Heap} {L p c : Addr} {vs : List Value} {ns : List Int} {spot d : Int} {t1 t2 : Tok} {news : List (Addr × Obj)} (N : News h₀ L h news) (hp : (p, poolO c spot d t1 t2) ∈ news) (hc : (c, W.listOf vs.toArray 0) ∈ news) (hI : IntsAre vs ns) : c ≠ p := by
  intro e
  subst e
  have h1 := (N _ hp).1
  have h2 := (N _ hc).1
  rw [h1] at h2
  have h3 := congrArg (fun o => match o with | some (Obj.mk _ _ (.seq a _) _) => a.toList | _ => []) h2
  simp [poolO, W.listOf] at h3
  subst h3
  cases hI
/-- a draw of the pool, wherever the pool stands in the ledger -/
theorem digitU_con (w : World) (mean : ExcName → Option Value) (mg mb : Str → Option Value) {p c : Addr} {vs : List Value} {ns : List Int} {news : List (Addr × Obj)} {g : Obj → List (Addr × Obj)} {spot d most : Int} {t1 t2 tm : Tok}
   (U : UpdF p (poolO c spot d t1 t2) news g) (hc : (c, W.listOf vs.toArray 0) ∈ news)
   (hI : IntsAre vs ns) (hl1 : 1 ≤ ns.length) (hl2 : ns.length ≤ 40) (hs0 : 0 ≤ spot) (hs1 : spot ≤ 1000) (hd0 : 0 ≤ d) (hm0 : 0 < most) (hm1 : most ≤ 1048576) :
   Con w mean mg mb 70 1 news [.ref p, .int most tm]
    (fun news' r => ∃ (spot' d' v : Int) (t1' t2' t : Tok), 0 ≤ spot' ∧ spot' ≤ spot + 1 ∧ 0 ≤ d' ∧ 0 ≤ v ∧ v < most ∧ news' = g (poolO c spot' d' t1' t2') ∧ r = .int v t) := by
  intro dp un gd cn cs a ccd cl outer A₀ base h₀ L m s Q E B F X N T hk hd hu hret
  obtain ⟨pre, post, rfl, hg, h1, h2⟩ := U.split
  have hcp : c ≠ p := cell_ne N (List.mem_append.mpr (.inr (.head _))) hc hI
  have hcm : (c, W.listOf vs.toArray 0) ∈ pre ++ post := by
    rcases List.mem_append.mp hc with h | h
    · exact List.mem_append.mpr (.inl h)
    · rcases List.mem_cons.mp h with h | h
      · exact absurd (congrArg Prod.fst h) hcp
      · exact List.mem_append.mpr (.inr h)
  refine digit_con w mean mg mb p c vs ns (pre ++ post) spot d most t1 t2 tm hI hl1 hl2 hcp (fun q hq => (List.mem_append.mp hq).elim (h1 q) (h2 q)) hs0 hs1 hd0 hm0 hm1 dp un gd cn cs a ccd cl outer A₀ base h₀ L m s Q E B F X ?_ T hk hd hu ?_
  · intro q hq
    rcases List.mem_cons.mp hq with rfl | hq
    · exact N _ (List.mem_append.mpr (.inr (.head _)))
    · rcases List.mem_cons.mp hq with rfl | hq
      · exact N _ hc
      · exact N q ((List.mem_append.mp hq).elim (fun h => List.mem_append.mpr (.inl h)) fun h => List.mem_append.mpr (.inr (.tail _ h)))
  · rintro r news' h' tk' F' N' ⟨spot', d', v, t1', t2', t, a1, a2, a3, a4, a5, rfl, rfl⟩
    refine hret _ _ _ _ F' (fun q hq => ?_) ⟨spot', d', v, t1', t2', t, a1, a2, a3, a4, a5, rfl, rfl⟩
    rw [hg] at hq
    rcases List.mem_append.mp hq with hq | hq
    · exact N' q (.tail _ (.tail _ (List.mem_append.mpr (.inl hq))))
    · rcases List.mem_cons.mp hq with rfl | hq
      · exact N' _ (.head _)
      · exact N' q (.tail _ (.tail _ (List.mem_append.mpr (.inr hq))))
local macro_rules | `(tactic| k_all) => `(tactic| assumption)
theorem wide_con (w : World) (mean : ExcName → Option Value) (mg mb : Str → Option Value) (p c : Addr) (vs : List Value) (ns : List Int) (rest : List (Addr × Obj)) (spot d : Int) (t1 t2 tm : Tok)
   (hI : IntsAre vs ns) (hl1 : 1 ≤ ns.length) (hl2 : ns.length ≤ 40) (hcp : c ≠ p) (hrest : ∀ q ∈ rest, q.1 ≠ p) (hs0 : 0 ≤ spot) (hs1 : spot ≤ 900) (hd0 : 0 ≤ d) :
   Con w mean mg mb 77 2 ((p, poolO c spot d t1 t2) :: (c, W.listOf vs.toArray 0) :: rest) [.ref p, .int 4294967296 tm]
    (fun news' r => ∃ (spot' d' v : Int) (t1' t2' t : Tok), 0 ≤ spot' ∧ spot' ≤ spot + 2 ∧ 0 ≤ d' ∧ 0 ≤ v ∧ v < 4294967296 ∧
       news' = (p, poolO c spot' d' t1' t2') :: (c, W.listOf vs.toArray 0) :: rest ∧ r = .int v t) := by
  unfold Con
  w_top off
  k_with_none
  k_fill
  intro dp un gd cn cs a ccd cl outer A₀ base h₀ L m s Q E B F X N T hk hd hu hret
  refine wpAny_call ?_
  k_dflt cell_enter
  (k_with "call ref" => ((with_reducible show wpAny _ _ (call (Value.ref 70) _) _ _ _); k_dflt (refine con_use2 (by k_asm) (by k_asm) (digitU_con _ _ _ _ (by k_updF) (by k_mem) (by assumption) (by omega) (by omega) (by omega) (by omega) (by omega) (by omega) (by omega)) (by k_asm) (by k_asm) (by k_asm) (by first | exact rfl | assumption) (by ktr_room) (by ktr_units) ?_); intro r9 news9 h9 tk9 F9 N9 P9; obtain ⟨sp9, d9, v9, ta9, tb9, tc9, p1, p2, p3, p4, p5, e9, e8⟩ := P9; subst e9; subst e8; (try dsimp only); (try dsimp only at N9); (try k_fold)))
  k_steps
  all_goals ((rename News h₀ L _ _ => nZ); refine hret _ _ _ _ (by assumption) (by first | exact nZ | exact fun p hp => nZ p (.tail _ hp)) ⟨_, _, _, _, _, _, ?_, ?_, ?_, fmod_nn (by decide), fmod_up (by decide), rfl, rfl⟩ <;> omega)
/-- a wide draw of the pool, wherever the pool stands in the ledger -/
theorem wideU_con (w : World) (mean : ExcName → Option Value) (mg mb : Str → Option Value) {p c : Addr} {vs : List Value} {ns : List Int} {news : List (Addr × Obj)} {g : Obj → List (Addr × Obj)} {spot d most : Int} {t1 t2 tm : Tok}
   (U : UpdF p (poolO c spot d t1 t2) news g) (hc : (c, W.listOf vs.toArray 0) ∈ news)
   (hI : IntsAre vs ns) (hl1 : 1 ≤ ns.length) (hl2 : ns.length ≤ 40) (hs0 : 0 ≤ spot) (hs1 : spot ≤ 900) (hd0 : 0 ≤ d) (hm : most = 4294967296) :
   Con w mean mg mb 77 2 news [.ref p, .int most tm]
    (fun news' r => ∃ (spot' d' v : Int) (t1' t2' t : Tok), 0 ≤ spot' ∧ spot' ≤ spot + 2 ∧ 0 ≤ d' ∧ 0 ≤ v ∧ v < 4294967296 ∧ news' = g (poolO c spot' d' t1' t2') ∧ r = .int v t) := by
  subst hm
  intro dp un gd cn cs a ccd cl outer A₀ base h₀ L m s Q E B F X N T hk hd hu hret
  obtain ⟨pre, post, rfl, hg, h1, h2⟩ := U.split
  have hcp : c ≠ p := cell_ne N (List.mem_append.mpr (.inr (.head _))) hc hI
  refine wide_con w mean mg mb p c vs ns (pre ++ post) spot d t1 t2 tm hI hl1 hl2 hcp (fun q hq => (List.mem_append.mp hq).elim (h1 q) (h2 q)) hs0 hs1 hd0 dp un gd cn cs a ccd cl outer A₀ base h₀ L m s Q E B F X ?_ T hk hd hu ?_
  · intro q hq
    rcases List.mem_cons.mp hq with rfl | hq
    · exact N _ (List.mem_append.mpr (.inr (.head _)))
    · rcases List.mem_cons.mp hq with rfl | hq
      · exact N _ hc
      · exact N q ((List.mem_append.mp hq).elim (fun h => List.mem_append.mpr (.inl h)) fun h => List.mem_append.mpr (.inr (.tail _ h)))
  · rintro r news' h' tk' F' N' ⟨spot', d', v, t1', t2', t, a1, a2, a3, a4, a5, rfl, rfl⟩
    refine hret _ _ _ _ F' (fun q hq => ?_) ⟨spot', d', v, t1', t2', t, a1, a2, a3, a4, a5, rfl, rfl⟩
    rw [hg] at hq
    rcases List.mem_append.mp hq with hq | hq
    · exact N' q (.tail _ (.tail _ (List.mem_append.mpr (.inl hq))))
    · rcases List.mem_cons.mp hq with rfl | hq
      · exact N' _ (.head _)
      · exact N' q (.tail _ (.tail _ (List.mem_append.mpr (.inr hq))))
end Mine
namespace Mine
open PySem PySem.W PyProof.Rows
/-- the number that a row of signs 48, 49 writes, the highest first -/
def rv : List Nat → Nat
  | [] => 0
  | c :: r => (if c = 49 then 2 ^ r.length else 0) + rv r
def isB (l : List Nat) : Prop := ∀ c ∈ l, c = 48 ∨ c = 49
theorem isB.tail {c : Nat} {r : List Nat} (h : isB (c :: r)) : isB r := fun d hd => h d (.tail _ hd)
theorem rv_lt : ∀ l : List Nat, rv l < 2 ^ l.length
  | [] => by decide
  | c :: r => by
    have h := rv_lt r
    unfold rv
    rw [List.length_cons, Nat.pow_succ]
    split <;> omega
theorem rv_inj : ∀ {l m : List Nat}, isB l → isB m → l.length = m.length → rv l = rv m → l = m
  | [], [], _, _, _, _ => rfl
  | [], _ :: _, _, _, h, _ => by simp at h
  | _ :: _, [], _, _, h, _ => by simp at h
  | c :: r, d :: q, hl, hm, h, hv => by
    have hlen : r.length = q.length := by simpa using h
    have h1 := rv_lt r
    have h2 := rv_lt q
    unfold rv at hv
    rw [hlen] at hv h1
    have hcd : c = d := by
      rcases hl c (.head _) with rfl | rfl <;> rcases hm d (.head _) with rfl | rfl <;> first | rfl | (simp at hv; omega)
    subst hcd
    have hv' : rv r = rv q := by omega
    rw [rv_inj hl.tail hm.tail hlen hv']
theorem rv_append : ∀ l m : List Nat, rv (l ++ m) = rv l * 2 ^ m.length + rv m
  | [], m => by simp [rv]
  | c :: r, m => by
    show (if c = 49 then 2 ^ (r ++ m).length else 0) + rv (r ++ m) = ((if c = 49 then 2 ^ r.length else 0) + rv r) * 2 ^ m.length + rv m
    rw [rv_append r m, List.length_append, Nat.pow_add, Nat.add_mul]
    split
    · omega
    · omega
theorem rv_zeros : ∀ n : Nat, rv (List.replicate n 48) = 0
  | 0 => rfl
  | n + 1 => by rw [List.replicate_succ]; unfold rv; rw [rv_zeros n]; rfl
theorem rv_ones : ∀ n : Nat, rv (List.replicate n 49) + 1 = 2 ^ n
  | 0 => rfl
  | n + 1 => by
    have h := rv_ones n
    rw [List.replicate_succ]
    unfold rv
    rw [if_pos rfl, List.length_replicate, Nat.pow_succ]
    omega
theorem isB_rep {n c : Nat} (h : c = 48 ∨ c = 49) : isB (List.replicate n c) := fun d hd => by
  rw [List.eq_of_mem_replicate hd]; exact h
theorem isB_app {l m : List Nat} (h : isB l) (h' : isB m) : isB (l ++ m) := fun d hd => (List.mem_append.mp hd).elim (h d) (h' d)
theorem isB_cons {c : Nat} {m : List Nat} (h : c = 48 ∨ c = 49) (h' : isB m) : isB (c :: m) := fun d hd => by
  rcases List.mem_cons.mp hd with rfl | hd
  · exact h
  · exact h' d hd
/-- a row with no one, one, two ones -/
theorem ones0 : ∀ {l : List Nat}, isB l → l.count 49 = 0 → rv l = 0
  | [], _, _ => rfl
  | c :: r, h, hc => by
    rcases h c (.head _) with rfl | rfl
    · rw [List.count_cons] at hc
      unfold rv
      rw [ones0 h.tail (by omega)]; rfl
    · rw [List.count_cons] at hc; simp at hc
theorem ones1 : ∀ {l : List Nat}, isB l → l.count 49 = 1 → ∃ j, j < l.length ∧ rv l = 2 ^ j
  | [], _, hc => by simp at hc
  | c :: r, h, hc => by
    rcases h c (.head _) with rfl | rfl
    · rw [List.count_cons] at hc
      obtain ⟨j, hj, e⟩ := ones1 h.tail (by simpa using hc)
      exact ⟨j, by rw [List.length_cons]; omega, by unfold rv; rw [e]; simp⟩
    · rw [List.count_cons] at hc
      have := ones0 h.tail (by simpa using hc)
      exact ⟨r.length, by simp, by unfold rv; rw [this]; simp⟩
theorem ones2 : ∀ {l : List Nat}, isB l → l.count 49 = 2 → ∃ j k, j < k ∧ k < l.length ∧ rv l = 2 ^ k + 2 ^ j
  | [], _, hc => by simp at hc
  | c :: r, h, hc => by
    rcases h c (.head _) with rfl | rfl
    · rw [List.count_cons] at hc
      obtain ⟨j, k, hj, hk, e⟩ := ones2 h.tail (by simpa using hc)
      exact ⟨j, k, hj, by rw [List.length_cons]; omega, by unfold rv; rw [e]; simp⟩
    · rw [List.count_cons] at hc
      obtain ⟨j, hj, e⟩ := ones1 h.tail (by simpa using hc)
      exact ⟨j, r.length, hj, by simp, by unfold rv; rw [e]; simp⟩
/-- the row of a word -/
def RL (w : Nat) : List Nat := (rowS (w : Int) 32).cps.toList
theorem bitN_nat (w n : Nat) : bitN (w : Int) n = w / 2 ^ n % 2 := by
  unfold bitN
  rw [← cast_pow, Int.fdiv_eq_ediv_of_nonneg _ (Int.natCast_nonneg _), Int.fmod_eq_emod_of_nonneg _ (by decide)]
  omega
theorem row_cons (x : Int) (n : Nat) : (rowS x (n + 1)).cps.toList = (48 + bitN x n) :: (rowS x n).cps.toList := by
  show (Txt.item (Str.ofString "01") ((x.fdiv (2 ^ n)).fmod 2) ++ rowS x n).cps.toList = _
  rw [bit_str, Str.cps_append, Array.toList_append]; rfl
theorem row_length (x : Int) (n : Nat) : (rowS x n).cps.toList.length = n := by
  rw [rowS_cps]; simp
theorem rv_row (w : Nat) : ∀ n, rv (rowS (w : Int) n).cps.toList = w % 2 ^ n
  | 0 => by rw [Nat.pow_zero, Nat.mod_one]; rfl
  | n + 1 => by
    rw [row_cons]
    unfold rv
    rw [row_length, rv_row w n, bitN_nat, Nat.pow_succ, Nat.mod_mul]
    rcases Nat.mod_two_eq_zero_or_one (w / 2 ^ n) with h | h <;> rw [h] <;> simp <;> omega
theorem row_isB (x : Int) : ∀ n, isB (rowS x n).cps.toList
  | 0 => fun _ h => nomatch h
  | n + 1 => by
    rw [row_cons]
    exact isB_cons (by rcases bitN_01 x n with h | h <;> rw [h] <;> simp) (row_isB x n)
theorem RL_B (w : Nat) : isB (RL w) := row_isB _ _
theorem RL_len (w : Nat) : (RL w).length = 32 := row_length _ _
theorem RL_rv {w : Nat} (h : w < 4294967296) : rv (RL w) = w := by
  unfold RL; rw [rv_row]; exact Nat.mod_eq_of_lt h
theorem RL_is {w : Nat} {l : List Nat} (h : w < 4294967296) (hb : isB l) (hl : l.length = 32) (hv : rv l = w) : RL w = l :=
  rv_inj (RL_B w) hb (by rw [RL_len, hl]) (by rw [RL_rv h, hv])
/-- strip on both sides, and on the left, of a list -/
def stripL (l : List Nat) : List Nat := (l.drop (l.takeWhile (· == 48)).length).take ((l.drop (l.takeWhile (· == 48)).length).length - ((l.drop (l.takeWhile (· == 48)).length).reverse.takeWhile (· == 48)).length)
def lstripL (l : List Nat) : List Nat := l.drop (l.takeWhile (· == 49)).length
theorem takeW_rep (c : Nat) : ∀ l : List Nat, ∃ p, l.takeWhile (· == c) = List.replicate p c
  | [] => ⟨0, rfl⟩
  | d :: r => by
    obtain ⟨p, h⟩ := takeW_rep c r
    rw [List.takeWhile_cons]
    by_cases e : d = c
    · subst e; exact ⟨p + 1, by simp [h, List.replicate_succ]⟩
    · exact ⟨0, by simp [e]⟩
theorem takeW_drop (p : Nat → Bool) (l : List Nat) : l = l.takeWhile p ++ l.drop (l.takeWhile p).length := by
  conv => lhs; rw [← List.take_append_drop (l.takeWhile p).length l]
  congr 1
  exact List.prefix_iff_eq_take.mp (List.takeWhile_prefix p) |>.symm
theorem lstripL_split (l : List Nat) : ∃ p, l = List.replicate p 49 ++ lstripL l := by
  obtain ⟨p, h⟩ := takeW_rep 49 l
  exact ⟨p, by unfold lstripL; rw [← h]; exact takeW_drop _ l⟩
theorem stripL_split (l : List Nat) : ∃ p r, l = List.replicate p 48 ++ (stripL l ++ List.replicate r 48) := by
  obtain ⟨p, h⟩ := takeW_rep 48 l
  have h1 := takeW_drop (· == 48) l
  unfold stripL
  generalize l.drop (l.takeWhile (· == 48)).length = m at *
  obtain ⟨r, h2⟩ := takeW_rep 48 m.reverse
  have h3 := takeW_drop (· == 48) m.reverse
  refine ⟨p, r, ?_⟩
  rw [← h]
  rw [h1]
  congr 1
  · rw [← h1]
  · have h4 := congrArg List.reverse h3
    rw [List.reverse_reverse, List.reverse_append, h2, List.reverse_replicate, List.drop_reverse, List.reverse_reverse] at h4
    rw [h2]
    exact h4
theorem takeW_app {c d : Nat} (hd : d ≠ c) (X : List Nat) : ∀ p, (List.replicate p c ++ d :: X).takeWhile (· == c) = List.replicate p c
  | 0 => by simp [hd]
  | p + 1 => by
    rw [List.replicate_succ, List.cons_append, List.takeWhile_cons, if_pos (by simp), takeW_app hd X p]
theorem lstripL_of {d : Nat} (hd : d ≠ 49) (X : List Nat) (p : Nat) : lstripL (List.replicate p 49 ++ d :: X) = d :: X := by
  unfold lstripL
  rw [takeW_app hd]
  simp
theorem rep_snoc (q c : Nat) : List.replicate (q + 1) c = List.replicate q c ++ [c] := List.replicate_succ'
theorem stripL_of (p q r : Nat) : stripL (List.replicate p 48 ++ (List.replicate (q + 1) 49 ++ List.replicate r 48)) = List.replicate (q + 1) 49 := by
  have e1 : List.replicate p 48 ++ (List.replicate (q + 1) 49 ++ List.replicate r 48) = List.replicate p 48 ++ 49 :: (List.replicate q 49 ++ List.replicate r 48) := by
    rw [List.replicate_succ, List.cons_append]
  have e2 : ((List.replicate p 48 ++ (List.replicate (q + 1) 49 ++ List.replicate r 48)).takeWhile (· == 48)).length = p := by
    rw [e1, takeW_app (by decide)]; simp
  unfold stripL
  rw [e2]
  have e3 : (List.replicate p 48 ++ (List.replicate (q + 1) 49 ++ List.replicate r 48)).drop p = List.replicate (q + 1) 49 ++ List.replicate r 48 := by
    rw [List.drop_append_of_le_length (by simp)]; simp
  rw [e3]
  have e4 : (List.replicate (q + 1) 49 ++ List.replicate r 48).reverse = List.replicate r 48 ++ 49 :: List.replicate q 49 := by
    rw [List.reverse_append, List.reverse_replicate, List.reverse_replicate, List.replicate_succ]
  rw [e4, takeW_app (by decide)]
  simp [List.take_append_of_le_length]
end Mine
namespace Mine
open PySem PySem.W PyProof.Rows
/-- a word that is a sum or a difference of two powers -/
def FormW (w : Nat) : Prop := (∃ a b, b < a ∧ a < 32 ∧ w = 2 ^ a + 2 ^ b) ∨ (∃ a b, b < a ∧ a ≤ 32 ∧ w + 2 ^ b = 2 ^ a) ∨ (∃ a b, a < b ∧ b < 32 ∧ w + 2 ^ b = 4294967296 + 2 ^ a)
def condL (l : List Nat) (w : Nat) : Prop := l.count 49 = 2 ∨ (stripL l).count 48 = 0 ∨ (2147483648 ≤ w ∧ (lstripL l).count 49 = 1)
theorem p32 : (2 : Nat) ^ 32 = 4294967296 := by decide
theorem p31 : (2 : Nat) ^ 31 = 2147483648 := by decide
theorem pow_le32 {a : Nat} (h : a ≤ 32) : (2 : Nat) ^ a ≤ 4294967296 := Nat.pow_le_pow_right (by decide) h
theorem pow_le31 {a : Nat} (h : a ≤ 31) : (2 : Nat) ^ a ≤ 2147483648 := Nat.pow_le_pow_right (by decide) h
theorem pow_pos' (a : Nat) : 0 < (2 : Nat) ^ a := Nat.pow_pos (by decide)
theorem rv_cons (c : Nat) (r : List Nat) : rv (c :: r) = (if c = 49 then 2 ^ r.length else 0) + rv r := rfl
theorem pow_lt' {a b : Nat} (h : a < b) : 2 * (2 : Nat) ^ a ≤ 2 ^ b := by
  have := Nat.pow_le_pow_right (n := 2) (by decide) (show a + 1 ≤ b by omega)
  rw [Nat.pow_succ] at this; omega
theorem cnt_list (c : Nat) : ∀ l : List Nat, cnt c l = (l.count c : Nat)
  | [] => rfl
  | d :: r => by
    rw [cnt_cons, cnt_list c r, List.count_cons]
    by_cases h : d = c
    · subst h; simp; omega
    · simp [h]
theorem single {w : Nat} (h : w < 4294967296) {j : Nat} (hj : j < 32) (e : w = 2 ^ j) : (RL w).count 49 = 1 := by
  subst e
  rw [RL_is h (l := List.replicate (31 - j) 48 ++ 49 :: List.replicate j 48) (isB_app (isB_rep (.inl rfl)) (isB_cons (.inr rfl) (isB_rep (.inl rfl)))) (by simp; omega) (by rw [rv_append, rv_zeros, rv_cons, rv_zeros]; simp)]
  simp [List.count_replicate]
theorem zero_row : (RL 0).count 49 = 0 := by
  rw [RL_is (by decide) (l := List.replicate 32 48) (isB_rep (.inl rfl)) (by simp) (rv_zeros 32)]
  simp [List.count_replicate]
/-- a form's row is one of the three -/
theorem cond_form {w : Nat} (h : w < 4294967296) (hf : FormW w) : condL (RL w) w := by
  rcases hf with ⟨a, b, hb, ha, e⟩ | ⟨a, b, hb, ha, e⟩ | ⟨a, b, hab, hb, e⟩
  · left
    rw [RL_is h (l := List.replicate (31 - a) 48 ++ 49 :: (List.replicate (a - b - 1) 48 ++ 49 :: List.replicate b 48))
      (isB_app (isB_rep (.inl rfl)) (isB_cons (.inr rfl) (isB_app (isB_rep (.inl rfl)) (isB_cons (.inr rfl) (isB_rep (.inl rfl)))))) (by simp; omega)
      (by
        have e1 : a - b - 1 + (b + 1) = a := by omega
        rw [rv_append, rv_zeros, rv_cons, rv_append, rv_zeros, rv_cons, rv_zeros]; simp [e1]; omega)]
    simp [List.count_replicate]
  · right; left
    obtain ⟨q, rfl⟩ : ∃ q, a = b + (q + 1) := ⟨a - b - 1, by omega⟩
    rw [RL_is h (l := List.replicate (32 - (b + (q + 1))) 48 ++ (List.replicate (q + 1) 49 ++ List.replicate b 48))
      (isB_app (isB_rep (.inl rfl)) (isB_app (isB_rep (.inr rfl)) (isB_rep (.inl rfl)))) (by simp only [List.length_append, List.length_replicate]; omega)
      (by
        rw [rv_append, rv_zeros, rv_append, rv_zeros, List.length_replicate]
        have h1 := rv_ones (q + 1)
        have h2 : (rv (List.replicate (q + 1) 49) + 1) * 2 ^ b = 2 ^ (b + (q + 1)) := by rw [h1, Nat.pow_add 2 b, Nat.mul_comm]
        rw [Nat.add_mul] at h2
        omega)]
    rw [stripL_of]
    simp [List.count_replicate]
  · by_cases h1 : b = a + 1
    · right; left
      subst h1
      rw [RL_is h (l := List.replicate 0 48 ++ (List.replicate (31 - a + 1) 49 ++ List.replicate a 48))
        (isB_app (isB_rep (.inl rfl)) (isB_app (isB_rep (.inr rfl)) (isB_rep (.inl rfl)))) (by simp only [List.length_append, List.length_replicate]; omega)
        (by
          rw [rv_append, rv_zeros, rv_append, rv_zeros, List.length_replicate]
          have h1 := rv_ones (31 - a + 1)
          have h2 : (rv (List.replicate (31 - a + 1) 49) + 1) * 2 ^ a = 2 ^ 32 := by rw [h1, ← Nat.pow_add]; congr 1; omega
          rw [Nat.add_mul, p32] at h2
          rw [Nat.pow_succ] at e
          omega)]
      rw [stripL_of]
      simp [List.count_replicate]
    · right; right
      have hq := pow_le31 (a := b) (by omega)
      have hq2 := pow_pos' a
      refine ⟨by omega, ?_⟩
      obtain ⟨q, rfl⟩ : ∃ q, b = a + 1 + (q + 1) := ⟨b - a - 2, by omega⟩
      rw [RL_is h (l := List.replicate (32 - (a + 1 + (q + 1))) 49 ++ 48 :: (List.replicate q 48 ++ 49 :: List.replicate a 48))
        (isB_app (isB_rep (.inr rfl)) (isB_cons (.inl rfl) (isB_app (isB_rep (.inl rfl)) (isB_cons (.inr rfl) (isB_rep (.inl rfl)))))) (by simp only [List.length_append, List.length_replicate, List.length_cons]; omega)
        (by
          rw [rv_append, rv_cons, rv_append, rv_zeros, rv_cons, rv_zeros]
          simp only [List.length_append, List.length_replicate, List.length_cons]
          have h1 := rv_ones (32 - (a + 1 + (q + 1)))
          have h2 : (rv (List.replicate (32 - (a + 1 + (q + 1))) 49) + 1) * 2 ^ (q + (a + 1) + 1) = 2 ^ 32 := by rw [h1, ← Nat.pow_add]; congr 1; omega
          have h3 : q + (a + 1) + 1 = a + 1 + (q + 1) := by omega
          rw [Nat.add_mul, p32, h3] at h2
          rw [h3]
          simp
          omega)]
      rw [lstripL_of (by decide)]
      simp [List.count_replicate]
/-- a row of the three has a form -/
theorem form_cond {w : Nat} (h : w < 4294967296) (h0 : w ≠ 0) (h1 : ∀ j, j < 32 → w ≠ 2 ^ j) (hc : condL (RL w) w) : FormW w := by
  have hv := RL_rv h
  have hB := RL_B w
  have hl := RL_len w
  rcases hc with hc | hc | ⟨_, hc⟩
  · obtain ⟨j, k, hj, hk, e⟩ := ones2 hB hc
    exact .inl ⟨k, j, hj, by omega, by rw [← hv, e]⟩
  · obtain ⟨p, r, e⟩ := stripL_split (RL w)
    have hN : isB (stripL (RL w)) := fun d hd => hB d (by rw [e]; simp [hd])
    generalize stripL (RL w) = N at *
    have hN1 : N = List.replicate N.length 49 := by
      refine List.eq_replicate_iff.mpr ⟨rfl, fun d hd => ?_⟩
      rcases hN d hd with rfl | rfl
      · exact absurd hc (by have := List.count_pos_iff.mpr hd; omega)
      · rfl
    generalize N.length = q at *
    subst hN1
    rw [e, rv_append, rv_zeros, rv_append, rv_zeros, List.length_replicate] at hv
    have hl2 : p + (q + r) = 32 := by
      rw [e] at hl; simpa using hl
    have h2 := rv_ones q
    have h3 : (rv (List.replicate q 49) + 1) * 2 ^ r = 2 ^ (r + q) := by rw [h2, Nat.pow_add 2 r, Nat.mul_comm]
    rw [Nat.add_mul] at h3
    refine .inr (.inl ⟨r + q, r, ?_, by omega, by omega⟩)
    by_cases hq : q = 0
    · subst hq; rw [Nat.add_zero] at h3; omega
    · omega
  · obtain ⟨p, e⟩ := lstripL_split (RL w)
    have hN : isB (lstripL (RL w)) := fun d hd => hB d (by rw [e]; simp [hd])
    generalize lstripL (RL w) = N at *
    obtain ⟨j, hj, e1⟩ := ones1 hN hc
    rw [e, rv_append, e1] at hv
    have hl2 : p + N.length = 32 := by
      rw [e] at hl; simpa using hl
    have h2 := rv_ones p
    have h3 : (rv (List.replicate p 49) + 1) * 2 ^ N.length = 2 ^ 32 := by rw [h2, ← Nat.pow_add, hl2]
    rw [Nat.add_mul, p32] at h3
    by_cases hn : N.length = 32
    · have : p = 0 := by omega
      subst this
      exact absurd (by rw [← hv]; simp [rv]) (h1 j (by omega))
    · exact .inr (.inr ⟨j, N.length, hj, by omega, by omega⟩)
end Mine
namespace Mine
open PySem PySem.W PyProof.Rows
theorem s1 : Str.ofString "1" = ⟨#[49]⟩ := by decide
theorem s0 : Str.ofString "0" = ⟨#[48]⟩ := by decide
theorem goes_one (c : Nat) : (#[c] : Array Nat).contains = (· == c) := by
  funext d
  simp [Array.contains]
theorem strip_list (x : Str) : (Txt.stripChars x (Str.ofString "0")).cps.toList = stripL x.cps.toList := by
  rw [s0]
  unfold Txt.stripChars
  rw [PyProof.Rows.stripBy_eq, StrLaws.strSub_toList, goes_one]
  simp only [PySem.stripLo, PySem.stripHi, if_true]
  unfold stripL
  congr 1
  have hn : x.length = x.cps.toList.length := rfl
  rw [List.length_drop, hn]
  omega
theorem lstrip_list (x : Str) : (Txt.lstripChars x (Str.ofString "1")).cps.toList = lstripL x.cps.toList := by
  rw [s1]
  unfold Txt.lstripChars
  rw [PyProof.Rows.stripBy_eq, StrLaws.strSub_toList, goes_one]
  simp only [PySem.stripLo, PySem.stripHi, if_true]
  unfold lstripL
  rw [List.take_of_length_le]
  rw [List.length_drop]
  exact Nat.le_refl _
theorem bit_is1 (b : Nat) : (⟨#[48 + b]⟩ : Str) = Str.ofString "1" ↔ b = 1 := by
  rw [s1]
  constructor
  · intro h; injection h with h; have := congrArg (fun a : Array Nat => a.toList) h; simp at this; omega
  · rintro rfl; rfl
theorem item31 (w : Nat) : Txt.item (rowS (w : Int) 32) 31 = Str.ofString "1" ↔ w % 2 = 1 := by
  have h := item_row (w : Int) (i := 31) (by decide)
  rw [show ((31 : Nat) : Int) = 31 from rfl] at h
  rw [h, bit_is1, bitN_nat]
  simp
theorem item0 {w : Nat} (hw : w < 4294967296) : Txt.item (rowS (w : Int) 32) 0 = Str.ofString "1" ↔ 2147483648 ≤ w := by
  have h := item_row (w : Int) (i := 0) (by decide)
  rw [show ((0 : Nat) : Int) = 0 from rfl] at h
  rw [h, bit_is1, bitN_nat]
  omega
theorem cnt_row (w : Nat) : Txt.count (rowS (w : Int) 32) (Str.ofString "1") = ((RL w).count 49 : Nat) := by
  rw [s1, count_cnt, cnt_list]; rfl
theorem cnt_strip (w : Nat) : Txt.count (Txt.stripChars (rowS (w : Int) 32) (Str.ofString "0")) (Str.ofString "0") = ((stripL (RL w)).count 48 : Nat) := by
  conv => lhs; arg 2; rw [s0]
  rw [count_cnt, cnt_list, strip_list]; rfl
theorem cnt_lstrip (w : Nat) : Txt.count (Txt.lstripChars (rowS (w : Int) 32) (Str.ofString "1")) (Str.ofString "1") = ((lstripL (RL w)).count 49 : Nat) := by
  conv => lhs; arg 2; rw [s1]
  rw [count_cnt, cnt_list, lstrip_list]; rfl
theorem few_one {w : Nat} (h : (RL w).count 49 < 2) : fewS (rowS (w : Int) 32) = 1 := fe_lt (by rw [cnt_row]; omega)
theorem cond_iff {w : Nat} (hw : w < 4294967296) : condL (RL w) w ↔ (Txt.count (rowS (w : Int) 32) (Str.ofString "1") = 2 ∨ Txt.count (Txt.stripChars (rowS (w : Int) 32) (Str.ofString "0")) (Str.ofString "0") = 0 ∨ (Txt.item (rowS (w : Int) 32) 0 = Str.ofString "1" ∧ Txt.count (Txt.lstripChars (rowS (w : Int) 32) (Str.ofString "1")) (Str.ofString "1") = 1)) := by
  rw [cnt_row, cnt_strip, cnt_lstrip, item0 hw]
  unfold condL
  omega
theorem few_yes {w : Nat} (hw : w < 4294967296) (h : ¬ (RL w).count 49 < 2) (hc : condL (RL w) w) : fewS (rowS (w : Int) 32) = if w % 2 = 1 then 2 else 3 := by
  unfold fewS
  rw [if_neg (by rw [cnt_row]; omega), if_pos ((cond_iff hw).mp hc)]
  by_cases h2 : w % 2 = 1
  · rw [if_pos h2, if_pos ((item31 w).mpr h2)]
  · rw [if_neg h2, if_neg (fun h => h2 ((item31 w).mp h))]
theorem few_no {w : Nat} (hw : w < 4294967296) (h : ¬ (RL w).count 49 < 2) (hc : ¬ condL (RL w) w) : fewS (rowS (w : Int) 32) = 0 := by
  unfold fewS
  rw [if_neg (by rw [cnt_row]; omega), if_neg (fun h => hc ((cond_iff hw).mpr h))]
/-- the best of a list is in it -/
theorem fold_in : ∀ (l : List Dat) (b : Dat), l.foldl stepD b = b ∨ l.foldl stepD b ∈ l
  | [], b => .inl rfl
  | d :: r, b => by
    rw [List.foldl_cons]
    have hs : stepD b d = b ∨ stepD b d = d := by
      unfold stepD
      split
      · exact .inr rfl
      · split
        · exact .inr rfl
        · exact .inl rfl
    rcases fold_in r (stepD b d) with h | h
    · rcases hs with e | e
      · exact .inl (by rw [h, e])
      · exact .inr (by rw [h, e]; exact .head _)
    · exact .inr (.tail _ h)
theorem bestD_in (l : List Dat) (h : bestD l ≠ Dat.none) : bestD l ∈ l := (fold_in l Dat.none).resolve_left h
theorem bestD_nil {l : List Dat} (hl : ∀ d ∈ l, d ≠ Dat.none) (h : bestD l = Dat.none) : l = [] := by
  cases l with
  | nil => rfl
  | cons d r =>
    have e : bestD (d :: r) = r.foldl stepD d := rfl
    rw [e] at h
    rcases fold_in r d with h1 | h1
    · exact absurd (h1.symm.trans h) (hl d (.head _))
    · exact absurd h (hl _ (.tail _ h1))
theorem ks_mem {n i : Nat} (h : i < n) : (i : Int) ∈ rangeKs 0 n := by
  unfold rangeKs
  exact List.mem_map.mpr ⟨i, List.mem_range.mpr h, by omega⟩
theorem ks_of {n : Nat} {k : Int} (h : k ∈ rangeKs 0 n) : ∃ i : Nat, i < n ∧ k = i := by
  unfold rangeKs at h
  obtain ⟨i, hi, e⟩ := List.mem_map.mp h
  exact ⟨i, List.mem_range.mp hi, by omega⟩
theorem pw (i : Nat) : (1 : Int) * 2 ^ (i : Int).toNat = ((2 ^ i : Nat) : Int) := by
  rw [Int.one_mul, Int.toNat_natCast, cast_pow]
theorem word_of (n : Int) : ∃ w : Nat, w < 4294967296 ∧ n.fmod 4294967296 = w ∧ ∃ z : Int, n = w + z * 4294967296 := by
  refine ⟨(n.fmod 4294967296).toNat, ?_, ?_, n / 4294967296, ?_⟩ <;> rw [fm] <;> omega
/-- a member of the forms -/
theorem term_of {n : Int} {w : Nat} {z : Int} (hw : w < 4294967296) (hn : n = w + z * 4294967296) (h0 : w ≠ 0) {d : Dat} (hd : d ∈ termsD n) :
    ∃ a b : Nat, ∃ s : Int, d = T3 a s b ∧ b < 32 ∧ ((s = 1 ∧ b < a ∧ a < 32 ∧ w = 2 ^ a + 2 ^ b) ∨ (s = -1 ∧ b < a ∧ a ≤ 32 ∧ w + 2 ^ b = 2 ^ a) ∨ (s = -1 ∧ a < b ∧ w + 2 ^ b = 4294967296 + 2 ^ a)) := by
  unfold termsD at hd
  rcases List.mem_append.mp hd with hd | hd
  · obtain ⟨k, hk, e⟩ := List.mem_filterMap.mp hd
    obtain ⟨i, hi, rfl⟩ := ks_of hk
    unfold fA at e
    rw [pw, fm] at e
    split at e
    · rename_i hc
      rcases pidx_cases ((n - ((2 ^ i : Nat) : Int)) % 4294967296) with ⟨p, hp, e1, e2⟩ | ⟨_, e2⟩
      · rw [e2] at e hc
        refine ⟨i, p, 1, (Option.some.inj e).symm, hp, .inl ⟨rfl, by omega, hi, ?_⟩⟩
        rw [← cast_pow] at e1
        have h1 := pow_le31 (a := i) (by omega)
        have h2 := pow_lt' (a := p) (b := i) (by omega)
        have h3 := pow_pos' p
        generalize 2 ^ i = P at *
        generalize 2 ^ p = R at *
        omega
      · rw [e2] at hc; omega
    · cases e
  · obtain ⟨k, hk, e⟩ := List.mem_filterMap.mp hd
    obtain ⟨i, hi, rfl⟩ := ks_of hk
    unfold fB at e
    rw [pw, fm] at e
    split at e
    · rename_i hc
      rcases pidx_cases ((((2 ^ i : Nat) : Int) - n) % 4294967296) with ⟨p, hp, e1, e2⟩ | ⟨_, e2⟩
      · rw [e2] at e
        refine ⟨i, p, -1, (Option.some.inj e).symm, hp, .inr ?_⟩
        rw [← cast_pow] at e1
        have h1 := pow_le32 (a := i) (by omega)
        have h4 := pow_le31 (a := p) (by omega)
        have h3 := pow_pos' p
        have h5 := pow_pos' i
        rcases Nat.lt_trichotomy p i with hlt | rfl | hlt
        · have h2 := pow_lt' hlt
          refine .inl ⟨rfl, hlt, by omega, ?_⟩
          generalize 2 ^ i = P at *
          generalize 2 ^ p = R at *
          omega
        · generalize 2 ^ p = R at *
          omega
        · have h2 := pow_lt' hlt
          refine .inr ⟨rfl, hlt, ?_⟩
          generalize 2 ^ i = P at *
          generalize 2 ^ p = R at *
          omega
      · rw [e2] at hc; omega
    · cases e
theorem term_of_form {n : Int} {w : Nat} {z : Int} (hn : n = w + z * 4294967296) (hf : FormW w) : termsD n ≠ [] := by
  intro ht
  unfold termsD at ht
  obtain ⟨hA, hB⟩ := List.append_eq_nil_iff.mp ht
  have hA' : ∀ i : Nat, i < 32 → fA n i = none := fun i hi => List.filterMap_eq_nil_iff.mp hA _ (ks_mem hi)
  have hB' : ∀ i : Nat, i < 33 → fB n i = none := fun i hi => List.filterMap_eq_nil_iff.mp hB _ (ks_mem hi)
  rcases hf with ⟨a, b, hb, ha, e⟩ | ⟨a, b, hb, ha, e⟩ | ⟨a, b, hab, hb, e⟩
  · have h := hA' a ha
    have e1 : (n - ((2 ^ a : Nat) : Int)) % 4294967296 = (2 : Int) ^ b := by
      rw [← cast_pow]
      have h1 := pow_le31 (a := b) (by omega)
      generalize 2 ^ a = P at *
      generalize 2 ^ b = R at *
      omega
    unfold fA at h
    rw [pw, fm, e1, pidx_pow (by omega), if_pos ⟨by omega, by omega⟩] at h
    cases h
  · have h := hB' a (by omega)
    have e1 : (((2 ^ a : Nat) : Int) - n) % 4294967296 = (2 : Int) ^ b := by
      rw [← cast_pow]
      have h1 := pow_le31 (a := b) (by omega)
      generalize 2 ^ a = P at *
      generalize 2 ^ b = R at *
      omega
    unfold fB at h
    rw [pw, fm, e1, pidx_pow (by omega), if_pos (by omega)] at h
    cases h
  · have h := hB' a (by omega)
    have e1 : (((2 ^ a : Nat) : Int) - n) % 4294967296 = (2 : Int) ^ b := by
      rw [← cast_pow]
      have h1 := pow_le31 (a := b) (by omega)
      generalize 2 ^ a = P at *
      generalize 2 ^ b = R at *
      omega
    unfold fB at h
    rw [pw, fm, e1, pidx_pow (by omega), if_pos (by omega)] at h
    cases h
/-- no power: two ones or more -/
theorem two_ones {w : Nat} (hw : w < 4294967296) (h0 : w ≠ 0) (h1 : ∀ j, j < 32 → w ≠ 2 ^ j) : ¬ (RL w).count 49 < 2 := by
  intro h
  have hv := RL_rv hw
  rcases Nat.lt_or_ge ((RL w).count 49) 1 with h2 | h2
  · exact h0 (hv ▸ ones0 (RL_B w) (by omega))
  · obtain ⟨j, hj, e⟩ := ones1 (RL_B w) (show (RL w).count 49 = 1 by omega)
    rw [RL_len] at hj
    exact h1 j hj (by rw [← hv, e])
theorem least_split (n : Int) {w : Nat} (hw : n.fmod 4294967296 = w) : (w = 0 ∧ leastD n = T3 32 0 0) ∨ (∃ k : Nat, k < 32 ∧ w = 2 ^ k ∧ leastD n = T3 k 0 0) ∨ (w ≠ 0 ∧ (∀ j, j < 32 → w ≠ 2 ^ j) ∧ leastD n = bestD (termsD n)) := by
  unfold leastD
  rw [hw]
  by_cases h0 : (w : Int) = 0
  · exact .inl ⟨by omega, if_pos h0⟩
  · rw [if_neg h0]
    rcases pidx_cases (w : Int) with ⟨p, hp, e1, e2⟩ | ⟨h, e2⟩
    · refine .inr (.inl ⟨p, hp, ?_, ?_⟩)
      · rw [← cast_pow] at e1; omega
      · rw [e2, if_pos (by omega)]
    · refine .inr (.inr ⟨by omega, fun j hj e => h j hj ?_, ?_⟩)
      · rw [← cast_pow, e]
      · rw [e2, if_neg (by omega)]
theorem law_none {n : Int} (h : leastD n = Dat.none) : fewS (rowS (n.fmod (2 ^ Int.toNat 32)) 32) = 0 := by
  rw [m32]
  obtain ⟨w, hw, e, z, hn⟩ := word_of n
  rw [e]
  rcases least_split n e with ⟨_, hl⟩ | ⟨k, _, _, hl⟩ | ⟨h0, h1, hl⟩
  · rw [hl] at h; cases h
  · rw [hl] at h; cases h
  · rw [hl] at h
    refine few_no hw (two_ones hw h0 h1) fun hc => ?_
    refine term_of_form hn (form_cond hw h0 h1 hc) (bestD_nil (fun d hd e => ?_) h)
    obtain ⟨a, s, b, e'⟩ := termsD_shape n d hd
    rw [e] at e'; cases e'
theorem odd_pow (a : Nat) : 2 ^ a % 2 = if 0 < a then 0 else 1 := by
  cases a with
  | zero => rfl
  | succ a => rw [Nat.pow_succ, if_pos (by omega)]; omega
theorem law_some {n a s b : Int} (h : leastD n = T3 a s b) : 0 ≤ a ∧ a ≤ 32 ∧ 0 ≤ b ∧ b ≤ 31 ∧ (s = 0 ∨ s = 1 ∨ s = -1) ∧ CM n a s b ∧ fewS (rowS (n.fmod (2 ^ Int.toNat 32)) 32) = cost3 a s b := by
  rw [m32]
  obtain ⟨w, hw, e, z, hn⟩ := word_of n
  rw [e]
  rcases least_split n e with ⟨h0, hl⟩ | ⟨k, hk, hkw, hl⟩ | ⟨h0, h1, hl⟩
  · rw [hl] at h
    cases h
    subst h0
    refine ⟨by decide, by decide, by decide, by decide, .inl rfl, ⟨z - 1, ?_⟩, ?_⟩
    · rw [hn, m32]; omega
    · rw [few_one (by rw [zero_row]; decide)]; rfl
  · rw [hl] at h
    cases h
    refine ⟨by omega, by omega, by decide, by decide, .inl rfl, ⟨z, ?_⟩, ?_⟩
    · rw [hn, hkw, Int.toNat_natCast, cast_pow]; omega
    · rw [few_one (by rw [single hw hk hkw]; decide)]; rfl
  · rw [hl] at h
    have hm := bestD_in (termsD n) (by rw [h]; intro h; cases h)
    rw [h] at hm
    obtain ⟨a', b', s', ed, hb, hc⟩ := term_of hw hn h0 hm
    cases ed
    have hf : FormW w := by
      rcases hc with ⟨_, h2, h3, h4⟩ | ⟨_, h2, h3, h4⟩ | ⟨_, h2, h4⟩
      · exact .inl ⟨a', b', h2, h3, h4⟩
      · exact .inr (.inl ⟨a', b', h2, h3, h4⟩)
      · exact .inr (.inr ⟨a', b', h2, hb, h4⟩)
    have hfew := few_yes hw (two_ones hw h0 h1) (cond_form hw hf)
    refine ⟨by omega, by omega, by omega, by omega, by omega, ?_, ?_⟩
    · rcases hc with ⟨rfl, h2, h3, h4⟩ | ⟨rfl, h2, h3, h4⟩ | ⟨rfl, h2, h4⟩
      · exact ⟨z, by rw [hn, h4, Int.toNat_natCast, Int.toNat_natCast, ← cast_pow, ← cast_pow]; omega⟩
      · exact ⟨z, by rw [hn, Int.toNat_natCast, Int.toNat_natCast, ← cast_pow, ← cast_pow, ← h4]; omega⟩
      · exact ⟨z + 1, by rw [hn, Int.toNat_natCast, Int.toNat_natCast, ← cast_pow, ← cast_pow]; omega⟩
    · rw [hfew]
      have ha2 := odd_pow a'
      have hb2 := odd_pow b'
      unfold cost3
      rw [if_neg (show ¬ s = 0 by omega)]
      generalize 2 ^ a' = P at *
      generalize 2 ^ b' = R at *
      rcases hc with ⟨rfl, h2, h3, h4⟩ | ⟨rfl, h2, h3, h4⟩ | ⟨rfl, h2, h4⟩
      · rw [if_pos (by omega)] at ha2
        rw [if_pos (show (a' : Int) > 0 by omega)]
        by_cases hz : 0 < b'
        · rw [if_pos hz] at hb2
          rw [if_pos (show (b' : Int) > 0 by omega), if_neg (by omega)]; rfl
        · rw [if_neg hz] at hb2
          rw [if_neg (show ¬ (b' : Int) > 0 by omega), if_pos (by omega)]; rfl
      · rw [if_pos (by omega)] at ha2
        rw [if_pos (show (a' : Int) > 0 by omega)]
        by_cases hz : 0 < b'
        · rw [if_pos hz] at hb2
          rw [if_pos (show (b' : Int) > 0 by omega), if_neg (by omega)]; rfl
        · rw [if_neg hz] at hb2
          rw [if_neg (show ¬ (b' : Int) > 0 by omega), if_pos (by omega)]; rfl
      · rw [if_pos (by omega)] at hb2
        rw [if_pos (show (b' : Int) > 0 by omega)]
        by_cases hz : 0 < a'
        · rw [if_pos hz] at ha2
          rw [if_pos (show (a' : Int) > 0 by omega), if_neg (by omega)]; rfl
        · rw [if_neg hz] at ha2
          rw [if_neg (show ¬ (a' : Int) > 0 by omega), if_pos (by omega)]; rfl
end Mine
namespace Mine
open PySem PySem.W PyProof.Rows PySem.Spec PySem.Calls
theorem RowsAt.count {L : List (Addr × Obj)} {a s b : Int} {q : Addr} {k : Nat} (h : RowsAt L a s b q k) (ha : 0 ≤ a) (hb : 0 ≤ b) : (k : Int) = cost3 a s b := by
  unfold cost3
  cases h <;> (repeat' split) <;> omega
theorem RowsAt.list {L : List (Addr × Obj)} {a s b : Int} {q : Addr} {k : Nat} (h : RowsAt L a s b q k) : ∃ (us : List Value) (n : Nat), (q, W.listOf us.toArray n) ∈ L ∧ us.length = k := by
  cases h <;> exact ⟨_, _, by assumption, rfl⟩
theorem RowsAt.mono {L L' : List (Addr × Obj)} {a s b : Int} {q : Addr} {k : Nat} (h : RowsAt L a s b q k) (sub : ∀ p ∈ L, p ∈ L') : RowsAt L' a s b q k := by
  cases h with
  | movi ha hs hq h0 => exact .movi ha hs (sub _ hq) (sub _ h0)
  | lsli ha hs hq h0 => exact .lsli ha hs (sub _ hq) (sub _ h0)
  | Mza ha hb hs hq h0 h1 => exact .Mza ha hb hs (sub _ hq) (sub _ h0) (sub _ h1)
  | Mzs ha hb hs hs0 hq h0 h1 => exact .Mzs ha hb hs hs0 (sub _ hq) (sub _ h0) (sub _ h1)
  | Mla ha hb hs hq h0 h1 h2 => exact .Mla ha hb hs (sub _ hq) (sub _ h0) (sub _ h1) (sub _ h2)
  | Mls ha hb hs hs0 hq h0 h1 h2 => exact .Mls ha hb hs hs0 (sub _ hq) (sub _ h0) (sub _ h1) (sub _ h2)
  | Zza ha hb hs hq h0 => exact .Zza ha hb hs (sub _ hq) (sub _ h0)
  | Zzs ha hb hs hs0 hq h0 => exact .Zzs ha hb hs hs0 (sub _ hq) (sub _ h0)
  | Zla ha hb hs hq h0 h1 => exact .Zla ha hb hs (sub _ hq) (sub _ h0) (sub _ h1)
  | Zls ha hb hs hs0 hq h0 h1 => exact .Zls ha hb hs hs0 (sub _ hq) (sub _ h0) (sub _ h1)
  | Lza ha ha0 hb hs hq h0 h1 => exact .Lza ha ha0 hb hs (sub _ hq) (sub _ h0) (sub _ h1)
  | Lzs ha ha0 hb hs hs0 hq h0 h1 => exact .Lzs ha ha0 hb hs hs0 (sub _ hq) (sub _ h0) (sub _ h1)
  | Lla ha ha0 hb hs hq h0 h1 h2 => exact .Lla ha ha0 hb hs (sub _ hq) (sub _ h0) (sub _ h1) (sub _ h2)
  | Lls ha ha0 hb hs hs0 hq h0 h1 h2 => exact .Lls ha ha0 hb hs hs0 (sub _ hq) (sub _ h0) (sub _ h1) (sub _ h2)
theorem move3 {h₀ h : Heap} {L : Addr} {own r : List (Addr × Obj)} {a b c : Addr × Obj} (N : News h₀ L h (own ++ a :: b :: c :: r)) : News h₀ L h (a :: b :: c :: (own ++ r)) := by
  intro p hp
  refine N p ?_
  simp only [List.mem_cons, List.mem_append] at hp ⊢
  rcases hp with h | h | h | h | h
  · exact .inr (.inl h)
  · exact .inr (.inr (.inl h))
  · exact .inr (.inr (.inr (.inl h)))
  · exact .inl h
  · exact .inr (.inr (.inr (.inr h)))
theorem off3 {own r : List (Addr × Obj)} {a b c : Addr × Obj} (h : ∀ e ∈ own, ∀ x ∈ (a :: b :: c :: r).map (·.1), x ≠ e.1) (hr : OwnOff r [a.1, b.1, c.1]) : OwnOff (own ++ r) [a.1, b.1, c.1] := by
  intro p hp x hx
  rcases List.mem_append.mp hp with hp | hp
  · have h1 := h p hp x (by
      simp only [List.map_cons, List.mem_cons, List.not_mem_nil, or_false] at hx ⊢
      rcases hx with h | h | h
      · exact .inl h
      · exact .inr (.inl h)
      · exact .inr (.inr (.inl h)))
    exact fun e => h1 e.symm
  · exact hr p hp x hx
abbrev lpS := Int × Int × Nat × Nat
def lpLed (p c f : Addr) (vs fs : List Value) (nn : Nat) (s : lpS) : List (Addr × Obj) := [(p, poolO c s.1 s.2.1 s.2.2.1 s.2.2.2), (c, W.listOf vs.toArray 0), (f, W.listOf fs.toArray nn)]
def lpI (pre : List Int) (s : lpS) : Prop := 0 ≤ s.1 ∧ s.1 ≤ 100 + 2 * (pre.length : Int) ∧ 0 ≤ s.2.1
theorem lpI_same {pre : List Int} {n spot d : Int} {t1 t2 : Nat} (h0 : 0 ≤ spot) (h1 : spot ≤ 100 + 2 * (pre.length : Int)) (hd : 0 ≤ d) : lpI (pre ++ [n]) (spot, d, t1, t2) := by
  refine ⟨h0, ?_, hd⟩
  simp only [List.length_append, List.length_cons, List.length_nil]
  omega
theorem lpI_wide {pre : List Int} {n spot d spot' : Int} {t1 t2 : Nat} (h1 : spot ≤ 100 + 2 * (pre.length : Int)) (h0 : 0 ≤ spot') (h2 : spot' ≤ spot + 2) (hd : 0 ≤ d) : lpI (pre ++ [n]) (spot', d, t1, t2) := by
  refine ⟨h0, ?_, hd⟩
  simp only [List.length_append, List.length_cons, List.length_nil]
  omega
section
variable {prog : Program} {w : World} {A : Around} {E : Value → Shared → Prop} {s : Shared} {env : Env} {h₀ : Heap} {x : Str} {body : List Stmt} {Q : Flow → Shared → Prop}
/-- the law's second loop: the pool turns, all else that it makes is dropped -/
theorem loop_rule {m₀ : Str → Option Value} {news : List (Addr × Obj)} {p c f : Addr} {vs fs : List Value} {ms : List Int} {nn : Nat} {fo : Obj} {spot d : Int} {t1 t2 : Nat} (stored : List Str)
    (hh : A.handled = none) (F : Fr h₀ env.locals s.heap m₀) (N : News h₀ env.locals s.heap news)
    (hp : (p, poolO c spot d t1 t2) ∈ news) (hc : (c, W.listOf vs.toArray 0) ∈ news) (hf : (f, fo) ∈ news) (hfo : fo = W.listOf fs.toArray nn) (hi : IntsAre fs ms)
    (hs0 : 0 ≤ spot) (hs1 : spot ≤ 100) (hd : 0 ≤ d) (hlen : ms.length ≤ 20) (hB : ∀ n ∈ ms, -17179869184 ≤ n ∧ n ≤ 17179869184)
    (turn : ∀ (spot d : Int) (t1 t2 : Nat) pre n t (u : Str → Option Value) h tk own, -17179869184 ≤ n → n ≤ 17179869184 → 0 ≤ spot → spot ≤ 100 + 2 * (pre.length : Int) → spot ≤ 150 → 0 ≤ d → OwnOff own [p, c, f] →
      Fr h₀ env.locals h (fun y => if y = x then some (.int n t) else if stored.contains y then u y else m₀ y) → News h₀ env.locals h ((p, poolO c spot d t1 t2) :: (c, W.listOf vs.toArray 0) :: (f, W.listOf fs.toArray nn) :: own) →
      wpAny (model prog w) A (execs body env) (InvPostN h₀ env.locals (KstS (lpLed p c f vs fs nn) (fun _ => []) (fun _ => True) x stored m₀ lpI (pre ++ [n])) own [p, c, f] { s with heap := h, toks := tk } Q) E { s with heap := h, toks := tk })
    (done : ∀ (u : Str → Option Value) h tk, Fr h₀ env.locals h (fun y => if y = x then u y else if stored.contains y then u y else m₀ y) → News h₀ env.locals h [(c, W.listOf vs.toArray 0)] → Q .next { s with heap := h, toks := tk }) :
    wpAny (model prog w) A (pyIter (.ref f)) (fun it s₂ => LoopAtV prog w A h₀ env x body Q E it s₂) E s := by
  subst hfo
  refine kst_listL (l := f) (vs := fs) (ns := ms) (nn := nn) (lpLed p c f vs fs nn) (fun _ => []) (fun _ => True) stored lpI (spot, d, t1, t2) hh (fun s => .tail _ (.tail _ (.head _))) hi F ?_ trivial (fun _ h => nomatch h) ⟨hs0, by simpa using hs1, hd⟩ ?_ ?_
  · intro q hq
    rcases List.mem_cons.mp hq with rfl | hq
    · exact N _ hp
    · rcases List.mem_cons.mp hq with rfl | hq
      · exact N _ hc
      · rw [List.mem_singleton.mp hq]; exact N _ hf
  · rintro ⟨spot, d, t1, t2⟩ pre post n t u h tk own e hn hoff _ ⟨h1, h2, h3⟩ F₁ N₁
    have hl : pre.length < 20 := by
      have := congrArg List.length e
      simp only [List.length_append, List.length_cons] at this
      omega
    exact turn spot d t1 t2 pre n t u h tk own (hB n hn).1 (hB n hn).2 h1 h2 (by simp only at h2; omega) h3 hoff F₁ N₁
  · rintro ⟨spot, d, t1, t2⟩ u h tk _ _ F₁ N₁
    exact done u h tk F₁ (fun q hq => N₁ q (by rw [List.mem_singleton.mp hq]; exact .tail _ (.head _)))
end
theorem unr_gen {h₀ : Heap} {L I : Addr} {o : Obj} {s₁ : Shared} {rest : (Str → Option Value) → List (Addr × Obj) → Prop} {h' : Heap} {tk : Nat} {m' : Str → Option Value} {news all : List (Addr × Obj)}
    (F : Fr h₀ L h' m') (off : ∀ p ∈ news, p.1 < I) (N : News h₀ L h' all) (hs : ∀ p ∈ (I, o) :: news, p ∈ all) (r : rest m' news) : UnrEndW h₀ L s₁ [(I, o)] rest { s₁ with heap := h', toks := tk } :=
  unr_one F (fun p hp => N p (hs p hp)) off r
theorem pow_bnd {v : Int} {k : Nat} (hv0 : 0 ≤ v) (hv : v < (k : Int)) (hk : k ≤ 33) : 0 < (2 : Int) ^ v.toNat ∧ (2 : Int) ^ v.toNat ≤ 4294967296 := by
  refine ⟨Int.pow_pos (by decide), ?_⟩
  have h : v.toNat ≤ 32 := by omega
  have h2 : 2 ^ v.toNat ≤ 2 ^ 32 := Nat.pow_le_pow_right (by decide) h
  rw [← cast_pow]
  exact Int.ofNat_le.mpr h2
theorem menu_bnd {v w x i : Int} (hv0 : 0 ≤ v) (hv : v < 33) (hw0 : 0 ≤ w) (hw : w < 32) (hx0 : 0 ≤ x) (hx : x < 4294967296) :
    -17179869184 ≤ [(2 : Int) ^ v.toNat + 2 ^ w.toNat, 2 ^ v.toNat - 2 ^ w.toNat, 2 ^ w.toNat - 2 ^ v.toNat, x].getD i.toNat 0 ∧ [(2 : Int) ^ v.toNat + 2 ^ w.toNat, 2 ^ v.toNat - 2 ^ w.toNat, 2 ^ w.toNat - 2 ^ v.toNat, x].getD i.toNat 0 ≤ 17179869184 := by
  obtain ⟨a1, a2⟩ := pow_bnd (k := 33) hv0 hv (by decide)
  obtain ⟨b1, b2⟩ := pow_bnd (k := 32) hw0 hw (by decide)
  generalize (2 : Int) ^ v.toNat = p at *
  generalize (2 : Int) ^ w.toNat = q at *
  match i.toNat with
  | 0 => simp only [List.getD_cons_zero]; omega
  | 1 => simp only [List.getD_cons_zero, List.getD_cons_succ]; omega
  | 2 => simp only [List.getD_cons_zero, List.getD_cons_succ]; omega
  | 3 => simp only [List.getD_cons_zero, List.getD_cons_succ]; omega
  | n + 4 => simp only [List.getD_cons_succ, List.getD_nil]; omega
end Mine
namespace Mine
open PySem PySem.W PyProof.Rows PySem.Spec PySem.Calls
theorem m32b (x : Int) : x.fmod (2 ^ Int.toNat 32) < 4294967296 := by rw [m32]; exact fmod_up (by decide)
theorem RowsAt.small {L : List (Addr × Obj)} {a s b : Int} {q : Addr} {k : Nat} (h : RowsAt L a s b q k) : 1 ≤ k ∧ k ≤ 3 := by
  cases h <;> exact ⟨by decide, by decide⟩
section
variable {prog : Program} {w : World} {A : Around} {E : Value → Shared → Prop} {s : Shared} {env : Env} {h₀ : Heap} {x : Str} {body : List Stmt} {Q : Flow → Shared → Prop}
/-- the same, its frame and its list hidden behind letters -/
theorem loop_rule2 {L : Addr} {m₀ : Str → Option Value} {news : List (Addr × Obj)} {p c f : Addr} {vs fs : List Value} {ms : List Int} {nn : Nat} {fo : Obj} {spot d : Int} {t1 t2 : Nat} (stored : List Str)
    (hL : env.locals = L) (hh : A.handled = none) (F : Fr h₀ L s.heap m₀) (N : News h₀ L s.heap news)
    (hp : (p, poolO c spot d t1 t2) ∈ news) (hm : m₀ (Str.ofString "pool") = some (.ref p)) (hc : (c, W.listOf vs.toArray 0) ∈ news) (hf : (f, fo) ∈ news) (hfo : fo = W.listOf fs.toArray nn) (hi : IntsAre fs ms)
    (hs0 : 0 ≤ spot) (hs1 : spot ≤ 100) (hd : 0 ≤ d) (hlen : ms.length ≤ 20) (hB : ∀ n ∈ ms, -17179869184 ≤ n ∧ n ≤ 17179869184)
    (turn : ∀ (fs : List Value) (nn : Nat) (r : Str → Option Value) (spot d : Int) (t1 t2 : Nat) pre n t (u : Str → Option Value) h tk own, -17179869184 ≤ n → n ≤ 17179869184 → 0 ≤ spot → spot ≤ 100 + 2 * (pre.length : Int) → spot ≤ 150 → 0 ≤ d → OwnOff own [p, c, f] →
      Fr h₀ L h (fun y => if y = x then some (.int n t) else if stored.contains y then u y else if y = Str.ofString "pool" then some (.ref p) else r y) → News h₀ L h ((p, poolO c spot d t1 t2) :: (c, W.listOf vs.toArray 0) :: (f, W.listOf fs.toArray nn) :: own) →
      wpAny (model prog w) A (execs body env) (InvPostN h₀ L (KstS (lpLed p c f vs fs nn) (fun _ => []) (fun _ => True) x stored (fun y => if y = Str.ofString "pool" then some (.ref p) else r y) lpI (pre ++ [n])) own [p, c, f] { s with heap := h, toks := tk } Q) E { s with heap := h, toks := tk })
    (done : ∀ (u : Str → Option Value) h tk, Fr h₀ L h u → News h₀ L h [(c, W.listOf vs.toArray 0)] → Q .next { s with heap := h, toks := tk }) :
    wpAny (model prog w) A (pyIter (.ref f)) (fun it s₂ => LoopAtV prog w A h₀ env x body Q E it s₂) E s := by
  subst hL
  have e : (fun y => if y = Str.ofString "pool" then some (Value.ref p) else m₀ y) = m₀ := by
    funext y
    by_cases h : y = Str.ofString "pool"
    · rw [if_pos h, h, hm]
    · rw [if_neg h]
  refine loop_rule stored hh F N hp hc hf hfo hi hs0 hs1 hd hlen hB ?_ fun u h tk F₁ N₁ => done _ h tk F₁ N₁
  intro spot d t1 t2 pre n t u h tk own a1 a2 a3 a4 a5 a6 a7 F₁ N₁
  have h1 := turn fs nn m₀ spot d t1 t2 pre n t u h tk own a1 a2 a3 a4 a5 a6 a7
  have e2 : ∀ y, (if y = Str.ofString "pool" then some (Value.ref p) else m₀ y) = m₀ y := fun y => congrFun e y
  simp only [e2] at h1
  exact h1 F₁ N₁
end
theorem end_rule {p c f : Addr} {vs fs : List Value} {nn : Nat} {x : Str} {stored : List Str} {m₀ m' : Str → Option Value} {pre : List Int} {h₀ : Heap} {L : Addr} {own news' : List (Addr × Obj)} {s₁ : Shared} {h' : Heap} {tk : Nat} {spot d : Int} {t1 t2 : Nat}
    (F : Fr h₀ L h' m') (N : News h₀ L h' news') (h1 : (p, poolO c spot d t1 t2) ∈ news') (h2 : (c, W.listOf vs.toArray 0) ∈ news') (h3 : (f, W.listOf fs.toArray nn) ∈ news') (ho : ∀ p ∈ own, p ∈ news') (hp : lpI pre (spot, d, t1, t2)) (hr : ∀ z, z ≠ x → (∀ p ∈ ([] : List (Str × Value)), z ≠ p.1) → stored.contains z = false → m' z = m₀ z) :
    InvEndN h₀ L (KstS (lpLed p c f vs fs nn) (fun _ => []) (fun _ => True) x stored m₀ lpI pre) own [p, c, f] s₁ { s₁ with heap := h', toks := tk } :=
  kst_end (spot, d, t1, t2) F N (by
    intro q hq
    rcases List.mem_cons.mp hq with rfl | hq
    · exact h1
    · rcases List.mem_cons.mp hq with rfl | hq
      · exact h2
      · rw [List.mem_singleton.mp hq]; exact h3) ho rfl trivial (fun _ h => nomatch h) hr hp
theorem step_con2 (w : World) (mean : ExcName → Option Value) (mg mb : Str → Option Value) {news news' : List (Addr × Obj)} {c a9 s9 b9 x : Int} {q : Addr} {k : Nat} {t : Tok}
   (hR : RowsAt news' a9 s9 b9 q k) (sub : ∀ p ∈ news', p ∈ news) (hM : CM c a9 s9 b9) (hx0 : 0 ≤ x) (hx1 : x < 4294967296) (ha0 : 0 ≤ a9) (ha1 : a9 ≤ 32) (hb0 : 0 ≤ b9) (hb1 : b9 ≤ 31) (hg : s9 = 0 ∨ s9 = 1 ∨ s9 = -1) :
   Con w mean mg mb 84 1 news [.ref q, .int x t] (fun news' r => ∃ (z : Addr) (t1 t2 : Tok) (n : Nat), r = .ref z ∧ news' = (z, tup2 ((x * c).fmod (2 ^ Int.toNat 32)) x t1 t2 n) :: news) :=
  step_con w mean mg mb news c a9 s9 b9 x q k t hx0 hx1 ha0 ha1 hb0 hb1 hg hM (hR.mono sub)
abbrev lqS := Int × Int × Nat × Nat × List Value × Nat
def okL (fs : List Value) (k : Nat) : Prop := fs.length = 5 + k ∧ ∃ ms, IntsAre fs ms ∧ ∀ n ∈ ms, -17179869184 ≤ n ∧ n ≤ 17179869184
theorem ints_snoc {vs : List Value} {ns : List Int} (h : IntsAre vs ns) (n : Int) (t : Tok) : IntsAre (vs ++ [.int n t]) (ns ++ [n]) := by
  induction h with
  | nil => exact .cons _ _ .nil
  | cons m u _ ih => exact .cons m u ih
theorem okL.snoc {fs : List Value} {k : Nat} (h : okL fs k) {v : Int} {t : Tok} (h1 : -17179869184 ≤ v ∧ v ≤ 17179869184) : okL (fs ++ [.int v t]) (k + 1) := by
  obtain ⟨hl, ms, hi, hB⟩ := h
  refine ⟨by rw [List.length_append, hl]; rfl, ms ++ [v], ints_snoc hi v t, fun n hn => ?_⟩
  rcases List.mem_append.mp hn with hn | hn
  · exact hB n hn
  · rw [List.mem_singleton.mp hn]; exact h1
def lqLed (p c f : Addr) (vs : List Value) (s : lqS) : List (Addr × Obj) := [(p, poolO c s.1 s.2.1 s.2.2.1 s.2.2.2.1), (c, W.listOf vs.toArray 0), (f, W.listOf s.2.2.2.2.1.toArray s.2.2.2.2.2)]
def lqI (pre : List Int) (s : lqS) : Prop := 0 ≤ s.1 ∧ s.1 ≤ 5 * (pre.length : Int) ∧ 0 ≤ s.2.1 ∧ okL s.2.2.2.2.1 pre.length
section
variable {prog : Program} {w : World} {A : Around} {E : Value → Shared → Prop} {s : Shared} {env : Env} {h₀ : Heap} {x : Str} {body : List Stmt} {Q : Flow → Shared → Prop}
/-- the law's first loop: the pool turns, the list grows, all else that it makes is dropped -/
theorem loop_rule1 {L : Addr} {m₀ : Str → Option Value} {news : List (Addr × Obj)} {p c f r : Addr} {vs : List Value} {nn : Nat} {t1 t2 : Nat} {t₀ u₀ v₀ a1 a2 a3 a4 a5 : Tok} (stored : List Str)
    (hr : IsRange s.heap r 0 4 1 t₀ u₀ v₀) (hL : env.locals = L) (hh : A.handled = none) (F : Fr h₀ L s.heap m₀) (N : News h₀ L s.heap news)
    (hp : (p, poolO c 0 0 t1 t2) ∈ news) (hc : (c, W.listOf vs.toArray 0) ∈ news) (hf : (f, W.listOf #[.int 3 a1, .int 7 a2, .int (-3) a3, .int 0 a4, .int (-1) a5] nn) ∈ news)
    (hm : m₀ (Str.ofString "pool") = some (.ref p)) (hm2 : m₀ (Str.ofString "factors_of") = some (.ref f))
    (hx : x ≠ Str.ofString "pool" ∧ x ≠ Str.ofString "factors_of" ∧ stored.contains (Str.ofString "pool") = false ∧ stored.contains (Str.ofString "factors_of") = false)
    (turn : ∀ (fs : List Value) (nn : Nat) (r : Str → Option Value) (spot d : Int) (t1 t2 : Nat) pre n t (u : Str → Option Value) h tk own, okL fs pre.length → fs.length ≤ 9 → 0 ≤ spot → spot ≤ 5 * (pre.length : Int) → spot ≤ 20 → 0 ≤ d → OwnOff own [p, c, f] →
      Fr h₀ L h (fun y => if y = x then some (.int n t) else if stored.contains y then u y else if y = Str.ofString "pool" then some (.ref p) else if y = Str.ofString "factors_of" then some (.ref f) else r y) → News h₀ L h ((p, poolO c spot d t1 t2) :: (c, W.listOf vs.toArray 0) :: (f, W.listOf fs.toArray nn) :: own) →
      wpAny (model prog w) A (execs body env) (InvPostN h₀ L (KstS (lqLed p c f vs) (fun _ => []) (fun _ => True) x stored (fun y => if y = Str.ofString "pool" then some (.ref p) else if y = Str.ofString "factors_of" then some (.ref f) else r y) lqI (pre ++ [n])) own [p, c, f] { s with heap := h, toks := tk } Q) E { s with heap := h, toks := tk })
    (done : ∀ (fs : List Value) (ms : List Int) (nn : Nat) (r : Str → Option Value) (spot d : Int) (t1 t2 : Nat) h tk, IntsAre fs ms → ms.length ≤ 20 → (∀ n ∈ ms, -17179869184 ≤ n ∧ n ≤ 17179869184) → 0 ≤ spot → spot ≤ 100 → 0 ≤ d →
      Fr h₀ L h (fun y => if y = Str.ofString "pool" then some (.ref p) else if y = Str.ofString "factors_of" then some (.ref f) else r y) → News h₀ L h [(p, poolO c spot d t1 t2), (c, W.listOf vs.toArray 0), (f, W.listOf fs.toArray nn)] → Q .next { s with heap := h, toks := tk }) :
    wpAny (model prog w) A (pyIter (.ref r)) (fun it s₂ => LoopAtV prog w A h₀ env x body Q E it s₂) E s := by
  subst hL
  have e : ∀ (g : Str → Option Value), g (Str.ofString "pool") = some (.ref p) → g (Str.ofString "factors_of") = some (.ref f) → (fun y => if y = Str.ofString "pool" then some (Value.ref p) else if y = Str.ofString "factors_of" then some (Value.ref f) else g y) = g := by
    intro g h1 h2
    funext y
    by_cases h : y = Str.ofString "pool"
    · rw [if_pos h, h, h1]
    · rw [if_neg h]
      by_cases h : y = Str.ofString "factors_of"
      · rw [if_pos h, h, h2]
      · rw [if_neg h]
  refine kst_range (r := r) (a₀ := 0) (b₀ := 4) (n := 4) (lqLed p c f vs) (fun _ => []) (fun _ => True) stored lqI (0, 0, t1, t2, [.int 3 a1, .int 7 a2, .int (-3) a3, .int 0 a4, .int (-1) a5], nn) hh hr (by decide) (by decide) F ?_ trivial (fun _ h => nomatch h) ⟨Int.le_refl 0, Int.le_refl 0, Int.le_refl 0, rfl, [3, 7, -3, 0, -1], .cons _ _ (.cons _ _ (.cons _ _ (.cons _ _ (.cons _ _ .nil)))), by decide⟩ ?_ ?_
  · intro q hq
    rcases List.mem_cons.mp hq with rfl | hq
    · exact N _ hp
    · rcases List.mem_cons.mp hq with rfl | hq
      · exact N _ hc
      · rw [List.mem_singleton.mp hq]; exact N _ hf
  · rintro ⟨spot, d, t1, t2, fs, nn⟩ pre n t u h tk own _ hpre hoff _ ⟨h1, h2, h3, h4⟩ F₁ N₁
    have hl := h4.1
    have e2 := e m₀ hm hm2
    have g := turn fs nn m₀ spot d t1 t2 pre n t u h tk own h4 (by simp only at hl; omega) h1 h2 (by simp only at h2; omega) h3 hoff
    have e3 : ∀ y, (if y = Str.ofString "pool" then some (Value.ref p) else if y = Str.ofString "factors_of" then some (Value.ref f) else m₀ y) = m₀ y := fun y => congrFun e2 y
    simp only [e3] at g
    exact g F₁ N₁
  · rintro ⟨spot, d, t1, t2, fs, nn⟩ u h tk _ ⟨h1, h2, h3, h4, ms, hi, hB⟩ F₁ N₁
    obtain ⟨x1, x2, x3, x4⟩ := hx
    have hl : ms.length = fs.length := hi.length.symm
    have h2' : spot ≤ 5 * (((rangeKs 0 4).length : Nat) : Int) := h2
    rw [rangeKs_length] at h2'
    have h4' : fs.length = 5 + (rangeKs 0 4).length := h4
    rw [rangeKs_length] at h4'
    refine done fs ms nn (fun y => if y = x then u y else if stored.contains y then u y else m₀ y) spot d t1 t2 h tk hi (by omega) hB h1 (by omega) h3 ?_ N₁
    rw [e _ (by rw [if_neg (Ne.symm x1), x3]; exact hm) (by rw [if_neg (Ne.symm x2), x4]; exact hm2)]
    exact F₁
end
theorem end_rule1 {p c f : Addr} {vs fs : List Value} {nn : Nat} {x : Str} {stored : List Str} {m₀ m' : Str → Option Value} {pre : List Int} {k : Int} {h₀ : Heap} {L : Addr} {own news' : List (Addr × Obj)} {s₁ : Shared} {h' : Heap} {tk : Nat} {spot d v : Int} {t1 t2 : Nat} {t : Tok}
    (F : Fr h₀ L h' m') (N : News h₀ L h' news') (h1 : (p, poolO c spot d t1 t2) ∈ news') (h2 : (c, W.listOf vs.toArray 0) ∈ news') (h3 : (f, W.listOf (fs.toArray.push (.int v t)) nn) ∈ news') (ho : ∀ p ∈ own, p ∈ news') (hok : okL fs pre.length) (hv : -17179869184 ≤ v ∧ v ≤ 17179869184)
    (hs0 : 0 ≤ spot) (hs1 : spot ≤ 5 * ((pre.length : Int) + 1)) (hd : 0 ≤ d) (hr : ∀ z, z ≠ x → (∀ p ∈ ([] : List (Str × Value)), z ≠ p.1) → stored.contains z = false → m' z = m₀ z) :
    InvEndN h₀ L (KstS (lqLed p c f vs) (fun _ => []) (fun _ => True) x stored m₀ lqI (pre ++ [k])) own [p, c, f] s₁ { s₁ with heap := h', toks := tk } := by
  rw [List.push_toArray] at h3
  refine kst_end (spot, d, t1, t2, fs ++ [.int v t], nn) F N ?_ ho rfl trivial (fun _ h => nomatch h) hr ⟨hs0, ?_, hd, ?_⟩
  · intro q hq
    rcases List.mem_cons.mp hq with rfl | hq
    · exact h1
    · rcases List.mem_cons.mp hq with rfl | hq
      · exact h2
      · rw [List.mem_singleton.mp hq]; exact h3
  · simp only [List.length_append, List.length_cons, List.length_nil]; omega
  · have e : (pre ++ [k]).length = pre.length + 1 := by simp
    rw [e]; exact hok.snoc hv
end Mine
namespace Mine
open PySem PySem.W PyProof.Rows PySem.Spec PySem.Calls
theorem holds : PySem.Challenge.rw_pb0309_01.Holds := Mine.hd (by
  w_top off
  k_with_none
  k_go0
  (all_goals try k_fold)
  (k_with "call ref" => ((with_reducible show wpAny _ _ (call (Value.ref 70) _) _ _ _); k_dflt (refine con_use2 (by k_asm) (by k_asm) (digitU_con _ _ _ _ (by k_updF) (by k_mem) (by assumption) (by (try simp only [List.length_take, List.length_append, List.length_cons, List.length_nil]); omega) (by (try simp only [List.length_take, List.length_append, List.length_cons, List.length_nil]); omega) (by omega) (by omega) (by omega) (by omega) (by omega)) (by k_asm) (by k_asm) (by k_asm) (by first | exact rfl | assumption) (by ktr_room) (by ktr_units) ?_); intro r9 news9 h9 tk9 F9 N9 P9; obtain ⟨sp9, d9, v9, ta9, tb9, tc9, p1, p2, p3, p4, p5, e9, e8⟩ := P9; subst e9; subst e8; (try dsimp only); (try dsimp only at N9); (try k_fold)))
  (k_with "call ref" => ((with_reducible show wpAny _ _ (call (Value.ref 77) _) _ _ _); k_dflt (refine con_use2 (by k_asm) (by k_asm) (wideU_con _ _ _ _ (by k_updF) (by k_mem) (by assumption) (by (try simp only [List.length_take, List.length_append, List.length_cons, List.length_nil]); omega) (by (try simp only [List.length_take, List.length_append, List.length_cons, List.length_nil]); omega) (by omega) (by omega) (by omega) (by first | rfl | decide)) (by k_asm) (by k_asm) (by k_asm) (by first | exact rfl | assumption) (by ktr_room) (by ktr_units) ?_); intro r9 news9 h9 tk9 F9 N9 P9; obtain ⟨sp9, d9, v9, ta9, tb9, tc9, p1, p2, p3, p4, p5, e9, e8⟩ := P9; subst e9; subst e8; (try dsimp only); (try dsimp only at N9); (try k_fold)))
  (k_with "call ref" => ((with_reducible show wpAny _ _ (call (Value.ref 91) _) _ _ _); k_dflt (refine con_use2 (by k_asm) (by k_asm) (few_con _ _ _ _ _ _ _ (fmod_nn (by decide)) (m32b _)) (by k_asm) (by k_asm) (by k_asm) (by first | exact rfl | assumption) (by ktr_room) (by ktr_units) ?_); intro r9 news9 h9 tk9 F9 N9 P9; obtain ⟨e9, t9, e8⟩ := P9; (replace e9 := e9.symm); subst e9; subst e8; (try dsimp only); (try dsimp only at N9); (try k_fold)))
  (k_with "call ref" => ((with_reducible show wpAny _ _ (call (Value.ref 63) _) _ _ _); k_dflt (refine con_use2 (by k_asm) (by k_asm) (rows_con _ _ _ _ _ _ _ _ _ _) (by k_asm) (by k_asm) (by k_asm) (by first | exact rfl | assumption) (by ktr_room) (by ktr_units) ?_); intro r9 news9 h9 tk9 F9 N9 P9; rcases P9 with ⟨e8, hl9, e9⟩ | ⟨own9, q9, k9, a9, s9, b9, e9, e8, hl9, hR9, hoff9⟩ <;> (first | ((replace e9 := e9.symm); subst e9; subst e8; (have hz9 := law_none hl9)) | (subst e9; subst e8; (have N9 := move3 N9); (have hoff8 := off3 hoff9 (by assumption)); (obtain ⟨ha9, ha8, hb9, hb8, hg9, hM9, hz9⟩ := law_some hl9); (have hk9 := hR9.count ha9 hb9); (rw [← hk9] at hz9); (have hk8 := hR9.small); (obtain ⟨us9, n9, hq9, hu9⟩ := hR9.list))); (try dsimp only); (try dsimp only at N9); (try k_fold)))
  (k_with "call ref" => ((with_reducible show wpAny _ _ (call (Value.ref 84) _) _ _ _); k_dflt (refine con_use2 (by k_asm) (by k_asm) (step_con2 _ _ _ _ (by assumption) (by kst_anyIn) (by assumption) (by first | omega | decide) (by first | omega | decide) (by assumption) (by assumption) (by assumption) (by assumption) (by assumption)) (by k_asm) (by k_asm) (by k_asm) (by first | exact rfl | assumption) (by ktr_room) (by ktr_units) ?_); intro r9 news9 h9 tk9 F9 N9 P9; obtain ⟨z9, ta9, tb9, nz9, e8, e9⟩ := P9; subst e9; subst e8; (try dsimp only); (try dsimp only at N9); (try k_fold)))
  (k_with "exec For Name Name cons nil" => ((with_reducible rename Fr _ _ _ _ => lF'); (with_unfolding_all refine For_invVF lF' (by exact rfl) (by exact rfl) ?_; k_whole)))
  (k_with "exec For Name Call cons nil" => ((with_reducible rename Fr _ _ _ _ => lF'); (with_unfolding_all refine For_invVF lF' (by exact rfl) (by exact rfl) ?_; k_whole)))
  (k_with "pyIter ref" => ((with_reducible show wpAny _ _ (pyIter (Value.ref _)) (fun it s₂ => TurnsAt _ _ _ _ _ _ _ _ _ it s₂) _ _); (with_reducible rename Fr _ _ _ _ => lF'); (with_reducible rename News _ _ _ _ => lN'); (with_unfolding_all refine iter_tupTurns (vs := [_, _, _]) (by rfl) lF' lN' (List.Mem.head _) (by rfl) (by rfl) ?_); clear lF'; intro i' l1))
  (k_with "pyIter ref" => ((try dsimp only); (with_reducible show wpAny _ _ (pyIter (Value.ref _)) (fun it s₂ => LoopAtV _ _ _ _ _ _ _ _ _ it s₂) _ _); (with_reducible rename Fr _ _ _ _ => lF'); (with_reducible rename News _ _ _ _ => lN'); ((with_unfolding_all refine loop_rule2 [Str.ofString "few", Str.ofString "rows", Str.ofString "source", Str.ofString "exact"] (by rfl) (by rfl) lF' lN' (by k_memK) (by exact rfl) (by k_memK) (by k_memK) (by rfl) (by assumption) (by omega) (by omega) (by omega) (by assumption) (by assumption) ?gt ?gd)); clear lF' lN'; (case' gt => (intro fs9 nn9 r9 spot9 d9 t19 t29 pre9 n9 t9 u9 h9 tk9 own9 hn9 hn8 hs9 hs8 hs7 hd9 hoff9 F9 N9; (have hkm := kstMark); (try k_fold))); (case' gd => (intro u9 h9 tk9 F9 N9; (try k_fold)))))
  (k_with "pyIter ref" => ((try dsimp only); (with_reducible show wpAny _ _ (pyIter (Value.ref _)) (fun it s₂ => LoopAtV _ _ _ _ _ _ _ _ _ it s₂) _ _); (with_reducible rename Fr _ _ _ _ => lF'); (with_reducible rename News _ _ _ _ => lN'); (with_reducible rename IsRange _ _ _ _ _ _ _ _ => rgX); ((with_unfolding_all refine loop_rule1 [Str.ofString "high", Str.ofString "low"] rgX (by rfl) (by rfl) lF' lN' (by k_memK) (by k_memK) (by k_memK) (by exact rfl) (by exact rfl) (by decide) ?gt1 ?gd1)); clear lF' lN'; (case' gt1 => (intro fs9 nn9 r9 spot9 d9 t19 t29 pre9 n9 t9 u9 h9 tk9 own9 hok9 hle9 hs9 hs8 hs7 hd9 hoff9 F9 N9; (have hkm := kstMark); (try k_fold))); (case' gd1 => (intro fs9 ms9 nn9 r9 spot9 d9 t19 t29 h9 tk9 hi9 hl9 hB9 hs9 hs8 hd9 F9 N9; (try k_fold)))))
  (k_with "UnrEndW" => ((with_reducible rename News _ _ _ _ => nE'); refine unr_gen (by assumption) (by assumption) nE' (by kst_anyIn) ⟨⟨List.Mem.head _, trivial⟩, ?_⟩))
  (k_with "call builtin:len" => ((with_reducible show wpAny _ _ (call (Value.builtin "len") [Value.ref _]) _ _ _); k_dflt (refine kst_len (by k_asm) (by (simp only [List.mem_cons, List.mem_append]; exact .inr (.inr (.inr (.inl (by assumption)))))) (by assumption) (by omega) ?_)))
  (k_with "InvEndN" => ( (with_reducible rename Fr _ _ _ _ => fE'); (with_reducible rename News _ _ _ _ => nE'); k_dflt (refine end_rule fE' nE' (by k_memK) (by k_memK) (by k_memK) (by first | (intro p hp; kst_mem) | kst_anyIn) (by first | exact lpI_same (by assumption) (by assumption) (by assumption) | exact lpI_wide (by assumption) (by assumption) (by assumption) (by assumption)) (by kst_same))))
  (k_with "InvEndN" => ( (with_reducible rename Fr _ _ _ _ => fE'); (with_reducible rename News _ _ _ _ => nE'); (k_dflt (refine end_rule1 fE' nE' (by k_memK) (by k_memK) (by k_memK) (by first | (intro p hp; kst_mem) | kst_anyIn) (by assumption) (menu_bnd (by assumption) (by assumption) (by assumption) (by assumption) (by assumption) (by assumption)) (by omega) (by omega) (by assumption) (by kst_same)))))
  k_steps)
end Mine
theorem PySem.Challenge.cw_pb0309_01_holds : PySem.Challenge.rw_pb0309_01.Holds :=
  Mine.holds
