import PyProof.Rows.All
import Wide.All
import OpenK.AllK
import Wide.FinOn
import Lean
import PySem.Challenge.RW_nz0169_01
open PySem PySem.W PyProof.Rows PySem.Calls PySem.Spec
set_option Elab.async false
local macro_rules | `(tactic| walk_at $s:str) => `(tactic| k_extra $s)
local macro_rules | `(tactic| kst_facts1) => `(tactic| first | exact IntsAre.nil | exact IntsAre.cons _ _ IntsAre.nil)
namespace Mine
set_option maxRecDepth 100000 in
set_option maxHeartbeats 8000000 in
open_top hd for PySem.Challenge.rw_nz0169_01
theorem top_off : True := by
  w_top off
  trivial

theorem p128 (k : Nat) : (0 : Int) < 128 ^ k := Int.pow_pos (by decide)
theorem p128s (k : Nat) : (128 : Int) ^ (k + 1) = 128 ^ k * 128 := Int.pow_succ ..
theorem p128n (k : Nat) : (((128 ^ k : Nat)) : Int) = 128 ^ k := by simp
theorem p128_mono {a b : Nat} (h : a ≤ b) : (128 : Int) ^ a ≤ 128 ^ b := by
  rw [← p128n, ← p128n]
  exact Int.ofNat_le.mpr (Nat.pow_le_pow_right (by decide) h)
theorem p128_lt {a b : Nat} (h : (128 : Int) ^ a < 128 ^ b) : a < b := by
  rcases Nat.lt_or_ge a b with q | q
  · exact q
  · have := p128_mono q; omega
theorem div_div (x : Int) (k : Nat) : x / 128 ^ k / 128 = x / 128 ^ (k + 1) := by
  rw [p128s, Int.ediv_ediv]
  have := p128 k
  rw [if_neg (by omega)]
  omega
theorem shr7 (x : Int) : x.fdiv (2 ^ Int.toNat 7) = x / 128 := by
  rw [Int.fdiv_eq_ediv_of_nonneg _ (by decide)]
  rfl
/-- a group of seven bits -/
def dig (x : Int) (i : Nat) : Int := x / 128 ^ i % 128
def digs (x : Int) (n : Nat) : List Int := (List.range n).map (dig x)
theorem dig_in (x : Int) (i : Nat) : 0 ≤ dig x i ∧ dig x i < 128 := by unfold dig; omega
theorem digs_length (x : Int) (n : Nat) : (digs x n).length = n := by simp [digs]
theorem digs_succ (x : Int) (n : Nat) : digs x (n + 1) = digs x n ++ [dig x n] := by simp [digs, List.range_succ]
theorem digs_one (x : Int) : digs x 1 = [x % 128] := by simp [digs, dig, List.range_succ]
theorem digs_in (x : Int) (n : Nat) : ∀ g ∈ digs x n, 0 ≤ g ∧ g < 128 := by
  intro g hg
  obtain ⟨i, _, rfl⟩ := List.mem_map.mp hg
  exact dig_in x i
theorem digs_getD {x : Int} {n i : Nat} (h : i < n) : (digs x n).getD i 0 = dig x i := by
  unfold digs
  rw [List.getD_eq_getElem?_getD, List.getElem?_map, List.getElem?_range h]
  rfl

/-- the numbers that fit into n groups -/
def inR (s : Bool) (x : Int) (n : Nat) : Prop := if s = true then -(64 * 128 ^ (n - 1)) ≤ x ∧ x < 64 * 128 ^ (n - 1) else 0 ≤ x ∧ x < 128 ^ n
/-- n groups, and no fewer, are needed -/
def Need (s : Bool) (x : Int) (n : Nat) : Prop := 1 ≤ n ∧ inR s x n ∧ (n = 1 ∨ ¬ inR s x (n - 1))

def UInv (x rest : Int) (gs : List Int) : Prop := ∃ k : Nat, gs = digs x (k + 1) ∧ rest = x / 128 ^ (k + 1) ∧ (k = 0 ∨ 128 ^ k ≤ x)
theorem uinv_start (x : Int) : UInv x (x.fdiv (2 ^ Int.toNat 7)) [Builtin.bitAnd x 127] :=
  ⟨0, by rw [digs_one, bitAnd_m7], by rw [shr7]; rfl, .inl rfl⟩
theorem uinv_step {x rest : Int} {gs : List Int} (h0 : 0 < rest) (h : UInv x rest gs) : UInv x (rest.fdiv (2 ^ Int.toNat 7)) (gs ++ [Builtin.bitAnd rest 127]) := by
  obtain ⟨k, rfl, rfl, _⟩ := h
  refine ⟨k + 1, ?_, ?_, .inr ?_⟩
  · rw [digs_succ x (k + 1), bitAnd_m7]; rfl
  · rw [shr7, div_div]
  · have h1 : 1 ≤ x / 128 ^ (k + 1) := h0
    rw [Int.le_ediv_iff_mul_le (p128 _)] at h1
    omega
theorem uinv_len {x rest : Int} {gs : List Int} {n : Nat} (hn : 1 ≤ n) (hx : x < 128 ^ n) (h : UInv x rest gs) : gs.length ≤ n := by
  obtain ⟨k, rfl, _, h⟩ := h
  rw [digs_length]
  rcases h with rfl | h
  · exact hn
  · exact p128_lt (by omega)
theorem uinv_end {x rest : Int} {gs : List Int} (h0 : 0 ≤ x) (hr : ¬ 0 < rest) (h : UInv x rest gs) : gs = digs x gs.length ∧ Need false x gs.length := by
  obtain ⟨k, rfl, rfl, h⟩ := h
  rw [digs_length]
  refine ⟨rfl, by omega, ⟨h0, ?_⟩, ?_⟩
  · have h1 : x / 128 ^ (k + 1) < 1 := by omega
    rw [Int.ediv_lt_iff_lt_mul (p128 _)] at h1
    omega
  · rcases h with rfl | h
    · exact .inl rfl
    · refine .inr fun q => ?_
      have := q.2
      simp only [Nat.add_sub_cancel] at this
      omega

def SInv (x rest : Int) (gs : List Int) : Prop := ∃ k : Nat, gs = digs x (k + 1) ∧ rest = x / 128 ^ k ∧ (k = 0 ∨ ¬ inR true x k)
theorem sinv_start (x : Int) : SInv x x [Builtin.bitAnd x 127] :=
  ⟨0, by rw [digs_one, bitAnd_m7], by simp, .inl rfl⟩
theorem fits_iff (x : Int) (k : Nat) : (-64 ≤ x / 128 ^ k ∧ x / 128 ^ k < 64) ↔ inR true x (k + 1) := by
  unfold inR
  rw [if_pos rfl, Nat.add_sub_cancel, Int.le_ediv_iff_mul_le (p128 _), Int.ediv_lt_iff_lt_mul (p128 _)]
  constructor <;> intro h <;> omega
theorem sinv_step {x rest : Int} {gs : List Int} (h0 : ¬ (-64 ≤ rest ∧ rest < 64)) (h : SInv x rest gs) : SInv x (rest.fdiv (2 ^ Int.toNat 7)) (gs ++ [Builtin.bitAnd (rest.fdiv (2 ^ Int.toNat 7)) 127]) := by
  obtain ⟨k, rfl, rfl, _⟩ := h
  refine ⟨k + 1, ?_, ?_, .inr ?_⟩
  · rw [digs_succ x (k + 1), bitAnd_m7, shr7, div_div]; rfl
  · rw [shr7, div_div]
  · rw [← fits_iff]; exact h0
theorem inR_mono {s : Bool} {x : Int} {a b : Nat} (h : a ≤ b) (q : inR s x a) : inR s x b := by
  unfold inR at q ⊢
  have h1 := p128_mono h
  have h2 := p128_mono (show a - 1 ≤ b - 1 by omega)
  split at q
  · rename_i e
    rw [if_pos e]
    omega
  · rename_i e
    rw [if_neg e]
    omega
theorem sinv_len {x rest : Int} {gs : List Int} {n : Nat} (hn : 1 ≤ n) (hx : inR true x n) (h : SInv x rest gs) : gs.length ≤ n := by
  obtain ⟨k, rfl, _, h⟩ := h
  rw [digs_length]
  rcases h with rfl | h
  · exact hn
  · rcases Nat.lt_or_ge k n with q | q
    · exact q
    · exact absurd (inR_mono q hx) h
theorem sinv_end {x rest : Int} {gs : List Int} (hr : -64 ≤ rest ∧ rest < 64) (h : SInv x rest gs) : gs = digs x gs.length ∧ Need true x gs.length := by
  obtain ⟨k, rfl, rfl, h⟩ := h
  rw [digs_length]
  refine ⟨rfl, by omega, (fits_iff x k).mp hr, ?_⟩
  rcases h with rfl | h
  · exact .inl rfl
  · exact .inr h
theorem sinv_less {rest : Int} (h0 : ¬ (-64 ≤ rest ∧ rest < 64)) : (rest.fdiv (2 ^ Int.toNat 7)).natAbs < rest.natAbs := by
  rw [shr7]; omega
theorem uinv_less {rest : Int} (h0 : 0 < rest) : (rest.fdiv (2 ^ Int.toNat 7)).toNat < rest.toNat := by
  rw [shr7]; omega
theorem need_unique {s : Bool} {x : Int} {a b : Nat} (ha : Need s x a) (hb : Need s x b) : a = b := by
  obtain ⟨a1, a2, a3⟩ := ha
  obtain ⟨b1, b2, b3⟩ := hb
  rcases Nat.lt_trichotomy a b with q | q | q
  · rcases b3 with b3 | b3
    · omega
    · exact absurd (inR_mono (show a ≤ b - 1 by omega) a2) b3
  · exact q
  · rcases a3 with a3 | a3
    · omega
    · exact absurd (inR_mono (show b ≤ a - 1 by omega) b2) a3
theorem need_le {s : Bool} {x : Int} {a b : Nat} (ha : Need s x a) (hb : inR s x b) (h1 : 1 ≤ b) : a ≤ b := by
  obtain ⟨a1, a2, a3⟩ := ha
  rcases Nat.lt_or_ge b a with q | q
  · rcases a3 with a3 | a3
    · omega
    · exact absurd (inR_mono (show b ≤ a - 1 by omega) hb) a3
  · exact q

theorem uword_start (x : Int) : UInv x (x.fdiv (2 ^ Int.toNat 7)) [Builtin.bitAnd x 127] ∧ [Builtin.bitAnd x 127].length ≤ 10 := ⟨uinv_start x, by simp⟩
theorem uword_step {x rest : Int} {gs : List Int} (hx : inR false x 10) (h0 : 0 < rest) (h : UInv x rest gs) : UInv x (rest.fdiv (2 ^ Int.toNat 7)) (gs ++ [Builtin.bitAnd rest 127]) ∧ (gs ++ [Builtin.bitAnd rest 127]).length ≤ 10 :=
  ⟨uinv_step h0 h, uinv_len (by decide) hx.2 (uinv_step h0 h)⟩
theorem sword_start (x : Int) : SInv x x [Builtin.bitAnd x 127] ∧ [Builtin.bitAnd x 127].length ≤ 10 := ⟨sinv_start x, by simp⟩
theorem sword_step {x rest : Int} {gs : List Int} (hx : inR true x 10) (h : SInv x rest gs) (h0 : ¬ (-64 ≤ rest ∧ rest < 64)) : SInv x (rest.fdiv (2 ^ Int.toNat 7)) (gs ++ [Builtin.bitAnd (rest.fdiv (2 ^ Int.toNat 7)) 127]) ∧ (gs ++ [Builtin.bitAnd (rest.fdiv (2 ^ Int.toNat 7)) 127]).length ≤ 10 :=
  ⟨sinv_step h0 h, sinv_len (by decide) hx (sinv_step h0 h)⟩
/-- the octets: the groups, all but the last marked -/
def lay (x : Int) (n : Nat) : List Int := (List.range n).map fun i => dig x i + if i + 1 < n then 128 else 0
theorem lay_length (x : Int) (n : Nat) : (lay x n).length = n := by simp [lay]
theorem lay_in (x : Int) (n : Nat) : KBa.In (lay x n) := by
  intro g hg
  obtain ⟨i, _, rfl⟩ := List.mem_map.mp hg
  have := dig_in x i
  split <;> omega

theorem or128 {o : Int} (h0 : 0 ≤ o) (h1 : o < 256) : Builtin.bitOr o 128 = o % 128 + 128 := by
  have key : ∀ n : Fin 256, Builtin.bitOr ((n.val : Nat) : Int) 128 = ((n.val : Nat) : Int) % 128 + 128 := by decide +kernel
  have := key ⟨o.toNat, by omega⟩
  simp only at this
  rwa [show ((o.toNat : Nat) : Int) = o by omega] at this
theorem dig_hi {x : Int} {n i : Nat} (h0 : 0 ≤ x) (h1 : x < 128 ^ n) (hi : n ≤ i) : dig x i = 0 := by
  have := p128_mono hi
  unfold dig
  rw [Int.ediv_eq_zero_of_lt h0 (by omega)]
  rfl
theorem dig_lo {x : Int} {n i : Nat} (h0 : x < 0) (h1 : -(128 ^ n) ≤ x) (hi : n ≤ i) : dig x i = 127 := by
  have := p128_mono hi
  have e : x / 128 ^ i = -1 := by
    have a : -1 ≤ x / 128 ^ i := by rw [Int.le_ediv_iff_mul_le (p128 _)]; omega
    have b : x / 128 ^ i < 0 := by rw [Int.ediv_lt_iff_lt_mul (p128 _)]; omega
    omega
  unfold dig
  rw [e]
  rfl
theorem half_le {n : Nat} (h : 1 ≤ n) : 64 * (128 : Int) ^ (n - 1) + 64 * 128 ^ (n - 1) = 128 ^ n := by
  obtain ⟨k, rfl⟩ : ∃ k, n = k + 1 := ⟨n - 1, by omega⟩
  rw [p128s, Nat.add_sub_cancel]
  omega
theorem need_hi {s : Bool} {x : Int} {n : Nat} (h : Need s x n) (h0 : 0 ≤ x) : ∀ i, n ≤ i → dig x i = 0 := by
  intro i hi
  refine dig_hi h0 ?_ hi
  have h2 := h.2.1
  unfold inR at h2
  split at h2
  · have := half_le h.1
    have := p128 (n - 1)
    omega
  · exact h2.2
theorem need_lo {x : Int} {n : Nat} (h : Need true x n) (h0 : x < 0) : ∀ i, n ≤ i → dig x i = 127 := by
  intro i hi
  refine dig_lo h0 ?_ hi
  have h2 := h.2.1
  unfold inR at h2
  rw [if_pos rfl] at h2
  have := half_le h.1
  have := p128 (n - 1)
  omega
theorem pad_lay {x e k : Int} {n : Nat} (h1 : 1 ≤ n) (hk : (n : Int) < k) (he : ∀ i, n ≤ i → dig x i = e) :
    (lay x n).map (fun o => Builtin.bitOr o 128) ++ (List.replicate (k - ((lay x n).length : Int) - 1).toNat [Builtin.bitOr e 128]).flatten ++ [e] = lay x k.toNat := by
  have he0 := dig_in x n
  rw [he n (Nat.le_refl _)] at he0
  obtain ⟨d, hd⟩ : ∃ d, k.toNat = n + d + 1 := ⟨k.toNat - n - 1, by omega⟩
  rw [lay_length, hd, show (k - (n : Int) - 1).toNat = d by omega, List.flatten_replicate_singleton, or128 he0.1 (by omega)]
  unfold lay
  rw [List.range_succ, List.map_append, List.range_add, List.map_append, List.map_map, List.map_map, List.map_singleton, if_neg (by omega), he (n + d) (by omega)]
  congr 1
  · congr 1
    · refine List.map_congr_left fun i hi => ?_
      have hi' := List.mem_range.mp hi
      have hdi := dig_in x i
      show Builtin.bitOr (dig x i + if i + 1 < n then 128 else 0) 128 = _
      rw [if_pos (show i + 1 < n + d + 1 by omega)]
      split
      · rw [or128 (by omega) (by omega)]; omega
      · rw [or128 (by omega) (by omega)]; omega
    · symm
      rw [List.eq_replicate_iff]
      refine ⟨by simp, fun b hb => ?_⟩
      obtain ⟨i, hi, rfl⟩ := List.mem_map.mp hb
      have hi' := List.mem_range.mp hi
      show dig x (n + i) + (if n + i + 1 < n + d + 1 then 128 else 0) = _
      rw [if_pos (by omega), he _ (by omega)]
      omega
  · simp

abbrev Ctr (w : World) (f : Addr) (news : List (Addr × Obj)) (vs : List Value) (dep : Nat) (R : Value → Heap → Prop) : Prop :=
  ∀ (mean : ExcName → Option Value) (mg mb : Str → Option Value) (dp un : Nat) (gd : Option (List Code)) (cn : Str) (cs : Scope) (a : Addr) (ccd : Value) (cl : List (Str × Addr)) (outer : List Env) (A₀ : Around) (base h₀ : Heap) (L : Addr) (m : Str → Option Value) (s : Shared) (Q E : Value → Shared → Prop),
    Below A₀ base outer h₀ → Fr h₀ L s.heap m → (Mine.hd.heap_39 w.params).In h₀ → News h₀ L s.heap news → Top Mine.hd.view_39 (looseW Mine.hd.view_39 [Str.ofString "MintError"]) mean mg mb h₀ → cs.kind = .function →
    dp + dep < recursionLimit → un + 8 * dep < cLine →
    (∀ (r : Value) (h' : Heap) (tk' : Nat), Fr h₀ L h' m → News h₀ L h' news → R r h' → Q r { s with heap := h', toks := tk' }) →
      wpAny (model PySem.Challenge.rw_nz0169_01.row.prog w) (ktrTop dp un gd cn cs L a ccd cl outer) (call (.ref f) vs) Q E s
theorem ctr_use {w : World} {f : Addr} {news : List (Addr × Obj)} {vs : List Value} {dep : Nat} {R : Value → Heap → Prop} (C : Ctr w f news vs dep R)
    {mean : ExcName → Option Value} {mg mb : Str → Option Value} {dp un : Nat} {gd : Option (List Code)} {cn : Str} {cs : Scope} {a : Addr} {ccd : Value} {cl : List (Str × Addr)} {outer : List Env} {A₀ : Around} {base h₀ : Heap} {L : Addr} {m : Str → Option Value} {s : Shared} {Q E : Value → Shared → Prop}
    (B : Below A₀ base outer h₀) (F : Fr h₀ L s.heap m) (X : (Mine.hd.heap_39 w.params).In h₀) (N : News h₀ L s.heap news) (T : Top Mine.hd.view_39 (looseW Mine.hd.view_39 [Str.ofString "MintError"]) mean mg mb h₀) (hk : cs.kind = .function)
    (hd : dp + dep < recursionLimit) (hu : un + 8 * dep < cLine)
    (ret : ∀ (r : Value) (h' : Heap) (tk' : Nat), Fr h₀ L h' m → News h₀ L h' news → R r h' → Q r { s with heap := h', toks := tk' }) :
    wpAny (model PySem.Challenge.rw_nz0169_01.row.prog w) (ktrTop dp un gd cn cs L a ccd cl outer) (call (.ref f) vs) Q E s := C mean mg mb dp un gd cn cs a ccd cl outer A₀ base h₀ L m s Q E B F X N T hk hd hu ret
/-- one more known object on the ledger does no harm -/
theorem ctr_mem {w : World} {f : Addr} {news : List (Addr × Obj)} {vs : List Value} {dep : Nat} {R : Value → Heap → Prop} {q : Addr × Obj} (hm : q ∈ news) (C : Ctr w f (q :: news) vs dep R) : Ctr w f news vs dep R := by
  intro mean mg mb dp un gd cn cs a ccd cl outer A₀ base h₀ L m s Q E B F X N T hk hd hu ret
  refine C mean mg mb dp un gd cn cs a ccd cl outer A₀ base h₀ L m s Q E B F X (fun p hp => ?_) T hk hd hu fun r h' tk' F' N' hr => ret r h' tk' F' (fun p hp => N' p (.tail _ hp)) hr
  rcases List.mem_cons.mp hp with rfl | hp
  · exact N _ hm
  · exact N _ hp

/-- a contract whose answer brings new objects onto the ledger -/
abbrev Ctr2 (w : World) (f : Addr) (news : List (Addr × Obj)) (vs : List Value) (dep : Nat) (R : Value → List (Addr × Obj) → Prop) : Prop :=
  ∀ (mean : ExcName → Option Value) (mg mb : Str → Option Value) (dp un : Nat) (gd : Option (List Code)) (cn : Str) (cs : Scope) (a : Addr) (ccd : Value) (cl : List (Str × Addr)) (outer : List Env) (A₀ : Around) (base h₀ : Heap) (L : Addr) (m : Str → Option Value) (s : Shared) (Q E : Value → Shared → Prop),
    Below A₀ base outer h₀ → Fr h₀ L s.heap m → (Mine.hd.heap_39 w.params).In h₀ → News h₀ L s.heap news → Top Mine.hd.view_39 (looseW Mine.hd.view_39 [Str.ofString "MintError"]) mean mg mb h₀ → cs.kind = .function →
    dp + dep < recursionLimit → un + 8 * dep < cLine →
    (∀ (r : Value) (tl : List (Addr × Obj)) (h' : Heap) (tk' : Nat), Fr h₀ L h' m → News h₀ L h' (tl ++ news) → R r tl → Q r { s with heap := h', toks := tk' }) →
      wpAny (model PySem.Challenge.rw_nz0169_01.row.prog w) (ktrTop dp un gd cn cs L a ccd cl outer) (call (.ref f) vs) Q E s
theorem ctr2_use {w : World} {f : Addr} {news : List (Addr × Obj)} {vs : List Value} {dep : Nat} {R : Value → List (Addr × Obj) → Prop} (C : Ctr2 w f news vs dep R)
    {mean : ExcName → Option Value} {mg mb : Str → Option Value} {dp un : Nat} {gd : Option (List Code)} {cn : Str} {cs : Scope} {a : Addr} {ccd : Value} {cl : List (Str × Addr)} {outer : List Env} {A₀ : Around} {base h₀ : Heap} {L : Addr} {m : Str → Option Value} {s : Shared} {Q E : Value → Shared → Prop}
    (B : Below A₀ base outer h₀) (F : Fr h₀ L s.heap m) (X : (Mine.hd.heap_39 w.params).In h₀) (N : News h₀ L s.heap news) (T : Top Mine.hd.view_39 (looseW Mine.hd.view_39 [Str.ofString "MintError"]) mean mg mb h₀) (hk : cs.kind = .function)
    (hd : dp + dep < recursionLimit) (hu : un + 8 * dep < cLine)
    (ret : ∀ (r : Value) (tl : List (Addr × Obj)) (h' : Heap) (tk' : Nat), Fr h₀ L h' m → News h₀ L h' (tl ++ news) → R r tl → Q r { s with heap := h', toks := tk' }) :
    wpAny (model PySem.Challenge.rw_nz0169_01.row.prog w) (ktrTop dp un gd cn cs L a ccd cl outer) (call (.ref f) vs) Q E s := C mean mg mb dp un gd cn cs a ccd cl outer A₀ base h₀ L m s Q E B F X N T hk hd hu ret

/-- a contract of a def that catches: the frames below may have gained slots -/
abbrev CtrS (w : World) (f : Addr) (news : List (Addr × Obj)) (vs : List Value) (dep : Nat) (R : Value → Prop) : Prop :=
  ∀ (mean : ExcName → Option Value) (mg mb : Str → Option Value) (dp un : Nat) (gd : Option (List Code)) (cn : Str) (cs : Scope) (a : Addr) (ccd : Value) (outer : List Env) (A₀ : Around) (base h₀ : Heap) (L : Addr) (m : Str → Option Value) (s : Shared) (Q E : Value → Shared → Prop),
    Below A₀ base outer h₀ → Fr h₀ L s.heap m → (Mine.hd.heap_39 w.params).In h₀ → News h₀ L s.heap news → Top Mine.hd.view_39 (looseW Mine.hd.view_39 [Str.ofString "MintError"]) mean mg mb h₀ →
    (Mine.hd.heap_39 w.params).In base → Top Mine.hd.view_39 (looseW Mine.hd.view_39 [Str.ofString "MintError"]) mean mg mb base → KtsDicts (outer.filterMap (·.frame)) h₀ → cs.kind = .function →
    dp + dep < recursionLimit → un + 8 * dep < cLine →
    (∀ (r : Value) (k₀ h' : Heap) (tk' : Nat), KtsTurn (outer.filterMap (·.frame)) h₀ k₀ → Fr k₀ L h' m → News k₀ L h' news → Below A₀ base outer k₀ → (Mine.hd.heap_39 w.params).In k₀ → Top Mine.hd.view_39 (looseW Mine.hd.view_39 [Str.ofString "MintError"]) mean mg mb k₀ → KtsDicts (outer.filterMap (·.frame)) k₀ →
      R r → Q r { s with heap := h', toks := tk' }) →
      wpAny (model PySem.Challenge.rw_nz0169_01.row.prog w) (ktrTop dp un gd cn cs L a ccd [] outer) (call (.ref f) vs) Q E s

theorem off1_mem {D : Addr} : ∀ {l : List (Addr × Obj)}, LCg.Off1 D l → ∀ p ∈ l, p.1 ≠ D
  | [], _, _, h => nomatch h
  | _ :: _, x, p, h => by
    rcases List.mem_cons.mp h with rfl | h
    · exact x.1
    · exact off1_mem x.2 p h

section
variable {prog : Program} {w : World} {A : Around} {E : Value → Shared → Prop} {s : Shared} {h₀ : Heap} {L D : Addr} {m : Str → Option Value} {news : List (Addr × Obj)} {vs : List Value} {ns : List Int} {n : Nat} {k x : Int} {t u : Tok}
/-- xs[k] = x, k below 0, on a made list at the ledger's head -/
theorem set_back {Q : Unit → Shared → Prop} (F : Fr h₀ L s.heap m) (N : News h₀ L s.heap ((D, listOf vs.toArray n) :: news)) (hi : IntsAre vs ns) (o : ∀ p ∈ news, p.1 ≠ D) (h0 : k < 0) (h1 : -(ns.length : Int) ≤ k) (hfit : -(2 ^ 63) ≤ k) {gs : List Int} (hg : ns.set (k + ns.length).toNat x = gs)
    (h : ∀ h' vs', Fr h₀ L h' m → News h₀ L h' ((D, listOf vs'.toArray n) :: news) → IntsAre vs' gs → Q () { s with heap := h' }) :
    wpAny (model prog w) A (setItem (.ref D) (.int k t) (.int x u)) Q E s := by
  subst hg
  have z := N (D, listOf vs.toArray n) (.head _)
  have hl : vs.length = ns.length := hi.length
  have hs : vs.toArray.size = ns.length := by rw [List.size_toArray]; exact hl
  refine ki_setBack z.1 h0 (by omega) hfit (h _ (vs.set (k + ns.length).toNat (.int x u)) (F.change (Heap.SameBut.update ..) z.2.1 z.2.2) (ki_turn (pre := []) _ N (fun _ h => nomatch h) o ?_ ?_) (ints_set hi _))
  · rw [hs]
    show vs.toArray.setIfInBounds _ (.int x u) = (vs.set _ (.int x u)).toArray
    apply Array.toList_inj.mp
    simp
  · simp
end
def lebInts (gs : List Int) : List Int := (gs.map fun g => 128 + g).set (gs.length - 1) (gs.getD (gs.length - 1) 0)
theorem leb_set {gs : List Int} (h : 1 ≤ gs.length) : (gs.map fun g => 128 + g).set (-1 + ((gs.map fun g => 128 + g).length : Int)).toNat (gs.getD (-1 + (gs.length : Int)).toNat 0) = lebInts gs := by
  unfold lebInts
  rw [List.length_map]
  have e : (-1 + (gs.length : Int)).toNat = gs.length - 1 := by omega
  rw [e]
theorem leb_in {gs : List Int} (h : ∀ g ∈ gs, 0 ≤ g ∧ g < 128) (h1 : 1 ≤ gs.length) : KBa.In (lebInts gs) := by
  intro n hn
  unfold lebInts at hn
  rcases List.mem_or_eq_of_mem_set hn with hn | rfl
  · obtain ⟨g, hg, rfl⟩ := List.mem_map.mp hn
    have := h g hg
    omega
  · have hm : gs.getD (gs.length - 1) 0 ∈ gs := by
      rw [List.getD_eq_getElem?_getD, List.getElem?_eq_getElem (by omega)]
      exact List.getElem_mem _
    have := h _ hm
    omega
theorem off_cons {D : Addr} {q : Addr × Obj} {l : List (Addr × Obj)} (h : (@Ne Nat q.1 D) ∧ LCg.Off1 D l) : ∀ p ∈ q :: l, p.1 ≠ D := off1_mem h

section

set_option maxRecDepth 100000 in
set_option maxHeartbeats 8000000 in
theorem c_leb0 (w : World) (news : List (Addr × Obj)) (l : Addr) (vs : List Value) (gs : List Int) (nn : Nat) (hi : IntsAre vs gs) (h1 : 1 ≤ gs.length) (h2 : gs.length ≤ 10) (h3 : ∀ g ∈ gs, 0 ≤ g ∧ g < 128) :
    Ctr w 104 ((l, listOf vs.toArray nn) :: news) [.ref l] 3 (fun r _ => ∃ b t, r = .bytes b t ∧ KBw.bInts b = lebInts gs) := by
  k_with_none
  k_with "mine use" => (((case k1 => k_asm); (case k2 => k_asm); (case k3 => k_asm); (case k4 => k_asm); (case k5 => k_asm); (case kK => first | exact rfl | assumption); (case kd => ktr_room); (case ku => ktr_units)))
  k_with "mine enter" => ((refine' code_def ?k1 ?k2 ?k3 ?k4 ?k5 ?kA ?kF ?kK ?k6 ?k7 ?k8 ?k9 ?kB ?_ ?c2 ?c3 ?c4 ?c5; (case kA => exact rfl); (case kF => exact rfl); (case kK => first | exact rfl | assumption); (case k1 => k_asm); (case k2 => k_asm); (case k3 => k_asm); (case k4 => k_asm); (case k5 => k_asm); (case k6 => k_is); (case k7 => k_is); (case k8 => ktr_room); (case k9 => first | exact BindsTo.of_eq rfl | exact binds_K (by k_in) rfl (by k_is) rfl rfl rfl); (case c5 => decide); (case kB => exact locs rfl); (case c2 => exact rfl); (case c3 => exact rfl); (case c4 => exact rfl); k_whole; intro g' L' h' FG' F' N' B' X' T'; (try dsimp only); (try k_fold)))
  k_with "mine enterS" => ((refine' code_defS ?k1 ?k2 ?k3 ?k4 ?k5 ?XB ?TB ?D ?T0 ?kA ?k6 ?k7 ?k8 ?k9 ?kB ?_ ?cK ?c2 ?c3 ?c4 ?c5; (case kA => exact rfl); (case k2 => k_asm); (case k1 => k_asm); (case XB => assumption); (case TB => assumption); (case D => assumption); (case T0 => first | assumption | exact KtsTurn.refl); (case k3 => k_asm); (case k4 => k_asm); (case k5 => k_asm); (case k6 => k_is); (case k7 => k_is); (case k8 => ktr_room); (case k9 => exact BindsTo.of_eq rfl); (case kB => exact locs rfl); (case cK => first | exact rfl | assumption); (case c2 => exact rfl); (case c3 => exact rfl); (case c4 => exact rfl); (case c5 => decide); k_whole; intro g' L' h' FG' F' N' B' X' T' D'; (try dsimp only); (try k_fold)))
  k_with "exec Assign cons ListComp" => ((k_here; k_dflt (refine LCg.Assign_ListComp_U (F₀ := by k_asm) (by rfl) (by with_unfolding_all rfl) (by with_unfolding_all rfl) (by decide) (by rfl) (by decide) (by rfl) (by rfl) (by rfl) ?_)))
  k_with "CompSrc" => ((k_here; k_dflt (refine LCg.CompSrc.ledger (by rfl) (by k_asm) (by k_asm) (by k_mem) (by kcf_size) ?_; intro g'; (refine' kcf_list _ (by first | assumption | l_ints) (fun k' t' I' oI' C' oC' D' m' ys' h' tk' E' hk' hC' hx' F' N' off' ne' hMark' => ?_) ?_); (all_goals (try (simp only [LCg.Off3, and_true] at off'))); kcf_last)))
  k_with "setItem ref int" => ((k_here; (with_reducible show wpAny _ _ (setItem (Value.ref _) (Value.int _ _) (Value.int _ _)) _ _ _); k_dflt (refine' set_back ?k1 ?k2 ?k3 ?k4 ?k5 ?k6 ?k7 ?k8 ?_; (case k1 => k_asm); (case k2 => k_asm); (case k3 => with_reducible assumption); (case k4 => exact off_cons (by assumption)); (case k5 => decide); (case k6 => simp only [List.length_map]; omega); (case k7 => decide); (case k8 => exact leb_set (by assumption)); k_whole); intro h' vs' F' N' hi'))
  have hin := leb_in h3 h1
  have hlen : (lebInts gs).length ≤ 10 := by unfold lebInts; simp only [List.length_set, List.length_map]; exact h2
  unfold Ctr
  k_fill
  intro mean mg mb dp un gd cn cs a ccd cl outer A₀ base h₀ L m s Q E B F X N T hk hd hu hret
  refine wpAny_call ?_
  k_dflt ktr_enter
  k_steps
  exact hret _ _ _ (by k_asm) (by first | k_asm | (refine kst_newsOf (by assumption) ?_; kst_inAny)) ⟨_, _, rfl, KBa.ints_make hin⟩
end
theorem c_leb {w : World} {news : List (Addr × Obj)} {l : Addr} {vs : List Value} {gs : List Int} {nn : Nat} (hm : (l, listOf vs.toArray nn) ∈ news) (hi : IntsAre vs gs) (h1 : 1 ≤ gs.length) (h2 : gs.length ≤ 10) (h3 : ∀ g ∈ gs, 0 ≤ g ∧ g < 128) :
    Ctr w 104 news [.ref l] 3 (fun r _ => ∃ b t, r = .bytes b t ∧ KBw.bInts b = lebInts gs) := ctr_mem hm (c_leb0 w news l vs gs nn hi h1 h2 h3)

theorem leb_digs {x : Int} {n : Nat} (h : 1 ≤ n) : lebInts (digs x n) = lay x n := by
  obtain ⟨k, rfl⟩ : ∃ k, n = k + 1 := ⟨n - 1, by omega⟩
  unfold lebInts lay
  rw [digs_length, Nat.add_sub_cancel, digs_getD (Nat.lt_succ_self _), digs_succ, List.map_append, List.range_succ, List.map_append]
  have hl : ((digs x k).map fun g => 128 + g).length = k := by rw [List.length_map, digs_length]
  rw [List.set_append_right _ _ (by rw [hl]; exact Nat.le_refl _), hl, Nat.sub_self]
  congr 1
  · unfold digs
    rw [List.map_map]
    refine List.map_congr_left fun i hi => ?_
    have := List.mem_range.mp hi
    rw [if_pos (by omega)]
    show 128 + dig x i = _
    omega
  · simp
theorem uinv_pos {x rest : Int} {gs : List Int} (h : UInv x rest gs) : 1 ≤ gs.length := by obtain ⟨k, rfl, _⟩ := h; rw [digs_length]; omega
theorem uinv_in {x rest : Int} {gs : List Int} (h : UInv x rest gs) : ∀ g ∈ gs, 0 ≤ g ∧ g < 128 := by obtain ⟨k, rfl, _⟩ := h; exact digs_in x _
theorem sinv_pos {x rest : Int} {gs : List Int} (h : SInv x rest gs) : 1 ≤ gs.length := by obtain ⟨k, rfl, _⟩ := h; rw [digs_length]; omega
theorem sinv_in {x rest : Int} {gs : List Int} (h : SInv x rest gs) : ∀ g ∈ gs, 0 ≤ g ∧ g < 128 := by obtain ⟨k, rfl, _⟩ := h; exact digs_in x _
theorem uleb_end {x rest : Int} {gs : List Int} {b : Array UInt8} (t : Tok) (h0 : 0 ≤ x) (hr : ¬ 0 < rest) (h : UInv x rest gs) (hb : KBw.bInts b = lebInts gs) : ∃ b' t' n, Value.bytes b t = .bytes b' t' ∧ Need false x n ∧ KBw.bInts b' = lay x n := by
  obtain ⟨e, hn⟩ := uinv_end h0 hr h
  refine ⟨b, t, gs.length, rfl, hn, ?_⟩
  rw [hb, e, digs_length, leb_digs (uinv_pos h)]
theorem sleb_end {x rest : Int} {gs : List Int} {b : Array UInt8} (t : Tok) (h : SInv x rest gs) (hr : -64 ≤ rest ∧ rest < 64) (hb : KBw.bInts b = lebInts gs) : ∃ b' t' n, Value.bytes b t = .bytes b' t' ∧ Need true x n ∧ KBw.bInts b' = lay x n := by
  obtain ⟨e, hn⟩ := sinv_end hr h
  refine ⟨b, t, gs.length, rfl, hn, ?_⟩
  rw [hb, e, digs_length, leb_digs (sinv_pos h)]

section
set_option maxRecDepth 100000 in
set_option maxHeartbeats 8000000 in
theorem c_uleb (w : World) (x : Int) (tx : Tok) (news : List (Addr × Obj)) (h0 : 0 ≤ x) (h1 : inR false x 10) : Ctr w 111 news [.int x tx] 5 (fun r _ => ∃ b t n, r = .bytes b t ∧ Need false x n ∧ KBw.bInts b = lay x n) := by
  k_with_none
  k_with "mine use" => (((case k1 => k_asm); (case k2 => k_asm); (case k3 => k_asm); (case k4 => k_asm); (case k5 => k_asm); (case kK => first | exact rfl | assumption); (case kd => ktr_room); (case ku => ktr_units)))
  k_with "mine enter" => ((refine' code_def ?k1 ?k2 ?k3 ?k4 ?k5 ?kA ?kF ?kK ?k6 ?k7 ?k8 ?k9 ?kB ?_ ?c2 ?c3 ?c4 ?c5; (case kA => exact rfl); (case kF => exact rfl); (case kK => first | exact rfl | assumption); (case k1 => k_asm); (case k2 => k_asm); (case k3 => k_asm); (case k4 => k_asm); (case k5 => k_asm); (case k6 => k_is); (case k7 => k_is); (case k8 => ktr_room); (case k9 => first | exact BindsTo.of_eq rfl | exact binds_K (by k_in) rfl (by k_is) rfl rfl rfl); (case c5 => decide); (case kB => exact locs rfl); (case c2 => exact rfl); (case c3 => exact rfl); (case c4 => exact rfl); k_whole; intro g' L' h' FG' F' N' B' X' T'; (try dsimp only); (try k_fold)))
  k_with "mine enterS" => ((refine' code_defS ?k1 ?k2 ?k3 ?k4 ?k5 ?XB ?TB ?D ?T0 ?kA ?k6 ?k7 ?k8 ?k9 ?kB ?_ ?cK ?c2 ?c3 ?c4 ?c5; (case kA => exact rfl); (case k2 => k_asm); (case k1 => k_asm); (case XB => assumption); (case TB => assumption); (case D => assumption); (case T0 => first | assumption | exact KtsTurn.refl); (case k3 => k_asm); (case k4 => k_asm); (case k5 => k_asm); (case k6 => k_is); (case k7 => k_is); (case k8 => ktr_room); (case k9 => exact BindsTo.of_eq rfl); (case kB => exact locs rfl); (case cK => first | exact rfl | assumption); (case c2 => exact rfl); (case c3 => exact rfl); (case c4 => exact rfl); (case c5 => decide); k_whole; intro g' L' h' FG' F' N' B' X' T' D'; (try dsimp only); (try k_fold)))
  k_with "mine leb" => (first | exact uinv_pos (by assumption) | exact uinv_in (by assumption) | exact sinv_pos (by assumption) | exact sinv_in (by assumption) | assumption)
  k_with "call ref" => ((k_here; (with_reducible show wpAny _ _ (call (Value.ref 104) [Value.ref _]) _ _ _); k_dflt (refine' ctr_use (c_leb ?m ?i ?a ?b ?c) ?k1 ?k2 ?k3 ?k4 ?k5 ?kK ?kd ?ku ?_; walk_at "mine use"; (case m => k_mem); (case i => assumption); (case a => walk_at "mine leb"); (case b => assumption); (case c => walk_at "mine leb"); k_whole); intro r9 h9 tk9 F9 N9 R9; obtain ⟨b9, t9, e9, hb9⟩ := R9; subst e9; (try dsimp only); (try k_fold)))
  unfold Ctr
  k_fill
  intro mean mg mb dp un gd cn cs a ccd cl outer A₀ base h₀ L m s Q E B F X N T hk hd hu hret
  refine wpAny_call ?_
  k_dflt ktr_enter
  refine wpAny_noRaise ?_
  k_with "state" => first | exact uword_start _ | exact uword_step (by assumption) (by assumption) (by assumption)
  k_with "measure" => exact uinv_less (by assumption)
  k_with "exec While BoolOp cons nil" => k_while_given ["worth"] (fun x script rest groups => UInv x rest groups ∧ groups.length ≤ 10) (fun x script rest groups => rest.toNat) "rest" "groups"
  k_steps
  exact hret _ _ _ (by k_asm) (by first | k_asm | (refine kst_newsOf (by assumption) ?_; kst_inAny)) (uleb_end _ h0 (by assumption) (by assumption) (by assumption))
end

section
set_option maxRecDepth 100000 in
set_option maxHeartbeats 8000000 in
theorem c_sleb (w : World) (x : Int) (tx : Tok) (news : List (Addr × Obj)) (h1 : inR true x 10) : Ctr w 118 news [.int x tx] 5 (fun r _ => ∃ b t n, r = .bytes b t ∧ Need true x n ∧ KBw.bInts b = lay x n) := by
  k_with_none
  k_with "mine use" => (((case k1 => k_asm); (case k2 => k_asm); (case k3 => k_asm); (case k4 => k_asm); (case k5 => k_asm); (case kK => first | exact rfl | assumption); (case kd => ktr_room); (case ku => ktr_units)))
  k_with "mine enter" => ((refine' code_def ?k1 ?k2 ?k3 ?k4 ?k5 ?kA ?kF ?kK ?k6 ?k7 ?k8 ?k9 ?kB ?_ ?c2 ?c3 ?c4 ?c5; (case kA => exact rfl); (case kF => exact rfl); (case kK => first | exact rfl | assumption); (case k1 => k_asm); (case k2 => k_asm); (case k3 => k_asm); (case k4 => k_asm); (case k5 => k_asm); (case k6 => k_is); (case k7 => k_is); (case k8 => ktr_room); (case k9 => first | exact BindsTo.of_eq rfl | exact binds_K (by k_in) rfl (by k_is) rfl rfl rfl); (case c5 => decide); (case kB => exact locs rfl); (case c2 => exact rfl); (case c3 => exact rfl); (case c4 => exact rfl); k_whole; intro g' L' h' FG' F' N' B' X' T'; (try dsimp only); (try k_fold)))
  k_with "mine enterS" => ((refine' code_defS ?k1 ?k2 ?k3 ?k4 ?k5 ?XB ?TB ?D ?T0 ?kA ?k6 ?k7 ?k8 ?k9 ?kB ?_ ?cK ?c2 ?c3 ?c4 ?c5; (case kA => exact rfl); (case k2 => k_asm); (case k1 => k_asm); (case XB => assumption); (case TB => assumption); (case D => assumption); (case T0 => first | assumption | exact KtsTurn.refl); (case k3 => k_asm); (case k4 => k_asm); (case k5 => k_asm); (case k6 => k_is); (case k7 => k_is); (case k8 => ktr_room); (case k9 => exact BindsTo.of_eq rfl); (case kB => exact locs rfl); (case cK => first | exact rfl | assumption); (case c2 => exact rfl); (case c3 => exact rfl); (case c4 => exact rfl); (case c5 => decide); k_whole; intro g' L' h' FG' F' N' B' X' T' D'; (try dsimp only); (try k_fold)))
  k_with "mine leb" => (first | exact uinv_pos (by assumption) | exact uinv_in (by assumption) | exact sinv_pos (by assumption) | exact sinv_in (by assumption) | assumption)
  k_with "call ref" => ((k_here; (with_reducible show wpAny _ _ (call (Value.ref 104) [Value.ref _]) _ _ _); k_dflt (refine' ctr_use (c_leb ?m ?i ?a ?b ?c) ?k1 ?k2 ?k3 ?k4 ?k5 ?kK ?kd ?ku ?_; walk_at "mine use"; (case m => k_mem); (case i => assumption); (case a => walk_at "mine leb"); (case b => assumption); (case c => walk_at "mine leb"); k_whole); intro r9 h9 tk9 F9 N9 R9; obtain ⟨b9, t9, e9, hb9⟩ := R9; subst e9; (try dsimp only); (try k_fold)))
  unfold Ctr
  k_fill
  intro mean mg mb dp un gd cn cs a ccd cl outer A₀ base h₀ L m s Q E B F X N T hk hd hu hret
  refine wpAny_call ?_
  k_dflt ktr_enter
  refine wpAny_noRaise ?_
  k_with "state" => first | exact sword_start _ | exact sword_step (by assumption) (by assumption) (by omega)
  k_with "measure" => exact sinv_less (by omega)
  k_with "exec While BoolOp cons nil" => k_while_given ["worth"] (fun x script rest groups => SInv x rest groups ∧ groups.length ≤ 10) (fun x script rest groups => rest.natAbs) "rest" "groups"
  k_steps
  exact hret _ _ _ (by k_asm) (by first | k_asm | (refine kst_newsOf (by assumption) ?_; kst_inAny)) (sleb_end _ (by assumption) (by omega) (by assumption))
end

def BytesSrc (prog : Program) (w : World) (A : Around) (h₀ : Heap) (L : Addr) (m : Str → Option Value) (env : Env) (elt : Expr) (x : Str) (scope : Scope) (cl : List (Str × Addr)) (Q : Value → Shared → Prop) (xv : Value) (s₁ : Shared) : Prop :=
  ∃ b t news, xv = .bytes b t ∧ A.handled = none ∧ Fr h₀ L s₁.heap m ∧ News h₀ L s₁.heap news ∧ b.size ≤ sizeLine ∧
    ∀ g, LCg.CompRest prog w A h₀ L m env elt x scope cl { s₁ with heap := g } (fun _ => True) (fun i v => ∃ (c : UInt8) (u : Tok), b[i]? = some c ∧ v = .int (c.toNat : Int) u) (LCg.FinE h₀ L m { s₁ with heap := g } Q) b.size 0 [] news
section
variable {prog : Program} {w : World} {A : Around} {E : Value → Shared → Prop} {s : Shared} {h₀ : Heap} {L : Addr} {m : Str → Option Value} {env : Env}
/-- a list comprehension over bytes -/
theorem comp_bytes {elt iter : Expr} {x : Str} {px : Pos} {scope : Scope} {cl : List (Str × Addr)} {pos : Pos} {Q : Value → Shared → Prop} (_F₀ : Fr h₀ L s.heap m)
    (hclos : closureFor scope env = pure cl) (hcell : ∀ y ∈ scope.names, y.2 ≠ .cell) (hkind : scope.kind = .function)
    (hnames : ∀ y ∈ scope.names, y.2 = .local → scope.names.lookup y.1 = some .local) (hx : scope.names.lookup x = some .local)
    (h : wpAny (model prog w) A (eval iter env) (BytesSrc prog w A h₀ L m env elt x scope cl Q) E s)
    (hs : ∀ x, foldedSetIterable iter env x = pure x := by intro _; rfl) :
    wpAny (model prog w) A (eval (.ListComp elt [⟨.Name x px, iter, [], 0⟩] scope pos) env) Q E s := by
  rw [eval_ListComp]
  refine wpAny_comprehension_free (use := none) rfl hs hclos hkind hnames (wpAny_mono h (fun xv s₁ h₁ => ?_) fun _ _ e => e)
  obtain ⟨b, t, news, rfl, hh, F, N, hsz, R⟩ := h₁
  refine KBw.pyIter_bytes ?_
  refine LCg.block_U (KBw.walks hh s₁.heap.objs.size b t) hsz (fun i h st => by obtain ⟨o, e, _⟩ := st; exact ⟨o, e⟩) (S := fun _ => True)
    (fun i h h' o nw st e e' _ _ _ => by obtain ⟨o', q, r⟩ := st; rw [e] at q; cases q; exact ⟨o, e', r⟩) hcell hkind hx ⟨_, Heap.get?_push_size _ rfl, rfl, rfl⟩ (fun b' hb => ?_)
    (F.keeps fun _ _ e => Heap.get?_push_of_some _ e) (N.grown fun _ _ e => Heap.get?_push_of_some _ e) (Nat.ne_of_lt F.ns.lt) (next_is_new F) (fun p hp => Nat.ne_of_lt (Heap.lt_size (N p hp).1)) trivial (R _) ?_
  · rw [List.mem_singleton.mp hb]
    show s₁.heap.objs.size < (s₁.heap.push _).objs.size
    rw [Heap.size_push]; exact Nat.lt_succ_self _
  · intro D C h tk m' ys news' F' N' o1 hn hC₀ hD₀ hCL hDL hCD offC fin
    refine ⟨m', hn, fun h'' hs'' => fin D h'' tk (F'.change hs'' hCL hC₀) (fun p hp => ?_) o1⟩
    refine ⟨hs''.extBut _ _ ?_ (N' p hp).1, (N' p hp).2⟩
    rcases List.mem_cons.mp hp with rfl | hp
    · exact Ne.symm hCD
    · exact offC p hp
theorem bytes_src {elt : Expr} {x : Str} {scope : Scope} {cl : List (Str × Addr)} {Q : Value → Shared → Prop} {b : Array UInt8} {t : Tok} {ks : List Int} {news : List (Addr × Obj)} (g : Int → Int)
    (hh : A.handled = none) (F : Fr h₀ L s.heap m) (N : News h₀ L s.heap news) (hb : KBw.bInts b = ks) (hsz : ks.length ≤ 1000)
    (turn : ∀ (g₁ : Heap) k t I oI C oC D m₂ ys h tk (E' : Value → Shared → Prop), k ∈ ks → LCg.NsObj oC m₂ → m₂ x = some (.int k t) → Fr h₀ L h m → News h₀ L h ((I, oI) :: (C, oC) :: (D, LCg.lst ys) :: news) → LCg.Off3 I C D news → ((@Ne Nat I C) ∧ (@Ne Nat I D) ∧ (@Ne Nat C D)) → KPfMark →
      wpAny (model prog w) A (eval elt (compEnvC scope cl C env)) (LCg.CompEnd h₀ L m { s with heap := h, toks := tk } I oI C oC D (LCg.lst ys) (fun _ => True) (fun y news' => KCfEl news (g k) y news')) E' { s with heap := h, toks := tk })
    (fin : ∀ (g₁ : Heap) ys, IntsAre ys (ks.map g) → LCg.FinE h₀ L m { s with heap := g₁ } Q ys news) : BytesSrc prog w A h₀ L m env elt x scope cl Q (.bytes b t) s := by
  have hl : b.size = ks.length := by rw [← hb, KBw.ints_length]
  refine ⟨b, t, news, rfl, hh, F, N, by rw [hl, sizeLine_eq]; omega, fun g₁ => ?_⟩
  exact kcf_rest (ks := ks) g hl.symm (fun i v hi hv => by
    obtain ⟨c, u, hc, rfl⟩ := hv
    exact ⟨_, u, by rw [← hb]; exact KBw.ints_get hc, rfl⟩) (turn g₁) (fin g₁)
end

section
variable {prog : Program} {w : World} {A : Around} {E : Value → Shared → Prop} {R : Result → Shared → Prop} {h : Heap} {g : Array GenState} {d : Drawn} {t : Nat} {os : OsState}
variable {nm q : Str} {C N fI : Addr} {bs bm bmB : List Value} {hdct : Bool} {sn : List Str} {sub : List Value} {ab : Bool} {col : Option Bool} {dd : Option Addr} {k0 k1 k2 k3 k5 : Option Value} {newId initId : String} {K : Frag}

/-- the class C, an own one, stands under Exception, with own classes between or none -/
structure UnderExc (C : Addr) (bm : List Value) : Prop where
  yes : (Value.ref C :: bm).contains (.type "Exception") = true
  noA : (Value.ref C :: bm).contains (.type "AttributeError") = false
  noN : (Value.ref C :: bm).contains (.type "NameError") = false

theorem exc_check_new (F : ExcBaseFacts "Exception" newId initId bmB) (U : UnderExc C bm) {rest : List Value} {Q : Unit → Shared → Prop} (hC : h.get? C = some (excClassObj nm q C N bs bm hdct sn sub ab col dd k0 k1 k2 k3 k5 newId))
    (hq : Q () ⟨h, g, d, t, os⟩) : wpAny (model prog w) A (checkBuiltinCall newId ⟨.ref C :: rest, []⟩) Q E ⟨h, g, d, t, os⟩ := by
  have hy := U.yes
  have hstar := F.noStar
  simp only [checkBuiltinCall, F.newKind, F.newSplit, F.newRow]
  repeat (first | refine wpAny_loadPart_at hC ?_ | (refine wpAny_isSubtype_exc hC ?_; rw [hy]) | refine wpAny_staticBase_exc hC ?_ | refine wpAny_madeBy_exc hC ?_ | simp only [bne_self_eq_false, Bool.false_eq_true, if_false] | wp_step)
  exact hq

theorem exc_new (F : ExcBaseFacts "Exception" newId initId bmB) (U : UnderExc C bm) {rest : List Value} (hC : h.get? C = some (excClassObj nm q C N bs bm hdct sn sub ab col dd k0 k1 k2 k3 k5 newId))
    (hq : R (.ok (.ret (.ref (h.objs.size + 1)))) ⟨(h.push { cls := .type "tuple", data := .seq rest.toArray }).push { cls := .ref C, data := .fields #[.ref h.objs.size, .none, .none, .none, .bool false, .none] }, g, d, t, os⟩)
    (hrest : rest.length ≤ sizeLine) : codeAny (model prog w) A (.builtin newId ⟨.ref C :: rest, []⟩) R ⟨h, g, d, t, os⟩ := by
  have hends := F.ends
  have hy := U.yes
  have ha := U.noA
  have hn := U.noN
  refine codeAny_builtinAt F.entry ?_
  unfold Builtin.«BaseException.__new__»
  refine PySem.wpAt_bind ?_
  show PySem.wpAt _ _ _ (stack >>= _) _ _ _
  refine PySem.wpAt_bind (PySem.wpAt_stack fun p below => PySem.wpAt_of_wpAny ?_)
  wp_walk
  refine PySem.wpAt_of_wpAny ?_
  rw [F.owner]
  repeat (first | with_reducible refine wpAny_madeHere_exc F.canon hC ?_ | with_reducible refine wpAny_loadPart_at hC ?_ | (with_reducible refine wpAny_isSubtype_exc hC ?_; first | rw [hy] | rw [ha] | rw [hn]) | wp_step)
  show R _ _
  rw [Heap.size_push]
  exact hq

theorem exc_type_call (F : ExcBaseFacts "Exception" newId initId bmB) (U : UnderExc C bm) {rest : List Value} {Q : Fin → Shared → Prop}
    (hC : h.get? C = some (excClassObj nm q C N bs bm hdct sn sub ab col dd k0 k1 k2 k3 k5 newId)) (X : K.In h) (hi : findIn K (.ref C) "__init__" = some (some (.ref fI))) (hf : typeIn K (.ref fI) = some (.type "function")) (hrest : rest.length ≤ sizeLine)
    (hq : wpAny (model prog w) A (call (.ref fI) (.ref (h.objs.size + 1) :: rest)) (fun r s' => r = .none ∧ Q (.done (.ret (.ref (h.objs.size + 1)))) s') E
      ⟨(h.push { cls := .type "tuple", data := .seq rest.toArray }).push { cls := .ref C, data := .fields #[.ref h.objs.size, .none, .none, .none, .bool false, .none] }, g, d, t, os⟩) :
    wpAny (model prog w) A (Builtin.«type.__call__» ⟨.ref C :: rest, []⟩) Q E ⟨h, g, d, t, os⟩ := by
  repeat (first | with_reducible refine wpAny_loadPart_at hC ?_ | with_reducible refine wpAny_madeBy_exc hC ?_ | wp_step)
  refine codeAny_call_builtin_code (Code.quiet_builtin _ F.quiet) (exc_check_new F U hC (exc_new F U hC ?_ hrest))
  show wpAny _ _ _ _ _ _
  have up : ∀ b o, h.get? b = some o → ((h.push { cls := .type "tuple", data := .seq rest.toArray }).push { cls := .ref C, data := .fields #[.ref h.objs.size, .none, .none, .none, .bool false, .none] }).get? b = some o :=
    fun b o e => Heap.get?_push_of_some _ (Heap.get?_push_of_some _ e)
  have hC₁ := up _ _ hC
  have X₁ := X.keeps up
  have hget : ((h.push { cls := .type "tuple", data := .seq rest.toArray }).push
      { cls := .ref C, data := .fields #[.ref h.objs.size, .none, .none, .none, .bool false, .none] }).get? (h.objs.size + 1) = some
      { cls := .ref C, data := .fields #[.ref h.objs.size, .none, .none, .none, .bool false, .none] } := by heap_get
  have hcC : (Value.ref C :: bm).contains (.ref C) = true := by simp
  unfold isInstance
  repeat (first | with_reducible refine wpAny_loadPart_at hget ?_ | (with_reducible refine wpAny_isSubtype_exc hC₁ ?_; rw [hcC]) | wp_step)
  show wpAny _ _ (typeLookup (.ref C) _) _ _ _
  refine (looks_findIn X₁ hi).here ?_
  refine wpAny_holding (wpAny_bind ?_)
  unfold bindSpecial
  refine wpAny_bind ((looks_typeIn X₁ hf).here ?_)
  rw [if_pos (by decide)]
  refine wpAny_pure (wpAny_bind (wpAny_mono hq (fun r s' hr => ?_) fun _ _ x => x))
  obtain ⟨rfl, hQ⟩ := hr
  wp_walk
  exact hQ
theorem exc_call (F : ExcBaseFacts "Exception" newId initId bmB) (U : UnderExc C bm) {rest : List Value} {Q : Value → Shared → Prop}
    (hC : h.get? C = some (excClassObj nm q C N bs bm hdct sn sub ab col dd k0 k1 k2 k3 k5 newId)) (X : K.In h) (hi : findIn K (.ref C) "__init__" = some (some (.ref fI))) (hf : typeIn K (.ref fI) = some (.type "function")) (hrest : rest.length ≤ sizeLine)
    (hq : wpAny (model prog w) (A.under (.builtin "type.__call__" ⟨.ref C :: rest, []⟩)) (call (.ref fI) (.ref (h.objs.size + 1) :: rest)) (fun r s' => r = .none ∧ Q (.ref (h.objs.size + 1)) s') E
      ⟨(h.push { cls := .type "tuple", data := .seq rest.toArray }).push { cls := .ref C, data := .fields #[.ref h.objs.size, .none, .none, .none, .bool false, .none] }, g, d, t, os⟩) :
    wpAny (model prog w) A (call (.ref C) rest) Q E ⟨h, g, d, t, os⟩ := by
  have f1 := tc_lookup
  have f2 := tc_bind (.ref C)
  have hT : (⟨h, g, d, t, os⟩ : Shared).TypeIs (.ref C) "type" := ⟨_, hC, rfl⟩
  refine wpAny_call (codeAny_of_tree ?_)
  show wpAny _ _ (callAny (.ref C) _) _ _ _
  repeat (any_goals (first | assumption | with_reducible refine wpAny_loadPart_at hC ?_ | wp_step))
  refine ⟨rfl, ?_⟩
  exact codeAny_call_builtin_at (Code.quiet_builtin _ (by decide +kernel)) entry_typeCall (wpAny_check_type_call_sub hC (exc_type_call F U hC X hi hf hrest hq))
end

section
variable {prog : Program} {w : World} {A : Around} {E : Value → Shared → Prop} {s : Shared} {K : Frag} {h₀ : Heap} {L : Addr} {m : Str → Option Value} {news : List (Addr × Obj)}
variable {nm q : Str} {C N fI : Addr} {bs bm bmB : List Value} {hdct : Bool} {sn : List Str} {sub : List Value} {ab : Bool} {col : Option Bool} {dd : Option Addr} {k0 k1 k2 k3 k5 : Option Value} {newId initId : String}
abbrev excO (C : Addr) (d : Option Addr) (t : Addr) : Obj := { cls := .ref C, dict := d, data := .fields #[.ref t, .none, .none, .none, .bool false, .none] }
abbrev tupO (vs : List Value) : Obj := { cls := .type "tuple", data := .seq vs.toArray }
theorem exc_make {rest : List Value} {Q : Value → Shared → Prop} (F : Fr h₀ L s.heap m) (X₀ : K.In h₀) (Nw : News h₀ L s.heap news) (B : ExcBaseFacts "Exception" newId initId bmB) (U : UnderExc C bm)
    (ho : K.lookup C = some (excClassObj nm q C N bs bm hdct sn sub ab col dd k0 k1 k2 k3 k5 newId)) (hi : findIn K (.ref C) "__init__" = some (some (.ref fI))) (hf : typeIn K (.ref fI) = some (.type "function")) (hrest : rest.length ≤ 100)
    (h : ∀ e t h', Fr h₀ L h' m → News h₀ L h' ((e, excO C none t) :: (t, tupO rest) :: news) → (∀ p ∈ news, p.1 < t) → (@LT.lt Nat _ t e) →
      wpAny (model prog w) (A.under (.builtin "type.__call__" ⟨.ref C :: rest, []⟩)) (call (.ref fI) (.ref e :: rest)) (fun r s' => r = .none ∧ Q (.ref e) s') E { s with heap := h' }) :
    wpAny (model prog w) A (call (.ref C) rest) Q E s := by
  obtain ⟨hp, g, d, tk, os⟩ := s
  have N₁ := Nw.push F (tupO rest)
  have F₁ := F.push (tupO rest)
  have N₂ := N₁.push F₁ (excO C none hp.objs.size)
  have F₂ := F₁.push (excO C none hp.objs.size)
  have X := X₀.keeps F.keep
  rw [Heap.size_push] at N₂
  refine exc_call B U (X _ _ ho) X hi hf (by rw [sizeLine_eq]; omega) (h _ _ _ F₂ N₂ (fun p hp => Heap.lt_size (Nw p hp).1) (Nat.lt_succ_self _))
end

section
open Builtin Builtin.ObjectAttr
variable {prog : Program} {w : World} {A : Around} {E : Value → Shared → Prop} {s : Shared} {K : Frag} {h₀ : Heap} {L x C dx : Addr} {m : Str → Option Value} {news pre post : List (Addr × Obj)}
theorem store_dict {name : Str} {tk : Tok} {v : Value} {es es' : List DictEntry} {n n' : Nat} {Q : PySem.Fin → Shared → Prop} (F : Fr h₀ L s.heap m) (N : News h₀ L s.heap (pre ++ (dx, dictOf es n) :: post)) (h1 : ∀ p ∈ pre, p.1 ≠ dx) (h2 : ∀ p ∈ post, p.1 ≠ dx)
    (hl : (getL name es).isSome = true) (e : (putL name (PyData.keyHash w.params name) (.str name s.toks) v es, putN name es n) = (es', n')) (hz : es'.length ≤ 1000)
    (h : ∀ h', Fr h₀ L h' m → News h₀ L h' (pre ++ (dx, dictOf es' n') :: post) → Q (.done (.ret .none)) { s with heap := h', toks := s.toks + 1 }) :
    wpAny (model prog w) A (storeInDict dx (.str name tk) name v) Q E s := by
  obtain ⟨e1, e2⟩ := Prod.mk.inj e
  have ep : Obj.putName name (PyData.keyHash w.params name) (.str name s.toks) v (dictOf es n) = dictOf es' n' := by rw [putName_dict, e1, e2]
  obtain ⟨U1, U2⟩ := news_upd (f := Obj.putName name (PyData.keyHash w.params name) (.str name s.toks) v) F N h1 h2 ep rfl
  have D := (N (dx, dictOf es n) (by simp)).1
  have D' := (U2 (dx, dictOf es' n') (by simp)).1
  unfold storeInDict
  refine wpAny_bind (wpAny_pure (wpAny_bind ?_))
  unfold nsSet
  refine wpAny_bind (wpAny_bind (wpAny_askSetting (wpAny_pure (wpAny_bind (wpAny_mkText (wpAny_bind (wpAny_loadPart D ?_)))))))
  dsimp only
  have c : (!es.toArray.any (·.key.isStr name) && es.toArray.any (·.refKey)) = false := by
    unfold getL at hl
    rw [← Array.any_toList, ← Array.any_toList]
    split at hl
    · rename_i en he
      rw [List.any_eq_true.mpr ⟨en, List.mem_of_find?_eq_some he, List.find?_some he⟩]; rfl
    · split at hl
      · cases hl
      · rename_i z; rw [Bool.not_eq_true] at z; rw [z, Bool.and_false]
  rw [aRefKeyMayBeTheName_at, c]
  refine wpAny_updatePart D ?_
  refine wpAny_bind (wpAny_lookBehind D' (pastItsLine_dict (by rw [List.size_toArray, sizeLine_eq]; omega)) ?_)
  exact wpAny_pure (h _ U1 U2)

theorem exc_refuse (self : Value) (C₁ C₂ : Addr) : refuseLoop self "__setattr__" [.ref C₁, .ref C₂, .type "Exception", .type "BaseException", .type "object"] = pure () := by
  rw [refuseLoop_ref, refuseLoop_ref]
  kernel_rfl
theorem exc_osa {ox : Obj} {od : Option Obj} {name : Str} {v : Value} {cd : ClassData} {Q : Unit → Shared → Prop} (X : K.In s.heap) (I : InstAt s.heap x ox C od) (hc : clsIn K C = some cd) (ho : mroIn K C (.type "object") = some true)
    (hr : refuseLoop (.ref x) "__setattr__" cd.mro = pure ()) (hs : findIn K (.ref C) "__setattr__" = some (some (.builtin "object.__setattr__"))) (ha : findIn K (.ref C) name = some none)
    (h : wpAny (model prog w) A.in1 (storeInOwnDict (.ref x) (.ref C) (.str name s.toks) name v false) (fun fin s' => fin = .done (.ret .none) ∧ Q () s') E { s with toks := s.toks + 1 }) :
    wpAny (model prog w) A (setAttr (.ref x) name v) Q E s := by
  obtain ⟨hp, g, d, tk, os⟩ := s
  have SF := PySem.F.store_object
  replace X : K.In hp := X
  replace I : InstAt hp x ox C od := I
  refine set_plain X I hs ?_
  have sub : Looks (model prog w) hp (isInstance (.ref x) (.type "object")) true := I.type.andThen (looks_mroIn X ho)
  have hm : Looks (model prog w) hp (mroOf (.ref C)) cd.mro := (looks_clsIn X hc).andThen .now
  refine codeAny_call_builtin SF.slot.plain SF.entry (@check_slot (model prog w) _ _ ⟨hp, g, d, tk + 1, os⟩ "object.__setattr__" "object" "__setattr__" (.ref x) [.str name tk, v] [] _ SF.kind SF.split sub (SF.args (.ref x) (.str name tk) v) ?_)
  rw [osa_eq, refuse_eq]
  refine wpAny_bind (wpAny_bind (I.type.here (wpAny_bind (hm.here ?_))))
  rw [hr]
  refine wpAny_pure (wpAny_bind (I.type.here (wpAny_bind ((looks_findIn X ha).here (wpAny_bind (wpAny_pure ?_))))))
  refine wpAny_mono h (fun fin s' q => ?_) fun _ _ e => e
  obtain ⟨rfl, q⟩ := q
  exact q
/-- the first attribute of an own exception: its dict is made -/
theorem exc_set1 {t : Addr} {name : Str} {v : Value} {cd : ClassData} {Q : Unit → Shared → Prop} (F : Fr h₀ L s.heap m) (X₀ : K.In h₀) (N : News h₀ L s.heap ((x, excO C none t) :: post)) (h2 : ∀ p ∈ post, p.1 ≠ x)
    (hc : clsIn K C = some cd) (hd : cd.hasDict = true) (ho : mroIn K C (.type "object") = some true) (hr : refuseLoop (.ref x) "__setattr__" cd.mro = pure ()) (hs : findIn K (.ref C) "__setattr__" = some (some (.builtin "object.__setattr__"))) (ha : findIn K (.ref C) name = some none)
    (h : ∀ d es n h', Fr h₀ L h' m → News h₀ L h' ((d, dictOf es n) :: (x, excO C (some d) t) :: post) → (∀ p ∈ post, p.1 < d) → (@LT.lt Nat _ x d) → es = [⟨PyData.keyHash w.params name, .str name (s.toks + 1), v⟩] → Q () { s with heap := h', toks := s.toks + 2 }) :
    wpAny (model prog w) A (setAttr (.ref x) name v) Q E s := by
  obtain ⟨hp, g, dr, tk, os⟩ := s
  have X : K.In hp := X₀.keeps F.keep
  have hx : hp.get? x = _ := (N _ (.head _)).1
  have I : InstAt hp x (excO C none t) C none := ⟨hx, rfl, rfl, trivial⟩
  refine exc_osa X I hc ho hr hs ha ?_
  unfold storeInOwnDict
  refine wpAny_bind (wpAny_pure ?_)
  rw [if_neg (by simp)]
  refine wpAny_bind ?_
  show wpAny _ _ (instanceDict x true) _ _ _
  unfold instanceDict
  refine wpAny_bind (wpAny_loadPart hx ?_)
  refine wpAny_bind ((looks_clsIn X hc).here ?_)
  rw [hd]
  dsimp only
  refine wpAny_bind (wpAny_alloc ?_)
  have F₁ := F.push { cls := .type "dict", data := .dict #[] }
  have N₁ := N.push F { cls := .type "dict", data := .dict #[] }
  have lt : ∀ p ∈ (x, excO C none t) :: post, p.1 < hp.objs.size := fun p hp => Heap.lt_size (N p hp).1
  have hx₁ := (N₁ _ (.tail _ (.head _))).1
  refine wpAny_bind (wpAny_update hx₁ ?_)
  obtain ⟨U1, U2⟩ := news_upd (pre := [(hp.objs.size, { cls := .type "dict", data := .dict #[] })]) (f := fun o => { o with dict := some hp.objs.size }) (o' := excO C (some hp.objs.size) t) F₁ N₁
    (fun p hp => by rw [List.mem_singleton.mp hp]; exact Ne.symm (Nat.ne_of_lt (lt _ (.head _)))) h2 rfl rfl
  refine wpAny_pure ?_
  refine store_dict (pre := []) (es := []) (n := 0) U1 U2 (fun _ h => nomatch h) (fun p hp => ?_) rfl rfl (by simp [putL]) fun h' F' N' => ⟨rfl, h _ _ _ h' F' N' (fun p hp => lt _ (.tail _ hp)) (lt _ (.head _)) rfl⟩
  rcases List.mem_cons.mp hp with rfl | hp
  · exact Nat.ne_of_lt (lt (x, excO C none t) (.head _))
  · exact Nat.ne_of_lt (lt _ (.tail _ hp))
/-- a further attribute -/
theorem exc_set2 {d t : Addr} {name : Str} {v : Value} {cd : ClassData} {es es' : List DictEntry} {n n' : Nat} {Q : Unit → Shared → Prop} (F : Fr h₀ L s.heap m) (X₀ : K.In h₀) (N : News h₀ L s.heap ((d, dictOf es n) :: (x, excO C (some d) t) :: post)) (h2 : ∀ p ∈ post, p.1 ≠ d) (h3 : x ≠ d)
    (hc : clsIn K C = some cd) (hd : cd.hasDict = true) (ho : mroIn K C (.type "object") = some true) (hr : refuseLoop (.ref x) "__setattr__" cd.mro = pure ()) (hs : findIn K (.ref C) "__setattr__" = some (some (.builtin "object.__setattr__"))) (ha : findIn K (.ref C) name = some none)
    (hl : (getL name es).isSome = true) (e : (putL name (PyData.keyHash w.params name) (.str name (s.toks + 1)) v es, putN name es n) = (es', n')) (hz : es'.length ≤ 1000)
    (h : ∀ h', Fr h₀ L h' m → News h₀ L h' ((d, dictOf es' n') :: (x, excO C (some d) t) :: post) → Q () { s with heap := h', toks := s.toks + 2 }) :
    wpAny (model prog w) A (setAttr (.ref x) name v) Q E s := by
  obtain ⟨hp, g, dr, tk, os⟩ := s
  have X : K.In hp := X₀.keeps F.keep
  have hx : hp.get? x = _ := (N _ (.tail _ (.head _))).1
  have I : InstAt hp x (excO C (some d) t) C (some (dictOf es n)) := ⟨hx, rfl, rfl, (N _ (.head _)).1⟩
  refine exc_osa X I hc ho hr hs ha ?_
  unfold storeInOwnDict
  refine wpAny_bind (wpAny_pure ?_)
  rw [if_neg (by simp)]
  refine wpAny_bind ?_
  show wpAny _ _ (instanceDict x true) _ _ _
  unfold instanceDict
  refine wpAny_bind (wpAny_loadPart hx ?_)
  refine wpAny_bind ((looks_clsIn X hc).here ?_)
  rw [hd]
  refine wpAny_pure (a := some d) ?_
  refine store_dict (pre := []) (s := ⟨hp, g, dr, tk + 1, os⟩) F N (fun _ h => nomatch h) (fun p hp => ?_) hl e hz fun h' F' N' => ⟨rfl, h h' F' N'⟩
  rcases List.mem_cons.mp hp with rfl | hp
  · exact h3
  · exact h2 _ hp
/-- Exception.__init__(self, ..) on an own exception -/
theorem exc_init {t : Addr} {bm bmB : List Value} {newId initId : String} {rest : List Value} {Q : Value → Shared → Prop} {nm q : Str} {Nn : Addr} {bs : List Value} {hdct : Bool} {sn : List Str} {sub : List Value} {ab : Bool} {col : Option Bool} {dd : Option Addr} {k0 k1 k2 k3 k5 : Option Value}
    (F : Fr h₀ L s.heap m) (X₀ : K.In h₀) (N : News h₀ L s.heap ((x, excO C none t) :: post)) (h2 : ∀ p ∈ post, p.1 ≠ x) (B : ExcBaseFacts "Exception" newId initId bmB) (U : UnderExc C bm)
    (hC : K.lookup C = some (excClassObj nm q C Nn bs bm hdct sn sub ab col dd k0 k1 k2 k3 k5 newId)) (hrest : rest.length ≤ 100)
    (h : ∀ t' h', Fr h₀ L h' m → News h₀ L h' ((t', tupO rest) :: (x, excO C none t') :: post) → (∀ p ∈ post, p.1 < t') → (@LT.lt Nat _ x t') → Q .none { s with heap := h' }) :
    wpAny (model prog w) A (call (.builtin initId) (.ref x :: rest)) Q E s := by
  obtain ⟨hp, g, d, tk, os⟩ := s
  have X : K.In hp := X₀.keeps F.keep
  have hx : hp.get? x = _ := (N _ (.head _)).1
  have hC' := X _ _ hC
  have hcB := U.yes
  have hshort := B.noStar
  have check : ∀ {Q' : Unit → Shared → Prop} {E' : Value → Shared → Prop} {A' : Around}, Q' () ⟨hp, g, d, tk, os⟩ → wpAny (model prog w) A' (checkBuiltinCall initId ⟨.ref x :: rest, []⟩) Q' E' ⟨hp, g, d, tk, os⟩ := by
    intro Q' E' A' hq
    simp only [checkBuiltinCall, B.initKind, B.initSplit, B.initRow]
    repeat (first | with_reducible refine wpAny_loadPart_at hx ?_ | with_reducible refine wpAny_loadPart_at hC' ?_ | (with_reducible refine wpAny_isSubtype_exc hC' ?_; rw [hcB]) | wp_step)
    refine wpAny_onRaise ?_
    rw [show ∀ (a b : String) (n : Nat), Bind.check ⟨.positional, "*", "Exception", .self, [⟨"args", .varPos, false⟩]⟩ a b n (List.map (fun x => x.fst) ({ pos := Value.ref x :: rest } : Args).kw) = pure () from
      fun a b n => check_star_args _ _ _ _ _ _]
    exact wpAny_pure hq
  have F₁ := F.push (tupO rest)
  have N₁ := N.push F (tupO rest)
  have lt : ∀ p ∈ (x, excO C none t) :: post, p.1 < hp.objs.size := fun p q => Heap.lt_size (N p q).1
  obtain ⟨U1, U2⟩ := news_upd (pre := [(hp.objs.size, tupO rest)]) (f := Obj.mapFields (·.setIfInBounds 0 (.ref hp.objs.size))) (o' := excO C none hp.objs.size) F₁ N₁
    (fun p q => by rw [List.mem_singleton.mp q]; exact Ne.symm (Nat.ne_of_lt (lt _ (.head _)))) h2 rfl rfl
  refine wpAny_call (codeAny_call_builtin B.init.plain B.initEntry (check ?_))
  have hrest' : rest.length ≤ sizeLine := by rw [sizeLine_eq]; omega
  have hget := Heap.get?_push_of_some (tupO rest) hx
  wp_walk
  exact h _ _ U1 U2 (fun p q => lt _ (.tail _ q)) (lt _ (.head _))
end

section
variable {prog : Program} {w : World} {A : Around} {E : Value → Shared → Prop} {s : Shared} {K : Frag} {h₀ : Heap} {L x C d t t1 : Addr} {m : Str → Option Value} {news : List (Addr × Obj)}
theorem exc_meta : typeOf (.type "Exception") = pure (.type "type") := rfl
theorem news_swap {a b : Addr × Obj} {l : List (Addr × Obj)} {h : Heap} (N : News h₀ L h (a :: b :: l)) : News h₀ L h (b :: a :: l) := fun p hp => N p (by
  rcases List.mem_cons.mp hp with rfl | hp
  · exact .tail _ (.head _)
  · rcases List.mem_cons.mp hp with rfl | hp
    · exact .head _
    · exact .tail _ (.tail _ hp))
theorem news_drop2 {a b : Addr × Obj} {l : List (Addr × Obj)} {h : Heap} (N : News h₀ L h (a :: b :: l)) : News h₀ L h (a :: l) := fun p hp => N p (by
  rcases List.mem_cons.mp hp with rfl | hp
  · exact .head _
  · exact .tail _ (.tail _ hp))
/-- apart: the exception x, its args t, what is behind -/
def ExcOff (x t : Addr) (l : List (Addr × Obj)) : Prop := (@Ne Nat x t) ∧ ∀ p ∈ l, (@Ne Nat p.1 x) ∧ (@Ne Nat p.1 t)
def ExcOffD (d x t : Addr) (l : List (Addr × Obj)) : Prop := ExcOff x t l ∧ (@Ne Nat x d) ∧ (@Ne Nat t d) ∧ ∀ p ∈ l, (@Ne Nat p.1 d)
theorem excOff_made {x t : Addr} {l : List (Addr × Obj)} (l1 : ∀ p ∈ l, p.1 < t) (l2 : (@LT.lt Nat _ t x)) : ExcOff x t l := ⟨Ne.symm (Nat.ne_of_lt l2), fun p hp => ⟨Nat.ne_of_lt (Nat.lt_trans (l1 p hp) l2), Nat.ne_of_lt (l1 p hp)⟩⟩
theorem exc_initX {vs : List Value} {bm bmB : List Value} {newId initId : String} {rest : List Value} {Q : Value → Shared → Prop} {nm q : Str} {Nn : Addr} {bs : List Value} {hdct : Bool} {sn : List Str} {sub : List Value} {ab : Bool} {col : Option Bool} {dd : Option Addr} {k0 k1 k2 k3 k5 : Option Value}
    (F : Fr h₀ L s.heap m) (X₀ : K.In h₀) (N : News h₀ L s.heap ((x, excO C none t) :: (t, tupO vs) :: news)) (O : ExcOff x t news) (B : ExcBaseFacts "Exception" newId initId bmB) (U : UnderExc C bm)
    (hC : K.lookup C = some (excClassObj nm q C Nn bs bm hdct sn sub ab col dd k0 k1 k2 k3 k5 newId)) (hrest : rest.length ≤ 100)
    (h : ∀ t' h', Fr h₀ L h' m → News h₀ L h' ((x, excO C none t') :: (t', tupO rest) :: news) → ExcOff x t' news → Q .none { s with heap := h' }) :
    wpAny (model prog w) A (call (.builtin initId) (.ref x :: rest)) Q E s := by
  refine exc_init (post := (t, tupO vs) :: news) F X₀ N (fun p hp => ?_) B U hC hrest fun t' h' F' N' l1 l2 => h t' h' F' (fun p hp => N' p ?_) ⟨Nat.ne_of_lt l2, fun p hp => ⟨(O.2 p hp).1, Nat.ne_of_lt (l1 p (.tail _ hp))⟩⟩
  · rcases List.mem_cons.mp hp with rfl | hp
    · exact Ne.symm O.1
    · exact (O.2 p hp).1
  · rcases List.mem_cons.mp hp with rfl | hp
    · exact .tail _ (.head _)
    · rcases List.mem_cons.mp hp with rfl | hp
      · exact .head _
      · exact .tail _ (.tail _ (.tail _ hp))
theorem exc_set1X {vs : List Value} {name : Str} {v : Value} {cd : ClassData} {Q : Unit → Shared → Prop} (F : Fr h₀ L s.heap m) (X₀ : K.In h₀) (N : News h₀ L s.heap ((x, excO C none t) :: (t, tupO vs) :: news)) (O : ExcOff x t news)
    (hc : clsIn K C = some cd) (hd : cd.hasDict = true) (ho : mroIn K C (.type "object") = some true) (hr : refuseLoop (.ref x) "__setattr__" cd.mro = pure ()) (hs : findIn K (.ref C) "__setattr__" = some (some (.builtin "object.__setattr__"))) (ha : findIn K (.ref C) name = some none)
    (h : ∀ d n h' tk, Fr h₀ L h' m → News h₀ L h' ((d, dictOf [⟨PyData.keyHash w.params name, .str name tk, v⟩] n) :: (x, excO C (some d) t) :: (t, tupO vs) :: news) → ExcOffD d x t news → Q () { s with heap := h', toks := s.toks + 2 }) :
    wpAny (model prog w) A (setAttr (.ref x) name v) Q E s := by
  refine exc_set1 (post := (t, tupO vs) :: news) F X₀ N (fun p hp => ?_) hc hd ho hr hs ha fun d es n h' F' N' l1 l2 he => h d n h' (s.toks + 1) F' (he ▸ N') ⟨O, Nat.ne_of_lt l2, Nat.ne_of_lt (l1 (t, tupO vs) (.head _)), fun p hp => Nat.ne_of_lt (l1 p (.tail _ hp))⟩
  rcases List.mem_cons.mp hp with rfl | hp
  · exact Ne.symm O.1
  · exact (O.2 p hp).1
theorem exc_set2X {vs : List Value} {n : Nat} {name n1 : Str} {v v1 : Value} {hsh : Int} {tk1 : Tok} {cd : ClassData} {Q : Unit → Shared → Prop} (F : Fr h₀ L s.heap m) (X₀ : K.In h₀) (N : News h₀ L s.heap ((d, dictOf [⟨hsh, .str n1 tk1, v1⟩] n) :: (x, excO C (some d) t) :: (t, tupO vs) :: news)) (O : ExcOffD d x t news)
    (hc : clsIn K C = some cd) (hd : cd.hasDict = true) (ho : mroIn K C (.type "object") = some true) (hr : refuseLoop (.ref x) "__setattr__" cd.mro = pure ()) (hs : findIn K (.ref C) "__setattr__" = some (some (.builtin "object.__setattr__"))) (ha : findIn K (.ref C) name = some none)
    (h : ∀ h' es' n', Fr h₀ L h' m → News h₀ L h' ((d, dictOf es' n') :: (x, excO C (some d) t) :: (t, tupO vs) :: news) → Q () { s with heap := h', toks := s.toks + 2 }) :
    wpAny (model prog w) A (setAttr (.ref x) name v) Q E s := by
  refine exc_set2 (es' := putL name (PyData.keyHash w.params name) (.str name (s.toks + 1)) v [⟨hsh, .str n1 tk1, v1⟩]) (n' := putN name [⟨hsh, .str n1 tk1, v1⟩] n) (post := (t, tupO vs) :: news) F X₀ N (fun p hp => ?_) O.2.1 hc hd ho hr hs ha ?_ rfl ?_ fun h' F' N' => h h' _ _ F' N'
  · rcases List.mem_cons.mp hp with rfl | hp
    · exact O.2.2.1
    · exact O.2.2.2 p hp
  · simp only [getL, List.find?]
    split
    · rfl
    · simp [DictEntry.refKey]
  · simp only [putL]; split <;> simp
end
section
set_option maxRecDepth 100000 in
set_option maxHeartbeats 8000000 in
theorem c_layout (w : World) (x : Str) (tx : Tok) (news : List (Addr × Obj)) : Ctr2 w 76 news [.str x tx] 5
    (fun r tl => ∃ e t d, r = .ref e ∧ tl = [(e, excO 76 (some d) t), (t, tupO [.str x tx])] ∧ (@Ne Nat e t) ∧ ∀ p ∈ news, (@Ne Nat p.1 e) ∧ (@Ne Nat p.1 t)) := by
  k_with_none
  k_with "mine use" => (((case k1 => k_asm); (case k2 => k_asm); (case k3 => k_asm); (case k4 => k_asm); (case k5 => k_asm); (case kK => first | exact rfl | assumption); (case kd => ktr_room); (case ku => ktr_units)))
  k_with "mine enter" => ((refine' code_def ?k1 ?k2 ?k3 ?k4 ?k5 ?kA ?kF ?kK ?k6 ?k7 ?k8 ?k9 ?kB ?_ ?c2 ?c3 ?c4 ?c5; (case kA => exact rfl); (case kF => exact rfl); (case kK => first | exact rfl | assumption); (case k1 => k_asm); (case k2 => k_asm); (case k3 => k_asm); (case k4 => k_asm); (case k5 => k_asm); (case k6 => k_is); (case k7 => k_is); (case k8 => ktr_room); (case k9 => first | exact BindsTo.of_eq rfl | exact binds_K (by k_in) rfl (by k_is) rfl rfl rfl); (case c5 => decide); (case kB => exact locs rfl); (case c2 => exact rfl); (case c3 => exact rfl); (case c4 => exact rfl); k_whole; intro g' L' h' FG' F' N' B' X' T'; (try dsimp only); (try k_fold)))
  k_with "mine enterS" => ((refine' code_defS ?k1 ?k2 ?k3 ?k4 ?k5 ?XB ?TB ?D ?T0 ?kA ?k6 ?k7 ?k8 ?k9 ?kB ?_ ?cK ?c2 ?c3 ?c4 ?c5; (case kA => exact rfl); (case k2 => k_asm); (case k1 => k_asm); (case XB => assumption); (case TB => assumption); (case D => assumption); (case T0 => first | assumption | exact KtsTurn.refl); (case k3 => k_asm); (case k4 => k_asm); (case k5 => k_asm); (case k6 => k_is); (case k7 => k_is); (case k8 => ktr_room); (case k9 => exact BindsTo.of_eq rfl); (case kB => exact locs rfl); (case cK => first | exact rfl | assumption); (case c2 => exact rfl); (case c3 => exact rfl); (case c4 => exact rfl); (case c5 => decide); k_whole; intro g' L' h' FG' F' N' B' X' T' D'; (try dsimp only); (try k_fold)))
  k_with "call ref" => ((k_here; (with_reducible show wpAny _ _ (call (Value.ref 29) [_, _]) _ _ _); k_dflt (refine wpAny_call ?_; walk_at "mine enter")))
  k_with "getMethod type:Exception" => ((k_here; refine' method_type ?F ?X exc_meta (by decide +kernel) ?e ?h ?_; (case F => k_asm); (case X => k_asm); (case e => k_dflt k_is); (case h => k_handed)))
  k_with "call builtin:Exception.__init__" => ((k_here; k_dflt (refine' exc_initX ?F ?X ?N ?O PySem.F.excBase_Exception ⟨?u1, ?u2, ?u3⟩ ?hC ?hr ?_; (case F => k_asm); (case X => k_asm); (case N => k_asm); (case O => assumption); (case hC => k_is); (case u1 => decide +kernel); (case u2 => decide +kernel); (case u3 => decide +kernel); (case hr => exact Nat.le_of_ble_eq_true rfl); k_whole); intro t' h' F' N' O'))
  k_with "setAttr ref" => ((k_here; k_dflt (refine' exc_set1X ?F ?X ?N ?O ?hc ?hd ?ho ?hr ?hs ?ha ?_; (case F => k_asm); (case X => k_asm); (case N => k_asm); (case O => assumption); (case hc => k_is); (case hd => rfl); (case ho => k_is); (case hr => exact exc_refuse _ _ _); (case hs => k_is); (case ha => k_is); k_whole); intro d' n' h' tk' F' N' O'))
  k_with "setAttr ref" => ((k_here; k_dflt (refine' exc_set2X ?F ?X ?N ?O ?hc ?hd ?ho ?hr ?hs ?ha ?_; (case F => k_asm); (case X => k_asm); (case N => k_asm); (case O => assumption); (case hc => k_is); (case hd => rfl); (case ho => k_is); (case hr => exact exc_refuse _ _ _); (case hs => k_is); (case ha => k_is); k_whole); intro h' es' n' F' N'))
  unfold Ctr2
  k_fill
  intro mean mg mb dp un gd cn cs a ccd cl outer A₀ base h₀ L m s Q E B F X N T hk hd hu hret
  refine wpAny_noRaise ?_
  k_dflt (refine' exc_make F X N PySem.F.excBase_Exception ⟨?u1, ?u2, ?u3⟩ ?ho ?hi ?hf ?hr ?_; (case ho => k_is); (case hi => k_is); (case hf => k_is); (case u1 => decide +kernel); (case u2 => decide +kernel); (case u3 => decide +kernel); (case hr => exact Nat.le_of_ble_eq_true rfl))
  intro e t h' F' N' l1 l2
  have hO := excOff_made l1 l2
  k_steps
  rename News _ _ _ _ => n9
  rename ExcOffD _ _ _ _ => o9
  exact hret _ [_, _] _ _ (by assumption) (fun p hp => n9 p (.tail _ hp)) ⟨_, _, _, rfl, rfl, o9.1⟩
end

section
variable {M : Model} {A : Around} {E : Value → Shared → Prop} {s s' : Shared} {env : Env} {K : Frag} {h₀ base g : Heap} {outer : List Env} {L a e t C : Addr} {m : Str → Option Value} {name : Str} {scope : Scope} {cd : Value} {news : List (Addr × Obj)}
variable {nm q : Str} {N : Addr} {bs bm : List Value} {hdct : Bool} {sn : List Str} {sub : List Value} {ab : Bool} {col : Option Bool} {dd : Option Addr} {k0 k1 k2 k3 k5 : Option Value} {newId : String}
/-- what is raised: an own exception with its dict -/
def RaisX (C : Addr) (nm q : Str) (N : Addr) (bs bm : List Value) (hdct : Bool) (sn : List Str) (sub : List Value) (ab : Bool) (col : Option Bool) (dd : Option Addr) (k0 k1 k2 k3 k5 : Option Value) (newId : String) (E : Value → Shared → Prop) (v : Value) (s₁ : Shared) : Prop :=
  ∃ x t d, v = .ref x ∧ s₁.heap.get? C = some (excClassObj nm q C N bs bm hdct sn sub ab col dd k0 k1 k2 k3 k5 newId) ∧ s₁.heap.get? x = some (excO C d t) ∧ E (.ref x) s₁
theorem raise_X {x : Expr} {pos : Pos} {Q : Flow → Shared → Prop} (_X₀ : K.In h₀) (_hC : K.lookup C = some (excClassObj nm q C N bs bm hdct sn sub ab col dd k0 k1 k2 k3 k5 newId)) (hbase : bm.contains (.type "BaseException") = true) (hh : A.handled = none)
    (h : wpAny M A (eval x env) (RaisX C nm q N bs bm hdct sn sub ab col dd k0 k1 k2 k3 k5 newId E) E s) : wpAny M A (exec (.Raise (some x) none pos) env) Q E s := by
  have hcB : (Value.ref C :: bm).contains (.type "BaseException") = true := by rw [List.contains_cons, hbase, Bool.or_true]
  show wpAny M A (do standAt pos; raiseStmt env (some (do let v ← eval x env; standAt pos; pure v)) none) Q E s
  refine wpAny_bind (wpAny_standAt ?_)
  unfold raiseStmt
  refine wpAny_bind (wpAny_bind (wpAny_mono h (fun v s₁ h₁ => wpAny_bind (wpAny_standAt (wpAny_pure ?_))) fun _ _ x => x))
  obtain ⟨e, t, d, rfl, hC, he, hE⟩ := h₁
  obtain ⟨hp, g, d, tk, os⟩ := s₁
  repeat (first | with_reducible refine wpAny_loadPart_at he ?_ | with_reducible refine wpAny_loadPart_at hC ?_ | (with_reducible refine wpAny_isSubtype_exc hC ?_; rw [hcB]) | wp_step)
  exact wpAny_raiseNew_none hh hE
theorem raisX_end {d : Option Addr} {x : Addr} (F : Fr h₀ L s.heap m) (X₀ : K.In h₀) (hC : K.lookup C = some (excClassObj nm q C N bs bm hdct sn sub ab col dd k0 k1 k2 k3 k5 newId)) (hx : s.heap.get? x = some (excO C d t)) (h : E (.ref x) s) :
    RaisX C nm q N bs bm hdct sn sub ab col dd k0 k1 k2 k3 k5 newId E (.ref x) s := ⟨x, t, d, rfl, X₀.keeps F.keep _ _ hC, hx, h⟩

theorem leave_raiseX {d : Option Addr} {vs : List Value} {Q : Unit → Shared → Prop} (K : Below A base outer g) (F : Fr g L s'.heap m) (N : News g L s'.heap ((e, excO C d t) :: (t, tupO vs) :: news)) (O : ExcOff e t news)
    (hQ : ∀ h', RaisedS base g outer e (.ref C) t vs news h' → RaisedK base outer e (.ref C) t vs news h' → g.UpToSlots h' → Q () { s' with heap := h' }) (hk : scope.kind = .function := by rfl) :
    wpAny M (A.deeper (envOf name scope L a cd)) (leaving (envOf name scope L a cd) (.ref e)) Q E s' := by
  have K' := K.push (name := name) (a := a) (cd := cd) F hk
  obtain ⟨ne, nel, neg⟩ := N (e, excO C d t) (.head _)
  obtain ⟨nt, ntl, ntg⟩ := N (t, tupO vs) (.tail _ (.head _))
  let fs := e :: t :: (envOf name scope L a cd :: outer).filterMap (·.frame)
  have hin : ∀ env ∈ (envOf name scope L a cd :: outer), ∀ b, env.frame = some b → b ∈ fs := fun env he b hb => .tail _ (.tail _ (List.mem_filterMap.mpr ⟨env, he, hb⟩))
  have he : (hideAll s'.heap fs).get? e = none := hideAll_none _ (.head _)
  have ht : (hideAll s'.heap fs).get? t = none := hideAll_none _ (.tail _ (.head _))
  have kg : ∀ b o, g.get? b = some o → b ≠ e ∧ b ≠ t := fun b o q => ⟨fun z => (by rw [z, neg] at q; cases q), fun z => (by rw [z, ntg] at q; cases q)⟩
  have st : base.StaysIn (hideAll s'.heap fs) := fun b o q => hideAll_get _ (K'.stays b o q) fun hm => by
    have kb := kg b o (K.stays b o q)
    rcases List.mem_cons.mp hm with z | hm
    · exact kb.1 z
    · rcases List.mem_cons.mp hm with z | hm
      · exact kb.2 z
      · rw [(K'.frames.mem hm).1] at q; cases q
  have sg : ∀ b o, g.get? b = some o → b ∉ outer.filterMap (·.frame) → (hideAll s'.heap fs).get? b = some o := fun b o q nm => hideAll_get _ (F.keep b o q) fun hm => by
    have kb := kg b o q
    rcases List.mem_cons.mp hm with z | hm
    · exact kb.1 z
    · rcases List.mem_cons.mp hm with z | hm
      · exact kb.2 z
      · rcases kts_mem hm with z | z
        · rw [z, kts_self F] at q
          cases q
        · exact nm z
  have hl : ∀ q ∈ news, (hideAll s'.heap fs).get? q.1 = some q.2 ∧ g.get? q.1 = none ∧ base.get? q.1 = none := fun q hq => by
    have nq := N q (.tail _ (.tail _ hq))
    refine ⟨hideAll_get _ nq.1 fun hm => ?_, nq.2.2, fresh_of_stays K.stays nq.2.2⟩
    rcases List.mem_cons.mp hm with z | hm
    · exact (O.2 q hq).1 z
    · rcases List.mem_cons.mp hm with z | hm
      · exact (O.2 q hq).2 z
      · obtain ⟨env, he, hf⟩ := List.mem_filterMap.mp hm
        rcases List.mem_cons.mp he with rfl | he
        · exact nq.2.1 (Option.some.inj hf).symm
        · obtain ⟨o, ho, _⟩ := (K.frames.mem (List.mem_filterMap.mpr ⟨env, he, hf⟩)).2
          rw [nq.2.2] at ho; cases ho
  refine wpAny_leaving_firstW (a0 := .ref t) K'.stack (funFrames_hide (as := fs) K'.frames hin) rfl ne (fun b o q => of_hideAll _ q) he rfl rfl rfl fun h' hL => ?_
  obtain ⟨x1, ⟨_, _, x2⟩, x3, x4⟩ := hL
  have tup : h'.TupAt t vs := Heap.TupAt.of_slots ⟨_, _, nt, rfl, rfl⟩ x4
  have R : RaisedS base g outer e (.ref C) t vs news h' := ⟨⟨_, st, sg, hl, ⟨x1, he, x2, x3⟩, ht⟩, tup⟩
  exact hQ h' R R.toK ((Heap.UpToSlots.of_keeps F.keep).trans x4)
end

def NP (s : Bool) (x : Int) (pre : List Int) : Prop := pre.length = 0 ∨ ¬ inR s x pre.length
theorem np_start (s : Bool) (x : Int) : NP s x [] := .inl rfl
theorem np_fits {x k : Int} {s : Bool} (hk : 1 ≤ k) (most : Int) (hm : most = if s = true then ((128 : Int) ^ k.toNat).fdiv 2 else ((128 : Int) ^ k.toNat).fdiv 1) : inR s x k.toNat ↔ ((if s = true then 0 - most else 0) ≤ x ∧ x < most) := by
  subst hm
  obtain ⟨n, hn⟩ : ∃ n, k.toNat = n + 1 := ⟨k.toNat - 1, by omega⟩
  rw [hn]
  unfold inR
  cases s with
  | true =>
    simp only [if_true, Nat.add_sub_cancel]
    have e : ((128 : Int) ^ (n + 1)).fdiv 2 = 64 * 128 ^ n := by
      rw [Int.fdiv_eq_ediv_of_nonneg _ (by decide), p128s]
      omega
    rw [e]
    constructor <;> intro h <;> omega
  | false =>
    simp only [Bool.false_eq_true, if_false]
    have e : ((128 : Int) ^ (n + 1)).fdiv 1 = 128 ^ (n + 1) := by
      rw [Int.fdiv_eq_ediv_of_nonneg _ (by decide)]
      omega
    rw [e]
theorem np_len {k : Int} {pre : List Int} (hk : k = 1 + (pre.length : Int)) : (pre ++ [k]).length = k.toNat := by
  rw [List.length_append]; simp only [List.length_singleton]; omega
theorem npU_step {x k : Int} {pre : List Int} (hk : k = 1 + (pre.length : Int)) (h : ¬ (0 ≤ x ∧ x < ((128 : Int) ^ k.toNat).fdiv 1)) : NP false x (pre ++ [k]) := by
  refine .inr ?_
  rw [np_len hk, np_fits (by omega) _ (by rw [if_neg (by decide)])]
  simpa using h
theorem npS_step {x k : Int} {pre : List Int} (hk : k = 1 + (pre.length : Int)) (h : ¬ (0 - ((128 : Int) ^ k.toNat).fdiv 2 ≤ x ∧ x < ((128 : Int) ^ k.toNat).fdiv 2)) : NP true x (pre ++ [k]) := by
  refine .inr ?_
  rw [np_len hk, np_fits (by omega) _ (by rw [if_pos rfl])]
  simpa using h
theorem np_need {s : Bool} {x k : Int} {pre : List Int} (hk : k = 1 + (pre.length : Int)) (h : inR s x k.toNat) (hp : NP s x pre) : Need s x k.toNat := by
  refine ⟨by omega, h, ?_⟩
  rcases hp with hp | hp
  · exact .inl (by omega)
  · refine .inr ?_
    rw [show k.toNat - 1 = pre.length by omega]
    exact hp
theorem npU_end {x k : Int} {pre : List Int} (t : Tok) (hp : NP false x pre) (hk : k = 1 + (pre.length : Int)) (h : 0 ≤ x ∧ x < ((128 : Int) ^ k.toNat).fdiv 1) : ∃ t' n, Value.int k t = .int ((n : Nat) : Int) t' ∧ Need false x n :=
  ⟨t, k.toNat, by rw [show ((k.toNat : Nat) : Int) = k by omega], np_need hk ((np_fits (by omega) _ (by rw [if_neg (by decide)])).mpr (by simpa using h)) hp⟩
theorem npS_end {x k : Int} {pre : List Int} (t : Tok) (hp : NP true x pre) (hk : k = 1 + (pre.length : Int)) (h : 0 - ((128 : Int) ^ k.toNat).fdiv 2 ≤ x ∧ x < ((128 : Int) ^ k.toNat).fdiv 2) : ∃ t' n, Value.int k t = .int ((n : Nat) : Int) t' ∧ Need true x n :=
  ⟨t, k.toNat, by rw [show ((k.toNat : Nat) : Int) = k by omega], np_need hk ((np_fits (by omega) _ (by rw [if_pos rfl])).mpr (by simpa using h)) hp⟩
theorem np_out {s : Bool} {x : Int} (h1 : inR s x 10) (hp : NP s x (rangeKs 1 (12 - 1 : Int).toNat)) : False := by
  rcases hp with hp | hp
  · rw [rangeKs_length] at hp; simp at hp
  · rw [rangeKs_length] at hp
    exact hp (inR_mono (by decide) h1)
set_option maxRecDepth 100000 in
set_option maxHeartbeats 8000000 in
theorem c_needU (w : World) (x : Int) (tx : Tok) (news : List (Addr × Obj)) (h1 : inR false x 10) : Ctr w 172 news [.int x tx, .bool false] 3 (fun r _ => ∃ t n, r = .int ((n : Nat) : Int) t ∧ Need false x n) := by
  k_with_none
  k_with "mine use" => (((case k1 => k_asm); (case k2 => k_asm); (case k3 => k_asm); (case k4 => k_asm); (case k5 => k_asm); (case kK => first | exact rfl | assumption); (case kd => ktr_room); (case ku => ktr_units)))
  k_with "mine enter" => ((refine' code_def ?k1 ?k2 ?k3 ?k4 ?k5 ?kA ?kF ?kK ?k6 ?k7 ?k8 ?k9 ?kB ?_ ?c2 ?c3 ?c4 ?c5; (case kA => exact rfl); (case kF => exact rfl); (case kK => first | exact rfl | assumption); (case k1 => k_asm); (case k2 => k_asm); (case k3 => k_asm); (case k4 => k_asm); (case k5 => k_asm); (case k6 => k_is); (case k7 => k_is); (case k8 => ktr_room); (case k9 => first | exact BindsTo.of_eq rfl | exact binds_K (by k_in) rfl (by k_is) rfl rfl rfl); (case c5 => decide); (case kB => exact locs rfl); (case c2 => exact rfl); (case c3 => exact rfl); (case c4 => exact rfl); k_whole; intro g' L' h' FG' F' N' B' X' T'; (try dsimp only); (try k_fold)))
  k_with "mine enterS" => ((refine' code_defS ?k1 ?k2 ?k3 ?k4 ?k5 ?XB ?TB ?D ?T0 ?kA ?k6 ?k7 ?k8 ?k9 ?kB ?_ ?cK ?c2 ?c3 ?c4 ?c5; (case kA => exact rfl); (case k2 => k_asm); (case k1 => k_asm); (case XB => assumption); (case TB => assumption); (case D => assumption); (case T0 => first | assumption | exact KtsTurn.refl); (case k3 => k_asm); (case k4 => k_asm); (case k5 => k_asm); (case k6 => k_is); (case k7 => k_is); (case k8 => ktr_room); (case k9 => exact BindsTo.of_eq rfl); (case kB => exact locs rfl); (case cK => first | exact rfl | assumption); (case c2 => exact rfl); (case c3 => exact rfl); (case c4 => exact rfl); (case c5 => decide); k_whole; intro g' L' h' FG' F' N' B' X' T' D'; (try dsimp only); (try k_fold)))
  have hx : 0 ≤ x := h1.1
  unfold Ctr
  k_fill
  intro mean mg mb dp un gd cn cs a ccd cl outer A₀ base h₀ L m s Q E B F X N T hk hd hu hret
  refine wpAny_call ?_
  k_dflt ktr_enter
  refine wpAny_noRaise ?_
  k_with "state" => first | exact np_start _ _ | exact npU_step (by assumption) (by omega)
  k_with "pyIter ref" => k_search (fun pre => NP false x pre)
  k_steps
  · exact hret _ _ _ (by k_asm) (kst_newsOf (by assumption) (by kst_inAny)) (npU_end _ (by assumption) (by assumption) (by omega))
  · exact (np_out h1 (by assumption)).elim
set_option maxRecDepth 100000 in
set_option maxHeartbeats 8000000 in
theorem c_needS (w : World) (x : Int) (tx : Tok) (news : List (Addr × Obj)) (h1 : inR true x 10) : Ctr w 172 news [.int x tx, .bool true] 3 (fun r _ => ∃ t n, r = .int ((n : Nat) : Int) t ∧ Need true x n) := by
  k_with_none
  k_with "mine use" => (((case k1 => k_asm); (case k2 => k_asm); (case k3 => k_asm); (case k4 => k_asm); (case k5 => k_asm); (case kK => first | exact rfl | assumption); (case kd => ktr_room); (case ku => ktr_units)))
  k_with "mine enter" => ((refine' code_def ?k1 ?k2 ?k3 ?k4 ?k5 ?kA ?kF ?kK ?k6 ?k7 ?k8 ?k9 ?kB ?_ ?c2 ?c3 ?c4 ?c5; (case kA => exact rfl); (case kF => exact rfl); (case kK => first | exact rfl | assumption); (case k1 => k_asm); (case k2 => k_asm); (case k3 => k_asm); (case k4 => k_asm); (case k5 => k_asm); (case k6 => k_is); (case k7 => k_is); (case k8 => ktr_room); (case k9 => first | exact BindsTo.of_eq rfl | exact binds_K (by k_in) rfl (by k_is) rfl rfl rfl); (case c5 => decide); (case kB => exact locs rfl); (case c2 => exact rfl); (case c3 => exact rfl); (case c4 => exact rfl); k_whole; intro g' L' h' FG' F' N' B' X' T'; (try dsimp only); (try k_fold)))
  k_with "mine enterS" => ((refine' code_defS ?k1 ?k2 ?k3 ?k4 ?k5 ?XB ?TB ?D ?T0 ?kA ?k6 ?k7 ?k8 ?k9 ?kB ?_ ?cK ?c2 ?c3 ?c4 ?c5; (case kA => exact rfl); (case k2 => k_asm); (case k1 => k_asm); (case XB => assumption); (case TB => assumption); (case D => assumption); (case T0 => first | assumption | exact KtsTurn.refl); (case k3 => k_asm); (case k4 => k_asm); (case k5 => k_asm); (case k6 => k_is); (case k7 => k_is); (case k8 => ktr_room); (case k9 => exact BindsTo.of_eq rfl); (case kB => exact locs rfl); (case cK => first | exact rfl | assumption); (case c2 => exact rfl); (case c3 => exact rfl); (case c4 => exact rfl); (case c5 => decide); k_whole; intro g' L' h' FG' F' N' B' X' T' D'; (try dsimp only); (try k_fold)))
  unfold Ctr
  k_fill
  intro mean mg mb dp un gd cn cs a ccd cl outer A₀ base h₀ L m s Q E B F X N T hk hd hu hret
  refine wpAny_call ?_
  k_dflt ktr_enter
  refine wpAny_noRaise ?_
  k_with "state" => first | exact np_start _ _ | exact npS_step (by assumption) (by omega)
  k_with "pyIter ref" => k_search (fun pre => NP true x pre)
  k_steps
  · exact hret _ _ _ (by k_asm) (kst_newsOf (by assumption) (by kst_inAny)) (npS_end _ (by assumption) (by assumption) (by omega))
  · exact (np_out h1 (by assumption)).elim
theorem c_need (w : World) (x : Int) (tx : Tok) (b : Bool) (news : List (Addr × Obj)) (h1 : inR b x 10) : Ctr w 172 news [.int x tx, .bool b] 3 (fun r _ => ∃ t n, r = .int ((n : Nat) : Int) t ∧ Need b x n) := by
  cases b with
  | false => exact c_needU w x tx news h1
  | true => exact c_needS w x tx news h1

theorem p128_ne (k : Nat) : (128 : Int) ^ k ≠ 0 := Int.ne_of_gt (p128 k)
theorem p128_py {k : Int} (h : k ≤ 1000) : ((128 : Int) ^ k.toNat).natAbs.log2 < 9000 := by
  have e : ((128 : Int) ^ k.toNat).natAbs = 128 ^ k.toNat := by rw [← p128n]; exact Int.natAbs_natCast _
  rw [e]
  refine (Nat.log2_lt (Nat.ne_of_gt (Nat.pow_pos (by decide)))).mpr ?_
  have e2 : (128 : Nat) ^ k.toNat = 2 ^ (7 * k.toNat) := by rw [Nat.pow_mul]
  rw [e2]
  exact Nat.pow_lt_pow_right (by decide) (by omega)
def GInv (x n : Int) (pre found : List Int) : Prop := found = (List.range pre.length).map fun i => dig x i + if i + 1 < n.toNat then 128 else 0
theorem ginv_start (x n : Int) : GInv x n [] [] ∧ ([] : List Int).length = ([] : List Int).length := ⟨rfl, rfl⟩
theorem ginv_stepA {x n k : Int} {pre found : List Int} (hk : k = 0 + (pre.length : Int)) (h : GInv x n pre found) (c : k < n - 1) :
    GInv x n (pre ++ [k]) (found ++ [(x.fdiv (128 ^ k.toNat)).fmod 128 + 128]) ∧ (found ++ [(x.fdiv (128 ^ k.toNat)).fmod 128 + 128]).length = (pre ++ [k]).length := by
  unfold GInv at h ⊢
  subst h
  refine ⟨?_, by simp⟩
  rw [List.length_append, List.length_singleton, List.range_succ, List.map_append, List.map_singleton, if_pos (by omega), show k.toNat = pre.length by omega,
    Int.fdiv_eq_ediv_of_nonneg _ (Int.le_of_lt (p128 _)), Int.fmod_eq_emod_of_nonneg _ (by decide)]
  rfl
theorem ginv_stepB {x n k : Int} {pre found : List Int} (hk : k = 0 + (pre.length : Int)) (h : GInv x n pre found) (c : ¬ k < n - 1) :
    GInv x n (pre ++ [k]) (found ++ [(x.fdiv (128 ^ k.toNat)).fmod 128 + 0]) ∧ (found ++ [(x.fdiv (128 ^ k.toNat)).fmod 128 + 0]).length = (pre ++ [k]).length := by
  unfold GInv at h ⊢
  subst h
  refine ⟨?_, by simp⟩
  rw [List.length_append, List.length_singleton, List.range_succ, List.map_append, List.map_singleton, if_neg (by omega), show k.toNat = pre.length by omega,
    Int.fdiv_eq_ediv_of_nonneg _ (Int.le_of_lt (p128 _)), Int.fmod_eq_emod_of_nonneg _ (by decide)]
  rfl
theorem ginv_lay {x n : Int} {found : List Int} (h : GInv x n (rangeKs 0 (n - 0).toNat) found) : found = lay x n.toNat := by
  unfold GInv at h
  rw [rangeKs_length, show (n - 0).toNat = n.toNat by omega] at h
  exact h
theorem ginv_in {x n : Int} {found : List Int} (h : GInv x n (rangeKs 0 (n - 0).toNat) found) : KBa.In found := by rw [ginv_lay h]; exact lay_in x _
theorem ginv_len {x n : Int} {found : List Int} (h : GInv x n (rangeKs 0 (n - 0).toNat) found) (hn : n ≤ 16) : found.length ≤ 16777216 := by rw [ginv_lay h, lay_length]; omega
theorem ginv_end {x n : Int} {found : List Int} (t : Tok) (h : GInv x n (rangeKs 0 (n - 0).toNat) found) : ∃ b t', Value.bytes (byteArr found) t = .bytes b t' ∧ KBw.bInts b = lay x n.toNat :=
  ⟨_, t, rfl, by rw [KBa.ints_make (ginv_in h), ginv_lay h]⟩
section
set_option maxRecDepth 100000 in
set_option maxHeartbeats 8000000 in
theorem c_groups (w : World) (x n : Int) (tx tn : Tok) (news : List (Addr × Obj)) (hn : 0 ≤ n) (hn2 : n ≤ 16) : Ctr w 179 news [.int x tx, .int n tn] 3 (fun r _ => ∃ b t, r = .bytes b t ∧ KBw.bInts b = lay x n.toNat) := by
  k_with_none
  k_with "mine use" => (((case k1 => k_asm); (case k2 => k_asm); (case k3 => k_asm); (case k4 => k_asm); (case k5 => k_asm); (case kK => first | exact rfl | assumption); (case kd => ktr_room); (case ku => ktr_units)))
  k_with "mine enter" => ((refine' code_def ?k1 ?k2 ?k3 ?k4 ?k5 ?kA ?kF ?kK ?k6 ?k7 ?k8 ?k9 ?kB ?_ ?c2 ?c3 ?c4 ?c5; (case kA => exact rfl); (case kF => exact rfl); (case kK => first | exact rfl | assumption); (case k1 => k_asm); (case k2 => k_asm); (case k3 => k_asm); (case k4 => k_asm); (case k5 => k_asm); (case k6 => k_is); (case k7 => k_is); (case k8 => ktr_room); (case k9 => first | exact BindsTo.of_eq rfl | exact binds_K (by k_in) rfl (by k_is) rfl rfl rfl); (case c5 => decide); (case kB => exact locs rfl); (case c2 => exact rfl); (case c3 => exact rfl); (case c4 => exact rfl); k_whole; intro g' L' h' FG' F' N' B' X' T'; (try dsimp only); (try k_fold)))
  k_with "mine enterS" => ((refine' code_defS ?k1 ?k2 ?k3 ?k4 ?k5 ?XB ?TB ?D ?T0 ?kA ?k6 ?k7 ?k8 ?k9 ?kB ?_ ?cK ?c2 ?c3 ?c4 ?c5; (case kA => exact rfl); (case k2 => k_asm); (case k1 => k_asm); (case XB => assumption); (case TB => assumption); (case D => assumption); (case T0 => first | assumption | exact KtsTurn.refl); (case k3 => k_asm); (case k4 => k_asm); (case k5 => k_asm); (case k6 => k_is); (case k7 => k_is); (case k8 => ktr_room); (case k9 => exact BindsTo.of_eq rfl); (case kB => exact locs rfl); (case cK => first | exact rfl | assumption); (case c2 => exact rfl); (case c3 => exact rfl); (case c4 => exact rfl); (case c5 => decide); k_whole; intro g' L' h' FG' F' N' B' X' T' D'; (try dsimp only); (try k_fold)))
  k_with "binaryOp FloorDiv int int" => ((k_here; (with_reducible refine floordiv_int (p128_ne _) ?_ (Or.inl (PyProof.noPylong_of_log2 (p128_py ?kbp)))); (case kbp => omega)))
  k_with "call type:bytes" => ((k_here; (with_reducible show wpAny _ _ (call (Value.type "bytes") [Value.ref _]) _ _ _); k_dflt (refine' KBa.make_K ?kbaF ?kbaN ?kbah ?kbal ?kbai ?kbar ?kban ?_; (case kbaF => k_asm); (case kbaN => k_asm); (case kbah => rfl); (case kbal => kba_isList); (case kbai => kba_listInts); (case kbar => exact ginv_in (by assumption)); (case kban => exact ginv_len (by assumption) (by assumption))); intro _ _ _ F' N' kbaIn))
  unfold Ctr
  k_fill
  intro mean mg mb dp un gd cn cs a ccd cl outer A₀ base h₀ L m s Q E B F X N T hk hd hu hret
  refine wpAny_call ?_
  k_dflt ktr_enter
  refine wpAny_noRaise ?_
  k_with "state" => first | exact ginv_start _ _ | exact ginv_stepA (by assumption) (by assumption) (by assumption) | exact ginv_stepB (by assumption) (by assumption) (by assumption)
  k_with "pyIter ref" => k_state_given ["worth", "width"] (fun x n pre found => GInv x n pre found ∧ found.length = pre.length) "found"
  k_steps
  exact hret _ _ _ (by k_asm) (by first | k_asm | (refine kst_newsOf (by assumption) ?_; kst_inAny)) (ginv_end _ (by assumption))
end

/-- the octets of x, n of them, lie in ks from p on -/
def LaidAt (ks : List Int) (p : Int) (x : Int) (n : Nat) : Prop := ∃ pre post, ks = pre ++ lay x n ++ post ∧ (pre.length : Int) = p
def RInv (ks : List Int) (p x : Int) (n : Nat) (gs : List Int) (spot : Int) (over : Bool) : Prop :=
  (over = false ∧ gs.length < n ∧ spot = p + (gs.length : Int) ∧ 0 ≤ spot ∧ spot < (ks.length : Int) ∧ gs = digs x gs.length) ∨ (over = true ∧ gs = digs x n)
theorem laid_len {ks : List Int} {p x : Int} {n : Nat} (h : LaidAt ks p x n) : 0 ≤ p ∧ p + (n : Int) ≤ (ks.length : Int) := by
  obtain ⟨pre, post, rfl, e⟩ := h
  simp only [List.length_append, lay_length]
  omega
theorem laid_at {ks : List Int} {p x : Int} {n k : Nat} (h : LaidAt ks p x n) (hk : k < n) : ks.getD (p + (k : Int)).toNat 0 = dig x k + if k + 1 < n then 128 else 0 := by
  obtain ⟨pre, post, rfl, e⟩ := h
  have e1 : (p + (k : Int)).toNat = pre.length + k := by omega
  rw [e1, List.getD_eq_getElem?_getD, List.append_assoc, List.getElem?_append_right (by omega), Nat.add_sub_cancel_left, List.getElem?_append_left (by rw [lay_length]; exact hk)]
  unfold lay
  rw [List.getElem?_map, List.getElem?_range hk]
  rfl
theorem rinv_start {ks : List Int} {p x : Int} {n : Nat} (hn : 1 ≤ n) (h : LaidAt ks p x n) : RInv ks p x n [] p false := by
  have := laid_len h
  exact .inl ⟨rfl, hn, by simp, by omega, by omega, rfl⟩
theorem rinv_step {ks : List Int} {p x spot : Int} {n : Nat} {gs : List Int} (h : LaidAt ks p x n) (h1 : gs.length < n) (h2 : spot = p + (gs.length : Int)) (h3 : gs = digs x gs.length) :
    RInv ks p x n (gs ++ [Builtin.bitAnd (ks.getD spot.toNat 0) 127]) (spot + 1) (decide (ks.getD spot.toNat 0 < 128)) := by
  have hl := laid_len h
  have hv := laid_at h h1
  have hd := dig_in x gs.length
  have e : gs ++ [Builtin.bitAnd (ks.getD spot.toNat 0) 127] = digs x (gs.length + 1) := by
    rw [digs_succ, ← h3, bitAnd_m7, h2, hv]
    congr 2
    split <;> omega
  rw [e, h2, hv]
  by_cases q : gs.length + 1 < n
  · rw [if_pos q]
    refine .inl ⟨by simp; omega, by rw [digs_length]; exact q, by rw [digs_length]; omega, by omega, by omega, by rw [digs_length]⟩
  · rw [if_neg q]
    refine .inr ⟨by simp; omega, ?_⟩
    rw [show gs.length + 1 = n by omega]
theorem rinv_less {n : Nat} {gs : List Int} {g : Int} {b : Bool} (h1 : gs.length < n) : (if b = true then 0 else 1) + (n - (gs ++ [g]).length) < (if false = true then 0 else 1) + (n - gs.length) := by
  rw [List.length_append, List.length_singleton]
  cases b <;> simp <;> omega
set_option maxRecDepth 100000 in
set_option maxHeartbeats 8000000 in
theorem c_read (w : World) (b : Array UInt8) (tb : Tok) (p : Int) (tp : Tok) (news : List (Addr × Obj)) (ks : List Int) (x : Int) (n : Nat) (hb : KBw.bInts b = ks) (hl : LaidAt ks p x n) (hn1 : 1 ≤ n) (hn2 : n ≤ 10) (hks : ks.length ≤ 1000) :
    Ctr2 w 125 news [.bytes b tb, .int p tp] 3 (fun r tl => ∃ l vs nn, r = .ref l ∧ tl = [(l, listOf vs.toArray nn)] ∧ IntsAre vs (digs x n)) := by
  k_with_none
  k_with "mine use" => (((case k1 => k_asm); (case k2 => k_asm); (case k3 => k_asm); (case k4 => k_asm); (case k5 => k_asm); (case kK => first | exact rfl | assumption); (case kd => ktr_room); (case ku => ktr_units)))
  k_with "mine enter" => ((refine' code_def ?k1 ?k2 ?k3 ?k4 ?k5 ?kA ?kF ?kK ?k6 ?k7 ?k8 ?k9 ?kB ?_ ?c2 ?c3 ?c4 ?c5; (case kA => exact rfl); (case kF => exact rfl); (case kK => first | exact rfl | assumption); (case k1 => k_asm); (case k2 => k_asm); (case k3 => k_asm); (case k4 => k_asm); (case k5 => k_asm); (case k6 => k_is); (case k7 => k_is); (case k8 => ktr_room); (case k9 => first | exact BindsTo.of_eq rfl | exact binds_K (by k_in) rfl (by k_is) rfl rfl rfl); (case c5 => decide); (case kB => exact locs rfl); (case c2 => exact rfl); (case c3 => exact rfl); (case c4 => exact rfl); k_whole; intro g' L' h' FG' F' N' B' X' T'; (try dsimp only); (try k_fold)))
  k_with "mine enterS" => ((refine' code_defS ?k1 ?k2 ?k3 ?k4 ?k5 ?XB ?TB ?D ?T0 ?kA ?k6 ?k7 ?k8 ?k9 ?kB ?_ ?cK ?c2 ?c3 ?c4 ?c5; (case kA => exact rfl); (case k2 => k_asm); (case k1 => k_asm); (case XB => assumption); (case TB => assumption); (case D => assumption); (case T0 => first | assumption | exact KtsTurn.refl); (case k3 => k_asm); (case k4 => k_asm); (case k5 => k_asm); (case k6 => k_is); (case k7 => k_is); (case k8 => ktr_room); (case k9 => exact BindsTo.of_eq rfl); (case kB => exact locs rfl); (case cK => first | exact rfl | assumption); (case c2 => exact rfl); (case c3 => exact rfl); (case c4 => exact rfl); (case c5 => decide); k_whole; intro g' L' h' FG' F' N' B' X' T' D'; (try dsimp only); (try k_fold)))
  unfold Ctr2
  k_fill
  intro mean mg mb dp un gd cn cs a ccd cl outer A₀ base h₀ L m s Q E B F X N T hk hd hu hret
  refine wpAny_call ?_
  k_dflt ktr_enter
  refine wpAny_noRaise ?_
  k_with "state" => first | exact rinv_start hn1 hl | exact rinv_step hl (by assumption) (by assumption) (by assumption)
  k_with "measure" => exact rinv_less (by assumption)
  k_with "exec While UnaryOp cons nil" => (k_while (fun script gs spot over => RInv ks p x n gs spot over) (fun script gs spot over => (if over = true then 0 else 1) + (n - gs.length)) "groups" "spot" "is_over"); (rcases kInv with ⟨rfl, kI1, kI2, kI3, kI4, kI5⟩ | ⟨rfl, kI1⟩)
  k_steps
  · exfalso; omega
  · exact hret _ [_] _ _ (by k_asm) (by k_asm) ⟨_, _, _, rfl, rfl, by rw [← kI1]; assumption⟩

section
variable {prog : Program} {w : World} {A : Around} {E : Value → Shared → Prop} {s : Shared} {env : Env} {h₀ : Heap} {m : Str → Option Value} {news : List (Addr × Obj)} {xi xc t : Str} {body : List Stmt} {Q : Flow → Shared → Prop}
/-- a loop over enumerate of a made list of ints that turns one int name -/
theorem enum_acc {l : Addr} {vs : List Value} {gs : List Int} {nn : Nat} {stp : Int → Int → Nat → Int} {T₀ : Int} {t₀ : Tok} (hh : A.handled = none) (hm : (l, listOf vs.toArray nn) ∈ news) (hi : IntsAre vs gs)
    (F : Fr h₀ env.locals s.heap m) (N : News h₀ env.locals s.heap news) (hmt : m t = some (.int T₀ t₀)) (htc : t ≠ xc) (hti : t ≠ xi)
    (turn : ∀ (i : Nat) g ti tg T tT s₁ own, gs[i]? = some g → Fr h₀ env.locals s₁.heap (accMap (bindM m xi (some (.int i ti))) t xc (some (.int g tg)) (.int T tT)) → News h₀ env.locals s₁.heap (own ++ news) →
      wpAny (model prog w) A (execs body env) (AccStep h₀ env.locals own news ItemKind.int (bindM m xi (some (.int i ti))) t xc (.int g tg) (stp T g i) s₁) E s₁)
    (done : ∀ h' tk vi vl t', Fr h₀ env.locals h' (accMap (bindM m xi vi) t xc vl (.int (gs.zipIdx.foldl (fun T p => stp T p.1 p.2) T₀) t')) → News h₀ env.locals h' news → Q .next { s with heap := h', toks := tk }) :
    wpAny (model prog w) A (call (.type "enumerate") [.ref l]) (fun xv s₁ => wpAny (model prog w) A (pyIter xv) (fun it s₂ => PairAt3 prog w A h₀ env xi xc body Q E it s₂) E s₁) E s := by
  have hol : s.heap.get? l = some (listOf vs.toArray nn) := (N _ hm).1
  have hls : s.heap.IsList l vs.toArray := ⟨_, hol, rfl, nn, rfl⟩
  have hl2 : l < s.heap.objs.size := Heap.lt_size hol
  have hLs : env.locals < s.heap.objs.size := F.ns.lt
  have hab : h₀.objs.size ≤ env.locals := F.above
  have hlL : l ≠ env.locals := (N _ hm).2.1
  refine call_enumerate_list hls fun h' he hit hsz hk => ?_
  have F' : Fr h₀ env.locals h' m := ⟨F.ns.keeps hk, fun b o e => hk b o (F.keep b o e), F.above⟩
  have N' : News h₀ env.locals h' news := fun p hp => ⟨hk _ _ (N p hp).1, (N p hp).2⟩
  refine wpAny_pyIter_enum he ?_
  have D := Draws.list (prog := prog) (w := w) (A := A.in1) hh s.heap.objs.size l (Nat.ne_of_lt hl2) vs.toArray
  refine ⟨s.heap.objs.size + 1, _, _, vs.toArray.size, _, _, _, (fun i v0 v1 => ∃ ti, v0 = .int i ti ∧ vs[i]? = some v1), m, news,
    PairJ (fun mb => AccJ ItemKind.int mb news t xc gs.zipIdx (fun T p => stp T p.1 p.2) T₀) m xi, rfl, WalksT.enumerateD D (s.heap.objs.size + 1) (Nat.succ_ne_self _) ?_ (by simp), ?_, ?_, ?_, ?_,
    ⟨⟨_, by simpa using he⟩, hit, hls.at fun o e => hk l o e⟩, F', N', ⟨m xi, ?_⟩, ?_, ?_⟩
  · intro hb
    rcases List.mem_cons.mp hb with e | hb
    · exact Nat.succ_ne_self _ e
    · exact Nat.ne_of_gt (Nat.lt_succ_of_lt hl2) (List.mem_singleton.mp hb)
  · rintro i vals ⟨ti, x, hPx, rfl⟩
    exact ⟨_, _, rfl, ti, rfl, by simpa using hPx⟩
  · intro hb
    rcases List.mem_cons.mp hb with e | hb
    · exact Nat.ne_of_lt (Nat.lt_succ_of_lt hLs) e
    · rcases List.mem_cons.mp hb with e | hb
      · exact Nat.ne_of_lt hLs e
      · exact hlL (List.mem_singleton.mp hb).symm
  · intro b hb
    rcases List.mem_cons.mp hb with rfl | hb
    · exact Heap.get?_none_of_le (Nat.le_trans hab (Nat.le_of_lt (Nat.lt_succ_of_lt hLs)))
    · rw [List.mem_singleton.mp hb]
      exact Heap.get?_none_of_le (Nat.le_trans hab (Nat.le_of_lt hLs))
  · intro p hp hb
    have hp1 : p.1 < s.heap.objs.size := Heap.lt_size (N p hp).1
    rcases List.mem_cons.mp hb with e | hb
    · rw [e] at hp1; exact Nat.lt_irrefl _ (Nat.lt_of_succ_lt hp1)
    · rw [List.mem_singleton.mp hb] at hp1; exact Nat.lt_irrefl _ hp1
  · rw [← bindM_start m xi]; exact acc_zero hmt (ItemKind.int_mk _ _)
  · rintro i v0 v1 m₁ news₁ s₁ own hs₁ _ ⟨ti, rfl, hv⟩ hJ _ _ F₁ N₁
    obtain ⟨vi, vl, vT, rfl, hT, rfl⟩ := hJ
    rw [bind2_acc htc hti] at F₁
    obtain ⟨g, tg, rfl, hg⟩ := IntsAre.at hi i v1 hv
    obtain ⟨tT, rfl⟩ := ItemKind.int_is hT
    exact wpAny_mono (turn i g ti tg _ tT s₁ own hg F₁ N₁) (fun f s₂ h => LoopStep3.mono (fun _ _ hj => ⟨_, hj⟩) (LoopStep3.of2 (acc_step (stp := fun T p => stp T p.1 p.2) (zipIdx_get hg) h))) fun _ _ e => e
  · intro h'' tk m' news' F'' N'' _ hJ
    obtain ⟨vi, vl, vT, rfl, hT, rfl⟩ := hJ
    have hz : vs.toArray.size = gs.zipIdx.length := by rw [List.size_toArray, hi.length, List.length_zipIdx]
    rw [hz, List.take_length] at hT
    obtain ⟨tT, rfl⟩ := ItemKind.int_is hT
    exact done h'' tk vi vl tT F'' N''
end

def jstp (T g : Int) (i : Nat) : Int := Builtin.bitOr T (g * 2 ^ (7 * (i : Int)).toNat)
def joinI (gs : List Int) : Int := gs.zipIdx.foldl (fun T p => jstp T p.1 p.2) 0
theorem joined_bounds {gs : List Int} {i : Nat} {g : Int} (h : gs[i]? = some g) (h2 : gs.length ≤ 16) (h3 : ∀ g ∈ gs, 0 ≤ g ∧ g < 128) : (0 ≤ (i : Int)) ∧ ((i : Int) < 16) ∧ 0 ≤ g ∧ g < 128 := by
  obtain ⟨hi, e⟩ := List.getElem?_eq_some_iff.mp h
  have := h3 g (e ▸ List.getElem_mem hi)
  omega
section
set_option maxRecDepth 100000 in
set_option maxHeartbeats 8000000 in
theorem c_joined0 (w : World) (news : List (Addr × Obj)) (l : Addr) (vs : List Value) (gs : List Int) (nn : Nat) (hi : IntsAre vs gs) (h2 : gs.length ≤ 16) (h3 : ∀ g ∈ gs, 0 ≤ g ∧ g < 128) :
    Ctr w 132 ((l, listOf vs.toArray nn) :: news) [.ref l] 3 (fun r _ => ∃ t, r = .int (joinI gs) t) := by
  k_with_none
  k_with "mine use" => (((case k1 => k_asm); (case k2 => k_asm); (case k3 => k_asm); (case k4 => k_asm); (case k5 => k_asm); (case kK => first | exact rfl | assumption); (case kd => ktr_room); (case ku => ktr_units)))
  k_with "mine enter" => ((refine' code_def ?k1 ?k2 ?k3 ?k4 ?k5 ?kA ?kF ?kK ?k6 ?k7 ?k8 ?k9 ?kB ?_ ?c2 ?c3 ?c4 ?c5; (case kA => exact rfl); (case kF => exact rfl); (case kK => first | exact rfl | assumption); (case k1 => k_asm); (case k2 => k_asm); (case k3 => k_asm); (case k4 => k_asm); (case k5 => k_asm); (case k6 => k_is); (case k7 => k_is); (case k8 => ktr_room); (case k9 => first | exact BindsTo.of_eq rfl | exact binds_K (by k_in) rfl (by k_is) rfl rfl rfl); (case c5 => decide); (case kB => exact locs rfl); (case c2 => exact rfl); (case c3 => exact rfl); (case c4 => exact rfl); k_whole; intro g' L' h' FG' F' N' B' X' T'; (try dsimp only); (try k_fold)))
  k_with "mine enterS" => ((refine' code_defS ?k1 ?k2 ?k3 ?k4 ?k5 ?XB ?TB ?D ?T0 ?kA ?k6 ?k7 ?k8 ?k9 ?kB ?_ ?cK ?c2 ?c3 ?c4 ?c5; (case kA => exact rfl); (case k2 => k_asm); (case k1 => k_asm); (case XB => assumption); (case TB => assumption); (case D => assumption); (case T0 => first | assumption | exact KtsTurn.refl); (case k3 => k_asm); (case k4 => k_asm); (case k5 => k_asm); (case k6 => k_is); (case k7 => k_is); (case k8 => ktr_room); (case k9 => exact BindsTo.of_eq rfl); (case kB => exact locs rfl); (case cK => first | exact rfl | assumption); (case c2 => exact rfl); (case c3 => exact rfl); (case c4 => exact rfl); (case c5 => decide); k_whole; intro g' L' h' FG' F' N' B' X' T' D'; (try dsimp only); (try k_fold)))
  k_with "call type:enumerate" => ((k_here; (rename Fr _ _ _ _ => lF'); (rename News _ _ _ _ => lN'); (with_unfolding_all refine' enum_acc (t := Str.ofString "worth") (T₀ := 0) (stp := jstp) (by rfl) ?km ?ki lF' lN' ?kt (by decide) (by decide) ?turn ?done); (case km => k_mem); (case ki => assumption); (case kt => with_unfolding_all rfl); (case' turn => (intro i g ti tg T tT s₁ own hg F' N'; (have hj := joined_bounds hg (by assumption) (by assumption)); obtain ⟨hj1, hj2, hj3, hj4⟩ := hj)); (case' done => intro h' tk vi vl t' F' N'); all_goals (clear lF' lN'); all_goals (try dsimp only)))
  unfold Ctr
  k_fill
  intro mean mg mb dp un gd cn cs a ccd cl outer A₀ base h₀ L m s Q E B F X N T hk hd hu hret
  refine wpAny_call ?_
  k_dflt ktr_enter
  refine wpAny_noRaise ?_
  k_steps
  exact hret _ _ _ (by k_asm) (by k_asm) ⟨_, rfl⟩
end
theorem c_joined {w : World} {news : List (Addr × Obj)} {l : Addr} {vs : List Value} {gs : List Int} {nn : Nat} (hm : (l, listOf vs.toArray nn) ∈ news) (hi : IntsAre vs gs) (h2 : gs.length ≤ 16) (h3 : ∀ g ∈ gs, 0 ≤ g ∧ g < 128) :
    Ctr w 132 news [.ref l] 3 (fun r _ => ∃ t, r = .int (joinI gs) t) := ctr_mem hm (c_joined0 w news l vs gs nn hi h2 h3)

theorem or_pp {x y : Int} (hx : 0 ≤ x) (hy : 0 ≤ y) : Builtin.bitOr x y = ((x.toNat ||| y.toNat : Nat) : Int) := by
  have h1 : ¬ 0 ≤ Builtin.bitNot x := by unfold Builtin.bitNot; omega
  have h2 : ¬ 0 ≤ Builtin.bitNot y := by unfold Builtin.bitNot; omega
  have e : ∀ z, Builtin.bitNot (Builtin.bitNot z) = z := fun z => by unfold Builtin.bitNot; omega
  unfold Builtin.bitOr
  rw [bitAnd_nn h1 h2, e, e, e]
theorem or_shift {T g : Int} {m : Nat} (h0 : 0 ≤ T) (h1 : T < 2 ^ m) (hg : 0 ≤ g) : Builtin.bitOr T (g * 2 ^ m) = T + g * 2 ^ m := by
  obtain ⟨a, rfl⟩ := Int.eq_ofNat_of_zero_le h0
  obtain ⟨b, rfl⟩ := Int.eq_ofNat_of_zero_le hg
  have e : (b : Int) * 2 ^ m = ((2 ^ m * b : Nat) : Int) := by rw [Int.natCast_mul, Int.natCast_pow, Int.mul_comm]; rfl
  have h2 : a < 2 ^ m := by
    have : ((a : Nat) : Int) < ((2 ^ m : Nat) : Int) := by rw [Int.natCast_pow]; exact h1
    omega
  rw [e, or_pp (by omega) (by omega), Int.toNat_natCast, Int.toNat_natCast, Nat.or_comm, ← Nat.two_pow_add_eq_or_of_lt h2]
  omega
theorem two7 (i : Nat) : (2 : Int) ^ (7 * (i : Int)).toNat = 128 ^ i := by
  rw [show (7 * (i : Int)).toNat = 7 * i by omega, Int.pow_mul]
  rfl
theorem mod_next (x p : Int) (hp : 0 < p) : x % (p * 128) = x % p + x / p % 128 * p := by
  have h1 := Int.emod_nonneg x (Int.ne_of_gt hp)
  have h2 := Int.emod_lt_of_pos x hp
  have h3 := Int.emod_nonneg (x / p) (show (128 : Int) ≠ 0 by decide)
  have h4 := Int.emod_lt_of_pos (x / p) (show (0 : Int) < 128 by decide)
  have e1 := Int.mul_ediv_add_emod x p
  have e2 := Int.mul_ediv_add_emod (x / p) 128
  have e3 : x = (x % p + x / p % 128 * p) + p * 128 * (x / p / 128) := by
    have : p * (x / p) = p * (128 * (x / p / 128) + x / p % 128) := by rw [e2]
    rw [Int.mul_add, ← Int.mul_assoc] at this
    rw [Int.mul_comm (x / p % 128) p]
    omega
  have h5 : 0 ≤ x / p % 128 * p := Int.mul_nonneg h3 (by omega)
  have h6 : x / p % 128 * p ≤ 127 * p := Int.mul_le_mul_of_nonneg_right (by omega) (by omega)
  conv => lhs; rw [e3]
  rw [Int.add_mul_emod_self_left]
  exact Int.emod_eq_of_lt (by omega) (by omega)
theorem joinI_digs (x : Int) (n : Nat) : joinI (digs x n) = x % 128 ^ n := by
  induction n with
  | zero => show (0 : Int) = x % 1; omega
  | succ n ih =>
    have e : joinI (digs x (n + 1)) = jstp (joinI (digs x n)) (dig x n) n := by
      unfold joinI
      rw [digs_succ, List.zipIdx_append, List.foldl_append, digs_length, Nat.zero_add]
      rfl
    have hp := p128 n
    have hd := dig_in x n
    have h1 := Int.emod_nonneg x (Int.ne_of_gt hp)
    have h2 := Int.emod_lt_of_pos x hp
    rw [e, ih]
    unfold jstp
    rw [or_shift h1 (by rw [two7]; exact h2) hd.1, two7, p128s, mod_next x _ hp]
    rfl
/-- the sign of the groups' number -/
def sgn (v : Int) (n : Nat) : Int := if v < 64 * 128 ^ (n - 1) then v else v - 128 ^ n
theorem sgn_digs {x : Int} {n : Nat} (hn : 1 ≤ n) (h : inR true x n) : sgn (x % 128 ^ n) n = x := by
  unfold inR at h
  rw [if_pos rfl] at h
  have hh := half_le hn
  have hp := p128 (n - 1)
  have hq := p128 n
  unfold sgn
  rcases Int.lt_or_le x 0 with c | c
  · have e : x % 128 ^ n = x + 128 ^ n := by
      rw [← Int.add_emod_right]
      exact Int.emod_eq_of_lt (by omega) (by omega)
    rw [e, if_neg (by omega)]
    omega
  · have e : x % 128 ^ n = x := Int.emod_eq_of_lt c (by omega)
    rw [e, if_pos h.2]

theorem need_len {s : Bool} {x : Int} {n : Nat} (_h : Need s x n) : (lay x n).length = n := lay_length x n
theorem need_ten {s : Bool} {x : Int} {n : Nat} (h : Need s x n) (h1 : inR s x 10) : n ≤ 10 := need_le h h1 (by decide)
def LaidR (s : Bool) (x k : Int) (r : Value) : Prop := ∃ n, Need s x n ∧ ((k < (n : Int) ∧ r = .none) ∨ ((n : Int) ≤ k ∧ ∃ b t, r = .bytes b t ∧ KBw.bInts b = lay x k.toNat))
theorem laidR_none {s : Bool} {x k : Int} {n : Nat} (h : Need s x n) (hk : k < ((lay x n).length : Int)) : LaidR s x k .none := ⟨n, h, .inl ⟨by rw [lay_length] at hk; exact hk, rfl⟩⟩
theorem laidR_same {s : Bool} {x k : Int} {n : Nat} {b : Array UInt8} {t : Tok} (h : Need s x n) (hk : ((lay x n).length : Int) = k) (hb : KBw.bInts b = lay x n) : LaidR s x k (.bytes b t) := by
  rw [lay_length] at hk
  exact ⟨n, h, .inr ⟨by omega, b, t, rfl, by rw [hb]; congr 1; omega⟩⟩
theorem pad_in {x e k : Int} {n : Nat} (h1 : 1 ≤ n) (hk : (n : Int) < k) (he : ∀ i, n ≤ i → dig x i = e) :
    KBa.In ((lay x n).map (fun o => Builtin.bitOr o 128) ++ (List.replicate (k - ((lay x n).length : Int) - 1).toNat [Builtin.bitOr e 128]).flatten ++ [e]) := by rw [pad_lay h1 hk he]; exact lay_in x _
theorem pad_len {x e k : Int} {n : Nat} (h1 : 1 ≤ n) (hk : (n : Int) < k) (he : ∀ i, n ≤ i → dig x i = e) (hk2 : k ≤ 12) :
    ((lay x n).map (fun o => Builtin.bitOr o 128) ++ (List.replicate (k - ((lay x n).length : Int) - 1).toNat [Builtin.bitOr e 128]).flatten ++ [e]).length ≤ 16777216 := by rw [pad_lay h1 hk he, lay_length]; omega
theorem laidR_pad {s : Bool} {x e k : Int} {n : Nat} {t : Tok} (h : Need s x n) (hk : (n : Int) < k) (he : ∀ i, n ≤ i → dig x i = e) :
    LaidR s x k (.bytes (byteArr ((lay x n).map (fun o => Builtin.bitOr o 128) ++ (List.replicate (k - ((lay x n).length : Int) - 1).toNat [Builtin.bitOr e 128]).flatten ++ [e])) t) :=
  ⟨n, h, .inr ⟨by omega, _, _, rfl, by rw [KBa.ints_make (pad_in h.1 hk he), pad_lay h.1 hk he]⟩⟩
section
set_option maxRecDepth 100000 in
set_option maxHeartbeats 8000000 in
theorem c_laidU (w : World) (x k : Int) (tx tk : Tok) (news : List (Addr × Obj)) (h1 : inR false x 10) (hk0 : 0 ≤ k) (hk1 : k ≤ 12) : CtrS w 165 news [.int x tx, .bool false, .int k tk] 8
    (LaidR false x k) := by
  k_with_none
  k_with "mine use" => (((case k1 => k_asm); (case k2 => k_asm); (case k3 => k_asm); (case k4 => k_asm); (case k5 => k_asm); (case kK => first | exact rfl | assumption); (case kd => ktr_room); (case ku => ktr_units)))
  k_with "mine enter" => ((refine' code_def ?k1 ?k2 ?k3 ?k4 ?k5 ?kA ?kF ?kK ?k6 ?k7 ?k8 ?k9 ?kB ?_ ?c2 ?c3 ?c4 ?c5; (case kA => exact rfl); (case kF => exact rfl); (case kK => first | exact rfl | assumption); (case k1 => k_asm); (case k2 => k_asm); (case k3 => k_asm); (case k4 => k_asm); (case k5 => k_asm); (case k6 => k_is); (case k7 => k_is); (case k8 => ktr_room); (case k9 => first | exact BindsTo.of_eq rfl | exact binds_K (by k_in) rfl (by k_is) rfl rfl rfl); (case c5 => decide); (case kB => exact locs rfl); (case c2 => exact rfl); (case c3 => exact rfl); (case c4 => exact rfl); k_whole; intro g' L' h' FG' F' N' B' X' T'; (try dsimp only); (try k_fold)))
  k_with "mine enterS" => ((refine' code_defS ?k1 ?k2 ?k3 ?k4 ?k5 ?XB ?TB ?D ?T0 ?kA ?k6 ?k7 ?k8 ?k9 ?kB ?_ ?cK ?c2 ?c3 ?c4 ?c5; (case kA => exact rfl); (case k2 => k_asm); (case k1 => k_asm); (case XB => assumption); (case TB => assumption); (case D => assumption); (case T0 => first | assumption | exact KtsTurn.refl); (case k3 => k_asm); (case k4 => k_asm); (case k5 => k_asm); (case k6 => k_is); (case k7 => k_is); (case k8 => ktr_room); (case k9 => exact BindsTo.of_eq rfl); (case kB => exact locs rfl); (case cK => first | exact rfl | assumption); (case c2 => exact rfl); (case c3 => exact rfl); (case c4 => exact rfl); (case c5 => decide); k_whole; intro g' L' h' FG' F' N' B' X' T' D'; (try dsimp only); (try k_fold)))
  k_with "call ref" => ((k_here; (with_reducible show wpAny _ _ (call (Value.ref 111) [Value.int _ _]) _ _ _); k_dflt (refine' ctr_use (c_uleb _ _ _ _ ?a ?b) ?k1 ?k2 ?k3 ?k4 ?k5 ?kK ?kd ?ku ?_; walk_at "mine use"; (case a => exact And.left (by assumption)); (case b => assumption); k_whole); intro r9 h9 tk9 F9 N9 R9; obtain ⟨b9, t9, n9, e9, hn9, hb9⟩ := R9; subst e9; (have hl9 := need_len hn9); (have hm9 := need_ten hn9 (by assumption)); (have hp9 := hn9.1); (try dsimp only); (try k_fold)))
  k_with "call ref" => ((k_here; (with_reducible show wpAny _ _ (call (Value.ref 118) [Value.int _ _]) _ _ _); k_dflt (refine' ctr_use (c_sleb _ _ _ _ ?b) ?k1 ?k2 ?k3 ?k4 ?k5 ?kK ?kd ?ku ?_; walk_at "mine use"; (case b => assumption); k_whole); intro r9 h9 tk9 F9 N9 R9; obtain ⟨b9, t9, n9, e9, hn9, hb9⟩ := R9; subst e9; (have hl9 := need_len hn9); (have hm9 := need_ten hn9 (by assumption)); (have hp9 := hn9.1); (try dsimp only); (try k_fold)))
  k_with "call ref" => ((k_here; (with_reducible show wpAny _ _ (call (Value.ref 151) [_, _, _]) _ _ _); k_dflt (refine wpAny_call ?_; walk_at "mine enter")))
  k_with "eval ListComp" => ((k_here; k_dflt (refine comp_bytes (_F₀ := by k_asm) (by with_unfolding_all rfl) (by decide) (by rfl) (by decide) (by rfl) ?_)))
  k_with "BytesSrc" => ((k_here; k_dflt (refine bytes_src (fun o => Builtin.bitOr o 128) (by rfl) (by k_asm) (by k_asm) (by assumption) (by omega) (fun g' k' t' I' oI' C' oC' D' m' ys' h' tk' E' hk' hC' hx' F' N' off' ne' hMark' => ?_) (fun g' ys' hI8' => ?_))))
  k_with "mine hi" => (first | exact need_hi (by assumption) (by first | omega | exact And.left (by assumption)) | exact need_lo (by assumption) (by omega))
  k_with "call type:bytes" => ((k_here; (with_reducible show wpAny _ _ (call (Value.type "bytes") [Value.ref _]) _ _ _); k_dflt (refine' KBa.make_K ?kbaF ?kbaN ?kbah ?kbal ?kbai ?kbar ?kban ?_; (case kbaF => k_asm); (case kbaN => k_asm); (case kbah => rfl); (case kbal => kba_isList); (case kbai => kba_listInts); (case kbar => exact pad_in (by assumption) (by omega) (by walk_at "mine hi")); (case kban => exact pad_len (by assumption) (by omega) (by walk_at "mine hi") (by assumption))); intro _ _ _ F' N' kbaIn))
  k_with "exec Raise some none" => ((k_here; k_dflt (refine' raise_X (C := 76) ?X ?hC ?hb ?hh ?_; (case X => k_asm); (case hC => k_is); (case hb => decide +kernel); (case hh => first | rfl | assumption); k_whole)))
  k_with "call ref" => ((k_here; (with_reducible show wpAny _ _ (call (Value.ref 76) [Value.str _ _]) _ _ _); k_dflt (refine' ctr2_use (c_layout _ _ _ _) ?k1 ?k2 ?k3 ?k4 ?k5 ?kK ?kd ?ku ?_; walk_at "mine use"; k_whole); intro r9 tl9 h9 tk9 F9 N9 R9; obtain ⟨e9, t9, d9, z9, y9, O9⟩ := R9; subst z9 y9; k_dflt (refine' raisX_end F9 ?X ?hC (N9 _ (.head _)).1 ?_; (case X => k_asm); (case hC => k_is); k_whole); (try dsimp only); (try k_fold)))
  k_with "leaving ref" => ((k_here; (refine' leave_raiseX ?k1 ?k2 ?k3 ?k4 ?_; (case k1 => assumption); (case k2 => assumption); (case k3 => assumption); (case k4 => assumption); k_whole); intro h' S' R' U'; (try dsimp only at S' R' U' ⊢)))
  unfold CtrS
  k_fill
  intro mean mg mb dp un gd cn cs a ccd outer A₀ base h₀ L m s Q E B F X N T XB TB D hk hd hu hret
  refine wpAny_call ?_
  k_dflt (walk_at "mine enterS")
  k_steps
  · exact hret _ _ _ _ (by assumption) (by assumption) (by assumption) (by assumption) (by assumption) (by assumption) (by assumption) (laidR_none (by assumption) (by assumption))
  · exact hret _ h₀ _ _ KtsTurn.refl (by k_asm) (by k_asm) B X T D (laidR_same (by assumption) (by assumption) (by assumption))
  · exact hret _ h₀ _ _ KtsTurn.refl (by k_asm) (by first | k_asm | (refine kst_newsOf (by assumption) ?_; kst_inAny)) B X T D (laidR_pad (by assumption) (by omega) (by walk_at "mine hi"))
set_option maxRecDepth 100000 in
set_option maxHeartbeats 8000000 in
theorem c_laidS (w : World) (x k : Int) (tx tk : Tok) (news : List (Addr × Obj)) (h1 : inR true x 10) (hk0 : 0 ≤ k) (hk1 : k ≤ 12) : CtrS w 165 news [.int x tx, .bool true, .int k tk] 8
    (LaidR true x k) := by
  k_with_none
  k_with "mine use" => (((case k1 => k_asm); (case k2 => k_asm); (case k3 => k_asm); (case k4 => k_asm); (case k5 => k_asm); (case kK => first | exact rfl | assumption); (case kd => ktr_room); (case ku => ktr_units)))
  k_with "mine enter" => ((refine' code_def ?k1 ?k2 ?k3 ?k4 ?k5 ?kA ?kF ?kK ?k6 ?k7 ?k8 ?k9 ?kB ?_ ?c2 ?c3 ?c4 ?c5; (case kA => exact rfl); (case kF => exact rfl); (case kK => first | exact rfl | assumption); (case k1 => k_asm); (case k2 => k_asm); (case k3 => k_asm); (case k4 => k_asm); (case k5 => k_asm); (case k6 => k_is); (case k7 => k_is); (case k8 => ktr_room); (case k9 => first | exact BindsTo.of_eq rfl | exact binds_K (by k_in) rfl (by k_is) rfl rfl rfl); (case c5 => decide); (case kB => exact locs rfl); (case c2 => exact rfl); (case c3 => exact rfl); (case c4 => exact rfl); k_whole; intro g' L' h' FG' F' N' B' X' T'; (try dsimp only); (try k_fold)))
  k_with "mine enterS" => ((refine' code_defS ?k1 ?k2 ?k3 ?k4 ?k5 ?XB ?TB ?D ?T0 ?kA ?k6 ?k7 ?k8 ?k9 ?kB ?_ ?cK ?c2 ?c3 ?c4 ?c5; (case kA => exact rfl); (case k2 => k_asm); (case k1 => k_asm); (case XB => assumption); (case TB => assumption); (case D => assumption); (case T0 => first | assumption | exact KtsTurn.refl); (case k3 => k_asm); (case k4 => k_asm); (case k5 => k_asm); (case k6 => k_is); (case k7 => k_is); (case k8 => ktr_room); (case k9 => exact BindsTo.of_eq rfl); (case kB => exact locs rfl); (case cK => first | exact rfl | assumption); (case c2 => exact rfl); (case c3 => exact rfl); (case c4 => exact rfl); (case c5 => decide); k_whole; intro g' L' h' FG' F' N' B' X' T' D'; (try dsimp only); (try k_fold)))
  k_with "call ref" => ((k_here; (with_reducible show wpAny _ _ (call (Value.ref 111) [Value.int _ _]) _ _ _); k_dflt (refine' ctr_use (c_uleb _ _ _ _ ?a ?b) ?k1 ?k2 ?k3 ?k4 ?k5 ?kK ?kd ?ku ?_; walk_at "mine use"; (case a => exact And.left (by assumption)); (case b => assumption); k_whole); intro r9 h9 tk9 F9 N9 R9; obtain ⟨b9, t9, n9, e9, hn9, hb9⟩ := R9; subst e9; (have hl9 := need_len hn9); (have hm9 := need_ten hn9 (by assumption)); (have hp9 := hn9.1); (try dsimp only); (try k_fold)))
  k_with "call ref" => ((k_here; (with_reducible show wpAny _ _ (call (Value.ref 118) [Value.int _ _]) _ _ _); k_dflt (refine' ctr_use (c_sleb _ _ _ _ ?b) ?k1 ?k2 ?k3 ?k4 ?k5 ?kK ?kd ?ku ?_; walk_at "mine use"; (case b => assumption); k_whole); intro r9 h9 tk9 F9 N9 R9; obtain ⟨b9, t9, n9, e9, hn9, hb9⟩ := R9; subst e9; (have hl9 := need_len hn9); (have hm9 := need_ten hn9 (by assumption)); (have hp9 := hn9.1); (try dsimp only); (try k_fold)))
  k_with "call ref" => ((k_here; (with_reducible show wpAny _ _ (call (Value.ref 151) [_, _, _]) _ _ _); k_dflt (refine wpAny_call ?_; walk_at "mine enter")))
  k_with "eval ListComp" => ((k_here; k_dflt (refine comp_bytes (_F₀ := by k_asm) (by with_unfolding_all rfl) (by decide) (by rfl) (by decide) (by rfl) ?_)))
  k_with "BytesSrc" => ((k_here; k_dflt (refine bytes_src (fun o => Builtin.bitOr o 128) (by rfl) (by k_asm) (by k_asm) (by assumption) (by omega) (fun g' k' t' I' oI' C' oC' D' m' ys' h' tk' E' hk' hC' hx' F' N' off' ne' hMark' => ?_) (fun g' ys' hI8' => ?_))))
  k_with "mine hi" => (first | exact need_hi (by assumption) (by first | omega | exact And.left (by assumption)) | exact need_lo (by assumption) (by omega))
  k_with "call type:bytes" => ((k_here; (with_reducible show wpAny _ _ (call (Value.type "bytes") [Value.ref _]) _ _ _); k_dflt (refine' KBa.make_K ?kbaF ?kbaN ?kbah ?kbal ?kbai ?kbar ?kban ?_; (case kbaF => k_asm); (case kbaN => k_asm); (case kbah => rfl); (case kbal => kba_isList); (case kbai => kba_listInts); (case kbar => exact pad_in (by assumption) (by omega) (by walk_at "mine hi")); (case kban => exact pad_len (by assumption) (by omega) (by walk_at "mine hi") (by assumption))); intro _ _ _ F' N' kbaIn))
  k_with "exec Raise some none" => ((k_here; k_dflt (refine' raise_X (C := 76) ?X ?hC ?hb ?hh ?_; (case X => k_asm); (case hC => k_is); (case hb => decide +kernel); (case hh => first | rfl | assumption); k_whole)))
  k_with "call ref" => ((k_here; (with_reducible show wpAny _ _ (call (Value.ref 76) [Value.str _ _]) _ _ _); k_dflt (refine' ctr2_use (c_layout _ _ _ _) ?k1 ?k2 ?k3 ?k4 ?k5 ?kK ?kd ?ku ?_; walk_at "mine use"; k_whole); intro r9 tl9 h9 tk9 F9 N9 R9; obtain ⟨e9, t9, d9, z9, y9, O9⟩ := R9; subst z9 y9; k_dflt (refine' raisX_end F9 ?X ?hC (N9 _ (.head _)).1 ?_; (case X => k_asm); (case hC => k_is); k_whole); (try dsimp only); (try k_fold)))
  k_with "leaving ref" => ((k_here; (refine' leave_raiseX ?k1 ?k2 ?k3 ?k4 ?_; (case k1 => assumption); (case k2 => assumption); (case k3 => assumption); (case k4 => assumption); k_whole); intro h' S' R' U'; (try dsimp only at S' R' U' ⊢)))
  unfold CtrS
  k_fill
  intro mean mg mb dp un gd cn cs a ccd outer A₀ base h₀ L m s Q E B F X N T XB TB D hk hd hu hret
  refine wpAny_call ?_
  k_dflt (walk_at "mine enterS")
  k_steps
  · exact hret _ _ _ _ (by assumption) (by assumption) (by assumption) (by assumption) (by assumption) (by assumption) (by assumption) (laidR_none (by assumption) (by assumption))
  · exact hret _ h₀ _ _ KtsTurn.refl (by k_asm) (by k_asm) B X T D (laidR_same (by assumption) (by assumption) (by assumption))
  · exact hret _ h₀ _ _ KtsTurn.refl (by k_asm) (by first | k_asm | (refine kst_newsOf (by assumption) ?_; kst_inAny)) B X T D (laidR_pad (by assumption) (by omega) (by walk_at "mine hi"))
  · exact hret _ h₀ _ _ KtsTurn.refl (by k_asm) (by first | k_asm | (refine kst_newsOf (by assumption) ?_; kst_inAny)) B X T D (laidR_pad (by assumption) (by omega) (by walk_at "mine hi"))
end

theorem sg_pow {sz : Int} {n : Nat} (hs : sz = 7 * (n : Int)) : (2 : Int) ^ sz.toNat = 128 ^ n := by subst hs; exact two7 n
theorem sg_low {v sz : Int} {n : Nat} (hs : sz = 7 * (n : Int)) (h0 : 0 ≤ v) (h1 : v < 128 ^ n) : Builtin.bitAnd v (1 * 2 ^ sz.toNat - 1) = v := by
  rw [Int.one_mul, kbt_mask, sg_pow hs]
  exact Int.emod_eq_of_lt h0 h1
theorem sg_half {sz : Int} {n : Nat} (hn : 1 ≤ n) (hs : sz = 7 * (n : Int)) : (2 : Int) ^ (sz - 1).toNat = 64 * 128 ^ (n - 1) := by
  obtain ⟨k, rfl⟩ : ∃ k, n = k + 1 := ⟨n - 1, by omega⟩
  rw [show (sz - 1).toNat = 6 + 7 * k by omega, Nat.add_sub_cancel, Int.pow_add, Int.pow_mul]
  rfl
theorem sg_top {v sz : Int} {n : Nat} (hn : 1 ≤ n) (hs : sz = 7 * (n : Int)) (h0 : 0 ≤ v) (h1 : v < 128 ^ n) : v.fdiv (2 ^ (sz - 1).toNat) = 1 ↔ 64 * 128 ^ (n - 1) ≤ v := by
  have hp := p128 (n - 1)
  have hh := half_le hn
  rw [sg_half hn hs, Int.fdiv_eq_ediv_of_nonneg _ (by omega)]
  have a := Int.le_ediv_iff_mul_le (a := 1) (b := v) (c := 64 * 128 ^ (n - 1)) (by omega)
  have b := Int.ediv_lt_iff_lt_mul (a := v) (b := 2) (c := 64 * 128 ^ (n - 1)) (by omega)
  omega
theorem sg_yes {v sz : Int} {n : Nat} (t : Tok) (hn : 1 ≤ n) (hs : sz = 7 * (n : Int)) (h0 : 0 ≤ v) (h1 : v < 128 ^ n) (c : (Builtin.bitAnd v (1 * 2 ^ sz.toNat - 1)).fdiv (2 ^ (sz - 1).toNat) = 1) :
    ∃ t', Value.int (Builtin.bitAnd v (1 * 2 ^ sz.toNat - 1) - 1 * 2 ^ sz.toNat) t = .int (sgn v n) t' := by
  rw [sg_low hs h0 h1] at c ⊢
  rw [sg_top hn hs h0 h1] at c
  refine ⟨t, ?_⟩
  unfold sgn
  rw [if_neg (by omega), Int.one_mul, sg_pow hs]
theorem sg_no {v sz : Int} {n : Nat} (t : Tok) (hn : 1 ≤ n) (hs : sz = 7 * (n : Int)) (h0 : 0 ≤ v) (h1 : v < 128 ^ n) (c : (Builtin.bitAnd v (1 * 2 ^ sz.toNat - 1)).fdiv (2 ^ (sz - 1).toNat) ≠ 1) :
    ∃ t', Value.int (Builtin.bitAnd v (1 * 2 ^ sz.toNat - 1)) t = .int (sgn v n) t' := by
  rw [sg_low hs h0 h1] at c ⊢
  rw [Ne, sg_top hn hs h0 h1] at c
  refine ⟨t, ?_⟩
  unfold sgn
  rw [if_pos (by omega)]
section
set_option maxRecDepth 100000 in
set_option maxHeartbeats 8000000 in
theorem c_signed (w : World) (v sz : Int) (tv ts : Tok) (news : List (Addr × Obj)) (n : Nat) (hn : 1 ≤ n) (hn2 : n ≤ 10) (hs : sz = 7 * (n : Int)) (h0 : 0 ≤ v) (h1 : v < 128 ^ n) :
    Ctr w 99 news [.int v tv, .int sz ts] 5 (fun r _ => ∃ t, r = .int (sgn v n) t) := by
  k_with_none
  k_with "mine use" => (((case k1 => k_asm); (case k2 => k_asm); (case k3 => k_asm); (case k4 => k_asm); (case k5 => k_asm); (case kK => first | exact rfl | assumption); (case kd => ktr_room); (case ku => ktr_units)))
  k_with "mine enter" => ((refine' code_def ?k1 ?k2 ?k3 ?k4 ?k5 ?kA ?kF ?kK ?k6 ?k7 ?k8 ?k9 ?kB ?_ ?c2 ?c3 ?c4 ?c5; (case kA => exact rfl); (case kF => exact rfl); (case kK => first | exact rfl | assumption); (case k1 => k_asm); (case k2 => k_asm); (case k3 => k_asm); (case k4 => k_asm); (case k5 => k_asm); (case k6 => k_is); (case k7 => k_is); (case k8 => ktr_room); (case k9 => first | exact BindsTo.of_eq rfl | exact binds_K (by k_in) rfl (by k_is) rfl rfl rfl); (case c5 => decide); (case kB => exact locs rfl); (case c2 => exact rfl); (case c3 => exact rfl); (case c4 => exact rfl); k_whole; intro g' L' h' FG' F' N' B' X' T'; (try dsimp only); (try k_fold)))
  k_with "mine enterS" => ((refine' code_defS ?k1 ?k2 ?k3 ?k4 ?k5 ?XB ?TB ?D ?T0 ?kA ?k6 ?k7 ?k8 ?k9 ?kB ?_ ?cK ?c2 ?c3 ?c4 ?c5; (case kA => exact rfl); (case k2 => k_asm); (case k1 => k_asm); (case XB => assumption); (case TB => assumption); (case D => assumption); (case T0 => first | assumption | exact KtsTurn.refl); (case k3 => k_asm); (case k4 => k_asm); (case k5 => k_asm); (case k6 => k_is); (case k7 => k_is); (case k8 => ktr_room); (case k9 => exact BindsTo.of_eq rfl); (case kB => exact locs rfl); (case cK => first | exact rfl | assumption); (case c2 => exact rfl); (case c3 => exact rfl); (case c4 => exact rfl); (case c5 => decide); k_whole; intro g' L' h' FG' F' N' B' X' T' D'; (try dsimp only); (try k_fold)))
  k_with "call ref" => ((k_here; k_dflt (refine wpAny_call ?_; walk_at "mine enter")))
  unfold Ctr
  k_fill
  intro mean mg mb dp un gd cn cs a ccd cl outer A₀ base h₀ L m s Q E B F X N T hk hd hu hret
  refine wpAny_call ?_
  k_dflt ktr_enter
  refine wpAny_noRaise ?_
  k_steps
  · exact hret _ _ _ (by k_asm) (by k_asm) (sg_yes _ hn hs h0 h1 (by assumption))
  · exact hret _ _ _ (by k_asm) (by k_asm) (sg_no _ hn hs h0 h1 (by assumption))
end

theorem digs_len {vs : List Value} {x : Int} {n : Nat} (_h : IntsAre vs (digs x n)) : (digs x n).length = n := digs_length x n
theorem digs_le {x : Int} {n : Nat} (h : n ≤ 10) : (digs x n).length ≤ 16 := by rw [digs_length]; omega
theorem joinI_bounds (x : Int) (n : Nat) : 0 ≤ joinI (digs x n) ∧ joinI (digs x n) < 128 ^ n := by
  rw [joinI_digs]
  exact ⟨Int.emod_nonneg _ (Int.ne_of_gt (p128 n)), Int.emod_lt_of_pos _ (p128 n)⟩
abbrev pairO (x y : Int) (t u : Tok) : Obj := { cls := .type "tuple", data := .seq #[.int x t, .int y u] }
def ReadR (x q : Int) (r : Value) (tl : List (Addr × Obj)) : Prop := ∃ a t u, r = .ref a ∧ tl = [(a, pairO x q t u)]
theorem readU {x p : Int} {n : Nat} {a : Addr} {t u : Tok} (h : inR false x n) : ReadR x (p + n) (.ref a) [(a, pairO (joinI (digs x n)) (p + ((digs x n).length : Int)) t u)] := by
  refine ⟨a, t, u, rfl, ?_⟩
  rw [joinI_digs, digs_length, Int.emod_eq_of_lt h.1 h.2]
theorem readS {x p : Int} {n : Nat} {a : Addr} {t u : Tok} (hn : 1 ≤ n) (h : inR true x n) : ReadR x (p + n) (.ref a) [(a, pairO (sgn (joinI (digs x n)) n) (p + ((digs x n).length : Int)) t u)] := by
  refine ⟨a, t, u, rfl, ?_⟩
  rw [joinI_digs, digs_length, sgn_digs hn h]
section
set_option maxRecDepth 100000 in
set_option maxHeartbeats 8000000 in
theorem c_ruleb (w : World) (b : Array UInt8) (tb : Tok) (p : Int) (tp : Tok) (news : List (Addr × Obj)) (ks : List Int) (x : Int) (n : Nat) (hb : KBw.bInts b = ks) (hl : LaidAt ks p x n) (hn1 : 1 ≤ n) (hn2 : n ≤ 10) (hks : ks.length ≤ 1000) (hp : p ≤ 1) (hx : inR false x n) :
    Ctr2 w 139 news [.bytes b tb, .int p tp] 8 (ReadR x (p + n)) := by
  k_with_none
  k_with "mine use" => (((case k1 => k_asm); (case k2 => k_asm); (case k3 => k_asm); (case k4 => k_asm); (case k5 => k_asm); (case kK => first | exact rfl | assumption); (case kd => ktr_room); (case ku => ktr_units)))
  k_with "mine enter" => ((refine' code_def ?k1 ?k2 ?k3 ?k4 ?k5 ?kA ?kF ?kK ?k6 ?k7 ?k8 ?k9 ?kB ?_ ?c2 ?c3 ?c4 ?c5; (case kA => exact rfl); (case kF => exact rfl); (case kK => first | exact rfl | assumption); (case k1 => k_asm); (case k2 => k_asm); (case k3 => k_asm); (case k4 => k_asm); (case k5 => k_asm); (case k6 => k_is); (case k7 => k_is); (case k8 => ktr_room); (case k9 => first | exact BindsTo.of_eq rfl | exact binds_K (by k_in) rfl (by k_is) rfl rfl rfl); (case c5 => decide); (case kB => exact locs rfl); (case c2 => exact rfl); (case c3 => exact rfl); (case c4 => exact rfl); k_whole; intro g' L' h' FG' F' N' B' X' T'; (try dsimp only); (try k_fold)))
  k_with "mine enterS" => ((refine' code_defS ?k1 ?k2 ?k3 ?k4 ?k5 ?XB ?TB ?D ?T0 ?kA ?k6 ?k7 ?k8 ?k9 ?kB ?_ ?cK ?c2 ?c3 ?c4 ?c5; (case kA => exact rfl); (case k2 => k_asm); (case k1 => k_asm); (case XB => assumption); (case TB => assumption); (case D => assumption); (case T0 => first | assumption | exact KtsTurn.refl); (case k3 => k_asm); (case k4 => k_asm); (case k5 => k_asm); (case k6 => k_is); (case k7 => k_is); (case k8 => ktr_room); (case k9 => exact BindsTo.of_eq rfl); (case kB => exact locs rfl); (case cK => first | exact rfl | assumption); (case c2 => exact rfl); (case c3 => exact rfl); (case c4 => exact rfl); (case c5 => decide); k_whole; intro g' L' h' FG' F' N' B' X' T' D'; (try dsimp only); (try k_fold)))
  k_with "call ref" => ((k_here; (with_reducible show wpAny _ _ (call (Value.ref 99) [Value.int _ _, Value.int _ _]) _ _ _); k_dflt (refine' ctr_use (c_signed _ _ _ _ _ _ _ ?a ?b ?c (joinI_bounds _ _).1 (joinI_bounds _ _).2) ?k1 ?k2 ?k3 ?k4 ?k5 ?kK ?kd ?ku ?_; (case a => assumption); (case b => assumption); (case c => omega); walk_at "mine use"; k_whole); intro r9 h9 tk9 F9 N9 R9; obtain ⟨t9, z9⟩ := R9; subst z9; (try dsimp only); (try k_fold)))
  k_with "call ref" => ((k_here; (with_reducible show wpAny _ _ (call (Value.ref 125) [Value.bytes _ _, Value.int _ _]) _ _ _); k_dflt (refine' ctr2_use (c_read _ _ _ _ _ _ _ _ _ ?hb ?hl ?hn1 ?hn2 ?hks) ?k1 ?k2 ?k3 ?k4 ?k5 ?kK ?kd ?ku ?_; (case hb => assumption); (case hl => assumption); (case hn1 => assumption); (case hn2 => assumption); (case hks => assumption); walk_at "mine use"; k_whole); intro r9 tl9 h9 tk9 F9 N9 R9; obtain ⟨l9, vs9, nn9, z9, y9, i9⟩ := R9; subst z9 y9; (have hl9 := digs_len i9); (simp only [List.cons_append, List.nil_append] at N9); (try dsimp only); (try k_fold)))
  k_with "call ref" => ((k_here; (with_reducible show wpAny _ _ (call (Value.ref 132) [Value.ref _]) _ _ _); k_dflt (refine' ctr_use (c_joined ?m ?i ?a ?b) ?k1 ?k2 ?k3 ?k4 ?k5 ?kK ?kd ?ku ?_; walk_at "mine use"; (case m => k_mem); (case i => assumption); (case a => exact digs_le (by assumption)); (case b => exact digs_in _ _); k_whole); intro r9 h9 tk9 F9 N9 R9; obtain ⟨t9, z9⟩ := R9; subst z9; (try dsimp only); (try k_fold)))
  unfold Ctr2
  k_fill
  intro mean mg mb dp un gd cn cs a ccd cl outer A₀ base h₀ L m s Q E B F X N T hk hd hu hret
  refine wpAny_call ?_
  k_dflt ktr_enter
  refine wpAny_noRaise ?_
  k_steps
  rename News _ _ _ _ => n9
  exact hret _ [_] _ _ (by assumption) (fun p hp => n9 p (by rcases List.mem_cons.mp hp with rfl | hp; exact .head _; exact .tail _ (.tail _ hp))) (readU hx)
set_option maxRecDepth 100000 in
set_option maxHeartbeats 8000000 in
theorem c_rsleb (w : World) (b : Array UInt8) (tb : Tok) (p : Int) (tp : Tok) (news : List (Addr × Obj)) (ks : List Int) (x : Int) (n : Nat) (hb : KBw.bInts b = ks) (hl : LaidAt ks p x n) (hn1 : 1 ≤ n) (hn2 : n ≤ 10) (hks : ks.length ≤ 1000) (hp : p ≤ 1) (hx : inR true x n) :
    Ctr2 w 146 news [.bytes b tb, .int p tp] 8 (ReadR x (p + n)) := by
  k_with_none
  k_with "mine use" => (((case k1 => k_asm); (case k2 => k_asm); (case k3 => k_asm); (case k4 => k_asm); (case k5 => k_asm); (case kK => first | exact rfl | assumption); (case kd => ktr_room); (case ku => ktr_units)))
  k_with "mine enter" => ((refine' code_def ?k1 ?k2 ?k3 ?k4 ?k5 ?kA ?kF ?kK ?k6 ?k7 ?k8 ?k9 ?kB ?_ ?c2 ?c3 ?c4 ?c5; (case kA => exact rfl); (case kF => exact rfl); (case kK => first | exact rfl | assumption); (case k1 => k_asm); (case k2 => k_asm); (case k3 => k_asm); (case k4 => k_asm); (case k5 => k_asm); (case k6 => k_is); (case k7 => k_is); (case k8 => ktr_room); (case k9 => first | exact BindsTo.of_eq rfl | exact binds_K (by k_in) rfl (by k_is) rfl rfl rfl); (case c5 => decide); (case kB => exact locs rfl); (case c2 => exact rfl); (case c3 => exact rfl); (case c4 => exact rfl); k_whole; intro g' L' h' FG' F' N' B' X' T'; (try dsimp only); (try k_fold)))
  k_with "mine enterS" => ((refine' code_defS ?k1 ?k2 ?k3 ?k4 ?k5 ?XB ?TB ?D ?T0 ?kA ?k6 ?k7 ?k8 ?k9 ?kB ?_ ?cK ?c2 ?c3 ?c4 ?c5; (case kA => exact rfl); (case k2 => k_asm); (case k1 => k_asm); (case XB => assumption); (case TB => assumption); (case D => assumption); (case T0 => first | assumption | exact KtsTurn.refl); (case k3 => k_asm); (case k4 => k_asm); (case k5 => k_asm); (case k6 => k_is); (case k7 => k_is); (case k8 => ktr_room); (case k9 => exact BindsTo.of_eq rfl); (case kB => exact locs rfl); (case cK => first | exact rfl | assumption); (case c2 => exact rfl); (case c3 => exact rfl); (case c4 => exact rfl); (case c5 => decide); k_whole; intro g' L' h' FG' F' N' B' X' T' D'; (try dsimp only); (try k_fold)))
  k_with "call ref" => ((k_here; (with_reducible show wpAny _ _ (call (Value.ref 99) [Value.int _ _, Value.int _ _]) _ _ _); k_dflt (refine' ctr_use (c_signed _ _ _ _ _ _ _ ?a ?b ?c (joinI_bounds _ _).1 (joinI_bounds _ _).2) ?k1 ?k2 ?k3 ?k4 ?k5 ?kK ?kd ?ku ?_; (case a => assumption); (case b => assumption); (case c => omega); walk_at "mine use"; k_whole); intro r9 h9 tk9 F9 N9 R9; obtain ⟨t9, z9⟩ := R9; subst z9; (try dsimp only); (try k_fold)))
  k_with "call ref" => ((k_here; (with_reducible show wpAny _ _ (call (Value.ref 125) [Value.bytes _ _, Value.int _ _]) _ _ _); k_dflt (refine' ctr2_use (c_read _ _ _ _ _ _ _ _ _ ?hb ?hl ?hn1 ?hn2 ?hks) ?k1 ?k2 ?k3 ?k4 ?k5 ?kK ?kd ?ku ?_; (case hb => assumption); (case hl => assumption); (case hn1 => assumption); (case hn2 => assumption); (case hks => assumption); walk_at "mine use"; k_whole); intro r9 tl9 h9 tk9 F9 N9 R9; obtain ⟨l9, vs9, nn9, z9, y9, i9⟩ := R9; subst z9 y9; (have hl9 := digs_len i9); (simp only [List.cons_append, List.nil_append] at N9); (try dsimp only); (try k_fold)))
  k_with "call ref" => ((k_here; (with_reducible show wpAny _ _ (call (Value.ref 132) [Value.ref _]) _ _ _); k_dflt (refine' ctr_use (c_joined ?m ?i ?a ?b) ?k1 ?k2 ?k3 ?k4 ?k5 ?kK ?kd ?ku ?_; walk_at "mine use"; (case m => k_mem); (case i => assumption); (case a => exact digs_le (by assumption)); (case b => exact digs_in _ _); k_whole); intro r9 h9 tk9 F9 N9 R9; obtain ⟨t9, z9⟩ := R9; subst z9; (try dsimp only); (try k_fold)))
  unfold Ctr2
  k_fill
  intro mean mg mb dp un gd cn cs a ccd cl outer A₀ base h₀ L m s Q E B F X N T hk hd hu hret
  refine wpAny_call ?_
  k_dflt ktr_enter
  refine wpAny_noRaise ?_
  k_steps
  rename News _ _ _ _ => n9
  exact hret _ [_] _ _ (by assumption) (fun p hp => n9 p (by rcases List.mem_cons.mp hp with rfl | hp; exact .head _; exact .tail _ (.tail _ hp))) (readS hn1 hx)
end

theorem ctrS_use {w : World} {f : Addr} {news : List (Addr × Obj)} {vs : List Value} {dep : Nat} {R : Value → Prop} (C : CtrS w f news vs dep R)
    {mean : ExcName → Option Value} {mg mb : Str → Option Value} {dp un : Nat} {gd : Option (List Code)} {cn : Str} {cs : Scope} {a : Addr} {ccd : Value} {outer : List Env} {A₀ : Around} {base h₀ : Heap} {L : Addr} {m : Str → Option Value} {s : Shared} {Q E : Value → Shared → Prop}
    (B : Below A₀ base outer h₀) (F : Fr h₀ L s.heap m) (X : (Mine.hd.heap_39 w.params).In h₀) (N : News h₀ L s.heap news) (T : Top Mine.hd.view_39 (looseW Mine.hd.view_39 [Str.ofString "MintError"]) mean mg mb h₀)
    (XB : (Mine.hd.heap_39 w.params).In base) (TB : Top Mine.hd.view_39 (looseW Mine.hd.view_39 [Str.ofString "MintError"]) mean mg mb base) (D : KtsDicts (outer.filterMap (·.frame)) h₀) (hk : cs.kind = .function)
    (hd : dp + dep < recursionLimit) (hu : un + 8 * dep < cLine)
    (ret : ∀ (r : Value) (k₀ h' : Heap) (tk' : Nat), KtsTurn (outer.filterMap (·.frame)) h₀ k₀ → Fr k₀ L h' m → News k₀ L h' news → Below A₀ base outer k₀ → (Mine.hd.heap_39 w.params).In k₀ → Top Mine.hd.view_39 (looseW Mine.hd.view_39 [Str.ofString "MintError"]) mean mg mb k₀ → KtsDicts (outer.filterMap (·.frame)) k₀ →
      R r → Q r { s with heap := h', toks := tk' }) :
    wpAny (model PySem.Challenge.rw_nz0169_01.row.prog w) (ktrTop dp un gd cn cs L a ccd [] outer) (call (.ref f) vs) Q E s := C mean mg mb dp un gd cn cs a ccd outer A₀ base h₀ L m s Q E B F X N T XB TB D hk hd hu ret
theorem need_exists {s : Bool} {x : Int} : ∀ {m : Nat}, inR s x (m + 1) → ∃ n, Need s x n
  | 0, h => ⟨1, Nat.le_refl _, h, .inl rfl⟩
  | m + 1, h => by
    by_cases q : inR s x (m + 1)
    · exact need_exists q
    · exact ⟨m + 2, by omega, h, .inr q⟩
theorem laid_lt {s : Bool} {x k : Int} {r : Value} {n : Nat} (h : LaidR s x k r) (hn : Need s x n) (hk : k < n) : r = .none := by
  obtain ⟨n', h1, ⟨_, rfl⟩ | ⟨h2, _⟩⟩ := h
  · rfl
  · have := need_unique hn h1
    omega
theorem laid_ge {s : Bool} {x k : Int} {r : Value} {n : Nat} (h : LaidR s x k r) (hn : Need s x n) (hk : (n : Int) ≤ k) : ∃ b t, r = .bytes b t ∧ KBw.bInts b = lay x k.toNat := by
  obtain ⟨n', h1, ⟨h2, _⟩ | ⟨_, h2⟩⟩ := h
  · have := need_unique hn h1
    omega
  · exact h2
theorem laid_both {s : Bool} (w : World) (x k : Int) (tx tk : Tok) (news : List (Addr × Obj)) (h1 : inR s x 10) (hk0 : 0 ≤ k) (hk1 : k ≤ 12) : CtrS w 165 news [.int x tx, .bool s, .int k tk] 8 (LaidR s x k) := by
  cases s with
  | false => exact c_laidU w x k tx tk news h1 hk0 hk1
  | true => exact c_laidS w x k tx tk news h1 hk0 hk1
theorem bInts_inj {a b : Array UInt8} {l : List Int} (h1 : KBw.bInts a = l) (h2 : KBw.bInts b = l) : a.toList = b.toList := by
  have h : KBw.bInts a = KBw.bInts b := h1.trans h2.symm
  unfold KBw.bInts at h
  refine List.map_inj_right (fun x y e => ?_) |>.mp h
  have : x.toNat = y.toNat := by omega
  exact UInt8.toNat_inj.mp this
theorem ne_absurd {a b : Array UInt8} {l : List Int} (h : (a.toList != b.toList) = true) (h1 : KBw.bInts a = l) (h2 : KBw.bInts b = l) : False := by
  rw [bInts_inj h1 h2] at h
  simp at h
theorem inR_wide {s : Bool} {x k : Int} {n : Nat} (h : Need s x n) (hk : (n : Int) ≤ k) : inR s x k.toNat := inR_mono (show n ≤ k.toNat by omega) h.2.1
theorem c_rulebW {w : World} {b : Array UInt8} {tb tp : Tok} {news : List (Addr × Obj)} {l : List Int} {x k : Int} {n : Nat} (hb : KBw.bInts b = l ++ lay x k.toNat) (h1 : l.length = 1) (hn : Need false x n) (hk : (n : Int) ≤ k) (hk1 : k ≤ 10) :
    Ctr2 w 139 news [.bytes b tb, .int 1 tp] 8 (ReadR x (k + 1)) := by
  have q := hn.1
  have e : k + 1 = 1 + ((k.toNat : Nat) : Int) := by omega
  rw [e]
  exact c_ruleb w b tb 1 tp news _ x k.toNat hb ⟨l, [], by simp, by omega⟩ (by omega) (by omega) (by rw [List.length_append, lay_length]; omega) (by decide) (inR_wide hn hk)
theorem c_rslebW {w : World} {b : Array UInt8} {tb tp : Tok} {news : List (Addr × Obj)} {l : List Int} {x k : Int} {n : Nat} (hb : KBw.bInts b = lay x k.toNat ++ l) (h1 : l.length = 1) (hn : Need true x n) (hk : (n : Int) ≤ k) (hk1 : k ≤ 10) :
    Ctr2 w 146 news [.bytes b tb, .int 0 tp] 8 (ReadR x k) := by
  have q := hn.1
  have e : k = 0 + ((k.toNat : Nat) : Int) := by omega
  have c := c_rsleb w b tb 0 tp news _ x k.toNat hb ⟨[], l, by simp, rfl⟩ (by omega) (by omega) (by rw [List.length_append, lay_length]; omega) (by decide) (inR_wide hn hk)
  rwa [← e] at c
theorem c_needN {w : World} {x : Int} {tx : Tok} {b : Bool} {news : List (Addr × Obj)} {n : Nat} (hn : Need b x n) (h1 : inR b x 10) : Ctr w 172 news [.int x tx, .bool b] 3 (fun r _ => ∃ t, r = .int ((n : Nat) : Int) t) := by
  intro mean mg mb dp un gd cn cs a ccd cl outer A₀ base h₀ L m s Q E B F X N T hk hd hu hret
  refine c_need w x tx b news h1 mean mg mb dp un gd cn cs a ccd cl outer A₀ base h₀ L m s Q E B F X N T hk hd hu fun r h' tk' F' N' R => hret r h' tk' F' N' ?_
  obtain ⟨t, n', rfl, h⟩ := R
  exact ⟨t, by rw [need_unique hn h]⟩
section
set_option maxRecDepth 100000 in
set_option maxHeartbeats 8000000 in
theorem c_rightU1 (w : World) (x k : Int) (tx tk : Tok) (news : List (Addr × Obj)) (n : Nat) (hn : Need false x n) (h1 : inR false x 10) (hk0 : 0 ≤ k) (hk1 : k ≤ 10) (hk : k < (n : Int)) : CtrS w 186 news [.int x tx, .bool false, .int k tk] 10 (fun r => r = .bool true) := by
  k_with_none
  k_with "mine use" => (((case k1 => k_asm); (case k2 => k_asm); (case k3 => k_asm); (case k4 => k_asm); (case k5 => k_asm); (case kK => first | exact rfl | assumption); (case kd => ktr_room); (case ku => ktr_units)))
  k_with "mine enter" => ((refine' code_def ?k1 ?k2 ?k3 ?k4 ?k5 ?kA ?kF ?kK ?k6 ?k7 ?k8 ?k9 ?kB ?_ ?c2 ?c3 ?c4 ?c5; (case kA => exact rfl); (case kF => exact rfl); (case kK => first | exact rfl | assumption); (case k1 => k_asm); (case k2 => k_asm); (case k3 => k_asm); (case k4 => k_asm); (case k5 => k_asm); (case k6 => k_is); (case k7 => k_is); (case k8 => ktr_room); (case k9 => first | exact BindsTo.of_eq rfl | exact binds_K (by k_in) rfl (by k_is) rfl rfl rfl); (case c5 => decide); (case kB => exact locs rfl); (case c2 => exact rfl); (case c3 => exact rfl); (case c4 => exact rfl); k_whole; intro g' L' h' FG' F' N' B' X' T'; (try dsimp only); (try k_fold)))
  k_with "mine enterS" => ((refine' code_defS ?k1 ?k2 ?k3 ?k4 ?k5 ?XB ?TB ?D ?T0 ?kA ?k6 ?k7 ?k8 ?k9 ?kB ?_ ?cK ?c2 ?c3 ?c4 ?c5; (case kA => exact rfl); (case k2 => k_asm); (case k1 => k_asm); (case XB => assumption); (case TB => assumption); (case D => assumption); (case T0 => first | assumption | exact KtsTurn.refl); (case k3 => k_asm); (case k4 => k_asm); (case k5 => k_asm); (case k6 => k_is); (case k7 => k_is); (case k8 => ktr_room); (case k9 => exact BindsTo.of_eq rfl); (case kB => exact locs rfl); (case cK => first | exact rfl | assumption); (case c2 => exact rfl); (case c3 => exact rfl); (case c4 => exact rfl); (case c5 => decide); k_whole; intro g' L' h' FG' F' N' B' X' T' D'; (try dsimp only); (try k_fold)))
  k_with "call ref" => ((k_here; (with_reducible show wpAny _ _ (call (Value.ref 172) [_, _]) _ _ _); k_dflt (refine' ctr_use (c_needN ?a ?b) ?k1 ?k2 ?k3 ?k4 ?k5 ?kK ?kd ?ku ?_; (case a => assumption); (case b => assumption); walk_at "mine use"; k_whole); intro r9 h9 tk9 F9 N9 R9; obtain ⟨t9, z9⟩ := R9; subst z9; (try dsimp only); (try k_fold)))
  k_with "call ref" => ((k_here; (with_reducible show wpAny _ _ (call (Value.ref 165) [_, _, _]) _ _ _); k_dflt (refine' ctrS_use (laid_both _ _ _ _ _ _ ?a ?b ?c) ?k1 ?k2 ?k3 ?k4 ?k5 ?k6 ?k7 ?k8 ?kK ?kd ?ku ?_; (case a => assumption); (case b => assumption); (case c => omega); walk_at "mine use"; (case k6 => assumption); (case k7 => assumption); (case k8 => assumption); k_whole); intro r9 k9 h9 tk9 T' F' N' K' X' P' D' R9; (first | (have z9 := laid_lt R9 (by assumption) (by assumption); subst z9) | (obtain ⟨b9, t9, z9, y9⟩ := laid_ge R9 (by assumption) (by assumption); subst z9)); (try dsimp only); (try k_lift K'); (try k_sweep); (try k_fold)))
  k_with "call ref" => ((k_here; (with_reducible show wpAny _ _ (call (Value.ref 179) [Value.int _ _, Value.int _ _]) _ _ _); k_dflt (refine' ctr_use (c_groups _ _ _ _ _ _ ?a ?b) ?k1 ?k2 ?k3 ?k4 ?k5 ?kK ?kd ?ku ?_; (case a => assumption); (case b => omega); walk_at "mine use"; k_whole); intro r9 h9 tk9 F9 N9 R9; obtain ⟨b9, t9, z9, y9⟩ := R9; subst z9; (try dsimp only); (try k_fold)))
  k_with "call ref" => ((k_here; (with_reducible show wpAny _ _ (call (Value.ref 139) [Value.bytes _ _, Value.int _ _]) _ _ _); k_dflt (refine' ctr2_use (c_rulebW ?hb ?h1 ?hn ?hk ?hk1) ?k1 ?k2 ?k3 ?k4 ?k5 ?kK ?kd ?ku ?_; (case hb => assumption); (case h1 => rfl); (case hn => assumption); (case hk => assumption); (case hk1 => assumption); walk_at "mine use"; k_whole); intro r9 tl9 h9 tk9 F9 N9 R9; obtain ⟨a9, t9, u9, z9, y9⟩ := R9; subst z9 y9; (simp only [List.cons_append, List.nil_append] at N9); (try dsimp only); (try k_fold)))
  k_with "call ref" => ((k_here; (with_reducible show wpAny _ _ (call (Value.ref 146) [Value.bytes _ _, Value.int _ _]) _ _ _); k_dflt (refine' ctr2_use (c_rslebW ?hb ?h1 ?hn ?hk ?hk1) ?k1 ?k2 ?k3 ?k4 ?k5 ?kK ?kd ?ku ?_; (case hb => assumption); (case h1 => rfl); (case hn => assumption); (case hk => assumption); (case hk1 => assumption); walk_at "mine use"; k_whole); intro r9 tl9 h9 tk9 F9 N9 R9; obtain ⟨a9, t9, u9, z9, y9⟩ := R9; subst z9 y9; (simp only [List.cons_append, List.nil_append] at N9); (try dsimp only); (try k_fold)))
  unfold CtrS
  k_fill
  intro mean mg mb dp un gd cn cs a ccd outer A₀ base h₀ L m s Q E B F X N T XB TB D hk hd hu hret
  refine wpAny_call ?_
  k_dflt (walk_at "mine enterS")
  k_steps
  exact hret _ _ _ _ (by assumption) (by assumption) (by assumption) (by assumption) (by assumption) (by assumption) (by assumption) rfl
set_option maxRecDepth 100000 in
set_option maxHeartbeats 8000000 in
theorem c_rightS1 (w : World) (x k : Int) (tx tk : Tok) (news : List (Addr × Obj)) (n : Nat) (hn : Need true x n) (h1 : inR true x 10) (hk0 : 0 ≤ k) (hk1 : k ≤ 10) (hk : k < (n : Int)) : CtrS w 186 news [.int x tx, .bool true, .int k tk] 10 (fun r => r = .bool true) := by
  k_with_none
  k_with "mine use" => (((case k1 => k_asm); (case k2 => k_asm); (case k3 => k_asm); (case k4 => k_asm); (case k5 => k_asm); (case kK => first | exact rfl | assumption); (case kd => ktr_room); (case ku => ktr_units)))
  k_with "mine enter" => ((refine' code_def ?k1 ?k2 ?k3 ?k4 ?k5 ?kA ?kF ?kK ?k6 ?k7 ?k8 ?k9 ?kB ?_ ?c2 ?c3 ?c4 ?c5; (case kA => exact rfl); (case kF => exact rfl); (case kK => first | exact rfl | assumption); (case k1 => k_asm); (case k2 => k_asm); (case k3 => k_asm); (case k4 => k_asm); (case k5 => k_asm); (case k6 => k_is); (case k7 => k_is); (case k8 => ktr_room); (case k9 => first | exact BindsTo.of_eq rfl | exact binds_K (by k_in) rfl (by k_is) rfl rfl rfl); (case c5 => decide); (case kB => exact locs rfl); (case c2 => exact rfl); (case c3 => exact rfl); (case c4 => exact rfl); k_whole; intro g' L' h' FG' F' N' B' X' T'; (try dsimp only); (try k_fold)))
  k_with "mine enterS" => ((refine' code_defS ?k1 ?k2 ?k3 ?k4 ?k5 ?XB ?TB ?D ?T0 ?kA ?k6 ?k7 ?k8 ?k9 ?kB ?_ ?cK ?c2 ?c3 ?c4 ?c5; (case kA => exact rfl); (case k2 => k_asm); (case k1 => k_asm); (case XB => assumption); (case TB => assumption); (case D => assumption); (case T0 => first | assumption | exact KtsTurn.refl); (case k3 => k_asm); (case k4 => k_asm); (case k5 => k_asm); (case k6 => k_is); (case k7 => k_is); (case k8 => ktr_room); (case k9 => exact BindsTo.of_eq rfl); (case kB => exact locs rfl); (case cK => first | exact rfl | assumption); (case c2 => exact rfl); (case c3 => exact rfl); (case c4 => exact rfl); (case c5 => decide); k_whole; intro g' L' h' FG' F' N' B' X' T' D'; (try dsimp only); (try k_fold)))
  k_with "call ref" => ((k_here; (with_reducible show wpAny _ _ (call (Value.ref 172) [_, _]) _ _ _); k_dflt (refine' ctr_use (c_needN ?a ?b) ?k1 ?k2 ?k3 ?k4 ?k5 ?kK ?kd ?ku ?_; (case a => assumption); (case b => assumption); walk_at "mine use"; k_whole); intro r9 h9 tk9 F9 N9 R9; obtain ⟨t9, z9⟩ := R9; subst z9; (try dsimp only); (try k_fold)))
  k_with "call ref" => ((k_here; (with_reducible show wpAny _ _ (call (Value.ref 165) [_, _, _]) _ _ _); k_dflt (refine' ctrS_use (laid_both _ _ _ _ _ _ ?a ?b ?c) ?k1 ?k2 ?k3 ?k4 ?k5 ?k6 ?k7 ?k8 ?kK ?kd ?ku ?_; (case a => assumption); (case b => assumption); (case c => omega); walk_at "mine use"; (case k6 => assumption); (case k7 => assumption); (case k8 => assumption); k_whole); intro r9 k9 h9 tk9 T' F' N' K' X' P' D' R9; (first | (have z9 := laid_lt R9 (by assumption) (by assumption); subst z9) | (obtain ⟨b9, t9, z9, y9⟩ := laid_ge R9 (by assumption) (by assumption); subst z9)); (try dsimp only); (try k_lift K'); (try k_sweep); (try k_fold)))
  k_with "call ref" => ((k_here; (with_reducible show wpAny _ _ (call (Value.ref 179) [Value.int _ _, Value.int _ _]) _ _ _); k_dflt (refine' ctr_use (c_groups _ _ _ _ _ _ ?a ?b) ?k1 ?k2 ?k3 ?k4 ?k5 ?kK ?kd ?ku ?_; (case a => assumption); (case b => omega); walk_at "mine use"; k_whole); intro r9 h9 tk9 F9 N9 R9; obtain ⟨b9, t9, z9, y9⟩ := R9; subst z9; (try dsimp only); (try k_fold)))
  k_with "call ref" => ((k_here; (with_reducible show wpAny _ _ (call (Value.ref 139) [Value.bytes _ _, Value.int _ _]) _ _ _); k_dflt (refine' ctr2_use (c_rulebW ?hb ?h1 ?hn ?hk ?hk1) ?k1 ?k2 ?k3 ?k4 ?k5 ?kK ?kd ?ku ?_; (case hb => assumption); (case h1 => rfl); (case hn => assumption); (case hk => assumption); (case hk1 => assumption); walk_at "mine use"; k_whole); intro r9 tl9 h9 tk9 F9 N9 R9; obtain ⟨a9, t9, u9, z9, y9⟩ := R9; subst z9 y9; (simp only [List.cons_append, List.nil_append] at N9); (try dsimp only); (try k_fold)))
  k_with "call ref" => ((k_here; (with_reducible show wpAny _ _ (call (Value.ref 146) [Value.bytes _ _, Value.int _ _]) _ _ _); k_dflt (refine' ctr2_use (c_rslebW ?hb ?h1 ?hn ?hk ?hk1) ?k1 ?k2 ?k3 ?k4 ?k5 ?kK ?kd ?ku ?_; (case hb => assumption); (case h1 => rfl); (case hn => assumption); (case hk => assumption); (case hk1 => assumption); walk_at "mine use"; k_whole); intro r9 tl9 h9 tk9 F9 N9 R9; obtain ⟨a9, t9, u9, z9, y9⟩ := R9; subst z9 y9; (simp only [List.cons_append, List.nil_append] at N9); (try dsimp only); (try k_fold)))
  unfold CtrS
  k_fill
  intro mean mg mb dp un gd cn cs a ccd outer A₀ base h₀ L m s Q E B F X N T XB TB D hk hd hu hret
  refine wpAny_call ?_
  k_dflt (walk_at "mine enterS")
  k_steps
  exact hret _ _ _ _ (by assumption) (by assumption) (by assumption) (by assumption) (by assumption) (by assumption) (by assumption) rfl
set_option maxRecDepth 100000 in
set_option maxHeartbeats 8000000 in
theorem c_rightU2 (w : World) (x k : Int) (tx tk : Tok) (news : List (Addr × Obj)) (n : Nat) (hn : Need false x n) (h1 : inR false x 10) (hk0 : 0 ≤ k) (hk1 : k ≤ 10) (hk : (n : Int) ≤ k) : CtrS w 186 news [.int x tx, .bool false, .int k tk] 10 (fun r => r = .bool true) := by
  k_with_none
  k_with "mine use" => (((case k1 => k_asm); (case k2 => k_asm); (case k3 => k_asm); (case k4 => k_asm); (case k5 => k_asm); (case kK => first | exact rfl | assumption); (case kd => ktr_room); (case ku => ktr_units)))
  k_with "mine enter" => ((refine' code_def ?k1 ?k2 ?k3 ?k4 ?k5 ?kA ?kF ?kK ?k6 ?k7 ?k8 ?k9 ?kB ?_ ?c2 ?c3 ?c4 ?c5; (case kA => exact rfl); (case kF => exact rfl); (case kK => first | exact rfl | assumption); (case k1 => k_asm); (case k2 => k_asm); (case k3 => k_asm); (case k4 => k_asm); (case k5 => k_asm); (case k6 => k_is); (case k7 => k_is); (case k8 => ktr_room); (case k9 => first | exact BindsTo.of_eq rfl | exact binds_K (by k_in) rfl (by k_is) rfl rfl rfl); (case c5 => decide); (case kB => exact locs rfl); (case c2 => exact rfl); (case c3 => exact rfl); (case c4 => exact rfl); k_whole; intro g' L' h' FG' F' N' B' X' T'; (try dsimp only); (try k_fold)))
  k_with "mine enterS" => ((refine' code_defS ?k1 ?k2 ?k3 ?k4 ?k5 ?XB ?TB ?D ?T0 ?kA ?k6 ?k7 ?k8 ?k9 ?kB ?_ ?cK ?c2 ?c3 ?c4 ?c5; (case kA => exact rfl); (case k2 => k_asm); (case k1 => k_asm); (case XB => assumption); (case TB => assumption); (case D => assumption); (case T0 => first | assumption | exact KtsTurn.refl); (case k3 => k_asm); (case k4 => k_asm); (case k5 => k_asm); (case k6 => k_is); (case k7 => k_is); (case k8 => ktr_room); (case k9 => exact BindsTo.of_eq rfl); (case kB => exact locs rfl); (case cK => first | exact rfl | assumption); (case c2 => exact rfl); (case c3 => exact rfl); (case c4 => exact rfl); (case c5 => decide); k_whole; intro g' L' h' FG' F' N' B' X' T' D'; (try dsimp only); (try k_fold)))
  k_with "call ref" => ((k_here; (with_reducible show wpAny _ _ (call (Value.ref 172) [_, _]) _ _ _); k_dflt (refine' ctr_use (c_needN ?a ?b) ?k1 ?k2 ?k3 ?k4 ?k5 ?kK ?kd ?ku ?_; (case a => assumption); (case b => assumption); walk_at "mine use"; k_whole); intro r9 h9 tk9 F9 N9 R9; obtain ⟨t9, z9⟩ := R9; subst z9; (try dsimp only); (try k_fold)))
  k_with "call ref" => ((k_here; (with_reducible show wpAny _ _ (call (Value.ref 165) [_, _, _]) _ _ _); k_dflt (refine' ctrS_use (laid_both _ _ _ _ _ _ ?a ?b ?c) ?k1 ?k2 ?k3 ?k4 ?k5 ?k6 ?k7 ?k8 ?kK ?kd ?ku ?_; (case a => assumption); (case b => assumption); (case c => omega); walk_at "mine use"; (case k6 => assumption); (case k7 => assumption); (case k8 => assumption); k_whole); intro r9 k9 h9 tk9 T' F' N' K' X' P' D' R9; (first | (have z9 := laid_lt R9 (by assumption) (by assumption); subst z9) | (obtain ⟨b9, t9, z9, y9⟩ := laid_ge R9 (by assumption) (by assumption); subst z9)); (try dsimp only); (try k_lift K'); (try k_sweep); (try k_fold)))
  k_with "call ref" => ((k_here; (with_reducible show wpAny _ _ (call (Value.ref 179) [Value.int _ _, Value.int _ _]) _ _ _); k_dflt (refine' ctr_use (c_groups _ _ _ _ _ _ ?a ?b) ?k1 ?k2 ?k3 ?k4 ?k5 ?kK ?kd ?ku ?_; (case a => assumption); (case b => omega); walk_at "mine use"; k_whole); intro r9 h9 tk9 F9 N9 R9; obtain ⟨b9, t9, z9, y9⟩ := R9; subst z9; (try dsimp only); (try k_fold)))
  k_with "call ref" => ((k_here; (with_reducible show wpAny _ _ (call (Value.ref 139) [Value.bytes _ _, Value.int _ _]) _ _ _); k_dflt (refine' ctr2_use (c_rulebW ?hb ?h1 ?hn ?hk ?hk1) ?k1 ?k2 ?k3 ?k4 ?k5 ?kK ?kd ?ku ?_; (case hb => assumption); (case h1 => rfl); (case hn => assumption); (case hk => assumption); (case hk1 => assumption); walk_at "mine use"; k_whole); intro r9 tl9 h9 tk9 F9 N9 R9; obtain ⟨a9, t9, u9, z9, y9⟩ := R9; subst z9 y9; (simp only [List.cons_append, List.nil_append] at N9); (try dsimp only); (try k_fold)))
  k_with "call ref" => ((k_here; (with_reducible show wpAny _ _ (call (Value.ref 146) [Value.bytes _ _, Value.int _ _]) _ _ _); k_dflt (refine' ctr2_use (c_rslebW ?hb ?h1 ?hn ?hk ?hk1) ?k1 ?k2 ?k3 ?k4 ?k5 ?kK ?kd ?ku ?_; (case hb => assumption); (case h1 => rfl); (case hn => assumption); (case hk => assumption); (case hk1 => assumption); walk_at "mine use"; k_whole); intro r9 tl9 h9 tk9 F9 N9 R9; obtain ⟨a9, t9, u9, z9, y9⟩ := R9; subst z9 y9; (simp only [List.cons_append, List.nil_append] at N9); (try dsimp only); (try k_fold)))
  have hn1 := hn.1
  have hlk := lay_length x k.toNat
  unfold CtrS
  k_fill
  intro mean mg mb dp un gd cn cs a ccd outer A₀ base h₀ L m s Q E B F X N T XB TB D hk hd hu hret
  refine wpAny_call ?_
  k_dflt (walk_at "mine enterS")
  k_steps
  · exact (ne_absurd (by assumption) (by assumption) (by assumption)).elim
  · exact hret _ _ _ _ (by assumption) (by assumption) (by first | assumption | (refine kst_newsOf (by assumption) ?_; kst_inAny)) (by assumption) (by assumption) (by assumption) (by assumption) rfl
set_option maxRecDepth 100000 in
set_option maxHeartbeats 8000000 in
theorem c_rightS2 (w : World) (x k : Int) (tx tk : Tok) (news : List (Addr × Obj)) (n : Nat) (hn : Need true x n) (h1 : inR true x 10) (hk0 : 0 ≤ k) (hk1 : k ≤ 10) (hk : (n : Int) ≤ k) : CtrS w 186 news [.int x tx, .bool true, .int k tk] 10 (fun r => r = .bool true) := by
  k_with_none
  k_with "mine use" => (((case k1 => k_asm); (case k2 => k_asm); (case k3 => k_asm); (case k4 => k_asm); (case k5 => k_asm); (case kK => first | exact rfl | assumption); (case kd => ktr_room); (case ku => ktr_units)))
  k_with "mine enter" => ((refine' code_def ?k1 ?k2 ?k3 ?k4 ?k5 ?kA ?kF ?kK ?k6 ?k7 ?k8 ?k9 ?kB ?_ ?c2 ?c3 ?c4 ?c5; (case kA => exact rfl); (case kF => exact rfl); (case kK => first | exact rfl | assumption); (case k1 => k_asm); (case k2 => k_asm); (case k3 => k_asm); (case k4 => k_asm); (case k5 => k_asm); (case k6 => k_is); (case k7 => k_is); (case k8 => ktr_room); (case k9 => first | exact BindsTo.of_eq rfl | exact binds_K (by k_in) rfl (by k_is) rfl rfl rfl); (case c5 => decide); (case kB => exact locs rfl); (case c2 => exact rfl); (case c3 => exact rfl); (case c4 => exact rfl); k_whole; intro g' L' h' FG' F' N' B' X' T'; (try dsimp only); (try k_fold)))
  k_with "mine enterS" => ((refine' code_defS ?k1 ?k2 ?k3 ?k4 ?k5 ?XB ?TB ?D ?T0 ?kA ?k6 ?k7 ?k8 ?k9 ?kB ?_ ?cK ?c2 ?c3 ?c4 ?c5; (case kA => exact rfl); (case k2 => k_asm); (case k1 => k_asm); (case XB => assumption); (case TB => assumption); (case D => assumption); (case T0 => first | assumption | exact KtsTurn.refl); (case k3 => k_asm); (case k4 => k_asm); (case k5 => k_asm); (case k6 => k_is); (case k7 => k_is); (case k8 => ktr_room); (case k9 => exact BindsTo.of_eq rfl); (case kB => exact locs rfl); (case cK => first | exact rfl | assumption); (case c2 => exact rfl); (case c3 => exact rfl); (case c4 => exact rfl); (case c5 => decide); k_whole; intro g' L' h' FG' F' N' B' X' T' D'; (try dsimp only); (try k_fold)))
  k_with "call ref" => ((k_here; (with_reducible show wpAny _ _ (call (Value.ref 172) [_, _]) _ _ _); k_dflt (refine' ctr_use (c_needN ?a ?b) ?k1 ?k2 ?k3 ?k4 ?k5 ?kK ?kd ?ku ?_; (case a => assumption); (case b => assumption); walk_at "mine use"; k_whole); intro r9 h9 tk9 F9 N9 R9; obtain ⟨t9, z9⟩ := R9; subst z9; (try dsimp only); (try k_fold)))
  k_with "call ref" => ((k_here; (with_reducible show wpAny _ _ (call (Value.ref 165) [_, _, _]) _ _ _); k_dflt (refine' ctrS_use (laid_both _ _ _ _ _ _ ?a ?b ?c) ?k1 ?k2 ?k3 ?k4 ?k5 ?k6 ?k7 ?k8 ?kK ?kd ?ku ?_; (case a => assumption); (case b => assumption); (case c => omega); walk_at "mine use"; (case k6 => assumption); (case k7 => assumption); (case k8 => assumption); k_whole); intro r9 k9 h9 tk9 T' F' N' K' X' P' D' R9; (first | (have z9 := laid_lt R9 (by assumption) (by assumption); subst z9) | (obtain ⟨b9, t9, z9, y9⟩ := laid_ge R9 (by assumption) (by assumption); subst z9)); (try dsimp only); (try k_lift K'); (try k_sweep); (try k_fold)))
  k_with "call ref" => ((k_here; (with_reducible show wpAny _ _ (call (Value.ref 179) [Value.int _ _, Value.int _ _]) _ _ _); k_dflt (refine' ctr_use (c_groups _ _ _ _ _ _ ?a ?b) ?k1 ?k2 ?k3 ?k4 ?k5 ?kK ?kd ?ku ?_; (case a => assumption); (case b => omega); walk_at "mine use"; k_whole); intro r9 h9 tk9 F9 N9 R9; obtain ⟨b9, t9, z9, y9⟩ := R9; subst z9; (try dsimp only); (try k_fold)))
  k_with "call ref" => ((k_here; (with_reducible show wpAny _ _ (call (Value.ref 139) [Value.bytes _ _, Value.int _ _]) _ _ _); k_dflt (refine' ctr2_use (c_rulebW ?hb ?h1 ?hn ?hk ?hk1) ?k1 ?k2 ?k3 ?k4 ?k5 ?kK ?kd ?ku ?_; (case hb => assumption); (case h1 => rfl); (case hn => assumption); (case hk => assumption); (case hk1 => assumption); walk_at "mine use"; k_whole); intro r9 tl9 h9 tk9 F9 N9 R9; obtain ⟨a9, t9, u9, z9, y9⟩ := R9; subst z9 y9; (simp only [List.cons_append, List.nil_append] at N9); (try dsimp only); (try k_fold)))
  k_with "call ref" => ((k_here; (with_reducible show wpAny _ _ (call (Value.ref 146) [Value.bytes _ _, Value.int _ _]) _ _ _); k_dflt (refine' ctr2_use (c_rslebW ?hb ?h1 ?hn ?hk ?hk1) ?k1 ?k2 ?k3 ?k4 ?k5 ?kK ?kd ?ku ?_; (case hb => assumption); (case h1 => rfl); (case hn => assumption); (case hk => assumption); (case hk1 => assumption); walk_at "mine use"; k_whole); intro r9 tl9 h9 tk9 F9 N9 R9; obtain ⟨a9, t9, u9, z9, y9⟩ := R9; subst z9 y9; (simp only [List.cons_append, List.nil_append] at N9); (try dsimp only); (try k_fold)))
  have hn1 := hn.1
  have hlk := lay_length x k.toNat
  unfold CtrS
  k_fill
  intro mean mg mb dp un gd cn cs a ccd outer A₀ base h₀ L m s Q E B F X N T XB TB D hk hd hu hret
  refine wpAny_call ?_
  k_dflt (walk_at "mine enterS")
  k_steps
  · exact (ne_absurd (by assumption) (by assumption) (by assumption)).elim
  · exact hret _ _ _ _ (by assumption) (by assumption) (by first | assumption | (refine kst_newsOf (by assumption) ?_; kst_inAny)) (by assumption) (by assumption) (by assumption) (by assumption) rfl
end
/-- _law_right says True wherever it is asked -/
theorem c_right {w : World} {x k : Int} {tx tk : Tok} {s : Bool} {news : List (Addr × Obj)} (h1 : inR s x 10) (hk0 : 0 ≤ k) (hk1 : k ≤ 10) : CtrS w 186 news [.int x tx, .bool s, .int k tk] 10 (fun r => r = .bool true) := by
  obtain ⟨n, hn⟩ := need_exists h1
  cases s with
  | false => rcases Int.lt_or_le k (n : Int) with q | q; exact c_rightU1 w x k tx tk news n hn h1 hk0 hk1 q; exact c_rightU2 w x k tx tk news n hn h1 hk0 hk1 q
  | true => rcases Int.lt_or_le k (n : Int) with q | q; exact c_rightS1 w x k tx tk news n hn h1 hk0 hk1 q; exact c_rightS2 w x k tx tk news n hn h1 hk0 hk1 q

def inRB (s : Bool) (x : Int) (n : Nat) : Bool := if s then decide (-(64 * 128 ^ (n - 1)) ≤ x) && decide (x < 64 * 128 ^ (n - 1)) else decide (0 ≤ x) && decide (x < 128 ^ n)
theorem inRB_iff {s : Bool} {x : Int} {n : Nat} : inRB s x n = true ↔ inR s x n := by
  unfold inRB inR
  cases s <;> simp
theorem need_of {s : Bool} {x : Int} {n : Nat} (h : (decide (1 ≤ n) && inRB s x n && (decide (n = 1) || !inRB s x (n - 1))) = true) : Need s x n := by
  simp only [Bool.and_eq_true, Bool.or_eq_true, decide_eq_true_eq, Bool.not_eq_true'] at h
  refine ⟨h.1.1, inRB_iff.mp h.1.2, h.2.imp id fun q => ?_⟩
  rw [← inRB_iff, q]
  decide
theorem rowNone {s : Bool} {x k : Int} (n : Nat) (h : (decide (1 ≤ n) && inRB s x n && (decide (n = 1) || !inRB s x (n - 1)) && decide (k < (n : Int))) = true) : LaidR s x k .none := by
  rw [Bool.and_eq_true, decide_eq_true_eq] at h
  exact ⟨n, need_of h.1, .inl ⟨h.2, rfl⟩⟩
theorem rowSome {s : Bool} {x k : Int} {b : Array UInt8} {t : Tok} (n : Nat) (h : (decide (1 ≤ n) && inRB s x n && (decide (n = 1) || !inRB s x (n - 1)) && decide ((n : Int) ≤ k) && decide (KBw.bInts b = lay x k.toNat)) = true) : LaidR s x k (.bytes b t) := by
  rw [Bool.and_eq_true, Bool.and_eq_true, decide_eq_true_eq, decide_eq_true_eq] at h
  exact ⟨n, need_of h.1.1, .inr ⟨h.1.2, b, t, rfl, h.2⟩⟩
abbrev rowO (x : Int) (s : Bool) (k : Int) (ov : Value) (tx tk : Tok) : Obj := { cls := .type "tuple", data := .seq #[.int x tx, .bool s, .int k tk, ov] }
/-- a written row: what is told of it is what is laid -/
def RowObj (o : Obj) : Prop := ∃ x s k ov tx tk, o = rowO x s k ov tx tk ∧ inR s x 10 ∧ 0 ≤ k ∧ k ≤ 10 ∧ LaidR s x k ov
theorem rowObj_of {x : Int} {s : Bool} {k : Int} {ov : Value} {tx tk : Tok} (h1 : (inRB s x 10 && decide (0 ≤ k) && decide (k ≤ 10)) = true) (h2 : LaidR s x k ov) : RowObj (rowO x s k ov tx tk) := by
  rw [Bool.and_eq_true, Bool.and_eq_true, decide_eq_true_eq, decide_eq_true_eq] at h1
  exact ⟨x, s, k, ov, tx, tk, rfl, inRB_iff.mp h1.1.1, h1.1.2, h1.2, h2⟩
def RowsR (r : Value) (tl : List (Addr × Obj)) : Prop := ∃ l nn ps, r = .ref l ∧ tl = (l, listOf (ps.map fun p => Value.ref p.1).toArray nn) :: ps ∧ ∀ p ∈ ps, RowObj p.2
def RowsIn (full : List (Addr × Obj)) (vs : List Value) : Prop := ∃ ps : List (Addr × Obj), vs = ps.map (fun p => Value.ref p.1) ∧ ∀ p ∈ ps, p ∈ full ∧ RowObj p.2
theorem rows_nil {full : List (Addr × Obj)} : RowsIn full [] := ⟨[], rfl, fun _ h => nomatch h⟩
theorem rows_cons {full : List (Addr × Obj)} {D : Addr} {o : Obj} {vs : List Value} (hq : (D, o) ∈ full) (h : RowObj o) (r : RowsIn full vs) : RowsIn full (.ref D :: vs) := by
  obtain ⟨ps, rfl, k⟩ := r
  refine ⟨(D, o) :: ps, rfl, fun p hp => ?_⟩
  rcases List.mem_cons.mp hp with rfl | hp
  · exact ⟨hq, h⟩
  · exact k p hp
theorem rows_end {h₀ h : Heap} {L l : Addr} {vs : List Value} {nn : Nat} {full news : List (Addr × Obj)} (N : News h₀ L h full) (hl : (l, listOf vs.toArray nn) ∈ full) (ht : News h₀ L h full → News h₀ L h news) (r : RowsIn full vs) :
    ∃ tl, News h₀ L h (tl ++ news) ∧ RowsR (.ref l) tl := by
  obtain ⟨ps, rfl, k⟩ := r
  refine ⟨(l, listOf (ps.map fun p => Value.ref p.1).toArray nn) :: ps, fun p hp => ?_, l, nn, ps, rfl, rfl, fun p hp => (k p hp).2⟩
  rcases List.mem_append.mp hp with hp | hp
  · rcases List.mem_cons.mp hp with rfl | hp
    · exact N _ hl
    · exact N _ (k p hp).1
  · exact ht N p hp
section
set_option maxRecDepth 100000 in
set_option maxHeartbeats 8000000 in
theorem c_rows (w : World) (news : List (Addr × Obj)) : Ctr2 w 158 news [] 3 RowsR := by
  k_with_none
  k_with "mine use" => (((case k1 => k_asm); (case k2 => k_asm); (case k3 => k_asm); (case k4 => k_asm); (case k5 => k_asm); (case kK => first | exact rfl | assumption); (case kd => ktr_room); (case ku => ktr_units)))
  k_with "mine enter" => ((refine' code_def ?k1 ?k2 ?k3 ?k4 ?k5 ?kA ?kF ?kK ?k6 ?k7 ?k8 ?k9 ?kB ?_ ?c2 ?c3 ?c4 ?c5; (case kA => exact rfl); (case kF => exact rfl); (case kK => first | exact rfl | assumption); (case k1 => k_asm); (case k2 => k_asm); (case k3 => k_asm); (case k4 => k_asm); (case k5 => k_asm); (case k6 => k_is); (case k7 => k_is); (case k8 => ktr_room); (case k9 => first | exact BindsTo.of_eq rfl | exact binds_K (by k_in) rfl (by k_is) rfl rfl rfl); (case c5 => decide); (case kB => exact locs rfl); (case c2 => exact rfl); (case c3 => exact rfl); (case c4 => exact rfl); k_whole; intro g' L' h' FG' F' N' B' X' T'; (try dsimp only); (try k_fold)))
  k_with "mine enterS" => ((refine' code_defS ?k1 ?k2 ?k3 ?k4 ?k5 ?XB ?TB ?D ?T0 ?kA ?k6 ?k7 ?k8 ?k9 ?kB ?_ ?cK ?c2 ?c3 ?c4 ?c5; (case kA => exact rfl); (case k2 => k_asm); (case k1 => k_asm); (case XB => assumption); (case TB => assumption); (case D => assumption); (case T0 => first | assumption | exact KtsTurn.refl); (case k3 => k_asm); (case k4 => k_asm); (case k5 => k_asm); (case k6 => k_is); (case k7 => k_is); (case k8 => ktr_room); (case k9 => exact BindsTo.of_eq rfl); (case kB => exact locs rfl); (case cK => first | exact rfl | assumption); (case c2 => exact rfl); (case c3 => exact rfl); (case c4 => exact rfl); (case c5 => decide); k_whole; intro g' L' h' FG' F' N' B' X' T' D'; (try dsimp only); (try k_fold)))
  k_with "mine row" => ((refine rowObj_of (by decide +kernel) ?_; first | exact rowNone 1 (by decide +kernel) | exact rowNone 2 (by decide +kernel) | exact rowSome 1 (by decide +kernel) | exact rowSome 2 (by decide +kernel)))
  unfold Ctr2
  k_fill
  intro mean mg mb dp un gd cn cs a ccd cl outer A₀ base h₀ L m s Q E B F X N T hk hd hu hret
  refine wpAny_call ?_
  k_dflt ktr_enter
  refine wpAny_noRaise ?_
  k_steps
  rename News _ _ _ _ => n9
  obtain ⟨tl, n8, r8⟩ := rows_end (news := news) n9 (by k_mem) (fun n => kst_newsOf n (by kst_inAny)) (by
    repeat (refine rows_cons (by k_mem) (by walk_at "mine row") ?_)
    exact rows_nil)
  exact hret _ tl _ _ (by assumption) n8 r8
end

section
variable {prog : Program} {w : World} {A : Around} {E : Value → Shared → Prop} {s : Shared} {env : Env} {h₀ : Heap} {target : Expr} {body : List Stmt} {Q : Flow → Shared → Prop} {x : Str}
/-- a loop over the written rows, a turn at a time -/
theorem iter_rows {l : Addr} {nn : Nat} {ps news : List (Addr × Obj)} {m₀ : Str → Option Value} (stored : List Str)
    (hh : A.handled = none) (F : Fr h₀ env.locals s.heap m₀) (N : News h₀ env.locals s.heap (((l, listOf (ps.map fun p => Value.ref p.1).toArray nn) :: ps) ++ news)) (hR : ∀ p ∈ ps, RowObj p.2) (hx : stored.contains x = true)
    (turn : ∀ T z sg k ov tx tk (u : Str → Option Value) h tk1 all, inR sg z 10 → 0 ≤ k → k ≤ 10 → LaidR sg z k ov → Fr h₀ env.locals h (fun y => if stored.contains y then u y else m₀ y) → News h₀ env.locals h ((T, rowO z sg k ov tx tk) :: all) →
      wpAny (model prog w) A (assign target env (.ref T)) (fun _ s₃ => wpAny (model prog w) A (execs body env) (TurnPost h₀ env.locals x stored m₀ all { s with heap := h, toks := tk1 } Q) E s₃) E { s with heap := h, toks := tk1 })
    (done : ∀ (u : Str → Option Value) h tk, Fr h₀ env.locals h (fun y => if stored.contains y then u y else m₀ y) → News h₀ env.locals h news → Q .next { s with heap := h, toks := tk }) :
    wpAny (model prog w) A (pyIter (.ref l)) (fun it s₂ => TurnsAt prog w A h₀ env target body Q E it s₂) E s := by
  have hax := N _ (.head _)
  have hl : s.heap.IsList l (ps.map fun p => Value.ref p.1).toArray := ⟨_, hax.1, rfl, nn, rfl⟩
  have hlt : l < s.heap.objs.size := Heap.lt_size hax.1
  have hne : l ≠ s.heap.objs.size := Nat.ne_of_lt hlt
  have agree : ∀ {m₁ : Str → Option Value}, (∀ y, y ≠ x → stored.contains y = false → m₁ y = m₀ y) → m₁ = fun y => if stored.contains y then m₁ y else m₀ y := fun {m₁} hJ => by
    funext y
    cases h2 : stored.contains y with
    | true => simp
    | false =>
      simp only [Bool.false_eq_true, if_false]
      exact hJ y (fun e => by rw [e, hx] at h2; cases h2) h2
  refine wpAny_pyIter_list hl ?_
  let all := ((l, listOf (ps.map fun p => Value.ref p.1).toArray nn) :: ps) ++ news
  let J : Nat → (Str → Option Value) → List (Addr × Obj) → Prop := fun _ m₁ news₁ => news₁ = all ∧ ∀ y, y ≠ x → stored.contains y = false → m₁ y = m₀ y
  refine ⟨_, _, _, _, _, _, _, m₀, all, J, rfl, KTurns.ofWalks (Walks.list hh s.heap.objs.size l hne (ps.map fun p => Value.ref p.1).toArray) fun i v s Q E st q => letGo_listiter st.1 q, ?_, ?_, ?_,
    ⟨⟨_, Heap.get?_push_size _ rfl, rfl, rfl⟩, hl.at fun o e => Heap.get?_push_of_some _ e⟩, F.push _, (fun p hp => ⟨Heap.get?_push_of_some _ (N p hp).1, (N p hp).2⟩), ⟨rfl, fun _ _ _ => rfl⟩, ?_, ?_⟩
  · intro hI
    rcases List.mem_cons.mp hI with e | hI
    · exact absurd F.ns.lt (e ▸ Nat.lt_irrefl _)
    · exact hax.2.1 (List.mem_singleton.mp hI).symm
  · intro b hb
    rw [List.mem_singleton.mp hb]
    exact next_is_new F
  · intro p hp hI
    exact absurd (Heap.lt_size (N p hp).1) ((List.mem_singleton.mp hI) ▸ Nat.lt_irrefl _)
  · rintro i v m₁ news₁ h₁ tk₁ own hin hP ⟨rfl, hJ⟩ hoff hown hget hall hst F₁ N₁
    have hP' : (ps.map fun p => Value.ref p.1)[i]? = some v := by simpa using hP
    obtain ⟨p, hp, rfl⟩ := List.mem_map.mp (List.mem_of_getElem? hP')
    obtain ⟨z, sg, k, ov, tx, tk, ho, r1, r2, r3, r4⟩ := hR p hp
    rw [agree hJ] at F₁
    have N₂ : News h₀ env.locals h₁ ((p.1, rowO z sg k ov tx tk) :: (own ++ all)) := fun q hq => by
      rcases List.mem_cons.mp hq with rfl | hq
      · rw [← ho]
        exact N₁ p (List.mem_append_right _ (List.mem_append_left _ (.tail _ hp)))
      · exact N₁ q hq
    refine wpAny_mono (turn p.1 z sg k ov tx tk m₁ h₁ tk₁ (own ++ all) r1 r2 r3 r4 F₁ N₂) (fun _ s₂ h₂ => wpAny_mono h₂ (fun f s₃ q => ?_) fun _ _ e => e) fun _ _ e => e
    have fin : TurnEnd h₀ env.locals x stored m₀ (own ++ all) { s with heap := h₁, toks := tk₁ } s₃ → LoopStepU h₀ env.locals [s.heap.objs.size] own (J (i + 1)) { s with heap := h₁, toks := tk₁ } .next s₃ := by
      rintro ⟨h', tk, m', news', e, F', N', hn, hm⟩
      exact ⟨rfl, h', tk, m', all, e, F', fun p hp => N' p (hn p hp), hoff, rfl, hm⟩
    cases f with
    | ret v => exact .ret q
    | brk => exact .brk q
    | next => exact .next (fin q)
    | cont => exact .cont (fin q)
  · rintro h' tk m' news' F' N' _ ⟨rfl, hJ⟩
    rw [agree hJ] at F'
    exact done m' h' tk F' fun p hp => N' p (List.mem_append_right _ hp)
end
/-- a contract of a def that catches, called from the outermost frame -/
theorem ctrS_top {w : World} {f : Addr} {news : List (Addr × Obj)} {vs : List Value} {dep : Nat} {R : Value → Prop} (C : CtrS w f news vs dep R)
    {mean : ExcName → Option Value} {mg mb : Str → Option Value} {dp un : Nat} {gd : Option (List Code)} {cn : Str} {cs : Scope} {a : Addr} {ccd : Value} {A₀ : Around} {base h₀ : Heap} {L : Addr} {m : Str → Option Value} {s : Shared} {Q E : Value → Shared → Prop}
    (B : Below A₀ base [] h₀) (F : Fr h₀ L s.heap m) (X : (Mine.hd.heap_39 w.params).In h₀) (N : News h₀ L s.heap news) (T : Top Mine.hd.view_39 (looseW Mine.hd.view_39 [Str.ofString "MintError"]) mean mg mb h₀)
    (XB : (Mine.hd.heap_39 w.params).In base) (TB : Top Mine.hd.view_39 (looseW Mine.hd.view_39 [Str.ofString "MintError"]) mean mg mb base) (hk : cs.kind = .function)
    (hd : dp + dep < recursionLimit) (hu : un + 8 * dep < cLine)
    (ret : ∀ (r : Value) (h' : Heap) (tk' : Nat), Fr h₀ L h' m → News h₀ L h' news → R r → Q r { s with heap := h', toks := tk' }) :
    wpAny (model PySem.Challenge.rw_nz0169_01.row.prog w) (ktrTop dp un gd cn cs L a ccd [] []) (call (.ref f) vs) Q E s := by
  refine ctrS_use C B F X N T XB TB ktsDicts_nil hk hd hu fun r k₀ h' tk' T' F' N' _ _ _ _ hr => ret r h' tk' ⟨F'.ns, fun b o e => F'.keep b o (T'.other b o e (fun q => nomatch q)), by rw [← T'.size]; exact F'.above⟩ (fun p hp => ⟨(N' p hp).1, (N' p hp).2.1, ?_⟩) hr
  cases q : h₀.get? p.1 with
  | none => rfl
  | some o =>
    have := T'.other _ _ q (fun q => nomatch q)
    rw [(N' p hp).2.2] at this
    cases this

theorem laid_two {s : Bool} {x k : Int} {r o : Value} (h1 : LaidR s x k r) (h2 : LaidR s x k o) : (r = .none ∧ o = .none) ∨ ∃ b t b' t' l, r = .bytes b t ∧ o = .bytes b' t' ∧ KBw.bInts b = l ∧ KBw.bInts b' = l := by
  obtain ⟨n, hn, h⟩ := h1
  obtain ⟨n', hn', h'⟩ := h2
  have e := need_unique hn hn'
  subst e
  rcases h with ⟨q, rfl⟩ | ⟨q, b, t, rfl, hb⟩
  · rcases h' with ⟨_, rfl⟩ | ⟨q', _⟩
    · exact .inl ⟨rfl, rfl⟩
    · omega
  · rcases h' with ⟨q', _⟩ | ⟨_, b', t', rfl, hb'⟩
    · omega
    · exact .inr ⟨b, t, b', t', _, rfl, rfl, hb, hb'⟩

section
variable {prog : Program} {w : World} {A : Around} {E : Value → Shared → Prop} {s : Shared} {env : Env} {h₀ : Heap} {x : Str} {body : List Stmt} {Q : Flow → Shared → Prop}
/-- a loop over a made list of ints that keeps nothing but forgets names -/
theorem iter_cells {l : Addr} {vs : List Value} {ns : List Int} {nn : Nat} {news : List (Addr × Obj)} {m₀ : Str → Option Value} (stored : List Str)
    (hh : A.handled = none) (F : Fr h₀ env.locals s.heap m₀) (N : News h₀ env.locals s.heap news) (hm : (l, listOf vs.toArray nn) ∈ news) (hi : IntsAre vs ns)
    (turn : ∀ I o n t (u : Str → Option Value) h tk, (@LT.lt Nat _ l I) → o.cls = .type "list_iterator" → Fr h₀ env.locals h (fun y => if y = x then some (.int n t) else if stored.contains y then u y else m₀ y) → News h₀ env.locals h [(I, o), (l, listOf vs.toArray nn)] →
      wpAny (model prog w) A (execs body env) (TurnPost h₀ env.locals x stored m₀ [(I, o), (l, listOf vs.toArray nn)] { s with heap := h, toks := tk } Q) E { s with heap := h, toks := tk })
    (done : ∀ (u : Str → Option Value) h tk, Fr h₀ env.locals h (fun y => if y = x then u y else if stored.contains y then u y else m₀ y) → News h₀ env.locals h [(l, listOf vs.toArray nn)] → Q .next { s with heap := h, toks := tk }) :
    wpAny (model prog w) A (pyIter (.ref l)) (fun it s₂ => LoopAtV prog w A h₀ env x body Q E it s₂) E s := by
  have hax := N _ hm
  have hls : s.heap.IsList l vs.toArray := ⟨_, hax.1, rfl, nn, rfl⟩
  have hlt : l < s.heap.objs.size := Heap.lt_size hax.1
  have hne : l ≠ s.heap.objs.size := Nat.ne_of_lt hlt
  refine wpAny_pyIter_list hls ?_
  have W := Walks.list (prog := prog) (w := w) hh s.heap.objs.size l hne vs.toArray
  have hlen : vs.toArray.size = ns.length := by simp [hi.length]
  rw [hlen] at W
  let J : Nat → (Str → Option Value) → List (Addr × Obj) → Prop := fun _ m₁ news₁ => news₁ = [(l, listOf vs.toArray nn)] ∧ ∀ y, y ≠ x → stored.contains y = false → m₁ y = m₀ y
  refine ⟨_, _, _, ns.length, _, _, m₀, [(l, listOf vs.toArray nn)], J, rfl, W, ?_, ?_, ?_, ⟨⟨_, Heap.get?_push_size _ rfl, rfl, rfl⟩, hls.at fun o e => Heap.get?_push_of_some _ e⟩, F.push _, (fun p hp => ?_), ⟨rfl, fun _ _ _ => rfl⟩, ?_, ?_⟩
  · intro hI
    rcases List.mem_cons.mp hI with e | hI
    · exact absurd F.ns.lt (e ▸ Nat.lt_irrefl _)
    · exact hax.2.1 (List.mem_singleton.mp hI).symm
  · intro b hb
    rw [List.mem_singleton.mp hb]
    exact next_is_new F
  · intro p hp hI
    rw [List.mem_singleton.mp hp] at hI
    exact hne (List.mem_singleton.mp hI)
  · rw [List.mem_singleton.mp hp]
    exact ⟨Heap.get?_push_of_some _ hax.1, hax.2⟩
  · rintro i v m₁ news₁ s₁ own ⟨hh', tk', rfl⟩ hin hP ⟨rfl, hJ⟩ hoff hown hget hall hst F₁ N₁
    have hlt' : i < ns.length := hin
    obtain ⟨t, hx⟩ := hi.get i ns[i] (by simp [hlt'])
    have hv : v = .int ns[i] t := by
      have hP' : vs[i]? = some v := by simpa using hP
      rw [hx] at hP'; exact (Option.some.inj hP').symm
    subst hv
    have e : (fun y => if y = x then some (Value.int ns[i] t) else m₁ y) = fun y => if y = x then some (Value.int ns[i] t) else if stored.contains y then m₁ y else m₀ y := by
      funext y
      by_cases h1 : y = x
      · simp [h1]
      · simp only [if_neg h1]
        cases h2 : stored.contains y with
        | true => simp
        | false => simp only [Bool.false_eq_true, if_false]; exact hJ y h1 h2
    rw [e] at F₁
    obtain ⟨⟨o, ho, hoc, _⟩, _⟩ := hst
    have hio : (s.heap.objs.size, o) ∈ own := hall _ (.head _) (next_is_new F) o ho
    have hl : hh'.get? l = some (listOf vs.toArray nn) := (N₁ _ (List.mem_append_right _ (.head _))).1
    have N₂ : News h₀ env.locals hh' [(s.heap.objs.size, o), (l, listOf vs.toArray nn)] := fun p hp => by
      rcases List.mem_cons.mp hp with rfl | hp
      · exact N₁ _ (List.mem_append_left _ hio)
      · exact N₁ _ (List.mem_append_right _ hp)
    refine wpAny_mono (turn s.heap.objs.size o ns[i] t m₁ hh' tk' hlt hoc F₁ N₂) (fun f s₂ p => ?_) fun _ _ e => e
    have fin : TurnEnd h₀ env.locals x stored m₀ [(s.heap.objs.size, o), (l, listOf vs.toArray nn)] { s with heap := hh', toks := tk' } s₂ → LoopStepU h₀ env.locals [s.heap.objs.size] own (J (i + 1)) { s with heap := hh', toks := tk' } .next s₂ := by
      rintro ⟨h', tk, m', news', e, F', N', hn, hm⟩
      refine ⟨rfl, h', tk, m', [(l, listOf vs.toArray nn)], e, F', fun p hp => N' p (hn p ?_), hoff, rfl, hm⟩
      rcases List.mem_append.mp hp with hp | hp
      · have h1 := hown p hp
        have h2 : hh'.get? p.1 = some p.2 := hget p hp
        rcases List.mem_cons.mp h1 with e1 | h1
        · rw [e1, ho] at h2
          rw [show p = (s.heap.objs.size, o) from Prod.ext e1 (Option.some.inj h2).symm]
          exact .head _
        · have e1 := List.mem_singleton.mp h1
          rw [e1, hl] at h2
          rw [show p = (l, listOf vs.toArray nn) from Prod.ext e1 (Option.some.inj h2).symm]
          exact .tail _ (.head _)
      · exact .tail _ hp
    cases f with
    | ret v => exact .ret p
    | brk => exact .brk p
    | next => exact .next (fin p)
    | cont => exact .cont (fin p)
  · rintro h' tk m' news' F' N' _ ⟨rfl, hJ⟩
    refine done m' h' tk ?_ N'
    have e : (fun y => if y = x then m' y else if stored.contains y then m' y else m₀ y) = m' := by
      funext y
      by_cases h1 : y = x
      · simp [h1]
      · simp only [if_neg h1]
        cases h2 : stored.contains y with
        | true => simp
        | false => simp only [Bool.false_eq_true, if_false]; exact (hJ y h1 h2).symm
    rw [e]; exact F'
end

theorem menu_bounds (i : Nat) : 0 ≤ [6, 7, 13, 14, 0, 20, 27, 34, 35, 41].getD i (0 : Int) ∧ [6, 7, 13, 14, 0, 20, 27, 34, 35, 41].getD i (0 : Int) ≤ 41 := by
  rcases Nat.lt_or_ge i 10 with h | h
  · have key : ∀ j : Fin 10, 0 ≤ [6, 7, 13, 14, 0, 20, 27, 34, 35, 41].getD j.val (0 : Int) ∧ [6, 7, 13, 14, 0, 20, 27, 34, 35, 41].getD j.val (0 : Int) ≤ 41 := by decide +kernel
    exact key ⟨i, h⟩
  · rw [List.getD_eq_getElem?_getD, List.getElem?_eq_none (by simpa using h)]
    decide
theorem fm3 (x : Int) : 0 ≤ x.fmod 3 ∧ x.fmod 3 < 3 := by
  rw [Int.fmod_eq_emod_of_nonneg _ (by decide)]
  omega
theorem cell_pow {n : Int} (h0 : 0 ≤ n) (h1 : n ≤ 41) : 1 ≤ 1 * (2 : Int) ^ n.toNat ∧ 1 * (2 : Int) ^ n.toNat ≤ 2199023255552 := by
  have e : ∀ k : Nat, (2 : Int) ^ k = ((2 ^ k : Nat) : Int) := fun k => by simp
  rw [Int.one_mul, e]
  have a : 1 ≤ 2 ^ n.toNat := Nat.one_le_two_pow
  have b : 2 ^ n.toNat ≤ 2 ^ 41 := Nat.pow_le_pow_right (by decide) (by omega)
  omega
theorem cell_shift {prog : Program} {w : World} {A : Around} {E : Value → Shared → Prop} {s : Shared} {i : Nat} {t u : Tok} {Q : Value → Shared → Prop}
    (h : ∀ P : Int, 1 ≤ P → P ≤ 2199023255552 → Q (.int P s.toks) { s with toks := s.toks + 1 }) :
    wpAny (model prog w) A (binaryOp .LShift (.int 1 t) (.int ([6, 7, 13, 14, 0, 20, 27, 34, 35, 41].getD i 0) u)) Q E s := by
  have hb := menu_bounds i
  have hp := cell_pow hb.1 hb.2
  exact PyProof.Rows.lshift_int_small hb.1 (by omega) (by decide) (h _ hp.1 hp.2)
theorem cellU {P r : Int} (h1 : 1 ≤ P) (h2 : P ≤ 2199023255552) : inR false (P - 1 + r.fmod 3) 7 := by
  have := fm3 r
  refine ⟨by omega, ?_⟩
  rw [show (128 : Int) ^ 7 = 562949953421312 by decide]
  omega
theorem cellS {x : Int} (h1 : -2199023255558 ≤ x) (h2 : x ≤ 2199023255558) : inR true x 7 := by
  unfold inR
  rw [if_pos rfl, show (128 : Int) ^ (7 - 1) = 4398046511104 by decide]
  omega
theorem cellS1 {P r : Int} (h1 : 1 ≤ P) (h2 : P ≤ 2199023255552) : inR true (P - 1 + r.fmod 3) 7 := by
  have := fm3 r
  exact cellS (by omega) (by omega)
theorem cellS2 {P r : Int} (h1 : 1 ≤ P) (h2 : P ≤ 2199023255552) : inR true (0 - (P - 1 + r.fmod 3)) 7 := by
  have := fm3 r
  exact cellS (by omega) (by omega)
theorem cellS3 {P r : Int} (h1 : 1 ≤ P) (h2 : P ≤ 2199023255552) : inR true (-1 - (P - 1 + r.fmod 3)) 7 := by
  have := fm3 r
  exact cellS (by omega) (by omega)
theorem inR_ten {s : Bool} {x : Int} (h : inR s x 7) : inR s x 10 := inR_mono (by decide) h
theorem need_seven {s : Bool} {x : Int} {n : Nat} (h : Need s x n) (h1 : inR s x 7) : 1 ≤ n ∧ n ≤ 7 := ⟨h.1, need_le h h1 (by decide)⟩
theorem wide_lo {a r : Int} (h : 0 ≤ a) : 0 ≤ a + 1 + r.fmod 3 := by have := fm3 r; omega
theorem wide_hi {a r : Int} (h : a ≤ 7) : a + 1 + r.fmod 3 ≤ 10 := by have := fm3 r; omega
/-- the least number of groups of a drawn number -/
theorem c_needC {w : World} {x : Int} {tx : Tok} {b : Bool} {news : List (Addr × Obj)} (h : inR b x 7) : Ctr w 172 news [.int x tx, .bool b] 3 (fun r _ => ∃ t n, r = .int ((n : Nat) : Int) t ∧ 1 ≤ n ∧ n ≤ 7) := by
  intro mean mg mb dp un gd cn cs a ccd cl outer A₀ base h₀ L m s Q E B F X N T hk hd hu hret
  refine c_need w x tx b news (inR_ten h) mean mg mb dp un gd cn cs a ccd cl outer A₀ base h₀ L m s Q E B F X N T hk hd hu fun r h' tk' F' N' R => hret r h' tk' F' N' ?_
  obtain ⟨t, n, rfl, hn⟩ := R
  exact ⟨t, n, rfl, need_seven hn h⟩

end Mine
set_option maxRecDepth 100000 in
set_option maxHeartbeats 8000000 in
theorem PySem.Challenge.cw_nz0169_01_holds : PySem.Challenge.rw_nz0169_01.Holds := by
  k_with_none
  k_with "mine use" => (((case k1 => k_asm); (case k2 => k_asm); (case k3 => k_asm); (case k4 => k_asm); (case k5 => k_asm); (case kK => first | exact rfl | assumption); (case kd => ktr_room); (case ku => ktr_units)))
  k_with "mine enter" => ((refine' code_def ?k1 ?k2 ?k3 ?k4 ?k5 ?kA ?kF ?kK ?k6 ?k7 ?k8 ?k9 ?kB ?_ ?c2 ?c3 ?c4 ?c5; (case kA => exact rfl); (case kF => exact rfl); (case kK => first | exact rfl | assumption); (case k1 => k_asm); (case k2 => k_asm); (case k3 => k_asm); (case k4 => k_asm); (case k5 => k_asm); (case k6 => k_is); (case k7 => k_is); (case k8 => ktr_room); (case k9 => first | exact BindsTo.of_eq rfl | exact binds_K (by k_in) rfl (by k_is) rfl rfl rfl); (case c5 => decide); (case kB => exact locs rfl); (case c2 => exact rfl); (case c3 => exact rfl); (case c4 => exact rfl); k_whole; intro g' L' h' FG' F' N' B' X' T'; (try dsimp only); (try k_fold)))
  k_with "mine enterS" => ((refine' code_defS ?k1 ?k2 ?k3 ?k4 ?k5 ?XB ?TB ?D ?T0 ?kA ?k6 ?k7 ?k8 ?k9 ?kB ?_ ?cK ?c2 ?c3 ?c4 ?c5; (case kA => exact rfl); (case k2 => k_asm); (case k1 => k_asm); (case XB => assumption); (case TB => assumption); (case D => assumption); (case T0 => first | assumption | exact KtsTurn.refl); (case k3 => k_asm); (case k4 => k_asm); (case k5 => k_asm); (case k6 => k_is); (case k7 => k_is); (case k8 => ktr_room); (case k9 => exact BindsTo.of_eq rfl); (case kB => exact locs rfl); (case cK => first | exact rfl | assumption); (case c2 => exact rfl); (case c3 => exact rfl); (case c4 => exact rfl); (case c5 => decide); k_whole; intro g' L' h' FG' F' N' B' X' T' D'; (try dsimp only); (try k_fold)))
  k_with "exec For Tuple Call cons nil" => ((k_here; (rename Fr _ _ _ _ => lF'); (with_unfolding_all refine' For_turns lF' ?_; k_whole)))
  k_with "call ref" => ((k_here; (with_reducible show wpAny _ _ (call (Value.ref 158) _) _ _ _); k_dflt (refine' Mine.ctr2_use (Mine.c_rows _ _) ?k1 ?k2 ?k3 ?k4 ?k5 ?kK ?kd ?ku ?_; walk_at "mine use"; k_whole); intro r9 tl9 h9 tk9 F9 N9 R9; unfold Mine.RowsR at R9; obtain ⟨l9, nn9, ps9, z9, y9, hR9⟩ := R9; subst z9 y9; (try dsimp only); (try k_fold)))
  k_with "pyIter ref" => ((k_here; (with_reducible show wpAny _ _ (pyIter (Value.ref _)) (fun it s₂ => TurnsAt _ _ _ _ _ _ _ _ _ it s₂) _ _); (rename Fr _ _ _ _ => lF'); (rename News _ _ _ _ => lN'); (with_unfolding_all refine' Mine.iter_rows (x := Str.ofString "worth") [Str.ofString "worth", Str.ofString "is_signed", Str.ofString "width", Str.ofString "octets"] ?hh lF' lN' ?hR ?hx ?turn ?done); (k_dflt ((case hh => exact rfl); (case hR => assumption); (case hx => decide +kernel))); (case' turn => intro T' z' sg' k' ov' tx' tk' u' h' tk1' all' r1 r2 r3 r4 F' N'); (case' done => intro u' h' tk' F' N'); (all_goals (clear lF' lN')); (all_goals (try dsimp only))))
  k_with "call ref" => ((k_here; (with_reducible show wpAny _ _ (call (Value.ref 165) [_, _, _]) _ _ _); (rename Mine.LaidR _ _ _ _ => rOld); k_dflt (refine' Mine.ctrS_top (Mine.laid_both _ _ _ _ _ _ ?qa ?qb ?qc) ?k1 ?k2 ?k3 ?k4 ?k5 ?k6 ?k7 ?kK ?kd ?ku ?_; (case qa => assumption); (case qb => assumption); (case qc => omega); walk_at "mine use"; (case k6 => assumption); (case k7 => assumption); k_whole); intro r9 h9 tk9 F9 N9 R9; (rcases Mine.laid_two R9 rOld with ⟨z9, y9⟩ | ⟨b8, t8, b9, t9, l9, z9, y9, e8, e9⟩); (all_goals (subst z9; subst y9; (try dsimp only); (try k_fold)))))
  k_with "call ref" => ((k_here; (with_reducible show wpAny _ _ (call (Value.ref 186) [_, _, _]) _ _ _); k_dflt (refine' Mine.ctrS_top (Mine.c_right ?ra ?rb ?rc) ?k1 ?k2 ?k3 ?k4 ?k5 ?k6 ?k7 ?kK ?kd ?ku ?_; (case ra => first | assumption | exact Mine.inR_ten (Mine.cellU (by assumption) (by assumption)) | exact Mine.inR_ten (Mine.cellS1 (by assumption) (by assumption)) | exact Mine.inR_ten (Mine.cellS2 (by assumption) (by assumption)) | exact Mine.inR_ten (Mine.cellS3 (by assumption) (by assumption))); (case rb => first | assumption | omega | exact Mine.wide_lo (by omega)); (case rc => first | assumption | omega | exact Mine.wide_hi (by omega)); walk_at "mine use"; (case k6 => assumption); (case k7 => assumption); k_whole); intro r9 h9 tk9 F9 N9 R9; subst R9; (try dsimp only); (try k_fold)))
  k_with "exec For Name BinOp cons nil" => ((k_here; (rename Fr _ _ _ _ => lF'); (with_unfolding_all refine' For_invVF lF' ?k1 ?k2 ?_; (case k1 => exact rfl); (case k2 => exact rfl); k_whole)))
  k_with "pyIter ref" => ((k_here; (with_reducible show wpAny _ _ (pyIter (Value.ref _)) (fun it s₂ => LoopAtV _ _ _ _ _ _ _ _ _ it s₂) _ _); (rename Fr _ _ _ _ => lF'); (rename News _ _ _ _ => lN'); (with_unfolding_all refine' Mine.iter_cells [Str.ofString "rest", Str.ofString "more", Str.ofString "bits", Str.ofString "size", Str.ofString "worth", Str.ofString "is_signed", Str.ofString "need", Str.ofString "width"] ?chh lF' lN' ?chm ?chi ?cturn ?cdone); (k_dflt ((case chh => exact rfl); (case chm => k_mem); (case chi => assumption))); (case' cturn => intro I' o' n' t' u' h' tk' l1 hc' F' N'); (case' cdone => intro u' h' tk' F' N'); (all_goals (clear lF' lN')); (all_goals (try dsimp only))))
  k_with "binaryOp LShift int int" => ((k_here; k_dflt (refine Mine.cell_shift ?_); intro P' hP1' hP2'))
  k_with "call ref" => ((k_here; (with_reducible show wpAny _ _ (call (Value.ref 172) [_, _]) _ _ _); k_dflt (refine' Mine.ctr_use (Mine.c_needC ?nq) ?k1 ?k2 ?k3 ?k4 ?k5 ?kK ?kd ?ku ?_; (case nq => first | exact Mine.cellU (by assumption) (by assumption) | exact Mine.cellS1 (by assumption) (by assumption) | exact Mine.cellS2 (by assumption) (by assumption) | exact Mine.cellS3 (by assumption) (by assumption)); walk_at "mine use"; k_whole); intro r9 h9 tk9 F9 N9 R9; obtain ⟨t9, n9, z9, p9, q9⟩ := R9; subst z9; (try dsimp only); (try k_fold)))
  k_with "TurnEnd" => ((refine TurnEnd.intro (by assumption) (by assumption) (by intro p hp; repeat (first | with_reducible exact hp | refine List.mem_cons_of_mem _ ?_)) (by first | k_same | ktm_same)))
  k_with "UnrEndW" => (k_dflt ktu_end)
  refine Mine.hd ?_
  k_go0
  all_goals try k_fold
  k_steps
  all_goals exact (Mine.ne_absurd (by assumption) (by assumption) (by assumption)).elim


