import PyProof.Rows.All
import Wide.All
import OpenK.AllK
import Wide.FinOn
import PySem.Challenge.RW_rh0066_01
set_option Elab.async false
set_option maxRecDepth 100000
set_option maxHeartbeats 8000000
set_option rowWalk.seconds 1700
set_option linter.unusedVariables false
set_option linter.unusedSimpArgs false
set_option compiler.extract_closed false

namespace Mine
open PySem PySem.W PyProof.Rows
open_top hd for PySem.Challenge.rw_rh0066_01
end Mine

namespace Mine
open PySem
theorem bits_lt (v : Int) : v.natAbs < 2 ^ Builtin.Int.intBits v := by
  unfold Builtin.Int.intBits
  by_cases h : (v == 0) = true
  · rw [if_pos h]
    have : v = 0 := by simpa using h
    subst this; decide
  · rw [if_neg h]
    exact Nat.lt_log2_self
theorem bits_ge {v : Int} (h : v ≠ 0) : 2 ^ (Builtin.Int.intBits v) ≤ 2 * v.natAbs := by
  unfold Builtin.Int.intBits
  rw [if_neg (by simpa using h)]
  have := Nat.log2_self_le (n := v.natAbs) (Int.natAbs_ne_zero.mpr h)
  rw [Nat.pow_succ, Nat.mul_comm]; exact Nat.mul_le_mul_left 2 this
theorem bits_pos {v : Int} (h : v ≠ 0) : 1 ≤ Builtin.Int.intBits v := by
  unfold Builtin.Int.intBits
  rw [if_neg (by simpa using h)]
  exact Nat.le_add_left 1 _
theorem two_pos (c : Nat) : (0 : Int) < 2 ^ c := Int.pow_pos (by decide)
/-- floor division by a power of two, as the machine names it -/
theorem fdiv_two (v : Int) (c : Nat) : v.fdiv (2 ^ c) = v / 2 ^ c := Int.fdiv_eq_ediv_of_nonneg v (Int.le_of_lt (two_pos c))
theorem cast_two (c : Nat) : ((2 ^ c : Nat) : Int) = 2 ^ c := by simp
theorem div_small {v M : Int} (h3 : (v.natAbs : Int) < M) : v / M = if v < 0 then -1 else 0 := by
  have hp : 0 < M := Int.lt_of_le_of_lt (Int.natCast_nonneg _) h3
  split
  · rename_i hn
    rw [Int.ofNat_natAbs_of_nonpos (Int.le_of_lt hn)] at h3
    exact (Int.ediv_eq_iff_of_pos hp).mpr ⟨by omega, by omega⟩
  · rename_i hn
    rw [Int.natAbs_of_nonneg (Int.not_lt.mp hn)] at h3
    exact Int.ediv_eq_zero_of_lt (Int.not_lt.mp hn) h3
theorem div_two_small {v : Int} {k n : Nat} (h1 : v.natAbs < 2 ^ k) (h2 : k ≤ n) : v / 2 ^ n = if v < 0 then -1 else 0 :=
  div_small (by rw [← cast_two]; exact Int.ofNat_lt.mpr (Nat.lt_of_lt_of_le h1 (Nat.pow_le_pow_right (by decide) h2)))
theorem shr_small {v : Int} {c : Int} (h : (Builtin.Int.intBits v : Int) ≤ c) : v / 2 ^ c.toNat = if v < 0 then -1 else 0 :=
  div_two_small (bits_lt v) ((Int.le_toNat (Int.le_trans (Int.natCast_nonneg _) h)).mpr h)

theorem room_nat {n k c b : Nat} (h1 : n < 2 ^ k) (h2 : 2 ^ k ≤ 2 * n) : k + c ≤ b ↔ (c ≤ b ∧ n * 2 ^ c < 2 ^ b) := by
  constructor
  · intro h
    refine ⟨Nat.le_trans (Nat.le_add_left c k) h, ?_⟩
    calc n * 2 ^ c < 2 ^ k * 2 ^ c := Nat.mul_lt_mul_of_pos_right h1 (Nat.pow_pos (by decide))
      _ = 2 ^ (k + c) := (Nat.pow_add ..).symm
      _ ≤ 2 ^ b := Nat.pow_le_pow_right (by decide) h
  · rintro ⟨h, g⟩
    have hs : 2 ^ b = 2 ^ (b - c) * 2 ^ c := by rw [← Nat.pow_add, Nat.sub_add_cancel h]
    rw [hs] at g
    have g' := Nat.lt_of_mul_lt_mul_right g
    have g2 : 2 ^ k < 2 ^ (b - c + 1) := Nat.lt_of_le_of_lt h2 (by rw [Nat.pow_succ, Nat.mul_comm]; exact Nat.mul_lt_mul_of_pos_right g' (by decide))
    exact Nat.add_le_of_le_sub h (Nat.le_of_lt_succ ((Nat.pow_lt_pow_iff_right (by decide : 1 < 2)).mp g2))
/-- the room test of shift_left says what the law says of sizes -/
theorem room_iff {v c b : Int} (hv : v ≠ 0) (hc : 0 ≤ c) (hb : 0 ≤ b) :
    (Builtin.Int.intBits v : Int) + c ≤ b ↔ (c ≤ b ∧ (if v < 0 then -v else v) * 2 ^ c.toNat < 2 ^ b.toNat) := by
  have habs : (if v < 0 then -v else v) = (v.natAbs : Int) := by
    split
    · rename_i h; exact (Int.ofNat_natAbs_of_nonpos (Int.le_of_lt h)).symm
    · rename_i h; exact (Int.natAbs_of_nonneg (Int.not_lt.mp h)).symm
  rw [habs]
  obtain ⟨c, rfl⟩ := Int.eq_ofNat_of_zero_le hc
  obtain ⟨b, rfl⟩ := Int.eq_ofNat_of_zero_le hb
  rw [Int.toNat_natCast, Int.toNat_natCast, ← cast_two, ← cast_two, ← Int.natCast_mul, ← Int.natCast_add, Int.ofNat_lt, Int.ofNat_le, Int.ofNat_le]
  exact room_nat (bits_lt v) (bits_ge hv)
theorem lk_ne {y z : Str} {u v : Value} {m : Str → Option Value} (h : y ≠ z) (e : m y = some v) : (fun y' => if y' = z then some u else m y') y = some v := by
  show (if y = z then some u else m y) = some v
  rw [if_neg h]; exact e
/-- addresses differ -/
theorem nc1 {a b : Nat} {p : Prop} (h : b < a ∧ p) : a ≠ b := Nat.ne_of_gt h.1
theorem nc2 {a b : Nat} {q p : Prop} (h : q ∧ b < a ∧ p) : a ≠ b := nc1 h.2
theorem nc3 {a b : Nat} {q r p : Prop} (h : q ∧ r ∧ b < a ∧ p) : a ≠ b := nc2 h.2
theorem nc4 {a b : Nat} {q r u p : Prop} (h : q ∧ r ∧ u ∧ b < a ∧ p) : a ≠ b := nc3 h.2
theorem nc5 {a b : Nat} {q r u v p : Prop} (h : q ∧ r ∧ u ∧ v ∧ b < a ∧ p) : a ≠ b := nc4 h.2
theorem nc6 {a b : Nat} {q r u v w p : Prop} (h : q ∧ r ∧ u ∧ v ∧ w ∧ b < a ∧ p) : a ≠ b := nc5 h.2
end Mine

section
open PySem PySem.W PyProof.Rows
local macro_rules | `(tactic| walk_at "c1") => `(tactic| ((case B => k_asm); (case F => k_asm); (case X => k_asm); (case T => k_asm); (case hk => first | exact rfl | assumption); (case hd => ktr_room); (case hu => ktr_units); (case N => k_asm)))
local macro_rules | `(tactic| k_ne) => `(tactic| (refine neN ?_; (try dsimp only); (first | exact Nat.ne_of_lt (by assumption) | exact Nat.ne_of_gt (by assumption) | exact Mine.nc1 (by assumption) | exact Mine.nc2 (by assumption) | exact Mine.nc3 (by assumption) | exact Mine.nc4 (by assumption) | exact Mine.nc5 (by assumption) | exact Mine.nc6 (by assumption))))
local macro_rules | `(tactic| walk_at "c2") => `(tactic| (intros; (try dsimp only); (try k_fold)))
local macro_rules | `(tactic| walk_at "c4") => `(tactic| ((case hb => omega); (case hr => assumption)))
namespace Mine
open PySem PySem.W PyProof.Rows
local macro_rules | `(tactic| walk_at "binaryOp LShift int int") => `(tactic| (refine lshift_int ?h1 ?h2 ?_; (case h1 => omega); (case h2 => omega)))

theorem shr_call0 {w : World} {mean : ExcName → Option Value} {mg mb : Str → Option Value} {dp un : Nat} {gd : Option (List Code)} {cn : Str} {cs : Scope} {a : Addr} {ccd : Value} {cl : List (Str × Addr)}
    {outer : List Env} {A₀ : Around} {base h₀ : Heap} {L : Addr} {m : Str → Option Value} {s : Shared} {Q E : Value → Shared → Prop}
    {rest : List (Addr × Obj)} {sym bv : Value} {v c : Int} {tv tc : Tok}
    (B : Below A₀ base outer h₀) (F : Fr h₀ L s.heap m) (X : (hd.heap_39 w.params).In h₀)
    (T : Top hd.view_39 (looseW hd.view_39 []) mean mg mb h₀) (hk : cs.kind = .function) (hd : dp + 1 < recursionLimit) (hu : un + 8 < cLine)
    (N : News h₀ L s.heap rest) (hc : 0 ≤ c)
    (ret : ∀ (td : Tok) (h' : Heap) (tk9 : Nat), Fr h₀ L h' m → News h₀ L h' rest → Q (.int (v / 2 ^ c.toNat) td) { s with heap := h', toks := tk9 }) :
    wpAny (model PySem.Challenge.rw_rh0066_01.row.prog w) (ktrTop dp un gd cn cs L a ccd cl outer) (call (.ref 193) [sym, .int v tv, .int c tc, bv]) Q E s := by
  w_top off; revert X; k_fill; intro X
  refine wpAny_call ?_
  k_dflt cell_enter
  k_steps
  · have e := shr_small (v := v) (c := c) (by assumption)
    rw [if_pos (by assumption)] at e
    rw [← e]
    exact ret _ _ _ (by k_asm) (by k_asm)
  · have e := shr_small (v := v) (c := c) (by assumption)
    rw [if_neg (by assumption)] at e
    rw [← e]
    exact ret _ _ _ (by k_asm) (by k_asm)
  · rw [fdiv_two]
    exact ret _ _ _ (by k_asm) (by k_asm)

theorem shl_call0 {w : World} {mean : ExcName → Option Value} {mg mb : Str → Option Value} {dp un : Nat} {gd : Option (List Code)} {cn : Str} {cs : Scope} {a : Addr} {ccd : Value} {cl : List (Str × Addr)}
    {outer : List Env} {A₀ : Around} {base h₀ : Heap} {L : Addr} {m : Str → Option Value} {s : Shared} {Q E : Value → Shared → Prop}
    {rest : List (Addr × Obj)} {sym : Value} {v c b : Int} {tv tc tb : Tok}
    (B : Below A₀ base outer h₀) (F : Fr h₀ L s.heap m) (X : (hd.heap_39 w.params).In h₀)
    (T : Top hd.view_39 (looseW hd.view_39 []) mean mg mb h₀) (hk : cs.kind = .function) (hd : dp + 1 < recursionLimit) (hu : un + 8 < cLine)
    (N : News h₀ L s.heap rest) (hc : 0 ≤ c) (hb : b ≤ 1000) (hr : v = 0 ∨ (Builtin.Int.intBits v : Int) + c ≤ b)
    (ret : ∀ (td : Tok) (h' : Heap) (tk9 : Nat), Fr h₀ L h' m → News h₀ L h' rest → Q (.int (v * 2 ^ c.toNat) td) { s with heap := h', toks := tk9 }) :
    wpAny (model PySem.Challenge.rw_rh0066_01.row.prog w) (ktrTop dp un gd cn cs L a ccd cl outer) (call (.ref 186) [sym, .int v tv, .int c tc, .int b tb]) Q E s := by
  w_top off; revert X; k_fill; intro X
  refine wpAny_call ?_
  k_dflt cell_enter
  k_steps
  · rename_i hz _ _ _
    have e : v * 2 ^ c.toNat = 0 := by rw [show v = 0 by assumption, Int.zero_mul]
    rw [← e]
    exact ret _ _ _ (by k_asm) (by k_asm)
  · exact ret _ _ _ (by k_asm) (by k_asm)

local macro_rules | `(tactic| walk_at "call ref") => `(tactic| (k_here; k_dflt (apply shr_call0; walk_at "c1"; (case hc => omega); k_whole); walk_at "c2"))
local macro_rules | `(tactic| walk_at "call ref") => `(tactic| (k_here; k_dflt (apply shl_call0; walk_at "c1"; (case hc => omega); walk_at "c4"; k_whole); walk_at "c2"))

/-- what shift_left gives back where it gives back -/
def leftV (v c : Int) : Int := if c < 0 then v / 2 ^ (-c).toNat else v * 2 ^ c.toNat
/-- it raises nothing -/
def LeftOk (v c b : Int) : Prop := c < 0 ∨ v = 0 ∨ (Builtin.Int.intBits v : Int) + c ≤ b
/-- what shift_right gives back where it gives back -/
def rightV (v c : Int) : Int := if c < 0 then v * 2 ^ (-c).toNat else v / 2 ^ c.toNat
def RightOk (v c b : Int) : Prop := 0 ≤ c ∨ v = 0 ∨ (Builtin.Int.intBits v : Int) + -c ≤ b

theorem shl_call {w : World} {mean : ExcName → Option Value} {mg mb : Str → Option Value} {dp un : Nat} {gd : Option (List Code)} {cn : Str} {cs : Scope} {a : Addr} {ccd : Value} {cl : List (Str × Addr)}
    {outer : List Env} {A₀ : Around} {base h₀ : Heap} {L : Addr} {m : Str → Option Value} {s : Shared} {Q E : Value → Shared → Prop}
    {rest : List (Addr × Obj)} {sym : Value} {v c b : Int} {tv tc tb : Tok}
    (B : Below A₀ base outer h₀) (F : Fr h₀ L s.heap m) (X : (hd.heap_39 w.params).In h₀)
    (T : Top hd.view_39 (looseW hd.view_39 []) mean mg mb h₀) (hk : cs.kind = .function) (hd : dp + 2 < recursionLimit) (hu : un + 16 < cLine)
    (N : News h₀ L s.heap rest) (hb : b ≤ 1000) (hr : LeftOk v c b)
    (ret : ∀ (td : Tok) (h' : Heap) (tk9 : Nat), Fr h₀ L h' m → News h₀ L h' rest → Q (.int (leftV v c) td) { s with heap := h', toks := tk9 }) :
    wpAny (model PySem.Challenge.rw_rh0066_01.row.prog w) (ktrTop dp un gd cn cs L a ccd cl outer) (call (.ref 186) [sym, .int v tv, .int c tc, .int b tb]) Q E s := by
  by_cases hc : c < 0
  · w_top off; revert X; k_fill; intro X
    refine wpAny_call ?_
    k_dflt cell_enter
    k_steps
    have e : leftV v c = v / 2 ^ (-c).toNat := if_pos hc
    rw [← e]
    exact ret _ _ _ (by k_asm) (by k_asm)
  · have hr' : v = 0 ∨ (Builtin.Int.intBits v : Int) + c ≤ b := hr.resolve_left hc
    have e : leftV v c = v * 2 ^ c.toNat := if_neg hc
    rw [e] at ret
    exact shl_call0 B F X T hk (by omega) (by omega) N (by omega) hb hr' ret

theorem shr_call {w : World} {mean : ExcName → Option Value} {mg mb : Str → Option Value} {dp un : Nat} {gd : Option (List Code)} {cn : Str} {cs : Scope} {a : Addr} {ccd : Value} {cl : List (Str × Addr)}
    {outer : List Env} {A₀ : Around} {base h₀ : Heap} {L : Addr} {m : Str → Option Value} {s : Shared} {Q E : Value → Shared → Prop}
    {rest : List (Addr × Obj)} {sym : Value} {v c b : Int} {tv tc tb : Tok}
    (B : Below A₀ base outer h₀) (F : Fr h₀ L s.heap m) (X : (hd.heap_39 w.params).In h₀)
    (T : Top hd.view_39 (looseW hd.view_39 []) mean mg mb h₀) (hk : cs.kind = .function) (hd : dp + 2 < recursionLimit) (hu : un + 16 < cLine)
    (N : News h₀ L s.heap rest) (hb : b ≤ 1000) (hr : RightOk v c b)
    (ret : ∀ (td : Tok) (h' : Heap) (tk9 : Nat), Fr h₀ L h' m → News h₀ L h' rest → Q (.int (rightV v c) td) { s with heap := h', toks := tk9 }) :
    wpAny (model PySem.Challenge.rw_rh0066_01.row.prog w) (ktrTop dp un gd cn cs L a ccd cl outer) (call (.ref 193) [sym, .int v tv, .int c tc, .int b tb]) Q E s := by
  by_cases hc : c < 0
  · have hr' : v = 0 ∨ (Builtin.Int.intBits v : Int) + -c ≤ b := hr.resolve_left (by omega)
    w_top off; revert X; k_fill; intro X
    refine wpAny_call ?_
    k_dflt cell_enter
    k_steps
    have e : rightV v c = v * 2 ^ (-c).toNat := if_pos hc
    rw [← e]
    exact ret _ _ _ (by k_asm) (by k_asm)
  · have e : rightV v c = v / 2 ^ c.toNat := if_neg hc
    rw [e] at ret
    exact shr_call0 B F X T hk (by omega) (by omega) N (by omega) ret
end Mine

namespace Mine
open PySem PySem.W PyProof.Rows
local macro_rules | `(tactic| walk_at "call ref") => `(tactic| (k_here; k_dflt (apply shr_call; walk_at "c1"; walk_at "c4"; k_whole); walk_at "c2"))
local macro_rules | `(tactic| walk_at "call ref") => `(tactic| (k_here; k_dflt (apply shl_call; walk_at "c1"; walk_at "c4"; k_whole); walk_at "c2"))

theorem left_call {w : World} {mean : ExcName → Option Value} {mg mb : Str → Option Value} {dp un : Nat} {gd : Option (List Code)} {cn : Str} {cs : Scope} {a : Addr} {ccd : Value} {cl : List (Str × Addr)}
    {outer : List Env} {A₀ : Around} {base h₀ : Heap} {L : Addr} {m : Str → Option Value} {s : Shared} {Q E : Value → Shared → Prop}
    {rest : List (Addr × Obj)} {sym : Value} {v c b : Int} {tv tc tb : Tok}
    (B : Below A₀ base outer h₀) (F : Fr h₀ L s.heap m) (X : (hd.heap_39 w.params).In h₀)
    (T : Top hd.view_39 (looseW hd.view_39 []) mean mg mb h₀) (hk : cs.kind = .function) (hd : dp + 3 < recursionLimit) (hu : un + 24 < cLine)
    (N : News h₀ L s.heap rest) (hb : b ≤ 1000) (hr : LeftOk v c b)
    (ret : ∀ (td : Tok) (h' : Heap) (tk9 : Nat), Fr h₀ L h' m → News h₀ L h' rest → Q (.int (leftV v c) td) { s with heap := h', toks := tk9 }) :
    wpAny (model PySem.Challenge.rw_rh0066_01.row.prog w) (ktrTop dp un gd cn cs L a ccd cl outer) (call (.ref 221) [sym, .int v tv, .int c tc, .int b tb]) Q E s := by
  w_top off; revert X; k_fill; intro X
  refine wpAny_call ?_
  k_dflt cell_enter
  k_steps
  all_goals exact ret _ _ _ (by k_asm) (by k_asm)
theorem right_call {w : World} {mean : ExcName → Option Value} {mg mb : Str → Option Value} {dp un : Nat} {gd : Option (List Code)} {cn : Str} {cs : Scope} {a : Addr} {ccd : Value} {cl : List (Str × Addr)}
    {outer : List Env} {A₀ : Around} {base h₀ : Heap} {L : Addr} {m : Str → Option Value} {s : Shared} {Q E : Value → Shared → Prop}
    {rest : List (Addr × Obj)} {sym : Value} {v c b : Int} {tv tc tb : Tok}
    (B : Below A₀ base outer h₀) (F : Fr h₀ L s.heap m) (X : (hd.heap_39 w.params).In h₀)
    (T : Top hd.view_39 (looseW hd.view_39 []) mean mg mb h₀) (hk : cs.kind = .function) (hd : dp + 3 < recursionLimit) (hu : un + 24 < cLine)
    (N : News h₀ L s.heap rest) (hb : b ≤ 1000) (hr : RightOk v c b)
    (ret : ∀ (td : Tok) (h' : Heap) (tk9 : Nat), Fr h₀ L h' m → News h₀ L h' rest → Q (.int (rightV v c) td) { s with heap := h', toks := tk9 }) :
    wpAny (model PySem.Challenge.rw_rh0066_01.row.prog w) (ktrTop dp un gd cn cs L a ccd cl outer) (call (.ref 228) [sym, .int v tv, .int c tc, .int b tb]) Q E s := by
  w_top off; revert X; k_fill; intro X
  refine wpAny_call ?_
  k_dflt cell_enter
  k_steps
  all_goals exact ret _ _ _ (by k_asm) (by k_asm)
end Mine

local macro_rules | `(tactic| k_all) => `(tactic| assumption)
namespace Mine
open PySem PySem.W PyProof.Rows

theorem log_lim {b : Int} (h1 : 1 ≤ b) (h2 : b ≤ 100000000000000000000000000000000) : b.natAbs.log2 < 9000 := by
  have h0 : b.natAbs ≠ 0 := by omega
  have h3 : b.natAbs < 2 ^ 200 := Nat.lt_of_le_of_lt (show b.natAbs ≤ 100000000000000000000000000000000 by omega) (by decide)
  exact Nat.lt_trans ((Nat.log2_lt h0).mpr h3) (by decide)
theorem fdiv_lim {prog : Program} {w : World} {A : Around} {E : Value → Shared → Prop} {s : Shared} {Q : Value → Shared → Prop} {a b : Int} {t u : Tok} (h1 : 1 ≤ b) (h2 : b ≤ 100000000000000000000000000000000) (h : Q (.int (a.fdiv b) s.toks) { s with toks := s.toks + 1 }) :
    wpAny (model prog w) A (binaryOp .FloorDiv (.int a t) (.int b u)) Q E s :=
  floordiv_int (Int.ne_of_gt (Int.lt_of_lt_of_le (by decide) h1)) h (Or.inl (PyProof.noPylong_of_log2 (log_lim h1 h2)))
local macro_rules | `(tactic| walk_at "binaryOp FloorDiv int int") => `(tactic| ((with_reducible apply fdiv_lim); (case h1 => omega); (case h2 => omega)))

theorem draw_call {w : World} {mean : ExcName → Option Value} {mg mb : Str → Option Value} {dp un : Nat} {gd : Option (List Code)} {cn : Str} {cs : Scope} {a : Addr} {ccd : Value} {cl : List (Str × Addr)}
    {outer : List Env} {A₀ : Around} {base h₀ : Heap} {L : Addr} {m : Str → Option Value} {s : Shared} {Q E : Value → Shared → Prop}
    {rest : List (Addr × Obj)} {pa la : Addr} {vs : List Value} {ns : List Int} {n nl : Nat} {x k e lim : Int} {tx tk te tl : Tok}
    (B : Below A₀ base outer h₀) (F : Fr h₀ L s.heap m) (X : (hd.heap_39 w.params).In h₀)
    (T : Top hd.view_39 (looseW hd.view_39 []) mean mg mb h₀) (hk : cs.kind = .function) (hd : dp + 1 < recursionLimit) (hu : un + 8 < cLine)
    (N : News h₀ L s.heap ((pa, listOf [.ref la, .int x tx, .int k tk, .int e te].toArray n) :: (la, listOf vs.toArray nl) :: rest)) (hI : IntsAre vs ns) (hlen : ns.length ≤ 63)
    (hkk : -1 ≤ k) (hl : 1 ≤ lim) (hl2 : lim ≤ 100000000000000000000000000000000) (hpl : @Ne Nat pa la) (hpr : ∀ p ∈ rest, p.1 ≠ pa)
    (ret : ∀ (d x' k' e' : Int) (td tx' tk' te' : Tok) (n' : Nat) (h' : Heap) (tk9 : Nat), 0 ≤ d → d < lim → -1 ≤ k' →
      Fr h₀ L h' m → News h₀ L h' ((pa, listOf [.ref la, .int x' tx', .int k' tk', .int e' te'].toArray n') :: (la, listOf vs.toArray nl) :: rest) → Q (.int d td) { s with heap := h', toks := tk9 }) :
    wpAny (model PySem.Challenge.rw_rh0066_01.row.prog w) (ktrTop dp un gd cn cs L a ccd cl outer) (call (.ref 200) [.ref pa, .int lim tl]) Q E s := by
  w_top off; revert X; k_fill; intro X
  refine wpAny_call ?_
  k_dflt cell_enter
  k_steps
  all_goals (refine' ret _ _ _ _ _ _ _ _ _ _ _ (Int.fmod_nonneg_of_pos _ (by omega)) (Int.fmod_lt_of_pos _ (by omega)) ?c ?F ?N; (case N => k_asm); (case F => k_asm); (case c => omega))
end Mine

local macro_rules | `(tactic| walk_at "pad") => `(tactic| skip)
namespace Mine
open PySem PySem.W PyProof.Rows
local macro_rules | `(tactic| walk_at "call ref") => `(tactic| (k_here; k_dflt (apply draw_call; walk_at "c1"; (case hI => k_asm); (case hlen => assumption); (case hkk => omega); (case hl => first | decide | omega); (case hl2 => first | decide | omega); (case hpl => assumption); (case hpr => assumption); k_whole); intros; (rename_i hd1 _ _ _); (try simp only [Int.reducePow, Int.reduceToNat] at hd1); walk_at "c2"))

theorem whole_call {w : World} {mean : ExcName → Option Value} {mg mb : Str → Option Value} {dp un : Nat} {gd : Option (List Code)} {cn : Str} {cs : Scope} {a : Addr} {ccd : Value} {cl : List (Str × Addr)}
    {outer : List Env} {A₀ : Around} {base h₀ : Heap} {L : Addr} {m : Str → Option Value} {s : Shared} {Q E : Value → Shared → Prop}
    {rest : List (Addr × Obj)} {pa la : Addr} {vs : List Value} {ns : List Int} {n nl : Nat} {x k e : Int} {tx tk te : Tok}
    (B : Below A₀ base outer h₀) (F : Fr h₀ L s.heap m) (X : (hd.heap_39 w.params).In h₀)
    (T : Top hd.view_39 (looseW hd.view_39 []) mean mg mb h₀) (hk : cs.kind = .function) (hd : dp + 2 < recursionLimit) (hu : un + 16 < cLine)
    (N : News h₀ L s.heap ((pa, listOf [.ref la, .int x tx, .int k tk, .int e te].toArray n) :: (la, listOf vs.toArray nl) :: rest)) (hI : IntsAre vs ns) (hlen : ns.length ≤ 63)
    (hkk : -1 ≤ k) (hpl : @Ne Nat pa la) (hpr : ∀ p ∈ rest, p.1 ≠ pa)
    (ret : ∀ (d x' k' e' : Int) (td tx' tk' te' : Tok) (n' : Nat) (h' : Heap) (tk9 : Nat), -(2 ^ 60) ≤ d → d ≤ 2 ^ 60 → -1 ≤ k' →
      Fr h₀ L h' m → News h₀ L h' ((pa, listOf [.ref la, .int x' tx', .int k' tk', .int e' te'].toArray n') :: (la, listOf vs.toArray nl) :: rest) → Q (.int d td) { s with heap := h', toks := tk9 }) :
    wpAny (model PySem.Challenge.rw_rh0066_01.row.prog w) (ktrTop dp un gd cn cs L a ccd cl outer) (call (.ref 207) [.ref pa]) Q E s := by
  w_top off; revert X; k_fill; intro X
  refine wpAny_call ?_
  k_dflt cell_enter
  k_steps
  all_goals (refine' ret _ _ _ _ _ _ _ _ _ _ _ ?b1 ?b2 ?bk ?bF ?bN; (case bN => k_asm); (case bF => k_asm); (case bk => omega); (case b1 => first | omega | (simp only [Int.reducePow, Int.reduceToNat] at *; omega)); (case b2 => first | omega | (simp only [Int.reducePow, Int.reduceToNat] at *; omega)))

theorem count_call {w : World} {mean : ExcName → Option Value} {mg mb : Str → Option Value} {dp un : Nat} {gd : Option (List Code)} {cn : Str} {cs : Scope} {a : Addr} {ccd : Value} {cl : List (Str × Addr)}
    {outer : List Env} {A₀ : Around} {base h₀ : Heap} {L : Addr} {m : Str → Option Value} {s : Shared} {Q E : Value → Shared → Prop}
    {rest : List (Addr × Obj)} {pa la : Addr} {vs : List Value} {ns : List Int} {n nl : Nat} {x k e : Int} {tx tk te : Tok}
    (B : Below A₀ base outer h₀) (F : Fr h₀ L s.heap m) (X : (hd.heap_39 w.params).In h₀)
    (T : Top hd.view_39 (looseW hd.view_39 []) mean mg mb h₀) (hk : cs.kind = .function) (hd : dp + 2 < recursionLimit) (hu : un + 16 < cLine)
    (N : News h₀ L s.heap ((pa, listOf [.ref la, .int x tx, .int k tk, .int e te].toArray n) :: (la, listOf vs.toArray nl) :: rest)) (hI : IntsAre vs ns) (hlen : ns.length ≤ 63)
    (hkk : -1 ≤ k) (hpl : @Ne Nat pa la) (hpr : ∀ p ∈ rest, p.1 ≠ pa)
    (ret : ∀ (d x' k' e' : Int) (td tx' tk' te' : Tok) (n' : Nat) (h' : Heap) (tk9 : Nat), -20000000000000000000000000 ≤ d → d ≤ 20000000000000000000000000 → -1 ≤ k' →
      Fr h₀ L h' m → News h₀ L h' ((pa, listOf [.ref la, .int x' tx', .int k' tk', .int e' te'].toArray n') :: (la, listOf vs.toArray nl) :: rest) → Q (.int d td) { s with heap := h', toks := tk9 }) :
    wpAny (model PySem.Challenge.rw_rh0066_01.row.prog w) (ktrTop dp un gd cn cs L a ccd cl outer) (call (.ref 214) [.ref pa]) Q E s := by
  w_top off; revert X; k_fill; intro X
  refine wpAny_call ?_
  k_dflt cell_enter
  k_steps

  all_goals (refine' ret _ _ _ _ _ _ _ _ _ _ _ ?b1 ?b2 ?bk ?bF ?bN; (case bN => k_asm); (case bF => k_asm); (case bk => omega); (case b1 => (simp only [Int.reducePow, Int.reduceToNat] at *; omega)); (case b2 => (simp only [Int.reducePow, Int.reduceToNat] at *; omega)))
end Mine

local macro_rules | `(tactic| k_room) => `(tactic| ktr_room)
local macro_rules | `(tactic| walk_at "c6") => `(tactic| (intros; (rename News _ _ _ _ => N9); (try dsimp only at N9); (try k_sweep)))
local macro_rules | `(tactic| walk_at "c5") => `(tactic| ((case F => k_asm); (case N => k_asm); (try case T => assumption); (case U => k_updF)))
local macro_rules | `(tactic| walk_at "c7") => `(tactic| ((case hsz => (rw [sizeLine_eq]; omega)); (case hv => k_flat)))
namespace Mine
open PySem PySem.W PyProof.Rows
open PyProof.V (Flat FlatPairs)

/-- every text of the table stands for a number that is not below nought -/
def OkA (D : List (PyData × PyData)) : Prop := ∀ (k : Str) d, PySem.Spec.lookup (PyData.str k) D = some d → ∃ i : Int, d = .int i ∧ 0 ≤ i
/-- the object's dict -/
abbrev symDict (w : World) (t1 t2 t3 t4 : Tok) (tl ad fl fd : Addr) : Obj :=
  dictOf [{ hash := PyData.keyHash w.params (Str.ofString "texts"), key := .str (Str.ofString "texts") t1, val := .ref tl },
    { hash := PyData.keyHash w.params (Str.ofString "atom_numbers"), key := .str (Str.ofString "atom_numbers") t2, val := .ref ad },
    { hash := PyData.keyHash w.params (Str.ofString "functors"), key := .str (Str.ofString "functors") t3, val := .ref fl },
    { hash := PyData.keyHash w.params (Str.ofString "functor_numbers"), key := .str (Str.ofString "functor_numbers") t4, val := .ref fd }] 4

section
variable {prog : Program} {w : World} {A : Around} {E : Value → Shared → Prop} {s : Shared} {d : Addr} {D : List (PyData × PyData)} {k : Str} {t u : Tok} {Q : Value → Shared → Prop}
theorem atoms_get (T : TabAt (PySem.strKind prog w) PyData.str s.heap d D) (ok : OkA D)
    (h1 : ∀ (i : Int) (v : Tok), 0 ≤ i → PySem.Spec.lookup (PyData.str k) D = some (.int i) → Q (.int i v) { s with toks := s.toks + 1 })
    (h2 : ∀ v : Tok, PySem.Spec.lookup (PyData.str k) D = none → Q (.int (-1) v) { s with toks := s.toks + 1 }) :
    wpAny (model prog w) A (call (.builtin "dict.get") [.ref d, .str k t, .int (-1) u]) Q E s :=
  call_get2_tab PyProof.V.same_str (strKind_is _ _ _ _) T (.int _ _) fun v hv => by
    cases hl : PySem.Spec.lookup (PyData.str k) D with
    | none =>
      rw [hl] at hv
      obtain ⟨tv, rfl⟩ := Flat.int_inv hv
      exact h2 tv hl
    | some dv =>
      obtain ⟨i, rfl, hi⟩ := ok k dv hl
      rw [hl] at hv
      obtain ⟨tv, rfl⟩ := Flat.int_inv hv
      exact h1 i tv hi hl
end
local macro_rules | `(tactic| walk_at "call builtin:dict.get") => `(tactic| (k_here; k_dflt (refine' atoms_get ?T ?ok ?h1 ?h2; (case T => k_tabat); (case ok => k_asm))))
local macro_rules | `(tactic| walk_at "setItem ref str") => `(tactic| (k_here; k_dflt (refine' setItem_K PyProof.V.same_str (strKind_is _ _ _ _) ?hv ?F ?N ?U ?d ?f ?_ ?hsz; walk_at "c5"; (case d => k_asm); (case f => k_asm); walk_at "c7"); walk_at "c6"))

theorem atom_raw {w : World} {mean : ExcName → Option Value} {mg mb : Str → Option Value} {dp un : Nat} {gd : Option (List Code)} {cn : Str} {cs : Scope} {a : Addr} {ccd : Value} {cl : List (Str × Addr)}
    {outer : List Env} {A₀ : Around} {base h₀ : Heap} {L : Addr} {m : Str → Option Value} {s : Shared} {Q E : Value → Shared → Prop}
    {tail : List (Addr × Obj)} {x dx tl ad fl fd : Addr} {t1 t2 t3 t4 tt : Tok} {T₀ Fs : Array Value} {nT nF n : Nat} {oA oF : Obj} {kvs : List (Str × Value)} {D : List (PyData × PyData)} {text : Str}
    (B : Below A₀ base outer h₀) (F : Fr h₀ L s.heap m) (X : (hd.heap_39 w.params).In h₀)
    (T : Top hd.view_39 (looseW hd.view_39 []) mean mg mb h₀) (hk : cs.kind = .function) (hd : dp + 1 < recursionLimit) (hu : un + 8 < cLine)
    (N : News h₀ L s.heap ((x, instObj 154 dx) :: (dx, symDict w t1 t2 t3 t4 tl ad fl fd) :: (tl, listOf T₀ nT) :: (ad, oA) :: (fl, listOf Fs nF) :: (fd, oF) :: tail))
    (lo : (ad == sysModules) = false) (hA : oA.IsDictOf (PySem.strKind PySem.Challenge.rw_rh0066_01.row.prog w) kvs) (fA : FlatPairs PyData.str kvs D) (ok : OkA D)
    (o1 : @LT.lt Nat _ dx x) (o2 : @LT.lt Nat _ x tl) (o3 : @LT.lt Nat _ tl ad) (o4 : @LT.lt Nat _ ad fl) (o5 : @LT.lt Nat _ fl fd)
    (ht1 : ∀ p ∈ tail, p.1 ≠ tl) (ht2 : ∀ p ∈ tail, p.1 ≠ ad) (hn1 : T₀.size ≤ n) (hn2 : D.length ≤ n) (hn : n ≤ 10000)
    (old : ∀ (i : Int) (ti : Tok) (h' : Heap) (tk9 : Nat), 0 ≤ i → PySem.Spec.lookup (PyData.str text) D = some (.int i) → Fr h₀ L h' m →
      News h₀ L h' ((x, instObj 154 dx) :: (dx, symDict w t1 t2 t3 t4 tl ad fl fd) :: (tl, listOf T₀ nT) :: (ad, oA) :: (fl, listOf Fs nF) :: (fd, oF) :: tail) → Q (.int i ti) { s with heap := h', toks := tk9 })
    (new : ∀ (ti tj : Tok) (h' : Heap) (oA' : Obj) (tk9 : Nat), PySem.Spec.lookup (PyData.str text) D = none → Fr h₀ L h' m →
      News h₀ L h' ((x, instObj 154 dx) :: (dx, symDict w t1 t2 t3 t4 tl ad fl fd) :: (tl, listOf (T₀.push (.str text tt)) (nT + 1)) :: (ad, oA') :: (fl, listOf Fs nF) :: (fd, oF) :: tail) →
      oA'.IsDictOf (PySem.strKind PySem.Challenge.rw_rh0066_01.row.prog w) (stored kvs text (.int T₀.size ti)) → FlatPairs PyData.str (stored kvs text (.int T₀.size ti)) (PyProof.V.putD (PyData.str text) (.int T₀.size) D) →
      Q (.int T₀.size tj) { s with heap := h', toks := tk9 }) :
    wpAny (model PySem.Challenge.rw_rh0066_01.row.prog w) (ktrTop dp un gd cn cs L a ccd cl outer) (call (.ref 88) [.ref x, .str text tt]) Q E s := by
  have q1 := Nat.lt_trans o1 o2
  have q2 := Nat.lt_trans o2 o3
  have q3 := Nat.lt_trans o3 o4
  have q4 := Nat.lt_trans o4 o5
  have q5 := Nat.lt_trans q1 o3
  have q6 := Nat.lt_trans q2 o4
  have q7 := Nat.lt_trans q3 o5
  have q8 := Nat.lt_trans q5 o4
  have q9 := Nat.lt_trans q6 o5
  have q10 := Nat.lt_trans q8 o5
  w_top off; revert X; k_fill; intro X
  refine wpAny_call ?_
  k_dflt cell_enter
  k_steps
  · exact old _ _ _ _ (by assumption) (by assumption) (by k_asm) (by k_asm)
  · exact new _ _ _ _ _ (by assumption) (by k_asm) (by k_asm) (by assumption) (by assumption)
end Mine

namespace Mine
open PySem PySem.W PyProof.Rows
open PyProof.V (Flat FlatPairs)

section
variable {prog : Program} {w : World} {A : Around} {E : Value → Shared → Prop} {s : Shared} {h₀ : Heap} {L d a : Addr} {m : Str → Option Value} {news keys : List (Addr × Obj)} {D : List (PyData × PyData)} {o : Obj}

/-- the object is a dict whose keys are pairs of ints, kept as tuples among keys -/
inductive PairDict (prog : Program) (w : World) (keys : List (Addr × Obj)) (o : Obj) (D : List (PyData × PyData)) : Prop
  | mk (es : Array DictEntry) (ep : Nat) (xs : List (List Int × Addr × Value)) (h1 : o.ExactDict) (h2 : o.data = .dict es ep) (h3 : es.toList = xs.map (entryOfKey (tupleKind (PySem.intKind prog w)))) (h4 : (xs.map (·.1)).Nodup)
    (h5 : ∀ x ∈ xs, ∃ ok, (x.2.1, ok) ∈ keys ∧ TupKeyObj (PySem.intKind prog w) x.1 ok) (h6 : FlatPairs (encTuple PyData.int) (kvsOf xs) D) : PairDict prog w keys o D

theorem PairDict.tab (T : PairDict prog w keys o D) (hm : (d, o) ∈ news) (hk : ∀ p ∈ keys, p ∈ news) (lo : (d == sysModules) = false) : TupTab (PySem.intKind prog w) PyData.int news d D := by
  obtain ⟨es, ep, xs, h1, h2, h3, h4, h5, h6⟩ := T
  refine ⟨lo, o, es, ep, xs, hm, h1, h2, h3, h4, fun x hx => ?_, h6⟩
  obtain ⟨ok, hok, t⟩ := h5 x hx
  exact ⟨ok, hk _ hok, t⟩

theorem PairDict.nil {o : Obj} (hd : o.IsDictOf (PySem.intKind prog w) []) : PairDict prog w keys o [] := by
  obtain ⟨es, ep, hc, hdat, _, hp, _⟩ := hd
  exact ⟨es, ep, [], hc, hdat, List.length_eq_zero_iff.mp hp.length, List.nodup_nil, (fun _ hx => by cases hx), .nil⟩

theorem pair_set {g : Obj → List (Addr × Obj)} {p q : Int} {tp tq : Tok} {v : Value} {dv : PyData} {Q : Unit → Shared → Prop} (hu : A.units + 1 < cLine) (hv : Flat v dv)
    (F : Fr h₀ L s.heap m) (N : News h₀ L s.heap news) (U : UpdF d o news g) (T : PairDict prog w keys o D) (hk : ∀ p ∈ keys, p ∈ news)
    (hka : (a, ({ cls := .type "tuple", data := .seq [Value.int p tp, Value.int q tq].toArray } : Obj)) ∈ news) (hsz : D.length ≤ sizeLine)
    (h : ∀ h' o', Fr h₀ L h' m → News h₀ L h' (g o') → PairDict prog w ((a, ({ cls := .type "tuple", data := .seq [Value.int p tp, Value.int q tq].toArray } : Obj)) :: keys) o' (PyProof.V.putD (encTuple PyData.int [p, q]) dv D) →
      Q () { s with heap := h', toks := s.toks + 3 }) :
    wpAny (model prog w) A (setItem (.ref d) (.ref a) v) Q E s := by
  obtain ⟨es, ep, xs, hc, hd, he, hn, hx, hf⟩ := T
  obtain ⟨own, rest, rfl, hg, h1, h2⟩ := U.split
  have hm := N (d, o) (List.mem_append_right _ (.head _))
  have tk : TupKeyObj (PySem.intKind prog w) [p, q] { cls := .type "tuple", data := .seq [Value.int p tp, Value.int q tq].toArray } :=
    TupKeyObj.made (.cons (intKind_is _ _ _ _) (.cons (intKind_is _ _ _ _) .nil))
  have hD : s.heap.DictOfH (tupleKind (PySem.intKind prog w)) d xs :=
    ⟨o, es, ep, hm.1, hc, hd, he, fun x hx' => let ⟨_, hok, t⟩ := hx x hx'; t.key (N.get (hk _ hok)), hn⟩
  have hxs : xs.length ≤ sizeLine := by
    have e := hf.length
    simp only [kvsOf, List.length_map] at e
    omega
  refine wpAny_setItem_heap (hsz := hxs) (knd := tupleKind (PySem.intKind prog w)) (tupleKind_room_in1 hu) (tk.key (N.get hka)) hD fun h' hm' hs => ?_
  obtain ⟨o', es', ep', ho', hc', hd', he', _, hn'⟩ := hm'
  refine h h' o' (F.change hs hm.2.1 hm.2.2) (hg o' ▸ N.setAt h1 h2 hs ho') ⟨es', ep', _, hc', hd', he', hn', fun x hx' => ?_, ?_⟩
  · rcases mem_storedH hx' with ⟨y, hy, e1, e2⟩ | ⟨e1, e2⟩
    · obtain ⟨ok, hok, t⟩ := hx y hy
      exact ⟨ok, by rw [e2]; exact .tail _ hok, by rw [e1]; exact t⟩
    · exact ⟨_, by rw [e2]; exact .head _, by rw [e1]; exact tk⟩
  · rw [kvsOf_storedH]
    exact hf.stored (same_encTuple PyProof.V.same_int) [p, q] hv

/-- every pair of the table stands for a number that is not below nought -/
def OkF (D : List (PyData × PyData)) : Prop := ∀ (k : List Int) d, PySem.Spec.lookup (encTuple PyData.int k) D = some d → ∃ i : Int, d = .int i ∧ 0 ≤ i

theorem pair_get {p q : Int} {tp tq u : Tok} {Q : Value → Shared → Prop} (hu : A.units + 1 < cLine) (N : News h₀ L s.heap news) (hm : (d, o) ∈ news) (lo : (d == sysModules) = false) (T : PairDict prog w keys o D) (hk : ∀ p ∈ keys, p ∈ news) (ok : OkF D)
    (hka : (a, ({ cls := .type "tuple", data := .seq [Value.int p tp, Value.int q tq].toArray } : Obj)) ∈ news)
    (h1 : ∀ (i : Int) (v : Tok), 0 ≤ i → PySem.Spec.lookup (encTuple PyData.int [p, q]) D = some (.int i) → Q (.int i v) { s with toks := s.toks + 3 })
    (h2 : ∀ v : Tok, PySem.Spec.lookup (encTuple PyData.int [p, q]) D = none → Q (.int (-1) v) { s with toks := s.toks + 3 }) :
    wpAny (model prog w) A (call (.builtin "dict.get") [.ref d, .ref a, .int (-1) u]) Q E s :=
  call_get2_tupTab PyProof.V.same_int hu N (T.tab hm hk lo) hka (TupKeyObj.made (.cons (intKind_is _ _ _ _) (.cons (intKind_is _ _ _ _) .nil))) (.int _ _) fun v hv => by
    cases hl : PySem.Spec.lookup (encTuple PyData.int [p, q]) D with
    | none =>
      rw [hl] at hv
      obtain ⟨tv, rfl⟩ := Flat.int_inv hv
      exact h2 tv hl
    | some dv =>
      obtain ⟨i, rfl, hi⟩ := ok _ dv hl
      rw [hl] at hv
      obtain ⟨tv, rfl⟩ := Flat.int_inv hv
      exact h1 i tv hi hl
theorem getM_pair {pl : Sem Bool} {Q : Value × List Value → Shared → Prop} (N : News h₀ L s.heap news) (hm : (d, o) ∈ news) (lo : (d == sysModules) = false) (T : PairDict prog w keys o D) (hk : ∀ p ∈ keys, p ∈ news)
    (h : Q (.builtin "dict.get", [.ref d]) s) : wpAny (model prog w) A (getMethod (.ref d) "get" pl) Q E s := getMethod_tupTab_get N (T.tab hm hk lo) h
end
section
variable {prog : Program} {w : World} {A : Around} {E : Value → Shared → Prop} {s : Shared} {h₀ : Heap} {L d : Addr} {news : List (Addr × Obj)}
theorem len_led {its : Array Value} {n : Nat} {Q : Value → Shared → Prop} (N : News h₀ L s.heap news) (hm : (d, listOf its n) ∈ news) (hz : its.size ≤ 1000000)
    (h : Q (.int its.size (s.toks + 1)) { s with toks := s.toks + 1 + 1 }) : wpAny (model prog w) A (call (.builtin "len") [.ref d]) Q E s :=
  PySem.Calls.call_len_list (items := its) ⟨_, (N _ hm).1, rfl, n, rfl⟩ (by omega) h
end
local macro_rules | `(tactic| walk_at "call builtin:len") => `(tactic| (k_here; k_dflt (apply len_led; (case N => k_asm); (case hm => k_mem); (case hz => omega))))
theorem sub_tail {q : Addr × Obj} {keys l : List (Addr × Obj)} (h : ∀ p ∈ keys, p ∈ l) : ∀ p ∈ keys, p ∈ q :: l := fun p hp => .tail _ (h p hp)
theorem allLt_all {d : Addr} : ∀ {l : List (Addr × Obj)}, AllLt d l → ∀ p ∈ l, @LT.lt Nat _ p.1 d
  | [], _, _, h => nomatch h
  | _ :: _, h, p, hp => by
    rcases List.mem_cons.mp hp with rfl | hp
    · exact h.1
    · exact allLt_all h.2 p hp
local macro_rules | `(tactic| walk_at "sub") => `(tactic| repeat (first | assumption | refine sub_tail ?_))
local macro_rules | `(tactic| walk_at "c8") => `(tactic| ((case N => k_asm); (case T => assumption); (case hm => k_mem); (case hk => walk_at "sub"); (case lo => assumption)))
local macro_rules | `(tactic| walk_at "getMethod ref") => `(tactic| (k_here; k_dflt (apply getM_pair; walk_at "c8")))
local macro_rules | `(tactic| walk_at "call builtin:dict.get") => `(tactic| (k_here; k_dflt (apply pair_get; walk_at "c8"; (case ok => assumption); (case hka => k_mem); (case hu => ktr_units))))
local macro_rules | `(tactic| walk_at "setItem ref ref") => `(tactic| (k_here; k_dflt (apply pair_set; walk_at "c5"; (case hk => walk_at "sub"); (case hka => k_mem); walk_at "c7"; (case hu => ktr_units)); walk_at "c6"))

theorem functor_raw {w : World} {mean : ExcName → Option Value} {mg mb : Str → Option Value} {dp un : Nat} {gd : Option (List Code)} {cn : Str} {cs : Scope} {a : Addr} {ccd : Value} {cl : List (Str × Addr)}
    {outer : List Env} {A₀ : Around} {base h₀ : Heap} {L : Addr} {m : Str → Option Value} {s : Shared} {Q E : Value → Shared → Prop}
    {tail keys : List (Addr × Obj)} {x dx tl ad fl fd : Addr} {t1 t2 t3 t4 tp tq : Tok} {T₀ Fs : Array Value} {nT nF n : Nat} {oA oF : Obj} {D : List (PyData × PyData)} {p q : Int}
    (B : Below A₀ base outer h₀) (F : Fr h₀ L s.heap m) (X : (hd.heap_39 w.params).In h₀)
    (T : Top hd.view_39 (looseW hd.view_39 []) mean mg mb h₀) (hk : cs.kind = .function) (hd : dp + 1 < recursionLimit) (hu : un + 16 < cLine)
    (N : News h₀ L s.heap ((x, instObj 154 dx) :: (dx, symDict w t1 t2 t3 t4 tl ad fl fd) :: (tl, listOf T₀ nT) :: (ad, oA) :: (fl, listOf Fs nF) :: (fd, oF) :: tail))
    (lo : (fd == sysModules) = false) (hF : PairDict PySem.Challenge.rw_rh0066_01.row.prog w keys oF D) (ok : OkF D) (hkeys9 : ∀ p ∈ keys, p ∈ tail)
    (o1 : @LT.lt Nat _ dx x) (o2 : @LT.lt Nat _ x tl) (o3 : @LT.lt Nat _ tl ad) (o4 : @LT.lt Nat _ ad fl) (o5 : @LT.lt Nat _ fl fd)
    (ht1 : ∀ p ∈ tail, p.1 ≠ fl) (ht2 : ∀ p ∈ tail, p.1 ≠ fd) (hn1 : Fs.size ≤ n) (hn2 : D.length ≤ n) (hn : n ≤ 10000)
    (old : ∀ (i : Int) (ti : Tok) (h' : Heap) (tk9 : Nat), 0 ≤ i → PySem.Spec.lookup (encTuple PyData.int [p, q]) D = some (.int i) → Fr h₀ L h' m →
      News h₀ L h' ((x, instObj 154 dx) :: (dx, symDict w t1 t2 t3 t4 tl ad fl fd) :: (tl, listOf T₀ nT) :: (ad, oA) :: (fl, listOf Fs nF) :: (fd, oF) :: tail) → Q (.int i ti) { s with heap := h', toks := tk9 })
    (new : ∀ (tj : Tok) (h' : Heap) (oF' : Obj) (D' : Addr) (tk9 : Nat), PySem.Spec.lookup (encTuple PyData.int [p, q]) D = none → Fr h₀ L h' m → @LT.lt Nat _ fd D' → (∀ p ∈ tail, @LT.lt Nat _ p.1 D') →
      News h₀ L h' ((D', ({ cls := .type "tuple", data := .seq [Value.int p tp, Value.int q tq].toArray } : Obj)) :: (x, instObj 154 dx) :: (dx, symDict w t1 t2 t3 t4 tl ad fl fd) :: (tl, listOf T₀ nT) :: (ad, oA) :: (fl, listOf (Fs.push (.ref D')) (nF + 1)) :: (fd, oF') :: tail) →
      PairDict PySem.Challenge.rw_rh0066_01.row.prog w ((D', ({ cls := .type "tuple", data := .seq [Value.int p tp, Value.int q tq].toArray } : Obj)) :: keys) oF' (PyProof.V.putD (encTuple PyData.int [p, q]) (.int Fs.size) D) →
      Q (.int Fs.size tj) { s with heap := h', toks := tk9 }) :
    wpAny (model PySem.Challenge.rw_rh0066_01.row.prog w) (ktrTop dp un gd cn cs L a ccd cl outer) (call (.ref 102) [.ref x, .int p tp, .int q tq]) Q E s := by
  have q1 := Nat.lt_trans o1 o2
  have q2 := Nat.lt_trans o2 o3
  have q3 := Nat.lt_trans o3 o4
  have q4 := Nat.lt_trans o4 o5
  have q5 := Nat.lt_trans q1 o3
  have q6 := Nat.lt_trans q2 o4
  have q7 := Nat.lt_trans q3 o5
  have q8 := Nat.lt_trans q5 o4
  have q9 := Nat.lt_trans q6 o5
  have q10 := Nat.lt_trans q8 o5
  w_top off; revert X; k_fill; intro X
  refine wpAny_call ?_
  k_dflt cell_enter
  k_steps
  · exact old _ _ _ _ (by assumption) (by assumption) (by k_asm) (fun p hp => by (have z := ‹News h₀ L _ _› p); exact z (.tail _ hp))
  · have hz := ‹_ ∧ _ ∧ _ ∧ _ ∧ _ ∧ _ ∧ AllLt _ tail›
    exact new _ _ _ _ _ (by assumption) (by k_asm) hz.2.2.2.2.2.1 (allLt_all hz.2.2.2.2.2.2) (by k_asm) (by assumption)
end Mine

namespace Mine
open PySem PySem.W PyProof.Rows
open PyProof.V (Flat FlatPairs keyEnc_str keyEnc_int lookup_putK_same)

/-- the ledger SL bears a Symbols object at x; DA: text to number, DF: pair to number; its tables hold n entries at most -/
inductive SymL (w : World) (x : Addr) (n : Nat) (SL : List (Addr × Obj)) (DA DF : List (PyData × PyData)) : Prop
  | mk (dx tl ad fl fd : Addr) (t1 t2 t3 t4 : Tok) (T₀ Fs : Array Value) (nT nF : Nat) (oA oF : Obj) (kvs : List (Str × Value)) (keys : List (Addr × Obj))
    (e : SL = (x, instObj 154 dx) :: (dx, symDict w t1 t2 t3 t4 tl ad fl fd) :: (tl, listOf T₀ nT) :: (ad, oA) :: (fl, listOf Fs nF) :: (fd, oF) :: keys)
    (l1 : (ad == sysModules) = false) (l2 : (fd == sysModules) = false) (a1 : oA.IsDictOf (PySem.strKind PySem.Challenge.rw_rh0066_01.row.prog w) kvs) (a2 : FlatPairs PyData.str kvs DA) (a3 : OkA DA)
    (p1 : PairDict PySem.Challenge.rw_rh0066_01.row.prog w keys oF DF) (p2 : OkF DF)
    (o1 : @LT.lt Nat _ dx x) (o2 : @LT.lt Nat _ x tl) (o3 : @LT.lt Nat _ tl ad) (o4 : @LT.lt Nat _ ad fl) (o5 : @LT.lt Nat _ fl fd) (o6 : ∀ p ∈ keys, @LT.lt Nat _ fd p.1)
    (n1 : T₀.size ≤ n) (n2 : DA.length ≤ n) (n3 : Fs.size ≤ n) (n4 : DF.length ≤ n) : SymL w x n SL DA DF

/-- two ledgers share no address -/
def Off (rest SL : List (Addr × Obj)) : Prop := ∀ p ∈ rest, ∀ q ∈ SL, p.1 ≠ q.1

theorem putA_keeps {DA : List (PyData × PyData)} {text : Str} {dv : PyData} (h : PySem.Spec.lookup (PyData.str text) DA = none) :
    ∀ (k : Str) d, PySem.Spec.lookup (PyData.str k) DA = some d → PySem.Spec.lookup (PyData.str k) (PyProof.V.putD (PyData.str text) dv DA) = some d := fun k d hd => by
  rw [lookup_putK keyEnc_str]
  by_cases e : k = text
  · subst e; rw [h] at hd; cases hd
  · rw [if_neg e]; exact hd
theorem putA_ok {DA : List (PyData × PyData)} {text : Str} {i : Int} (ok : OkA DA) (hi : 0 ≤ i) : OkA (PyProof.V.putD (PyData.str text) (.int i) DA) := fun k d hd => by
  rw [lookup_putK keyEnc_str] at hd
  by_cases e : k = text
  · rw [if_pos e] at hd; exact ⟨i, (Option.some.inj hd).symm, hi⟩
  · rw [if_neg e] at hd; exact ok k d hd
theorem putF_keeps {DF : List (PyData × PyData)} {ks : List Int} {dv : PyData} (h : PySem.Spec.lookup (encTuple PyData.int ks) DF = none) :
    ∀ (k : List Int) d, PySem.Spec.lookup (encTuple PyData.int k) DF = some d → PySem.Spec.lookup (encTuple PyData.int k) (PyProof.V.putD (encTuple PyData.int ks) dv DF) = some d := fun k d hd => by
  rw [lookup_putK (keyEnc_tuple keyEnc_int)]
  by_cases e : k = ks
  · subst e; rw [h] at hd; cases hd
  · rw [if_neg e]; exact hd
theorem putF_ok {DF : List (PyData × PyData)} {ks : List Int} {i : Int} (ok : OkF DF) (hi : 0 ≤ i) : OkF (PyProof.V.putD (encTuple PyData.int ks) (.int i) DF) := fun k d hd => by
  rw [lookup_putK (keyEnc_tuple keyEnc_int)] at hd
  by_cases e : k = ks
  · rw [if_pos e] at hd; exact ⟨i, (Option.some.inj hd).symm, hi⟩
  · rw [if_neg e] at hd; exact ok k d hd

theorem SymL.more {w : World} {x : Addr} {n n' : Nat} {SL : List (Addr × Obj)} {DA DF : List (PyData × PyData)} (S : SymL w x n SL DA DF) (h : n ≤ n') : SymL w x n' SL DA DF := by
  obtain ⟨dx, tl, ad, fl, fd, t1, t2, t3, t4, T₀, Fs, nT, nF, oA, oF, kvs, keys, e, l1, l2, a1, a2, a3, p1, p2, o1, o2, o3, o4, o5, o6, n1, n2, n3, n4⟩ := S
  exact ⟨dx, tl, ad, fl, fd, t1, t2, t3, t4, T₀, Fs, nT, nF, oA, oF, kvs, keys, e, l1, l2, a1, a2, a3, p1, p2, o1, o2, o3, o4, o5, o6, Nat.le_trans n1 h, Nat.le_trans n2 h, Nat.le_trans n3 h, Nat.le_trans n4 h⟩

theorem atom_call {w : World} {mean : ExcName → Option Value} {mg mb : Str → Option Value} {dp un : Nat} {gd : Option (List Code)} {cn : Str} {cs : Scope} {a : Addr} {ccd : Value} {cl : List (Str × Addr)}
    {outer : List Env} {A₀ : Around} {base h₀ : Heap} {L : Addr} {m : Str → Option Value} {s : Shared} {Q E : Value → Shared → Prop}
    {rest SL : List (Addr × Obj)} {x : Addr} {n : Nat} {DA DF : List (PyData × PyData)} {text : Str} {tt : Tok}
    (B : Below A₀ base outer h₀) (F : Fr h₀ L s.heap m) (X : (hd.heap_39 w.params).In h₀)
    (T : Top hd.view_39 (looseW hd.view_39 []) mean mg mb h₀) (hk : cs.kind = .function) (hd : dp + 1 < recursionLimit) (hu : un + 8 < cLine)
    (N : News h₀ L s.heap (SL ++ rest)) (S : SymL w x n SL DA DF) (hr : Off rest SL) (hn : n ≤ 1000)
    (ret : ∀ (i : Int) (ti : Tok) (DA' : List (PyData × PyData)) (SL' : List (Addr × Obj)) (h' : Heap) (tk9 : Nat), 0 ≤ i → PySem.Spec.lookup (PyData.str text) DA' = some (.int i) →
      (∀ (k : Str) d, PySem.Spec.lookup (PyData.str k) DA = some d → PySem.Spec.lookup (PyData.str k) DA' = some d) → SymL w x (n + 1) SL' DA' DF → Off rest SL' → Fr h₀ L h' m → News h₀ L h' (SL' ++ rest) →
      Q (.int i ti) { s with heap := h', toks := tk9 }) :
    wpAny (model PySem.Challenge.rw_rh0066_01.row.prog w) (ktrTop dp un gd cn cs L a ccd cl outer) (call (.ref 88) [.ref x, .str text tt]) Q E s := by
  obtain ⟨dx, tl, ad, fl, fd, t1, t2, t3, t4, T₀, Fs, nT, nF, oA, oF, kvs, keys, rfl, l1, l2, a1, a2, a3, p1, p2, o1, o2, o3, o4, o5, o6, n1, n2, n3, n4⟩ := id S
  have hoff : ∀ b : Addr, (∀ q ∈ keys, @LT.lt Nat _ b q.1) → (∃ o, (b, o) ∈ (x, instObj 154 dx) :: (dx, symDict w t1 t2 t3 t4 tl ad fl fd) :: (tl, listOf T₀ nT) :: (ad, oA) :: (fl, listOf Fs nF) :: (fd, oF) :: keys) → ∀ p ∈ keys ++ rest, p.1 ≠ b := by
    intro b h1 ⟨o, h2⟩ p hp
    rcases List.mem_append.mp hp with hp | hp
    · exact Nat.ne_of_gt (h1 p hp)
    · exact hr p hp _ h2
  refine atom_raw (tail := keys ++ rest) B F X T hk hd hu N l1 a1 a2 a3 o1 o2 o3 o4 o5 (hoff tl (fun q hq => Nat.lt_trans o3 (Nat.lt_trans o4 (Nat.lt_trans o5 (o6 q hq)))) ⟨_, .tail _ (.tail _ (.head _))⟩) (hoff ad (fun q hq => Nat.lt_trans o4 (Nat.lt_trans o5 (o6 q hq))) ⟨_, .tail _ (.tail _ (.tail _ (.head _)))⟩) n1 n2 (Nat.le_trans hn (by decide)) ?_ ?_
  · intro i ti h' tk9 hi hl F' N'
    exact ret i ti DA _ h' tk9 hi hl (fun _ _ h => h) (S.more (Nat.le_succ n)) hr F' N'
  · intro ti tj h' oA' tk9 hl F' N' hA' fA'
    refine ret _ _ _ ((x, instObj 154 dx) :: (dx, symDict w t1 t2 t3 t4 tl ad fl fd) :: (tl, listOf (T₀.push (.str text tt)) (nT + 1)) :: (ad, oA') :: (fl, listOf Fs nF) :: (fd, oF) :: keys) _ _ (Int.natCast_nonneg _) (lookup_putK_same keyEnc_str _ _ _) (putA_keeps hl)
      ⟨dx, tl, ad, fl, fd, t1, t2, t3, t4, _, Fs, _, nF, oA', oF, _, keys, rfl, l1, l2, hA', fA', putA_ok a3 (Int.natCast_nonneg _), p1, p2, o1, o2, o3, o4, o5, o6, by rw [Array.size_push]; exact Nat.succ_le_succ n1, Nat.le_trans (PyProof.V.putD_length_le _ _ _) (Nat.succ_le_succ n2), Nat.le_succ_of_le n3, Nat.le_succ_of_le n4⟩ ?_ F' N'
    intro p hp q hq
    rcases List.mem_cons.mp hq with rfl | hq
    · exact hr p hp _ (.head _)
    rcases List.mem_cons.mp hq with rfl | hq
    · exact hr p hp (dx, symDict w t1 t2 t3 t4 tl ad fl fd) (.tail _ (.head _))
    rcases List.mem_cons.mp hq with rfl | hq
    · exact hr p hp (tl, listOf T₀ nT) (.tail _ (.tail _ (.head _)))
    rcases List.mem_cons.mp hq with rfl | hq
    · exact hr p hp (ad, oA) (.tail _ (.tail _ (.tail _ (.head _))))
    · exact hr p hp q (.tail _ (.tail _ (.tail _ (.tail _ hq))))

theorem functor_call {w : World} {mean : ExcName → Option Value} {mg mb : Str → Option Value} {dp un : Nat} {gd : Option (List Code)} {cn : Str} {cs : Scope} {a : Addr} {ccd : Value} {cl : List (Str × Addr)}
    {outer : List Env} {A₀ : Around} {base h₀ : Heap} {L : Addr} {m : Str → Option Value} {s : Shared} {Q E : Value → Shared → Prop}
    {rest SL : List (Addr × Obj)} {x : Addr} {n : Nat} {DA DF : List (PyData × PyData)} {p q : Int} {tp tq : Tok}
    (B : Below A₀ base outer h₀) (F : Fr h₀ L s.heap m) (X : (hd.heap_39 w.params).In h₀)
    (T : Top hd.view_39 (looseW hd.view_39 []) mean mg mb h₀) (hk : cs.kind = .function) (hd : dp + 1 < recursionLimit) (hu : un + 16 < cLine)
    (N : News h₀ L s.heap (SL ++ rest)) (S : SymL w x n SL DA DF) (hr : Off rest SL) (hn : n ≤ 1000)
    (ret : ∀ (i : Int) (ti : Tok) (DF' : List (PyData × PyData)) (SL' : List (Addr × Obj)) (h' : Heap) (tk9 : Nat), 0 ≤ i → PySem.Spec.lookup (encTuple PyData.int [p, q]) DF' = some (.int i) →
      (∀ (k : List Int) d, PySem.Spec.lookup (encTuple PyData.int k) DF = some d → PySem.Spec.lookup (encTuple PyData.int k) DF' = some d) → SymL w x (n + 1) SL' DA DF' → Off rest SL' → Fr h₀ L h' m → News h₀ L h' (SL' ++ rest) →
      Q (.int i ti) { s with heap := h', toks := tk9 }) :
    wpAny (model PySem.Challenge.rw_rh0066_01.row.prog w) (ktrTop dp un gd cn cs L a ccd cl outer) (call (.ref 102) [.ref x, .int p tp, .int q tq]) Q E s := by
  obtain ⟨dx, tl, ad, fl, fd, t1, t2, t3, t4, T₀, Fs, nT, nF, oA, oF, kvs, keys, rfl, l1, l2, a1, a2, a3, p1, p2, o1, o2, o3, o4, o5, o6, n1, n2, n3, n4⟩ := id S
  have hoff : ∀ b : Addr, (∀ q ∈ keys, @LT.lt Nat _ b q.1) → (∃ o, (b, o) ∈ (x, instObj 154 dx) :: (dx, symDict w t1 t2 t3 t4 tl ad fl fd) :: (tl, listOf T₀ nT) :: (ad, oA) :: (fl, listOf Fs nF) :: (fd, oF) :: keys) → ∀ p ∈ keys ++ rest, p.1 ≠ b := by
    intro b h1 ⟨o, h2⟩ p hp
    rcases List.mem_append.mp hp with hp | hp
    · exact Nat.ne_of_gt (h1 p hp)
    · exact hr p hp _ h2
  refine functor_raw (tail := keys ++ rest) (keys := keys) B F X T hk hd hu N l2 p1 p2 (fun p hp => List.mem_append_left _ hp) o1 o2 o3 o4 o5 (hoff fl (fun q hq => Nat.lt_trans o5 (o6 q hq)) ⟨_, .tail _ (.tail _ (.tail _ (.tail _ (.head _))))⟩) (hoff fd o6 ⟨_, .tail _ (.tail _ (.tail _ (.tail _ (.tail _ (.head _)))))⟩) n3 n4 (Nat.le_trans hn (by decide)) ?_ ?_
  · intro i ti h' tk9 hi hl F' N'
    exact ret i ti DF _ h' tk9 hi hl (fun _ _ h => h) (S.more (Nat.le_succ n)) hr F' N'
  · intro tj h' oF' D' tk9 hl F' hD1 hD2 N' hP
    refine ret _ _ _ ((x, instObj 154 dx) :: (dx, symDict w t1 t2 t3 t4 tl ad fl fd) :: (tl, listOf T₀ nT) :: (ad, oA) :: (fl, listOf (Fs.push (.ref D')) (nF + 1)) :: (fd, oF') :: (D', ({ cls := .type "tuple", data := .seq [Value.int p tp, Value.int q tq].toArray } : Obj)) :: keys) _ _ (Int.natCast_nonneg _) (lookup_putK_same (keyEnc_tuple keyEnc_int) _ _ _) (putF_keeps hl)
      ⟨dx, tl, ad, fl, fd, t1, t2, t3, t4, T₀, _, nT, _, oA, oF', kvs, _, rfl, l1, l2, a1, a2, a3, hP, putF_ok p2 (Int.natCast_nonneg _), o1, o2, o3, o4, o5, ?_, Nat.le_succ_of_le n1, Nat.le_succ_of_le n2, by rw [Array.size_push]; exact Nat.succ_le_succ n3, Nat.le_trans (PyProof.V.putD_length_le _ _ _) (Nat.succ_le_succ n4)⟩ ?_ F' ?_
    · intro p hp
      rcases List.mem_cons.mp hp with rfl | hp
      · exact hD1
      · exact o6 p hp
    · intro p hp q hq
      rcases List.mem_cons.mp hq with rfl | hq
      · exact hr p hp _ (.head _)
      rcases List.mem_cons.mp hq with rfl | hq
      · exact hr p hp (dx, symDict w t1 t2 t3 t4 tl ad fl fd) (.tail _ (.head _))
      rcases List.mem_cons.mp hq with rfl | hq
      · exact hr p hp (tl, listOf T₀ nT) (.tail _ (.tail _ (.head _)))
      rcases List.mem_cons.mp hq with rfl | hq
      · exact hr p hp (ad, oA) (.tail _ (.tail _ (.tail _ (.head _))))
      rcases List.mem_cons.mp hq with rfl | hq
      · exact hr p hp (fl, listOf Fs nF) (.tail _ (.tail _ (.tail _ (.tail _ (.head _)))))
      rcases List.mem_cons.mp hq with rfl | hq
      · exact hr p hp (fd, oF) (.tail _ (.tail _ (.tail _ (.tail _ (.tail _ (.head _))))))
      rcases List.mem_cons.mp hq with rfl | hq
      · exact Nat.ne_of_lt (hD2 p (List.mem_append_right _ hp))
      · exact hr p hp q (.tail _ (.tail _ (.tail _ (.tail _ (.tail _ (.tail _ hq))))))
    · intro z hz
      refine N' z ?_
      simp only [List.cons_append, List.mem_cons] at hz ⊢
      rcases hz with h | h | h | h | h | h | h | h
      · exact .inr (.inl h)
      · exact .inr (.inr (.inl h))
      · exact .inr (.inr (.inr (.inl h)))
      · exact .inr (.inr (.inr (.inr (.inl h))))
      · exact .inr (.inr (.inr (.inr (.inr (.inl h)))))
      · exact .inr (.inr (.inr (.inr (.inr (.inr (.inl h))))))
      · exact .inl h
      · exact .inr (.inr (.inr (.inr (.inr (.inr (.inr h))))))
end Mine

local macro_rules | `(tactic| walk_at "c3") => `(tactic| ((case S => assumption); (case hr => assumption); (case hn => omega)))
namespace Mine
open PySem PySem.W PyProof.Rows
open PyProof.V (Flat FlatPairs keyEnc_str keyEnc_int lookup_putK_same)
/-- where the object and its dict stand in the ledger -/
inductive SymIn (w : World) (x : Addr) (SL : List (Addr × Obj)) : Prop
  | mk (dx tl ad fl fd : Addr) (t1 t2 t3 t4 : Tok) (h1 : (x, instObj 154 dx) ∈ SL) (h2 : (dx, symDict w t1 t2 t3 t4 tl ad fl fd) ∈ SL) : SymIn w x SL
theorem SymL.inst {w : World} {x : Addr} {n : Nat} {SL : List (Addr × Obj)} {DA DF : List (PyData × PyData)} (S : SymL w x n SL DA DF) : SymIn w x SL := by
  obtain ⟨dx, tl, ad, fl, fd, t1, t2, t3, t4, T₀, Fs, nT, nF, oA, oF, kvs, keys, rfl, _⟩ := S
  exact ⟨dx, tl, ad, fl, fd, t1, t2, t3, t4, .head _, .tail _ (.head _)⟩
local macro_rules | `(tactic| walk_at "call ref") => `(tactic| (k_here; k_dflt (apply atom_call; walk_at "c1"; walk_at "c3"; k_whole); walk_at "c2"))
local macro_rules | `(tactic| walk_at "call ref") => `(tactic| (k_here; k_dflt (apply functor_call; walk_at "c1"; walk_at "c3"; k_whole); walk_at "c2"))

theorem func_call {w : World} {mean : ExcName → Option Value} {mg mb : Str → Option Value} {dp un : Nat} {gd : Option (List Code)} {cn : Str} {cs : Scope} {a : Addr} {ccd : Value} {cl : List (Str × Addr)}
    {outer : List Env} {A₀ : Around} {base h₀ : Heap} {L : Addr} {m : Str → Option Value} {s : Shared} {Q E : Value → Shared → Prop}
    {rest SL : List (Addr × Obj)} {x : Addr} {n : Nat} {DA DF : List (PyData × PyData)} {text : Str} {tt tq : Tok} {q : Int}
    (B : Below A₀ base outer h₀) (F : Fr h₀ L s.heap m) (X : (hd.heap_39 w.params).In h₀)
    (T : Top hd.view_39 (looseW hd.view_39 []) mean mg mb h₀) (hk : cs.kind = .function) (hd : dp + 2 < recursionLimit) (hu : un + 32 < cLine)
    (N : News h₀ L s.heap (SL ++ rest)) (S : SymL w x n SL DA DF) (hr : Off rest SL) (hn : n ≤ 900)
    (ret : ∀ (j i : Int) (ti : Tok) (DA' DF' : List (PyData × PyData)) (SL' : List (Addr × Obj)) (h' : Heap) (tk9 : Nat), 0 ≤ i → PySem.Spec.lookup (PyData.str text) DA' = some (.int j) → PySem.Spec.lookup (encTuple PyData.int [j, q]) DF' = some (.int i) →
      (∀ (k : Str) d, PySem.Spec.lookup (PyData.str k) DA = some d → PySem.Spec.lookup (PyData.str k) DA' = some d) →
      (∀ (k : List Int) d, PySem.Spec.lookup (encTuple PyData.int k) DF = some d → PySem.Spec.lookup (encTuple PyData.int k) DF' = some d) → SymL w x (n + 2) SL' DA' DF' → Off rest SL' → Fr h₀ L h' m → News h₀ L h' (SL' ++ rest) →
      Q (.int i ti) { s with heap := h', toks := tk9 }) :
    wpAny (model PySem.Challenge.rw_rh0066_01.row.prog w) (ktrTop dp un gd cn cs L a ccd cl outer) (call (.ref 109) [.ref x, .str text tt, .int q tq]) Q E s := by
  obtain ⟨dx, tl, ad, fl, fd, t1, t2, t3, t4, hx1, hx2⟩ := S.inst
  have hx1 := List.mem_append_left rest hx1
  have hx2 := List.mem_append_left rest hx2
  w_top off; revert X; k_fill; intro X
  refine wpAny_call ?_
  k_dflt cell_enter
  k_steps
  all_goals exact ret _ _ _ _ _ _ _ _ (by assumption) (by assumption) (by assumption) (by assumption) (by assumption) (by assumption) (by assumption) (by k_asm) (by k_asm)
end Mine

namespace Mine
open PySem PySem.W PyProof.Rows
abbrev tupOf (vs : List Value) : Obj := { cls := .type "tuple", data := .seq vs.toArray }
/-- displays of texts, of pairs of a text and a number -/
inductive TextElts : List Expr → Prop
  | nil : TextElts []
  | cons {x : Str} {k p} {r : List Expr} : TextElts r → TextElts (.Constant (.str x) k p :: r)
inductive PairElts : List Expr → Prop
  | nil : PairElts []
  | cons {x : Str} {i : Int} {k1 p1 k2 p2 k3 p3} {r : List Expr} : PairElts r → PairElts (.Tuple [.Constant (.str x) k1 p1, .Constant (.int i) k2 p2] k3 p3 :: r)
section
variable {M : Model} {A : Around} {E : Value → Shared → Prop} {env : Env} {pos : Pos} {h₀ : Heap} {L : Addr} {m : Str → Option Value}
theorem texts_spliced {es : List Expr} (P : TextElts es) : ∀ {s : Shared} {Q : List Value → Shared → Prop}, (∀ vs tk', vs.length = es.length → (∀ v ∈ vs, ∃ (x : Str) (u : Tok), v = .str x u) → Q vs { s with toks := tk' }) →
    wpAny M A (spliced (backTo pos (starEach es env))) Q E s := by
  induction P with
  | nil => intro s Q h; exact spliced_none (h [] s.toks rfl fun v hv => nomatch hv)
  | cons P ih =>
    intro s Q h
    refine spliced_more (wpAny_Constant_str (ih fun vs tk' hl hv => ?_)) rfl
    refine h (_ :: vs) tk' (by rw [List.length_cons, List.length_cons, hl]) fun v hv' => ?_
    rcases List.mem_cons.mp hv' with rfl | hv'
    · exact ⟨_, _, rfl⟩
    · exact hv v hv'
theorem pairs_spliced {es : List Expr} (P : PairElts es) : ∀ {s : Shared} {Q : List Value → Shared → Prop} {news : List (Addr × Obj)}, Fr h₀ L s.heap m → News h₀ L s.heap news →
    (∀ vs new h' tk', vs.length = es.length → (∀ v ∈ vs, ∃ (r : Addr) (x : Str) (i : Int) (u u' : Tok), v = .ref r ∧ (r, tupOf [.str x u, .int i u']) ∈ new) → (∀ p ∈ news, ∀ q ∈ new, @LT.lt Nat _ p.1 q.1) → Fr h₀ L h' m → News h₀ L h' (new ++ news) → Q vs { s with heap := h', toks := tk' }) →
    wpAny M A (spliced (backTo pos (starEach es env))) Q E s := by
  induction P with
  | nil => intro s Q news F N h; exact spliced_none (h [] [] s.heap s.toks rfl (fun v hv => nomatch hv) (fun p _ q hq => nomatch hq) F N)
  | cons P ih =>
    intro s Q news F N h
    refine spliced_more (Tuple_ (spliced_more (wpAny_Constant_str (spliced_more (wpAny_Constant_int (spliced_none ?_)) rfl)) rfl)) rfl
    refine newTuple_N (s := { s with toks := s.toks + 1 + 1 }) F N (fun h1 F1 N1 => ?_) (by size_fits)
    refine ih (s := { s with heap := h1, toks := s.toks + 1 + 1 }) F1 N1 fun vs new h' tk' hl hv hlt F' N' => ?_
    have hlt0 : ∀ p ∈ news, @LT.lt Nat _ p.1 s.heap.objs.size := fun p hp => Heap.lt_size (N p hp).1
    refine h (_ :: vs) (new ++ [(s.heap.objs.size, _)]) h' tk' (by rw [List.length_cons, List.length_cons, hl]) (fun v hv' => ?_) (fun p hp q hq => ?_) F' (by rw [List.append_assoc]; exact N')
    · rcases List.mem_cons.mp hv' with rfl | hv'
      · exact ⟨_, _, _, _, _, rfl, List.mem_append_right _ (.head _)⟩
      · obtain ⟨r, x, i, u, u', e, hm⟩ := hv v hv'
        exact ⟨r, x, i, u, u', e, List.mem_append_left _ hm⟩
    · rcases List.mem_append.mp hq with hq | hq
      · exact hlt p (.tail _ hp) q hq
      · rw [List.mem_singleton.mp hq]; exact hlt0 p hp
end
theorem fa_call {w : World} {mean : ExcName → Option Value} {mg mb : Str → Option Value} {dp un : Nat} {gd : Option (List Code)} {cn : Str} {cs : Scope} {a : Addr} {ccd : Value} {cl : List (Str × Addr)}
    {outer : List Env} {A₀ : Around} {base h₀ : Heap} {L : Addr} {m : Str → Option Value} {s : Shared} {Q E : Value → Shared → Prop} {rest : List (Addr × Obj)}
    (B : Below A₀ base outer h₀) (F : Fr h₀ L s.heap m) (X : (hd.heap_39 w.params).In h₀)
    (T : Top hd.view_39 (looseW hd.view_39 []) mean mg mb h₀) (hk : cs.kind = .function) (hd : dp + 1 < recursionLimit) (hu : un + 8 < cLine)
    (N : News h₀ L s.heap rest)
    (ret : ∀ (t : Addr) (vs : List Value) (h' : Heap) (tk9 : Nat), vs.length ≤ 40 → (∀ v ∈ vs, ∃ (x : Str) (u : Tok), v = .str x u) → (∀ p ∈ rest, @LT.lt Nat _ p.1 t) → Fr h₀ L h' m → News h₀ L h' ((t, tupOf vs) :: rest) → Q (.ref t) { s with heap := h', toks := tk9 }) :
    wpAny (model PySem.Challenge.rw_rh0066_01.row.prog w) (ktrTop dp un gd cn cs L a ccd cl outer) (call (.ref 60) []) Q E s := by
  w_top off; revert X; k_fill; intro X
  refine wpAny_call ?_
  k_dflt cell_enter
  rename Fr _ _ _ _ => F1
  rename News _ _ _ _ => N1
  refine wpAny_execs_cons ?_
  refine wpAny_Return_some ?_
  refine Tuple_ ?_
  refine texts_spliced ?_ ?_
  · repeat (first | exact TextElts.nil | refine TextElts.cons ?_)
  intro vs tk' hl hv
  have hz : vs.length ≤ 40 := by rw [hl]; exact Nat.le_of_ble_eq_true rfl
  refine newTuple_N F1 N1 (fun h1 F2 N2 => ?_) (by rw [sizeLine_eq]; exact Nat.le_trans hz (by decide))
  refine leaveK_ F2 N2 fun F3 N3 => ?_
  exact ret _ vs _ _ hz hv (fun p hp => Heap.lt_size (N1 p hp).1) F3 N3
theorem ff_call {w : World} {mean : ExcName → Option Value} {mg mb : Str → Option Value} {dp un : Nat} {gd : Option (List Code)} {cn : Str} {cs : Scope} {a : Addr} {ccd : Value} {cl : List (Str × Addr)}
    {outer : List Env} {A₀ : Around} {base h₀ : Heap} {L : Addr} {m : Str → Option Value} {s : Shared} {Q E : Value → Shared → Prop} {rest : List (Addr × Obj)}
    (B : Below A₀ base outer h₀) (F : Fr h₀ L s.heap m) (X : (hd.heap_39 w.params).In h₀)
    (T : Top hd.view_39 (looseW hd.view_39 []) mean mg mb h₀) (hk : cs.kind = .function) (hd : dp + 1 < recursionLimit) (hu : un + 8 < cLine)
    (N : News h₀ L s.heap rest)
    (ret : ∀ (t : Addr) (vs : List Value) (new : List (Addr × Obj)) (h' : Heap) (tk9 : Nat), vs.length ≤ 40 →
      (∀ v ∈ vs, ∃ (r : Addr) (x : Str) (i : Int) (u u' : Tok), v = .ref r ∧ (r, tupOf [.str x u, .int i u']) ∈ new) → (t, tupOf vs) ∈ new → (∀ p ∈ rest, ∀ q ∈ new, @LT.lt Nat _ p.1 q.1) →
      Fr h₀ L h' m → News h₀ L h' (new ++ rest) → Q (.ref t) { s with heap := h', toks := tk9 }) :
    wpAny (model PySem.Challenge.rw_rh0066_01.row.prog w) (ktrTop dp un gd cn cs L a ccd cl outer) (call (.ref 67) []) Q E s := by
  w_top off; revert X; k_fill; intro X
  refine wpAny_call ?_
  k_dflt cell_enter
  rename Fr _ _ _ _ => F1
  rename News _ _ _ _ => N1
  refine wpAny_execs_cons ?_
  refine wpAny_Return_some ?_
  refine Tuple_ ?_
  refine' pairs_spliced ?P ?F ?N ?k
  case F => exact F1
  case N => exact N1
  case P => repeat (first | exact PairElts.nil | refine PairElts.cons ?_)
  intro vs new h' tk' hl hv hlt F2 N2
  have hz : vs.length ≤ 40 := by rw [hl]; exact Nat.le_of_ble_eq_true rfl
  refine newTuple_N F2 N2 (fun h1 F3 N3 => ?_) (by rw [sizeLine_eq]; exact Nat.le_trans hz (by decide))
  refine leaveK_ F3 N3 fun F4 N4 => ?_
  refine ret _ vs (_ :: new) _ _ hz (fun v hv' => ?_) (.head _) (fun p hp q hq => ?_) F4 N4
  · obtain ⟨r, x, i, u, u', e, hm⟩ := hv v hv'
    exact ⟨r, x, i, u, u', e, .tail _ hm⟩
  · rcases List.mem_cons.mp hq with rfl | hq
    · exact Heap.lt_size (N2 p (List.mem_append_right _ hp)).1
    · exact hlt p hp q hq
end Mine

local macro_rules | `(tactic| walk_at "name") => `(tactic| (k_here; k_dflt (refine' ld ?k1 ?k2 ?_; (case k1 => k_asm); (case k2 => first | exact rfl | assumption | exact Mine.lk_ne (by decide) (by assumption)); k_whole)))
local macro_rules | `(tactic| walk_at "turns") => `(tactic| (k_here; (rename Fr _ _ _ _ => lF'); (with_unfolding_all refine' For_turns lF' ?_)))
namespace Mine
open PySem PySem.W PyProof.Rows
open PyProof.V (Flat FlatPairs keyEnc_str keyEnc_int lookup_putK_same)
section
variable {prog : Program} {w : World} {A : Around} {E : Value → Shared → Prop} {s : Shared} {env : Env} {h₀ : Heap} {target : Expr} {body : List Stmt} {Q : Flow → Shared → Prop}
/-- a loop over a tuple's items by an invariant of the turn's number, the frame's map and the ledger -/
theorem items_inv {I ax : Addr} {lo : Obj} {vs : List Value} (J : Nat → (Str → Option Value) → List (Addr × Obj) → Prop)
    (step : ∀ (i : Nat) (v : Value) (m : Str → Option Value) (news : List (Addr × Obj)), v ∈ vs → i < vs.length → J i m news → ∀ (h : Heap) (tk : Nat) (o : Obj), Fr h₀ env.locals h m → News h₀ env.locals h ((I, o) :: news) →
      ∀ Qt : Flow → Shared → Prop, (∀ (h' : Heap) (tk' : Nat) (m' : Str → Option Value) (news' : List (Addr × Obj)), Fr h₀ env.locals h' m' → News h₀ env.locals h' ((I, o) :: news') → (∀ p ∈ news', p.1 ≠ I) → (ax, lo) ∈ news' → J (i + 1) m' news' →
        Qt .next { s with heap := h', toks := tk' }) →
      wpAny (model prog w) A (assign target env v) (fun _ s₂ => wpAny (model prog w) A (execs body env) Qt E s₂) E { s with heap := h, toks := tk })
    (fin : ∀ (m : Str → Option Value) (news : List (Addr × Obj)), J vs.length m news → ∀ (h : Heap) (tk : Nat), Fr h₀ env.locals h m → News h₀ env.locals h news → Q .next { s with heap := h, toks := tk }) :
    ∀ (l pre : List Value) (m : Str → Option Value) (news : List (Addr × Obj)), vs = pre ++ l → J pre.length m news →
      ItemsRest prog w A E h₀ env target body Q s [(I, "tuple_iterator")] [(ax, lo)] (l.map .val) m news
  | [], pre, m, news, e, hJ => by
    have e' : vs.length = pre.length := by rw [e, List.append_nil]
    exact ItemsRest.zero fun h tk F N => fin m news (e' ▸ hJ) h tk F N
  | v :: r, pre, m, news, e, hJ => by
    refine ItemsRest.val fun h tk F => AllObj.cons fun o _ => AllObj.nil fun N => ?_
    refine step pre.length v m news (by rw [e]; exact List.mem_append_right _ (.head _)) (by rw [e, List.length_append, List.length_cons]; omega) hJ h tk o F N _ fun h' tk' m' news' F' N' ho hk hJ' => ?_
    refine ⟨h', tk', m', news', rfl, F', N', fun p hp q hq => ?_, ⟨hk, trivial⟩, ?_⟩
    · rw [List.mem_singleton.mp hq]; exact ho p hp
    · exact items_inv J step fin r (pre ++ [v]) m' news' (by rw [e, List.append_assoc]; rfl) (by rw [List.length_append]; exact hJ')
end
local macro_rules | `(tactic| ktr_units) => `(tactic| ((have hcL9 := cLine_is); (simp only [units_under_make, units_in1, units_deeper]); (try dsimp only [ktrTop]); omega))
local macro_rules | `(tactic| walk_at "call ref") => `(tactic| (k_here; k_dflt (apply fa_call; walk_at "c1"; k_whole); walk_at "c2"))
local macro_rules | `(tactic| walk_at "call ref") => `(tactic| (k_here; k_dflt (apply ff_call; walk_at "c1"; k_whole); walk_at "c2"))
local macro_rules | `(tactic| walk_at "exec For Name Call cons nil") => `(tactic| walk_at "turns")


local macro_rules | `(tactic| walk_at "eval Name") => `(tactic| walk_at "name")
local macro_rules | `(tactic| walk_at "call ref") => `(tactic| (k_here; k_dflt (apply atom_call; walk_at "c1"; walk_at "c3"; k_whole); walk_at "c2"))
local macro_rules | `(tactic| walk_at "call ref") => `(tactic| (k_here; k_dflt (apply func_call; walk_at "c1"; walk_at "c3"; k_whole); walk_at "c2"))

theorem sym_start {w : World} {h₀ h : Heap} {L x dx tl ad fl fd t : Addr} {t1 t2 t3 t4 : Tok} {oA oF : Obj} {vs : List Value} {rest : List (Addr × Obj)}
    (N : News h₀ L h ((t, tupOf vs) :: (fd, oF) :: (fl, listOf [].toArray 0) :: (ad, oA) :: (tl, listOf [].toArray 0) :: (x, instObj 154 dx) :: (dx, symDict w t1 t2 t3 t4 tl ad fl fd) :: rest))
    (lA : (ad == sysModules) = false) (lF : (fd == sysModules) = false) (hA : oA.IsDictOf (PySem.strKind PySem.Challenge.rw_rh0066_01.row.prog w) []) (hF : oF.IsDictOf (PySem.intKind PySem.Challenge.rw_rh0066_01.row.prog w) [])
    (h0 : ∀ p ∈ rest, @LT.lt Nat _ p.1 dx) (o1 : @LT.lt Nat _ dx x) (o2 : @LT.lt Nat _ x tl) (o3 : @LT.lt Nat _ tl ad) (o4 : @LT.lt Nat _ ad fl) (o5 : @LT.lt Nat _ fl fd) (o6 : @LT.lt Nat _ fd t) :
    ∃ x9 SL, x9 = x ∧ SymL w x9 0 SL [] [] ∧ Off ((t, tupOf vs) :: rest) SL ∧ News h₀ L h (SL ++ (t, tupOf vs) :: rest) := by
  refine ⟨x, (x, instObj 154 dx) :: (dx, symDict w t1 t2 t3 t4 tl ad fl fd) :: (tl, listOf [].toArray 0) :: (ad, oA) :: (fl, listOf [].toArray 0) :: (fd, oF) :: [], rfl,
    ⟨dx, tl, ad, fl, fd, t1, t2, t3, t4, #[], #[], 0, 0, oA, oF, [], [], rfl, lA, lF, hA, .nil, (fun k d h => by cases h), PairDict.nil hF, (fun k d h => by cases h), o1, o2, o3, o4, o5, (fun p h => by cases h), Nat.le_refl _, Nat.le_refl _, Nat.le_refl _, Nat.le_refl _⟩, ?_, ?_⟩
  · intro p hp q hq
    have p4 := Nat.lt_trans o4 o5
    have p3 := Nat.lt_trans o3 p4
    have p2 := Nat.lt_trans o2 p3
    have r2 := Nat.lt_trans o1 o2
    have r3 := Nat.lt_trans r2 o3
    have r4 := Nat.lt_trans r3 o4
    have hq' : @LE.le Nat _ dx q.1 ∧ @LE.le Nat _ q.1 fd := by
      rcases List.mem_cons.mp hq with rfl | hq
      · exact ⟨Nat.le_of_lt o1, Nat.le_of_lt p2⟩
      rcases List.mem_cons.mp hq with rfl | hq
      · exact ⟨Nat.le_refl _, Nat.le_of_lt (Nat.lt_trans o1 p2)⟩
      rcases List.mem_cons.mp hq with rfl | hq
      · exact ⟨Nat.le_of_lt r2, Nat.le_of_lt p3⟩
      rcases List.mem_cons.mp hq with rfl | hq
      · exact ⟨Nat.le_of_lt r3, Nat.le_of_lt p4⟩
      rcases List.mem_cons.mp hq with rfl | hq
      · exact ⟨Nat.le_of_lt r4, Nat.le_of_lt o5⟩
      rw [List.mem_singleton.mp hq]
      exact ⟨Nat.le_of_lt (Nat.lt_trans r4 o5), Nat.le_refl _⟩
    rcases List.mem_cons.mp hp with rfl | hp
    · exact Nat.ne_of_gt (Nat.lt_of_le_of_lt hq'.2 o6)
    · exact Nat.ne_of_lt (Nat.lt_of_lt_of_le (h0 p hp) hq'.1)
  · intro p hp
    refine N p ?_
    simp only [List.cons_append, List.nil_append, List.mem_cons] at hp ⊢
    rcases hp with h | h | h | h | h | h | h | h
    · exact .inr (.inr (.inr (.inr (.inr (.inl h)))))
    · exact .inr (.inr (.inr (.inr (.inr (.inr (.inl h))))))
    · exact .inr (.inr (.inr (.inr (.inl h))))
    · exact .inr (.inr (.inr (.inl h)))
    · exact .inr (.inr (.inl h))
    · exact .inr (.inl h)
    · exact .inl h
    · exact .inr (.inr (.inr (.inr (.inr (.inr (.inr h))))))
theorem news_in {h₀ h : Heap} {L : Addr} {p : Addr × Obj} {SL rest : List (Addr × Obj)} (N : News h₀ L h (p :: (SL ++ rest))) : News h₀ L h (SL ++ p :: rest) := fun q hq => N q (by
  rcases List.mem_append.mp hq with hq | hq
  · exact .tail _ (List.mem_append_left _ hq)
  · rcases List.mem_cons.mp hq with rfl | hq
    · exact .head _
    · exact .tail _ (List.mem_append_right _ hq))
theorem news_out {h₀ h : Heap} {L : Addr} {p : Addr × Obj} {SL rest : List (Addr × Obj)} (N : News h₀ L h (SL ++ p :: rest)) : News h₀ L h (p :: (SL ++ rest)) := fun q hq => N q (by
  rcases List.mem_cons.mp hq with rfl | hq
  · exact List.mem_append_right _ (.head _)
  · rcases List.mem_append.mp hq with hq | hq
    · exact List.mem_append_left _ hq
    · exact List.mem_append_right _ (.tail _ hq))
theorem news_mid {h₀ h : Heap} {L : Addr} {A B C : List (Addr × Obj)} (N : News h₀ L h (A ++ (B ++ C))) : News h₀ L h (B ++ (A ++ C)) := fun q hq => N q (by
  rcases List.mem_append.mp hq with hq | hq
  · exact List.mem_append_right _ (List.mem_append_left _ hq)
  · rcases List.mem_append.mp hq with hq | hq
    · exact List.mem_append_left _ hq
    · exact List.mem_append_right _ (List.mem_append_right _ hq))
theorem Off.add {p : Addr × Obj} {rest SL : List (Addr × Obj)} (h : Off rest SL) (hp : ∀ q ∈ SL ++ rest, @LT.lt Nat _ q.1 p.1) : Off (p :: rest) SL := fun z hz q hq => by
  rcases List.mem_cons.mp hz with rfl | hz
  · exact Nat.ne_of_gt (hp q (List.mem_append_left _ hq))
  · exact h z hz q hq
theorem Off.rest {p : Addr × Obj} {rest SL : List (Addr × Obj)} (h : Off (p :: rest) SL) : Off rest SL := fun z hz q hq => h z (.tail _ hz) q hq

/-- what the turns of both loops keep -/
inductive SymJ (w : World) (x : Addr) (n : Nat) (base : List (Addr × Obj)) (I : Addr) (m : Str → Option Value) (news : List (Addr × Obj)) : Prop
  | mk (SL : List (Addr × Obj)) (DA DF : List (PyData × PyData)) (hm : m "self" = some (.ref x)) (hS : SymL w x n SL DA DF) (hO : Off base SL) (hSI : ∀ q ∈ SL, q.1 ≠ I) (e : news = SL ++ base) : SymJ w x n base I m news
theorem sym_call {w : World} {mean : ExcName → Option Value} {mg mb : Str → Option Value} {dp un : Nat} {gd : Option (List Code)} {cn : Str} {cs : Scope} {a : Addr} {ccd : Value} {cl : List (Str × Addr)}
    {outer : List Env} {A₀ : Around} {base h₀ : Heap} {L : Addr} {m : Str → Option Value} {s : Shared} {Q E : Value → Shared → Prop}
    {rest : List (Addr × Obj)}
    (B : Below A₀ base outer h₀) (F : Fr h₀ L s.heap m) (X : (hd.heap_39 w.params).In h₀)
    (T : Top hd.view_39 (looseW hd.view_39 []) mean mg mb h₀) (hk : cs.kind = .function) (hd : dp + 10 < recursionLimit) (hu : un + 200 < cLine)
    (N : News h₀ L s.heap rest)
    (ret : ∀ (x : Addr) (SL : List (Addr × Obj)) (DA DF : List (PyData × PyData)) (h' : Heap) (tk9 : Nat), SymL w x 200 SL DA DF → Off rest SL → Fr h₀ L h' m → News h₀ L h' (SL ++ rest) → Q (.ref x) { s with heap := h', toks := tk9 }) :
    wpAny (model PySem.Challenge.rw_rh0066_01.row.prog w) (ktrTop dp un gd cn cs L a ccd cl outer) (call (.ref 154) []) Q E s := by
  obtain ⟨ck, cn1, cg1, cc1, cm1⟩ := cs
  obtain rfl : ck = .function := hk
  w_top off; revert X; k_fill; intro X
  k_steps
  rename_i t9 vs9 h9 tok9 hlen9 hvs9 hlt9 F9 N9
  obtain ⟨x9, SL0, ex9, S0, O0, N0⟩ := sym_start (w := w) N9 (by assumption) (by assumption) (by assumption) (by assumption) (by assumption) (by omega) (by omega) (by omega) (by omega) (by omega) (hlt9 _ (.head _))
  clear N9 hlt9
  refine iter_tupTurns (lo := tupOf vs9) (vs := vs9) rfl F9 N0 (List.mem_append_right _ (.head _)) rfl rfl fun I hI => ?_
  clear F9 N0
  refine items_inv (vs := vs9) (fun i m news => SymJ w x9 i ((t9, tupOf vs9) :: rest) I m news) ?step ?fin vs9 [] _ _ rfl ⟨SL0, [], [], by rw [ex9]; rfl, S0, O0, fun q hq => Nat.ne_of_lt (hI q (List.mem_append_left _ hq)), rfl⟩
  case step =>
    rintro i v m1 _ hv hi ⟨SL, DA, DF, hm1, hS, hO, hSI, rfl⟩ h tk o F1 N1 Qt fin1
    obtain ⟨xt, ut, rfl⟩ := hvs9 v hv
    have N2 := news_in N1
    clear N1
    have hO2 : Off ((I, o) :: (t9, tupOf vs9) :: rest) SL := fun z hz q hq => by
      rcases List.mem_cons.mp hz with rfl | hz
      · exact fun e => hSI q hq e.symm
      · exact hO z hz q hq
    obtain ⟨dx, tl, ad, fl, fd, t1, t2, t3, t4, hx1, hx2⟩ := hS.inst
    replace hx1 := List.mem_append_left ((I, o) :: (t9, tupOf vs9) :: rest) hx1
    replace hx2 := List.mem_append_left ((I, o) :: (t9, tupOf vs9) :: rest) hx2
    k_steps
    refine' fin1 _ _ _ _ ?fF (news_out ?fN) ?fa (List.mem_append_right _ (.head _)) ⟨_, _, _, ?fm, ?fS, Off.rest ?fO, ?fq, rfl⟩
    case fF => k_asm
    case fN => k_asm
    case fS => assumption
    case fO => assumption
    case fm => exact lk_ne (by decide) hm1
    case fa =>
      intro p hp
      rcases List.mem_append.mp hp with hp | hp
      · exact fun e => ‹Off ((I, o) :: (t9, tupOf vs9) :: rest) _› _ (.head _) p hp e.symm
      · exact Nat.ne_of_lt (hI p (List.mem_append_right _ hp))
    case fq =>
      intro q hq
      exact fun e => ‹Off ((I, o) :: (t9, tupOf vs9) :: rest) _› _ (.head _) q hq e.symm
  case fin =>
    rintro m1 _ ⟨SL, DA, DF, hm1, hS, hO, hSI, rfl⟩ h tk F1 N1
    clear hSI hI O0 S0
    dsimp only
    k_steps
    rename_i t8 vs8 new8 h8 tok8 hlen8 hvs8 ht8 hlt8 F8 N8
    have N8' := news_mid N8
    clear N8
    have O8 : Off (new8 ++ (t9, tupOf vs9) :: rest) SL := fun z hz q hq => by
      rcases List.mem_append.mp hz with hz | hz
      · exact Nat.ne_of_gt (hlt8 q (List.mem_append_left _ hq) z hz)
      · exact hO z hz q hq
    clear hlt8
    refine iter_tupTurns (lo := tupOf vs8) (vs := vs8) rfl F8 N8' (List.mem_append_right _ (List.mem_append_left _ ht8)) rfl rfl fun I2 hI2 => ?_
    clear F8 N8'
    refine items_inv (vs := vs8) (fun i m news => SymJ w x9 (vs9.length + 2 * i) (new8 ++ (t9, tupOf vs9) :: rest) I2 m news) ?step ?fin vs8 [] _ _ rfl ⟨SL, DA, DF, hm1, hS, O8, fun q hq => Nat.ne_of_lt (hI2 q (List.mem_append_left _ hq)), rfl⟩
    case step =>
      rintro i v m2 _ hv hi ⟨SL, DA, DF, hm2, hS, hO, hSI, rfl⟩ h tk o F1 N1 Qt fin1
      obtain ⟨r, xt, xi, ut, ui, rfl, hr⟩ := hvs8 v hv
      have N2 := news_in N1
      clear N1
      generalize hR : new8 ++ (t9, tupOf vs9) :: rest = R2 at *
      have hO2 : Off ((I2, o) :: R2) SL := fun z hz q hq => by
        rcases List.mem_cons.mp hz with rfl | hz
        · exact fun e => hSI q hq e.symm
        · exact hO z hz q hq
      obtain ⟨dx, tl, ad, fl, fd, t1, t2, t3, t4, hx1, hx2⟩ := hS.inst
      replace hx1 := List.mem_append_left ((I2, o) :: R2) hx1
      replace hx2 := List.mem_append_left ((I2, o) :: R2) hx2
      have hr : (r, tupOf [.str xt ut, .int xi ui]) ∈ SL ++ (I2, o) :: R2 := List.mem_append_right _ (.tail _ (by rw [← hR]; exact List.mem_append_left _ hr))
      k_steps
      refine' fin1 _ _ _ _ ?fF (news_out ?fN) ?fa (List.mem_append_right _ (by rw [← hR]; exact List.mem_append_left _ ht8)) ⟨_, _, _, ?fm, ?fS, Off.rest ?fO, ?fq, rfl⟩
      case fF => k_asm
      case fN => k_asm
      case fS => assumption
      case fO => assumption
      case fm => exact lk_ne (by decide) hm2
      case fa =>
        intro p hp
        rcases List.mem_append.mp hp with hp | hp
        · exact fun e => ‹Off ((I2, o) :: R2) _› _ (.head _) p hp e.symm
        · exact Nat.ne_of_lt (hI2 p (List.mem_append_right _ hp))
      case fq =>
        intro q hq
        exact fun e => ‹Off ((I2, o) :: R2) _› _ (.head _) q hq e.symm
    case fin =>
      rintro m2 _ ⟨SL, DA, DF, hm2, hS, hO, hSI, rfl⟩ h tk F1 N1
      dsimp only
      k_steps
      have r := ret x9 SL DA DF h tk (hS.more (by omega)) (fun z hz q hq => hO z (List.mem_append_right _ (.tail _ hz)) q hq) ‹Fr h₀ L h m› (fun p hp => by
        have hz := ‹News h₀ L h (SL ++ (new8 ++ (t9, tupOf vs9) :: rest))› p
        rcases List.mem_append.mp hp with hp | hp
        · exact hz (List.mem_append_left _ hp)
        · exact hz (List.mem_append_right _ (List.mem_append_right _ (.tail _ hp))))
      rw [ex9] at r
      exact r
end Mine

namespace Mine
open PySem PySem.W PyProof.Rows PySem.Calls
open PySem.Sem (wp)
section
variable {prog : Program} {w : World} {A : Around} {E : Value → Shared → Prop} {h : Heap} {g : Array GenState} {d : Drawn} {t : Nat} {os : OsState}
variable {nm q : Str} {C N : Addr} {bs bm bmB : List Value} {hdct : Bool} {sn : List Str} {sub : List Value} {ab : Bool} {col : Option Bool} {dd : Option Addr} {k0 k1 k2 k3 k5 : Option Value} {B newId initId : String}
/-- making an exception of an own class that lies over own classes and has an `__init__` of its own -/
theorem exc_type_call (F : ExcBaseFacts B newId initId bmB) (T : OwnTail h bmB bm) {mN : Str → Option Value} {rest : List Value} {fI : Addr} {oI : Obj} {Q : Fin → Shared → Prop}
    (hC : h.get? C = some (excClassObj nm q C N bs bm hdct sn sub ab col dd k0 k1 k2 k3 k5 newId)) (hn : h.Ns N mN) (hi : mN "__init__" = some (.ref fI))
    (hfI : h.get? fI = some oI) (hfc : oI.cls = .type "function")
    (hq : ∀ h' e, Heap.MadeExcOf h h' e (.ref C) rest →
      wpAny (model prog w) A (call (.ref fI) (.ref e :: rest)) (fun r s' => r = .none ∧ Q (.done (.ret (.ref e))) s') E ⟨h', g, d, t, os⟩) (hrest : rest.length ≤ sizeLine) :
    wpAny (model prog w) A (Builtin.«type.__call__» ⟨.ref C :: rest, []⟩) Q E ⟨h, g, d, t, os⟩ := by
  repeat (first | with_reducible refine wpAny_loadPart_at hC ?_ | with_reducible refine wpAny_madeBy_exc hC ?_ | wp_step)
  refine codeAny_call_builtin_code (Code.quiet_builtin _ F.quiet) (wpAny_check_new_subT F T hC ?_)
  refine codeAny_exc_new_subT F T hC ?_ hrest
  show wpAny _ _ _ _ _ _
  have hk : ∀ b o, h.get? b = some o → ((h.push { cls := .type "tuple", data := .seq rest.toArray }).push { cls := .ref C, data := .fields #[.ref h.objs.size, .none, .none, .none, .bool false, .none] }).get? b = some o := fun b o e => Heap.get?_push_of_some _ (Heap.get?_push_of_some _ e)
  have hget : ((h.push { cls := .type "tuple", data := .seq rest.toArray }).push
      { cls := .ref C, data := .fields #[.ref h.objs.size, .none, .none, .none, .bool false, .none] }).get? (h.objs.size + 1) = some
      { cls := .ref C, data := .fields #[.ref h.objs.size, .none, .none, .none, .bool false, .none] } := by heap_get
  have hC₁ := hk _ _ hC
  have hfI₁ := hk _ _ hfI
  have hn₁ := hn.keeps hk
  have T₁ := T.keeps hk
  have hcC : (Value.ref C :: bm).contains (.ref C) = true := by simp
  unfold isInstance
  repeat (first | with_reducible refine wpAny_loadPart_at hget ?_ | (with_reducible refine wpAny_isSubtype_exc hC₁ ?_; rw [hcC]) | wp_step)
  show wpAny _ _ (typeLookup (.ref C) _) _ _ _
  refine wpAny_typeLookup_tail hC₁ hn₁ T₁ F.mroIs F.init.lookup ?_
  rw [hi]
  refine wpAny_holding (wpAny_bind ?_)
  unfold bindSpecial
  refine wpAny_bind (wpAny_typeOf (T := "function") ⟨_, hfI₁, hfc⟩ ?_)
  rw [if_pos (by decide)]
  refine wpAny_pure (wpAny_bind (wpAny_mono (hq _ (h.objs.size + 1) ⟨hk, Heap.get?_none_of_le (Nat.le_succ _), h.objs.size, hget, Heap.get?_none_of_le (Nat.le_refl _), ?_⟩) (fun r s' hr => ?_) fun _ _ x => x))
  · exact Heap.get?_push_of_some _ (Heap.get?_push_at rfl rfl)
  · obtain ⟨rfl, hQ⟩ := hr
    wp_walk
    exact hQ
theorem exc_call (F : ExcBaseFacts B newId initId bmB) (T : OwnTail h bmB bm) {mN : Str → Option Value} {rest : List Value} {fI : Addr} {oI : Obj} {Q : Value → Shared → Prop}
    (hC : h.get? C = some (excClassObj nm q C N bs bm hdct sn sub ab col dd k0 k1 k2 k3 k5 newId)) (hn : h.Ns N mN) (hi : mN "__init__" = some (.ref fI))
    (hfI : h.get? fI = some oI) (hfc : oI.cls = .type "function")
    (hq : ∀ h' e, Heap.MadeExcOf h h' e (.ref C) rest →
      wpAny (model prog w) (A.under (.builtin "type.__call__" ⟨.ref C :: rest, []⟩)) (call (.ref fI) (.ref e :: rest)) (fun r s' => r = .none ∧ Q (.ref e) s') E ⟨h', g, d, t, os⟩) (hrest : rest.length ≤ sizeLine) :
    wpAny (model prog w) A (call (.ref C) rest) Q E ⟨h, g, d, t, os⟩ := by
  have f1 := tc_lookup
  have f2 := tc_bind (.ref C)
  have hT : (⟨h, g, d, t, os⟩ : Shared).TypeIs (.ref C) "type" := ⟨_, hC, rfl⟩
  refine wpAny_call (codeAny_of_tree ?_)
  show wpAny _ _ (callAny (.ref C) _) _ _ _
  repeat (any_goals (first | assumption | with_reducible refine wpAny_loadPart_at hC ?_ | wp_step))
  refine ⟨rfl, ?_⟩
  refine codeAny_call_builtin_at (Code.quiet_builtin _ (by decide +kernel)) entry_typeCall (wpAny_check_type_call_sub hC (exc_type_call (hrest := hrest) F T hC hn hi hfI hfc fun h' e hm => ?_))
  exact hq h' e hm
end
def exT (c : Value) : Bool := match c with | .type n => n == "type" | _ => false
def exR (c : Value) (C : Addr) : Bool := match c with | .ref a => Nat.beq a C | _ => false
def exB (c : Value) (n : String) : Bool := match c with | .builtin b => b == n | _ => false
def exD (d : Data) : Option ClassData := match d with | .cls cd => some cd | _ => none
theorem exT_eq {c : Value} (h : exT c = true) : c = .type "type" := by
  cases c <;> first | exact Bool.noConfusion h | exact congrArg Value.type (beq_iff_eq.mp h)
theorem exR_eq {c : Value} {C : Addr} (h : exR c C = true) : c = .ref C := by
  cases c <;> first | exact Bool.noConfusion h | exact congrArg Value.ref (Nat.eq_of_beq_eq_true h)
theorem exB_eq {c : Value} {n : String} (h : exB c n = true) : c = .builtin n := by
  cases c <;> first | exact Bool.noConfusion h | exact congrArg Value.builtin (beq_iff_eq.mp h)
theorem exD_eq {d : Data} {cd : ClassData} (h : exD d = some cd) : d = .cls cd := by
  cases d <;> first | exact congrArg Data.cls (Option.some.inj h) | exact (have z : none = some cd := h; nomatch z)
theorem six {α : Type} {l : List α} (h : l.length = 6) : ∃ a b c d e f, l = [a, b, c, d, e, f] := by
  rcases l with _ | ⟨a, _ | ⟨b, _ | ⟨c, _ | ⟨d, _ | ⟨e, _ | ⟨f, _ | ⟨g, l⟩⟩⟩⟩⟩⟩⟩
  all_goals first
    | exact ⟨a, b, c, d, e, f, rfl⟩
    | (exfalso; simp at h; done)
def exC (K : Frag) (C : Addr) (bmB : List Value) (fI : Addr) (cd : ClassData) : Bool :=
  exR (cd.mro.headD .none) C && tailIn K bmB cd.mro.tail && cd.mro.isEmpty == false && cd.hasDel == false && nsOkIn K cd.ns && nsIn K cd.ns "__init__" == some (some (.ref fI)) && typeIn K (.ref fI) == some (.type "function")
def exO (newId : String) (o : Obj) : Bool := exT o.cls && o.slots.toList.length == 6 && exB ((o.slots.toList.getD 4 none).getD .none) newId
def exIn (K : Frag) (C : Addr) (bmB : List Value) (newId : String) (fI : Addr) : Bool :=
  match K.lookup C with
  | none => false
  | some o => exO newId o && (match exD o.data with | none => false | some cd => exC K C bmB fI cd)
theorem ns_some_of {K : Frag} {h : Heap} {N : Addr} {mg : Str → Option Value} {n : Str} {v : Value} (X : K.In h) (G : h.Ns N mg) (e : nsIn K N n = some (some v)) : mg n = some v := by
  obtain ⟨o, es, ep, ho, hd, _, hf⟩ := G
  unfold nsIn at e
  cases q : K.lookup N with
  | none => rw [q] at e; cases e
  | some o' =>
    have := X _ _ q
    rw [ho] at this
    cases this
    obtain ⟨c, d, dt, sl⟩ := o
    cases hd
    rw [q] at e
    dsimp only at e
    rw [← hf]
    unfold nsFind findBy
    cases he : es.toList.find? (fun x => x.key.isStr n) with
    | none => rw [he] at e; dsimp only at e; split at e <;> cases e
    | some en =>
      rw [he] at e
      rw [← Array.find?_toList, he]
      exact Option.some.inj e
/-- the class's object and its facts, for any heap that bears the written part -/
inductive ExcAt (h : Heap) (C : Addr) (bmB : List Value) (newId : String) (fI : Addr) : Prop
  | mk (bm : List Value) (N : Addr) (nm qn : Str) (bs : List Value) (hd : Bool) (sn : List Str) (sub : List Value) (ab : Bool) (col : Option Bool) (dd : Option Addr) (k0 k1 k2 k3 k5 : Option Value) (mN : Str → Option Value) (oI : Obj)
    (hC : h.get? C = some (excClassObj nm qn C N bs bm hd sn sub ab col dd k0 k1 k2 k3 k5 newId)) (hn : h.Ns N mN) (hi : mN "__init__" = some (.ref fI)) (T : OwnTail h bmB bm) (hI : h.get? fI = some oI) (hIc : oI.cls = .type "function") : ExcAt h C bmB newId fI
theorem exO_eq {newId : String} {o : Obj} {cd : ClassData} (h : exO newId o = true) (hd : exD o.data = some cd) : ∃ dd k0 k1 k2 k3 k5, o = { cls := .type "type", dict := dd, data := .cls cd, slots := #[k0, k1, k2, k3, some (.builtin newId), k5] } := by
  obtain ⟨q1, q3⟩ := Bool.and_eq_true_iff.mp h
  obtain ⟨q1, q2⟩ := Bool.and_eq_true_iff.mp q1
  obtain ⟨k0, k1, k2, k3, k4, k5, hl⟩ := six (beq_iff_eq.mp q2)
  obtain ⟨oc, dd, dt, sl⟩ := o
  obtain ⟨l⟩ := sl
  dsimp only at hl q1 q3 hd
  rw [hl] at q3
  have e4 : k4 = some (.builtin newId) := by
    cases k4 with
    | none => cases q3
    | some v => rw [exB_eq (c := v) q3]
  exact ⟨dd, k0, k1, k2, k3, k5, by rw [exT_eq q1, exD_eq hd, hl, e4]⟩
theorem exC_eq {K : Frag} {C : Addr} {bmB : List Value} {fI : Addr} {cd : ClassData} (h : exC K C bmB fI cd = true) :
    ∃ bm, cd.mro = .ref C :: bm ∧ cd.hasDel = false ∧ tailIn K bmB bm = true ∧ nsOkIn K cd.ns = true ∧ nsIn K cd.ns "__init__" = some (some (.ref fI)) ∧ typeIn K (.ref fI) = some (.type "function") := by
  obtain ⟨q6, hf⟩ := Bool.and_eq_true_iff.mp h
  obtain ⟨q6, hni⟩ := Bool.and_eq_true_iff.mp q6
  obtain ⟨q6, hok⟩ := Bool.and_eq_true_iff.mp q6
  obtain ⟨q6, hdel⟩ := Bool.and_eq_true_iff.mp q6
  obtain ⟨q6, hem⟩ := Bool.and_eq_true_iff.mp q6
  obtain ⟨q6, ht⟩ := Bool.and_eq_true_iff.mp q6
  cases hm : cd.mro with
  | nil => rw [hm] at hem; cases hem
  | cons c bm =>
    rw [hm] at q6 ht
    exact ⟨bm, by rw [exR_eq (c := c) q6], beq_iff_eq.mp hdel, ht, hok, beq_iff_eq.mp hni, beq_iff_eq.mp hf⟩
theorem exM_eq {cd : ClassData} {c : List Value} (h : cd.mro = c) (hd : cd.hasDel = false) : cd = { cd with mro := c, hasDel := false } := by rw [← h, ← hd]
theorem exc_of_in {K : Frag} {h : Heap} {C : Addr} {bmB : List Value} {newId : String} {fI : Addr} (X : K.In h) (q : exIn K C bmB newId fI = true) : ExcAt h C bmB newId fI := by
  unfold exIn at q
  cases ho : K.lookup C with
  | none => rw [ho] at q; cases q
  | some o =>
    rw [ho] at q
    obtain ⟨q1, q2⟩ := Bool.and_eq_true_iff.mp q
    cases hcd : exD o.data with
    | none => rw [hcd] at q2; cases q2
    | some cd =>
      rw [hcd] at q2
      obtain ⟨dd, k0, k1, k2, k3, k5, e⟩ := exO_eq q1 hcd
      obtain ⟨bm, hm, hdel, ht, hok, hni, hf⟩ := exC_eq q2
      obtain ⟨oI, hI, hIc⟩ := Option.map_eq_some_iff.mp hf
      rw [exM_eq hm hdel] at e
      exact ⟨bm, cd.ns, cd.name, cd.qualname, cd.bases, cd.hasDict, cd.slotNames, cd.subclasses, cd.abstract, cd.collection, dd, k0, k1, k2, k3, k5, _, oI, (X _ _ ho).trans (congrArg some e), .of_isNs (isNs_of_in X hok), ns_some_of X (.of_isNs (isNs_of_in X hok)) hni, tail_of_in X ht, X _ _ hI, hIc⟩
abbrev excObj (C : Value) (t : Addr) (dx : Option Addr) : Obj := { cls := C, dict := dx, data := .fields #[.ref t, .none, .none, .none, .bool false, .none] }
section
variable {prog : Program} {w : World} {A : Around} {E : Value → Shared → Prop} {s : Shared} {K : Frag} {C : Addr} {bmB : List Value} {newId initId B : String} {fI : Addr} {h₀ : Heap} {L : Addr} {m : Str → Option Value} {news : List (Addr × Obj)}
theorem exc_make {rest : List Value} {Q : Value → Shared → Prop} (FB : ExcBaseFacts B newId initId bmB) (F : Fr h₀ L s.heap m) (N : News h₀ L s.heap news) (X : K.In s.heap) (q : exIn K C bmB newId fI = true) (hrest : rest.length ≤ sizeLine)
    (hq : ∀ h' e t, Fr h₀ L h' m → News h₀ L h' ((e, excObj (.ref C) t none) :: (t, { cls := .type "tuple", data := .seq rest.toArray }) :: news) → (∀ p ∈ news, p.1 ≠ e) → (∀ p ∈ news, p.1 ≠ t) → (∀ b o, s.heap.get? b = some o → h'.get? b = some o) → s.heap.get? e = none → s.heap.get? t = none →
      wpAny (model prog w) (A.under (.builtin "type.__call__" ⟨.ref C :: rest, []⟩)) (call (.ref fI) (.ref e :: rest)) (fun r s' => r = .none ∧ Q (.ref e) s') E { s with heap := h' }) :
    wpAny (model prog w) A (call (.ref C) rest) Q E s := by
  obtain ⟨hh, g, d, tk, os⟩ := s
  obtain ⟨bm, N', nm, qn, bs, hd, sn, sub, ab, col, dd, k0, k1, k2, k3, k5, mN, oI, hC, hn, hi, T, hI, hIc⟩ := exc_of_in X q
  refine exc_call (hrest := hrest) FB T hC hn hi hI hIc fun h' e hm => ?_
  obtain ⟨t, he, htn, ht⟩ := hm.there
  have F' : Fr h₀ L h' m := F.keeps hm.keeps
  refine hq h' e t F' ?_ (fun p hp z => ?_) (fun p hp z => ?_) hm.keeps hm.new htn
  · intro p hp
    have fresh : ∀ b, hh.get? b = none → b ≠ L ∧ h₀.get? b = none := fun b hb => by
      refine ⟨fun z => ?_, fresh_of_stays (fun b o q => F.keep b o q) hb⟩
      obtain ⟨oL, _, _, hL, _⟩ := F.ns
      rw [z, hL] at hb; cases hb
    rcases List.mem_cons.mp hp with rfl | hp
    · exact ⟨he, fresh _ hm.new⟩
    · rcases List.mem_cons.mp hp with rfl | hp
      · exact ⟨ht, fresh _ htn⟩
      · exact ⟨hm.keeps _ _ (N p hp).1, (N p hp).2⟩
  · have := (N p hp).1; rw [z] at this; have h2 := hm.new; rw [show hh.get? e = some p.2 from this] at h2; cases h2
  · have := (N p hp).1; rw [z] at this; rw [show hh.get? t = some p.2 from this] at htn; cases htn
end

/-- `self.name = v` on a fresh exception (no dict yet) -/
def storesIn (K : Frag) (C : Addr) (mro : List Value) : Bool := (clsIn K C).any fun cd => cd.hasDict && cd.mro == mro
section
variable {prog : Program} {w : World} {A : Around} {E : Value → Shared → Prop} {s : Shared} {K : Frag} {C x t : Addr} {h₀ : Heap} {L : Addr} {m : Str → Option Value} {post : List (Addr × Obj)} {name : Str} {v : Value} {mro : List Value}
open Builtin Builtin.ObjectAttr
theorem exc_set_call {R : Result → Shared → Prop} {tk : Tok} (F : Fr h₀ L s.heap m) (N : News h₀ L s.heap ((x, excObj (.ref C) t none) :: post)) (X : K.In s.heap) (hst : storesIn K C mro = true)
    (hpass : ∀ self : Value, refuseLoop self "__setattr__" mro = pure ()) (hobj : mro.contains (.type "object") = true) (hne : mro.isEmpty = false) (ht : takerIn K C name = some none) (hp : ∀ p ∈ post, p.1 ≠ x)
    (h : ∀ h' dx tk', Fr h₀ L h' m → News h₀ L h' ((dx, { cls := .type "dict", data := .dict #[⟨PyData.keyHash w.params name, .str name tk', v⟩] 1 }) :: (x, excObj (.ref C) t (some dx)) :: post) → (∀ p ∈ post, p.1 ≠ dx) → dx ≠ x →
      R (.ok (.ret .none)) { s with heap := h', toks := s.toks + 1 }) :
    codeAny (model prog w) A (.call (.builtin "object.__setattr__") ⟨[.ref x, .str name tk, v], []⟩) R s := by
  have SF := PySem.F.store_object
  obtain ⟨cd, hc, ho⟩ := any_some hst
  simp only [Bool.and_eq_true, beq_iff_eq] at ho
  obtain ⟨hdct, hmro⟩ := ho
  have hx := (N _ (.head _)).1
  have I : InstAt s.heap x (excObj (.ref C) t none) C none := ⟨hx, rfl, rfl, trivial⟩
  have sub : Looks (model prog w) s.heap (isInstance (.ref x) (.type "object")) true := I.type.andThen (looks_mroIn X (by unfold mroIn; rw [hc, Option.bind_some, if_neg (by rw [hmro, hne]; decide), hmro, hobj]))
  refine codeAny_call_builtin SF.slot.plain SF.entry (@check_slot (model prog w) _ _ s "object.__setattr__" "object" "__setattr__" (.ref x) [.str name tk, v] [] _ SF.kind SF.split sub (SF.args (.ref x) (.str name tk) v) ?_)
  obtain ⟨attr, ha, hr⟩ := Option.bind_eq_some_iff.mp ht
  have hm : Looks (model prog w) s.heap (mroOf (.ref C)) cd.mro := (looks_clsIn X hc).andThen .now
  have L3 : Looks (model prog w) s.heap (storeTaker? attr) none := by
    cases attr with
    | none => exact .now
    | some a =>
      obtain ⟨b, hb, hbn⟩ := Option.map_eq_some_iff.mp hr
      refine (looks_takesIn X hb).andThen ?_
      cases b <;> first | exact .now | cases hbn
  rw [osa_eq, refuse_eq]
  refine wpAny_bind (wpAny_bind (I.type.here (wpAny_bind (hm.here ?_))))
  rw [hmro, hpass]
  refine wpAny_pure (wpAny_bind (I.type.here (wpAny_bind ((looks_findIn X ha).here (wpAny_bind (L3.here ?_))))))
  dsimp only
  have N1 := N.push F emptyDict
  have F1 := F.push (h := s.heap) emptyDict
  have hxs : x ≠ s.heap.objs.size := Nat.ne_of_lt (Heap.lt_size hx)
  have hxl : @LT.lt Nat _ x s.heap.objs.size := Heap.lt_size hx
  have hps : ∀ p ∈ post, p.1 ≠ s.heap.objs.size := fun p q => Nat.ne_of_lt (Heap.lt_size (N p (.tail _ q)).1)
  obtain ⟨F2, N2⟩ := news_upd (pre := [(s.heap.objs.size, emptyDict)]) (d := x) (o := excObj (.ref C) t none) (o' := excObj (.ref C) t (some s.heap.objs.size)) (f := fun o => { o with dict := some s.heap.objs.size }) (post := post) F1 N1
    (fun p hp => by rw [List.mem_singleton.mp hp]; exact Ne.symm hxs) hp rfl rfl
  obtain ⟨F3, N3⟩ := news_upd (pre := []) (d := s.heap.objs.size) (o := emptyDict) (o' := { cls := .type "dict", data := .dict #[⟨PyData.keyHash w.params name, .str name s.toks, v⟩] 1 }) (f := Obj.putName name (PyData.keyHash w.params name) (.str name s.toks) v)
    (post := (x, excObj (.ref C) t (some s.heap.objs.size)) :: post) F2 N2 (fun p hp => by cases hp) (fun p hp => by rcases List.mem_cons.mp hp with rfl | hp; exact hxs; exact hps p hp) rfl rfl
  refine wpAny_bind (wpAny_pure (wpAny_bind (wpAny_bind (wpAny_loadPart hx (wpAny_bind ((looks_clsIn X hc).here ?_))))))
  rw [hdct]
  refine wpAny_bind (wpAny_alloc' ?_)
  have hx1 := (N1 (x, excObj (.ref C) t none) (.tail _ (.head _))).1
  refine wpAny_bind (wpAny_update' hx1 ?_)
  refine wpAny_pure ?_
  show wpAny _ _ (storeInDict s.heap.objs.size (.str name tk) name v) _ _ _
  unfold storeInDict newKeyGuard
  refine wpAny_bind (wpAny_pure (wpAny_bind ?_))
  have D := (N2 (s.heap.objs.size, emptyDict) (.head _)).1
  have D' := (N3 (s.heap.objs.size, _) (.head _)).1
  unfold nsSet
  refine wpAny_bind (wpAny_bind (wpAny_askSetting (wpAny_pure (wpAny_bind (wpAny_mkText (wpAny_bind (wpAny_loadPart D ?_)))))))
  dsimp only
  refine wpAny_updatePart D ?_
  refine wpAny_bind (wpAny_lookBehind D' (by rw [show (_ : Obj).data = Data.dict _ _ from rfl]; exact pastItsLine_dict (by show (1 : Nat) ≤ sizeLine + 1; omega)) ?_)
  exact wpAny_pure (h _ _ _ F3 N3 hps (Ne.symm hxs))
theorem exc_set {Q : Unit → Shared → Prop} (F : Fr h₀ L s.heap m) (N : News h₀ L s.heap ((x, excObj (.ref C) t none) :: post)) (X : K.In s.heap) (hst : storesIn K C mro = true)
    (hpass : ∀ self : Value, refuseLoop self "__setattr__" mro = pure ()) (hobj : mro.contains (.type "object") = true) (hne : mro.isEmpty = false) (ht : takerIn K C name = some none) (hp : ∀ p ∈ post, p.1 ≠ x)
    (hs : findIn K (.ref C) "__setattr__" = some (some (.builtin "object.__setattr__")))
    (h : ∀ h' dx tk', Fr h₀ L h' m → News h₀ L h' ((dx, { cls := .type "dict", data := .dict #[⟨PyData.keyHash w.params name, .str name tk', v⟩] 1 }) :: (x, excObj (.ref C) t (some dx)) :: post) → (∀ p ∈ post, p.1 ≠ dx) → dx ≠ x →
      Q () { s with heap := h', toks := s.toks + 1 + 1 }) :
    wpAny (model prog w) A (setAttr (.ref x) name v) Q E s := by
  have I : InstAt s.heap x (excObj (.ref C) t none) C none := ⟨(N _ (.head _)).1, rfl, rfl, trivial⟩
  exact set_plain X I hs (exc_set_call (s := { s with toks := s.toks + 1 }) F N X hst hpass hobj hne ht hp h)
end

section
variable {prog : Program} {w : World} {A : Around} {E : Value → Shared → Prop} {s : Shared} {K : Frag} {C x : Addr} {ox : Obj} {od : Option Obj} {h₀ : Heap} {L : Addr} {m : Str → Option Value} {name : Str} {v : Value}
open Builtin Builtin.ObjectAttr
theorem exc_get {expr : Bool} {Q : Value → Shared → Prop} (X : K.In s.heap) (I : InstAt s.heap x ox C od) (hga : findIn K (.ref C) "__getattribute__" = some (some (.builtin "BaseException.__getattribute__")))
    (hno : findIn K (.ref C) "__getattr__" = some none) (hb : mroIn K C (.type "BaseException") = some true)
    (hf : findObj K C od name = some (.value v)) (hh : handedIn v = true) (h : Q v { s with toks := s.toks + 1 }) : wpAny (model prog w) A (getAttr (.ref x) name expr) Q E s := by
  obtain ⟨hh', g, d, t, os⟩ := s
  have L0 := I.type (M := model prog w)
  have L1 := looks_findIn (M := model prog w) X hga
  have L2 := looks_findIn (M := model prog w) X hno
  have L3 := looks_find (M := model prog w) X I hf
  have LB : Looks (model prog w) hh' (isInstance (.ref x) (.type "BaseException")) true := L0.andThen (looks_mroIn X hb)
  have FB := PySem.F.attr_Exception
  have f3 := FB.ga.bind (.ref x)
  unfold getAttr getAttrBy
  refine wpAny_bind (wpAny_mkText (wpAny_holding (wpAny_bind (L0.at (wpAny_bind (L1.at ?_))))))
  show wpAny _ _ (getAttrByItsOwn _ _ _ _ _ _) _ _ _
  have hx0 : (expr && onTheHeap (Value.builtin "BaseException.__getattribute__")) = false := by cases expr <;> rfl
  have hk : builtinKind "BaseException.__getattribute__" = some .slot := by decide +kernel
  have hsplit : splitId "BaseException.__getattribute__" = some ("BaseException", "__getattribute__") := by decide +kernel
  repeat (any_goals (first | assumption | with_reducible refine Looks.at L0 ?_ | with_reducible refine Looks.at L2 ?_ | wp_step))
  refine codeAny_call_builtin FB.ga.plain PySem.F.entry_bexc_ga (@check_slot (model prog w) _ _ _ "BaseException.__getattribute__" "BaseException" "__getattribute__" (.ref x) [.str name t] [] _ hk hsplit LB (PySem.F.args_bexc_ga _ _) ?_)
  show wpAny _ _ (Builtin.«object.__getattribute__» _) _ _ _
  refine wpAny_bind (wpAny_pure (wpAny_bind (wpAny_pure (wpAny_bind (L0.at (wpAny_bind (L3.at ?_)))))))
  refine wpAny_pure ?_
  show wpAny _ _ (handedOut v) _ _ _
  rw [handedOut_of hh]; exact wpAny_pure h
/-- raising a made exception of an own class, whatever its dict is -/
theorem raise_own {M : Model} {env : Env} {y : Sem Value} {Q : Flow → Shared → Prop} (hA : A.handled = none)
    (h : wpAny M A y (fun u s₁ => ∃ e t dx, u = .ref e ∧ K.In s₁.heap ∧ s₁.heap.get? e = some (excObj (.ref C) t dx) ∧ mroIn K C (.type "BaseException") = some true ∧ typeIn K (.ref C) = some (.type "type") ∧ E (.ref e) s₁) E s) :
    wpAny M A (raiseStmt env (some y) none) Q E s := by
  unfold raiseStmt
  refine wpAny_bind (wpAny_mono h (fun u s₁ h₁ => ?_) fun _ _ x => x)
  obtain ⟨e, t, dx, rfl, X, hx, hb, hty, hE⟩ := h₁
  obtain ⟨hp, g, d, tk, os⟩ := s₁
  have L1 := looks_mroIn (M := M) X hb
  obtain ⟨oC, hC, hCt⟩ := Option.map_eq_some_iff.mp hty
  have hC := X _ _ hC
  repeat (first | with_reducible refine wpAny_loadPart_at hx ?_ | (with_reducible refine wpAny_loadPart_at hC ?_; rw [hCt]) | with_reducible refine Looks.at L1 ?_ | wp_step)
  all_goals exact wpAny_raiseNew_none hA hE
end
end Mine

namespace Mine
open PySem PySem.W PyProof.Rows
def Hold (P : Prop) : Prop := P
theorem hold {P : Prop} (h : Hold P) : P := h
theorem unhold {P : Prop} (h : P) : Hold P := h
theorem hold_ref (f : Addr) {M : Model} {A : Around} {as : List Value} {Q E : Value → Shared → Prop} {s : Shared} (h : Hold (wpAny M A (call (.ref f) as) Q E s)) : wpAny M A (call (.ref f) as) Q E s := h
theorem hold_due {M : Model} {A : Around} {env : Env} {p q : Pos} {v : Expr} {r : List Stmt} {Q : Flow → Shared → Prop} {E : Value → Shared → Prop} {s : Shared} (h : Hold (wpAny M A (execs (Stmt.Assign [Expr.Name ("due" : Str) p] v q :: r) env) Q E s)) : wpAny M A (execs (Stmt.Assign [Expr.Name ("due" : Str) p] v q :: r) env) Q E s := h
theorem hold_if (op : BoolOp) {M : Model} {A : Around} {env : Env} {p q : Pos} {vs : List Expr} {b o r : List Stmt} {Q : Flow → Shared → Prop} {E : Value → Shared → Prop} {s : Shared} (h : Hold (wpAny M A (execs (Stmt.If (Expr.BoolOp op vs p) b o q :: r) env) Q E s)) : wpAny M A (execs (Stmt.If (Expr.BoolOp op vs p) b o q :: r) env) Q E s := h
local macro_rules | `(tactic| walk_at "call ref") => `(tactic| (k_here; k_dflt (first | apply hold_ref 88 | apply hold_ref 109)))
local macro_rules | `(tactic| walk_at "exec For Name Name cons nil") => `(tactic| walk_at "turns")

theorem news_one {h₀ h : Heap} {L al : Addr} {o : Obj} {SL rest : List (Addr × Obj)} (N : News h₀ L h ((al, o) :: (SL ++ rest))) (hr : Off rest SL) (hl : ∀ p ∈ SL ++ rest, @LT.lt Nat _ p.1 al) :
    News h₀ L h (SL ++ (al, o) :: rest) ∧ Off ((al, o) :: rest) SL := ⟨news_in N, Off.add hr hl⟩
theorem news_two {h₀ h : Heap} {L al I : Addr} {o l : Obj} {SL rest : List (Addr × Obj)} (N : News h₀ L h (SL ++ (I, o) :: (al, l) :: rest)) (hr : Off ((I, o) :: (al, l) :: rest) SL) (h1 : @LT.lt Nat _ al I) (h2 : ∀ p ∈ rest, @LT.lt Nat _ p.1 al) :
    News h₀ L h ((I, o) :: (al, l) :: (SL ++ rest)) ∧ @Ne Nat I al ∧ (∀ p ∈ SL ++ rest, p.1 ≠ al) := by
  refine ⟨fun q hq => N q ?_, Nat.ne_of_gt h1, fun p hp => ?_⟩
  · simp only [List.mem_cons, List.mem_append] at hq ⊢
    rcases hq with h | h | h | h
    · exact .inr (.inl h)
    · exact .inr (.inr (.inl h))
    · exact .inl h
    · exact .inr (.inr (.inr h))
  · rcases List.mem_append.mp hp with hp | hp
    · exact fun e => hr _ (.tail _ (.head _)) p hp e.symm
    · exact Nat.ne_of_lt (h2 p hp)
theorem news_turn {h₀ h : Heap} {L al I ta : Addr} {o l l0 t : Obj} {SL rest : List (Addr × Obj)} (N : News h₀ L h ((ta, t) :: (I, o) :: (al, l) :: (SL ++ rest))) (hr : Off ((I, o) :: (al, l0) :: rest) SL) (h1 : @LT.lt Nat _ al I) (h2 : ∀ p ∈ rest, @LT.lt Nat _ p.1 al)
    (h3 : ∀ p ∈ SL ++ rest, @LT.lt Nat _ p.1 ta) (h4 : @LT.lt Nat _ I ta) :
    News h₀ L h ([(I, o)] ++ (SL ++ (ta, t) :: (al, l) :: rest)) ∧ (∀ p ∈ SL ++ (ta, t) :: (al, l) :: rest, p.1 ≠ I) ∧ Off ((ta, t) :: (al, l) :: rest) SL := by
  refine ⟨fun q hq => N q ?_, fun p hp => ?_, fun p hp q hq => ?_⟩
  · simp only [List.mem_cons, List.mem_append, List.cons_append, List.nil_append, List.not_mem_nil, false_or] at hq ⊢
    rcases hq with h | h | h | h | h
    · exact .inr (.inl h)
    · exact .inr (.inr (.inr (.inl h)))
    · exact .inl h
    · exact .inr (.inr (.inl h))
    · exact .inr (.inr (.inr (.inr h)))
  · rcases List.mem_append.mp hp with hp | hp
    · exact fun e => hr _ (.head _) p hp e.symm
    · rcases List.mem_cons.mp hp with rfl | hp
      · exact Nat.ne_of_gt h4
      · rcases List.mem_cons.mp hp with rfl | hp
        · exact Nat.ne_of_lt h1
        · exact Nat.ne_of_lt (Nat.lt_trans (h2 p hp) h1)
  · rcases List.mem_cons.mp hp with rfl | hp
    · exact Nat.ne_of_gt (h3 q (List.mem_append_left _ hq))
    · rcases List.mem_cons.mp hp with rfl | hp
      · exact hr _ (.tail _ (.head _)) q hq
      · exact hr _ (.tail _ (.tail _ hp)) q hq
theorem inNews {h₀ h : Heap} {L : Addr} {SL r : List (Addr × Obj)} {z : Addr × Obj} (N : News h₀ L h (SL ++ r)) (hz : z ∈ SL) : z ∈ SL ++ r := List.mem_append_left _ hz
theorem news_front2 {h₀ h : Heap} {L : Addr} {p q : Addr × Obj} {SL rest : List (Addr × Obj)} (N : News h₀ L h (SL ++ p :: q :: rest)) : News h₀ L h (p :: q :: (SL ++ rest)) := fun z hz => N z (by
  simp only [List.mem_cons, List.mem_append] at hz ⊢
  rcases hz with h | h | h | h
  · exact .inr (.inl h)
  · exact .inr (.inr (.inl h))
  · exact .inl h
  · exact .inr (.inr (.inr h)))
theorem news_fin3 {h₀ h : Heap} {L tF tA ta al : Addr} {a b c l : Obj} {SL rest : List (Addr × Obj)} (N : News h₀ L h ((tF, a) :: (tA, b) :: (ta, c) :: (al, l) :: (SL ++ rest))) (hr : Off ((ta, c) :: (al, l) :: rest) SL)
    (l1 : ∀ p ∈ SL ++ rest, @LT.lt Nat _ p.1 tF) (l2 : ∀ p ∈ SL ++ rest, @LT.lt Nat _ p.1 tA) :
    Off ((tF, a) :: (tA, b) :: (ta, c) :: rest) SL ∧ News h₀ L h (SL ++ (tF, a) :: (tA, b) :: (ta, c) :: rest) := by
  refine ⟨fun p hp q hq => ?_, fun q hq => N q ?_⟩
  · rcases List.mem_cons.mp hp with rfl | hp
    · exact Nat.ne_of_gt (l1 q (List.mem_append_left _ hq))
    · rcases List.mem_cons.mp hp with rfl | hp
      · exact Nat.ne_of_gt (l2 q (List.mem_append_left _ hq))
      · rcases List.mem_cons.mp hp with rfl | hp
        · exact hr _ (.head _) q hq
        · exact hr _ (.tail _ (.tail _ hp)) q hq
  · simp only [List.mem_cons, List.mem_append] at hq ⊢
    rcases hq with h | h | h | h | h
    · exact .inr (.inr (.inr (.inr (.inl h))))
    · exact .inl h
    · exact .inr (.inl h)
    · exact .inr (.inr (.inl h))
    · exact .inr (.inr (.inr (.inr (.inr h))))
theorem formal_call {w : World} {mean : ExcName → Option Value} {mg mb : Str → Option Value} {dp un : Nat} {gd : Option (List Code)} {cn : Str} {cs : Scope} {a : Addr} {ccd : Value} {cl : List (Str × Addr)}
    {outer : List Env} {A₀ : Around} {base h₀ : Heap} {L : Addr} {m : Str → Option Value} {s : Shared} {Q E : Value → Shared → Prop}
    {rest SL : List (Addr × Obj)} {x p : Addr} {n : Nat} {DA DF : List (PyData × PyData)} {tn tm : Tok}
    (B : Below A₀ base outer h₀) (F : Fr h₀ L s.heap m) (X : (hd.heap_39 w.params).In h₀)
    (T : Top hd.view_39 (looseW hd.view_39 []) mean mg mb h₀) (hk : cs.kind = .function) (hd : dp + 4 < recursionLimit) (hu : un + 64 < cLine)
    (N : News h₀ L s.heap (SL ++ rest)) (hp : (p, tupOf [.str "memory" tm]) ∈ rest) (S : SymL w x n SL DA DF) (hr : Off rest SL) (hn : n ≤ 800)
    (ret : ∀ (tF tA ta : Addr) (i j f : Int) (u1 u2 u3 u4 : Tok) (DA' DF' : List (PyData × PyData)) (SL' : List (Addr × Obj)) (h' : Heap) (tk9 : Nat), 
      PySem.Spec.lookup (PyData.str "memory") DA' = some (.int i) → PySem.Spec.lookup (PyData.str "resource_error") DA' = some (.int j) → PySem.Spec.lookup (encTuple PyData.int [j, 1]) DF' = some (.int f) →
      (∀ (k : Str) d, PySem.Spec.lookup (PyData.str k) DA = some d → PySem.Spec.lookup (PyData.str k) DA' = some d) →
      (∀ (k : List Int) d, PySem.Spec.lookup (encTuple PyData.int k) DF = some d → PySem.Spec.lookup (encTuple PyData.int k) DF' = some d) → SymL w x (n + 3) SL' DA' DF' →
      Off ((tF, tupOf [.str "s" u1, .int f u2, .ref tA]) :: (tA, tupOf [.ref ta]) :: (ta, tupOf [.str "a" u3, .int i u4]) :: rest) SL' → Fr h₀ L h' m →
      News h₀ L h' (SL' ++ (tF, tupOf [.str "s" u1, .int f u2, .ref tA]) :: (tA, tupOf [.ref ta]) :: (ta, tupOf [.str "a" u3, .int i u4]) :: rest) →
      Q (.ref tF) { s with heap := h', toks := tk9 }) :
    wpAny (model PySem.Challenge.rw_rh0066_01.row.prog w) (ktrTop dp un gd cn cs L a ccd cl outer) (call (.ref 172) [.ref x, .str "resource_error" tn, .ref p]) Q E s := by
  obtain ⟨dx, tl, ad, fl, fd, t1, t2, t3, t4, hx1, hx2⟩ := S.inst
  have hx1 := List.mem_append_left rest hx1
  have hx2 := List.mem_append_left rest hx2
  w_top off; revert X; k_fill; intro X
  refine wpAny_call ?_
  k_dflt cell_enter
  k_steps
  have al0 : ∀ p ∈ SL ++ rest, @LT.lt Nat _ p.1 _ := ‹_›
  obtain ⟨N1, O1⟩ := news_one ‹News _ _ _ (_ :: (SL ++ rest))› hr al0
  clear N
  refine iter_tupTurns (lo := tupOf [.str "memory" tm]) (vs := [.str "memory" tm]) rfl ‹Fr _ _ _ _› N1 (List.mem_append_right _ (.tail _ hp)) rfl rfl fun I hI => ?_
  refine ItemsRest.val fun h tk F2 => AllObj.cons fun o _ => AllObj.nil fun N2 => ?_
  k_steps
  refine unhold ?_
  have O3 : Off ((I, o) :: (_, W.listOf #[] 0) :: rest) SL := Off.add O1 hI
  have N3 := news_mid ‹News _ _ _ ([_] ++ (SL ++ _ :: rest))›
  refine' atom_call ?B ?F ?X ?T ?hk ?hd ?hu ?N S O3 ?hn ?_
  case B => k_asm
  case F => k_asm
  case X => k_asm
  case T => k_asm
  case hk => exact rfl
  case hd => ktr_room
  case hu => ktr_units
  case N => exact N3
  case hn => omega
  intro i9 ti9 DA9 SL9 h9 tok9 hi9 hl9 hm9 S9 hr9 F9 N9
  try dsimp only
  try k_fold
  clear N3 O3
  obtain ⟨N4, ne4, off4⟩ := news_two N9 hr9 (hI _ (List.mem_append_right _ (.head _))) (fun p hp => al0 p (List.mem_append_right _ hp))
  clear N9
  k_steps
  have l9 : _ ∧ _ ∧ AllLt _ (SL9 ++ rest) := ‹_›
  obtain ⟨N5, off5, O5⟩ := news_turn ‹News _ _ _ (_ :: (I, o) :: _)› hr9 (hI _ (List.mem_append_right _ (.head _))) (fun p hp => al0 p (List.mem_append_right _ hp)) (allLt_all l9.2.2) l9.1
  refine ⟨_, _, _, _, rfl, ‹Fr _ _ _ _›, N5, fun p hp q hq => (by rw [List.mem_singleton.mp hq]; exact off5 p hp), ⟨List.mem_append_right _ (.tail _ (.tail _ hp)), trivial⟩, ?_⟩
  refine ItemsRest.zero fun h6 tk6 F6 N6 => ?_
  clear N5 off5 hr9 ne4 off4 N2
  obtain ⟨dx', tl', ad', fl', fd', t1', t2', t3', t4', hx1', hx2'⟩ := S9.inst
  have hx1' := inNews N6 hx1'
  have hx2' := inNews N6 hx2'
  k_steps
  refine unhold ?_
  refine' func_call ?B ?F ?X ?T ?hk ?hd ?hu ?N S9 O5 ?hn ?_
  case B => k_asm
  case F => k_asm
  case X => k_asm
  case T => k_asm
  case hk => exact rfl
  case hd => ktr_room
  case hu => ktr_units
  case N => exact N6
  case hn => omega
  intro j8 i8 ti8 DA8 DF8 SL8 h8 tok8 hi8 hl8 hl8' hm8 hm8' S8 hr8 F8 N8
  try dsimp only
  try k_fold
  clear N6 hx1' hx2' O5
  have N8 := news_front2 N8
  k_steps
  obtain ⟨O7, N7⟩ := news_fin3 ‹News h₀ L _ (_ :: _ :: _ :: _ :: (SL8 ++ rest))› hr8 (allLt_all (‹_ ∧ _ ∧ _ ∧ AllLt _ (SL8 ++ rest)›).2.2.2) (allLt_all (‹_ ∧ _ ∧ AllLt _ (SL8 ++ rest)›).2.2)
  exact ret _ _ _ i9 j8 i8 _ _ _ _ _ _ _ _ _ (hm8 _ _ hl9) hl8 hl8' (fun k d h => hm8 k d (hm9 k d h)) hm8' S8 O7 ‹Fr h₀ L _ _› N7
end Mine

local macro_rules | `(tactic| walk_at "held") => `(tactic| (k_here; apply Mine.hold))
local macro_rules | `(tactic| walk_at "pad") => `(tactic| skip)
namespace Mine
open PySem PySem.W PyProof.Rows
local macro_rules | `(tactic| walk_at "call ref") => `(tactic| (k_here; k_dflt (first | apply hold_ref 172 | apply hold_ref 51)))
abbrev bmExc : List Value := [.type "Exception", .type "BaseException", .type "object"]
abbrev mroPE : List Value := [.ref 51, .ref 31, .type "Exception", .type "BaseException", .type "object"]
theorem pe_exIn (w : World) : exIn (hd.heap_39 w.params) 51 bmExc "Exception.__new__" 48 = true := by kernel_rfl
theorem pe_stores (w : World) : storesIn (hd.heap_39 w.params) 51 mroPE = true := by kernel_rfl
theorem pe_pass (self : Value) : refuseLoop self "__setattr__" mroPE = pure () := by
  rw [refuseLoop_ref, refuseLoop_ref]; exact PySem.F.store_Exception.passes self
theorem pe_taker (w : World) : takerIn (hd.heap_39 w.params) 51 "ball" = some none := by kernel_rfl
theorem pe_sa (w : World) : findIn (hd.heap_39 w.params) (.ref 51) "__setattr__" = some (some (.builtin "object.__setattr__")) := by kernel_rfl
theorem pe_ga (w : World) : findIn (hd.heap_39 w.params) (.ref 51) "__getattribute__" = some (some (.builtin "BaseException.__getattribute__")) := by kernel_rfl
theorem pe_noga (w : World) : findIn (hd.heap_39 w.params) (.ref 51) "__getattr__" = some none := by kernel_rfl
theorem pe_base (w : World) : mroIn (hd.heap_39 w.params) 51 (.type "BaseException") = some true := by kernel_rfl
theorem pe_type (w : World) : typeIn (hd.heap_39 w.params) (.ref 51) = some (.type "type") := by kernel_rfl
abbrev ballDict (w : World) (u : Tok) (tD : Addr) : Obj := { cls := .type "dict", data := .dict #[⟨PyData.keyHash w.params "ball", .str "ball" u, .ref tD⟩] 1 }
theorem pe_find (w : World) (u : Tok) (tD : Addr) : findObj (hd.heap_39 w.params) 51 (some (ballDict w u tD)) "ball" = some (.value (.ref tD)) := by kernel_rfl

theorem res_fin {h₀ h : Heap} {L : Addr} {d eo t D1 D2 D3 tF tA ta mm : Addr × Obj} {SL rest : List (Addr × Obj)} (N : News h₀ L h (d :: eo :: t :: D1 :: D2 :: D3 :: (SL ++ tF :: tA :: ta :: mm :: rest))) (O : Off (tF :: tA :: ta :: mm :: rest) SL)
    (l1 : ∀ p ∈ SL ++ tF :: tA :: ta :: mm :: rest, @LT.lt Nat _ p.1 D1.1) (l2 : ∀ p ∈ SL ++ tF :: tA :: ta :: mm :: rest, @LT.lt Nat _ p.1 D2.1) (l3 : ∀ p ∈ SL ++ tF :: tA :: ta :: mm :: rest, @LT.lt Nat _ p.1 D3.1)
    (oe : ∀ p ∈ D1 :: D2 :: D3 :: (SL ++ tF :: tA :: ta :: mm :: rest), p.1 ≠ eo.1) :
    Off ([D1, D2, D3, tF, tA, ta] ++ rest) SL ∧ (∀ p ∈ SL ++ ([D1, D2, D3, tF, tA, ta] ++ rest), p.1 ≠ eo.1) ∧ News h₀ L h (d :: eo :: t :: (SL ++ ([D1, D2, D3, tF, tA, ta] ++ rest))) := by
  have sub : ∀ p ∈ SL ++ ([D1, D2, D3, tF, tA, ta] ++ rest), p ∈ D1 :: D2 :: D3 :: (SL ++ tF :: tA :: ta :: mm :: rest) := fun p hp => by
    simp only [List.mem_append, List.mem_cons, List.not_mem_nil, or_false] at hp ⊢
    rcases hp with h | (h | h | h | h | h | h) | h <;> simp [h]
  refine ⟨fun p hp q hq => ?_, fun p hp => oe p (sub p hp), fun q hq => N q ?_⟩
  · have hq' : q ∈ SL ++ tF :: tA :: ta :: mm :: rest := List.mem_append_left _ hq
    simp only [List.mem_append, List.mem_cons, List.not_mem_nil, or_false] at hp
    rcases hp with (rfl | rfl | rfl | rfl | rfl | rfl) | hp
    · exact Nat.ne_of_gt (l1 q hq')
    · exact Nat.ne_of_gt (l2 q hq')
    · exact Nat.ne_of_gt (l3 q hq')
    · exact O _ (.head _) q hq
    · exact O _ (.tail _ (.head _)) q hq
    · exact O _ (.tail _ (.tail _ (.head _))) q hq
    · exact O _ (.tail _ (.tail _ (.tail _ (.tail _ hp)))) q hq
  · rcases List.mem_cons.mp hq with rfl | hq
    · exact .head _
    · rcases List.mem_cons.mp hq with rfl | hq
      · exact .tail _ (.head _)
      · rcases List.mem_cons.mp hq with rfl | hq
        · exact .tail _ (.tail _ (.head _))
        · exact .tail _ (.tail _ (.tail _ (sub q hq)))
theorem resource_call {w : World} {mean : ExcName → Option Value} {mg mb : Str → Option Value} {dp un : Nat} {gd : Option (List Code)} {cn : Str} {cs : Scope} {a : Addr} {ccd : Value} {cl : List (Str × Addr)}
    {outer : List Env} {A₀ : Around} {base h₀ : Heap} {L : Addr} {m : Str → Option Value} {s : Shared} {Q E : Value → Shared → Prop}
    {rest SL : List (Addr × Obj)} {x : Addr} {n : Nat} {DA DF : List (PyData × PyData)} {tm : Tok}
    (B : Below A₀ base outer h₀) (F : Fr h₀ L s.heap m) (X : (hd.heap_39 w.params).In h₀)
    (T : Top hd.view_39 (looseW hd.view_39 []) mean mg mb h₀) (hk : cs.kind = .function) (hd : dp + 8 < recursionLimit) (hu : un + 100 < cLine)
    (N : News h₀ L s.heap (SL ++ rest)) (S : SymL w x n SL DA DF) (hr : Off rest SL) (hn : n ≤ 800)
    (ret : ∀ (e t dxe : Addr) (u : Tok) (tD tC tB tF tA ta : Addr) (i j f : Int) (z1 z2 z3 z4 z5 z6 z7 z8 : Tok) (DA' DF' : List (PyData × PyData)) (SL' front : List (Addr × Obj)) (h' : Heap) (tk9 : Nat), 
      PySem.Spec.lookup (PyData.str "memory") DA' = some (.int i) → PySem.Spec.lookup (PyData.str "resource_error") DA' = some (.int j) → PySem.Spec.lookup (encTuple PyData.int [j, 1]) DF' = some (.int f) →
      (∀ (k : Str) d, PySem.Spec.lookup (PyData.str k) DA = some d → PySem.Spec.lookup (PyData.str k) DA' = some d) →
      (∀ (k : List Int) d, PySem.Spec.lookup (encTuple PyData.int k) DF = some d → PySem.Spec.lookup (encTuple PyData.int k) DF' = some d) → SymL w x (n + 3) SL' DA' DF' →
      front = [(tD, tupOf [.str "s" z1, .int 16 z2, .ref tC]), (tC, tupOf [.ref tF, .ref tB]), (tB, tupOf [.str "a" z3, .int 25 z4]), (tF, tupOf [.str "s" z5, .int f z6, .ref tA]), (tA, tupOf [.ref ta]), (ta, tupOf [.str "a" z7, .int i z8])] →
      Off (front ++ rest) SL' → (∀ p ∈ SL' ++ (front ++ rest), p.1 ≠ e) → Fr h₀ L h' m →
      News h₀ L h' ((dxe, ballDict w u tD) :: (e, excObj (.ref 51) t (some dxe)) :: (t, tupOf [.ref tD]) :: (SL' ++ (front ++ rest))) →
      Q (.ref e) { s with heap := h', toks := tk9 }) :
    wpAny (model PySem.Challenge.rw_rh0066_01.row.prog w) (ktrTop dp un gd cn cs L a ccd cl outer) (call (.ref 179) [.ref x, .str "memory" tm]) Q E s := by
  obtain ⟨ck, cn1, cg1, cc1, cm1⟩ := cs
  obtain rfl : ck = .function := hk
  have hk : (envX cn ⟨.function, cn1, cg1, cc1, cm1⟩ L a ccd cl).scope.kind = .function := rfl
  w_top off; revert X; k_fill; intro X
  refine wpAny_call ?_
  k_dflt cell_enter
  k_steps
  have al0 : ∀ p ∈ SL ++ rest, @LT.lt Nat _ p.1 _ := ‹_›
  obtain ⟨N1, O1⟩ := news_one ‹News _ _ _ (_ :: (SL ++ rest))› hr al0
  refine unhold ?_
  refine' formal_call ?B ?F ?X ?T ?hk ?hd ?hu N1 (.head _) S O1 ?hn ?_
  case B => k_asm
  case F => k_asm
  case X => k_asm
  case T => k_asm
  case hk => exact rfl
  case hd => ktr_room
  case hu => ktr_units
  case hn => omega
  intro tF tA ta i j f u1 u2 u3 u4 DA1 DF1 SL1 h1 tok1 hm1 hj1 hf1 kA kF S1 O2 F2 N2
  try dsimp only
  try k_fold
  clear N1 O1
  k_steps
  refine unhold ?_
  refine exc_make PySem.F.excBase_Exception ‹Fr _ _ _ _› ‹News _ _ _ (_ :: _ :: _ :: (SL1 ++ _))› (by k_in) (pe_exIn w) (by size_fits) ?_
  intro h3 e t F3 N3 oe ot k3 fe ft
  refine wpAny_call ?_
  k_dflt k_enter
  k_steps
  refine' exc_set ‹Fr _ _ _ _› ‹News _ _ _ ((e, _) :: _)› ?X (pe_stores w) pe_pass rfl rfl (pe_taker w) ?off (pe_sa w) ?_
  case X => k_in
  case off => 
    intro p hp
    rcases List.mem_cons.mp hp with rfl | hp
    · intro z
      have z1 := (N3 _ (.head _)).1
      have z2 := (N3 _ (.tail _ (.head _))).1
      dsimp only at z z1 z2
      rw [z, z1] at z2
      cases z2
    · exact oe p hp
  intro h4 dxe tk4 F4 N4 od ned
  try dsimp only
  k_steps
  have l8 : _ ∧ _ ∧ AllLt _ (SL1 ++ _) := ‹_›
  have l7 : _ ∧ AllLt _ (SL1 ++ _) := ‹_ ∧ AllLt _ (SL1 ++ _)›
  obtain ⟨O9, e9, N9⟩ := res_fin ‹News h₀ L _ (_ :: _ :: _ :: _ :: _ :: _ :: (SL1 ++ _))› O2 (allLt_all l8.2.2) (allLt_all l7.2) (by assumption) oe
  exact ret e t dxe _ _ _ _ tF tA ta i j f _ _ _ _ _ _ _ _ DA1 DF1 SL1 _ _ _ hm1 hj1 hf1 kA kF S1 rfl O9 e9 ‹Fr h₀ L _ _› N9
end Mine

namespace Mine
open PySem PySem.W PyProof.Rows PySem.Calls PySem.Spec
/-- the object at e bears the dict dx -/
def DictAt (h : Heap) (e dx : Addr) : Prop := ∃ o, h.get? e = some o ∧ o.dict = some dx
theorem dict_mapFields (f : Array Value → Array Value) (o : Obj) : (Obj.mapFields f o).dict = o.dict := by
  obtain ⟨c, d, dt, sl⟩ := o
  cases dt <;> rfl
section
variable {M : Model} {A : Around} {E : Value → Shared → Prop} {s : Shared} {base : Heap} {env : Env} {outer l : List Env} {L e dx : Addr} {cls a0 fl : Value} {Q : Unit → Shared → Prop}
theorem setFlight_D (hkb : base.StaysIn s.heap) (hl : s.heap.FunFrames base l) (ht : s.heap.TracedAtW base e cls a0 fl) (hD : DictAt s.heap e dx)
    (h : ∀ h', base.StaysIn h' → h'.FunFrames base l → h'.TracedW base e cls a0 → s.heap.UpToSlots h' → DictAt h' e dx → Q () { s with heap := h' }) :
    wpAny M A (setFlight (.ref e) none) Q E s := by
  obtain ⟨oe, vs, T, oT, ts, he, hcls, hd, h1, hnT, hTe, hT, hdT, h3⟩ := ht
  obtain ⟨oe', he', hdx⟩ := hD
  rw [he] at he'; cases he'
  have hsz3 : 3 < ts.size := (Array.getElem?_eq_some_iff.mp h3).1
  have other : ∀ b, b ≠ T → (s.heap.update T (Obj.mapFields (·.setIfInBounds 3 ((none : Option Addr).elim Value.none fun f => rawInt f)))).get? b = s.heap.get? b :=
    fun b hb => Heap.get?_update_other _ _ (Ne.symm hb)
  have noRecord : ∀ b o, s.heap.get? b = some o → (∀ vs, o.data ≠ .fields vs) → b ≠ T := fun b o hb hnf q => by
    rw [q, hT] at hb; injection hb with hb; subst hb; exact hnf ts hdT
  have he2 := (other e (Ne.symm hTe)).trans he
  unfold setFlight
  refine wpAny_bind (wpAny_field he hd h1 ?_)
  rw [if_pos (show (Value.ref T != Value.none) = true from by simp)]
  refine wpAny_setField hT hdT hsz3 (h _ (fun b o hbo => (other b fun q => by rw [q, hnT] at hbo; cases hbo).trans (hkb b o hbo))
    (hl.of_keeps fun b o hb hnf => ⟨o, (other b (noRecord b o hb hnf)).trans hb, rfl⟩) ?_ (fun b o hb hnf => ⟨o.slots, (other b (noRecord b o hb hnf)).trans hb⟩) ⟨oe, he2, hdx⟩)
  exact ⟨oe, vs, T, _, _, he2, hcls, hd, h1, hnT, hTe, Heap.get?_update_self _ hT (Obj.isFreed_of_fields (Obj.data_mapFields hdT _)), Obj.data_mapFields hdT _, by simp [hsz3]⟩
theorem entry_D {oe : Obj} {vs : Array Value} {head : Value} {hadNext : Bool}
    (hfr : A.frames = some (env :: outer)) (hl : s.heap.FunFrames base (env :: outer)) (hf : env.frame = some L)
    (he : s.heap.get? e = some oe) (hkb : base.StaysIn s.heap) (hen : base.get? e = none) (hd : oe.data = .fields vs) (hsz : 1 < vs.size) (h0 : vs[0]? = some a0) (hdx : oe.dict = some dx)
    (h : ∀ h', Heap.NotedW base (env :: outer) e oe.cls a0 (rawInt L) s.heap h' → DictAt h' e dx → Q () { s with heap := h' }) :
    wpAny M A (do let a ← frameOf env; let pl ← entryPlaceOf L hadNext; let b ← EntryCells.newEntry head a .none (rawInt L) .none pl; setField (.ref e) 1 b) Q E s := by
  have hene : e ∉ (env :: outer).filterMap (·.frame) := fun hm => by
    obtain ⟨_, o, ho, hnf⟩ := hl.mem hm
    rw [he] at ho; injection ho with ho; subst ho; exact hnf vs hd
  refine wpAny_bind (wpAny_frameOf_fun hfr hl hf fun h₁ hs₁ => ?_)
  refine wpAny_bind (wpAny_entryPlaceOf fun pl hpl => ?_)
  unfold EntryCells.newEntry newFields
  refine wpAny_bind (wpAny_newObj_type ?_ (hpl.sizeOk5 _ _ _ _ _))
  have he₁ : h₁.get? e = some oe := (hs₁.2.1 e hene).trans he
  have kb₁ : base.StaysIn h₁ := fun b o hbo => (hs₁.2.1 b fun hm => by rw [(hl.mem hm).1] at hbo; cases hbo).trans (hkb b o hbo)
  generalize hto : ({ cls := .type "traceback", dict := none, data := .fields ([head, .ref L, .none, rawInt L, .none] ++ (if pl.isEmpty then List.replicate 6 Value.none else pl)).toArray } : Obj) = tb
  have htbf : tb.isFreed = false := by rw [← hto]; rfl
  have he₂ := Heap.get?_push_of_some (h := h₁) tb he₁
  refine wpAny_setField he₂ hd hsz (h _ ?_ ?_)
  · have hTe : h₁.objs.size ≠ e := Nat.ne_of_gt (Heap.lt_size he₁)
    have hd₃ := Obj.data_mapFields hd (·.setIfInBounds 1 (Value.ref h₁.objs.size))
    have he₃ := Heap.get?_update_self (Obj.mapFields (·.setIfInBounds 1 (Value.ref h₁.objs.size))) he₂ (Obj.isFreed_of_fields hd₃)
    have hT₃ := (Heap.get?_update_other (h₁.push tb) (Obj.mapFields (·.setIfInBounds 1 (Value.ref h₁.objs.size))) (Ne.symm hTe)).trans (Heap.get?_push_size h₁ htbf)
    have keep : ∀ b o, b ≠ e → h₁.get? b = some o → ((h₁.push tb).update e (Obj.mapFields (·.setIfInBounds 1 (Value.ref h₁.objs.size)))).get? b = some o := fun b o hbe hb => by
      rw [Heap.get?_update_other _ _ (Ne.symm hbe)]
      exact Heap.get?_push_of_some _ hb
    have noRecord : ∀ b o, s.heap.get? b = some o → (∀ vs, o.data ≠ .fields vs) → b ≠ e := fun b o hb hnf q => by
      rw [q, he] at hb; injection hb with hb; subst hb; exact hnf vs hd
    refine ⟨fun b o hbo => keep b o (fun q => by rw [q, hen] at hbo; cases hbo) (kb₁ b o hbo), hl.of_keeps fun b o hb hnf => ?_, ?_, fun b o hb hnf => ?_⟩
    · obtain ⟨sl, hs⟩ := hs₁.2.2 b o hb
      exact ⟨_, keep b _ (noRecord b o hb hnf) hs, rfl⟩
    · exact ⟨_, _, h₁.objs.size, _, _, he₃, ⟨Obj.cls_mapFields _ _, by rw [Array.getElem?_setIfInBounds_ne (by decide)]; exact h0⟩, hd₃, by simp [hsz], kb₁.fresh, hTe, hT₃, by rw [← hto], by first | (simp; done) | (rcases hpl with rfl | ⟨_, _, _, _, _, _, _, rfl⟩ <;> simp)⟩
    · obtain ⟨sl, hs⟩ := hs₁.2.2 b o hb
      exact ⟨sl, keep b _ (noRecord b o hb hnf) hs⟩
  · have hd₃ := Obj.data_mapFields hd (·.setIfInBounds 1 (Value.ref h₁.objs.size))
    exact ⟨_, Heap.get?_update_self _ he₂ (Obj.isFreed_of_fields hd₃), by rw [dict_mapFields]; exact hdx⟩
theorem note_D (hfr : A.frames = some (env :: outer)) (hl : s.heap.FunFrames base (env :: outer)) (hf : env.frame = some L) (ht : s.heap.TracedW base e cls a0) (hkb : base.StaysIn s.heap) (hen : base.get? e = none) (hD : DictAt s.heap e dx)
    (h : ∀ h', Heap.NotedW base (env :: outer) e cls a0 (rawInt L) s.heap h' → DictAt h' e dx → Q () { s with heap := h' }) : wpAny M A (noteFrame (.ref e) env) Q E s := by
  obtain ⟨oe, vs, T, oT, ts, he, ⟨hcls, h0⟩, hd, h1, hnT, hTe, hT, hdT, h3⟩ := ht
  subst hcls
  obtain ⟨oe', he', hdx⟩ := hD
  rw [he] at he'; cases he'
  unfold noteFrame
  simp only [hf]
  refine wpAny_bind (wpAny_field he hd h1 ?_)
  rw [if_pos (show (Value.ref T != Value.none) = true from by simp)]
  refine wpAny_bind (wpAny_field hT hdT h3 ?_)
  rw [if_neg (show ¬ ((Value.none == rawInt L) = true) from by simp [rawInt])]
  refine wpAny_bind (wpAny_setField hT hdT (Array.getElem?_eq_some_iff.mp h3).1 ?_)
  have other : ∀ b, b ≠ T → (s.heap.update T (Obj.mapFields (·.setIfInBounds 3 Value.none))).get? b = s.heap.get? b := fun b hb => Heap.get?_update_other _ _ (Ne.symm hb)
  have noRecord : ∀ b o, s.heap.get? b = some o → (∀ vs, o.data ≠ .fields vs) → b ≠ T := fun b o hb hnf q => by
    rw [q, hT] at hb; injection hb with hb; subst hb; exact hnf ts hdT
  refine entry_D hfr (hl.of_keeps fun b o hb hnf => ⟨o, (other b (noRecord b o hb hnf)).trans hb, rfl⟩) hf ((other e (Ne.symm hTe)).trans he)
    (fun b o hbo => (other b fun q => by rw [q, hnT] at hbo; cases hbo).trans (hkb b o hbo)) hen hd (Array.getElem?_eq_some_iff.mp h1).1 h0 hdx
    fun h' ⟨x1, x2, x3, x4⟩ hD' => h h' ⟨x1, x2, x3, fun b o hb hnf => x4 b o ((other b (noRecord b o hb hnf)).trans hb) hnf⟩ hD'
theorem leaving_first_D {oe : Obj} {vs : Array Value} (hfr : A.frames = some (env :: outer)) (hl : s.heap.FunFrames base (env :: outer)) (hf : env.frame = some L)
    (he : s.heap.get? e = some oe) (hkb : base.StaysIn s.heap) (hen : base.get? e = none) (hd : oe.data = .fields vs) (h1 : vs[1]? = some .none) (h0 : vs[0]? = some a0) (hdx : oe.dict = some dx)
    (h : ∀ h', Heap.FlyingW base (env :: outer) e oe.cls a0 h' → s.heap.UpToSlots h' → DictAt h' e dx → Q () { s with heap := h' }) : wpAny M A (leaving env (.ref e)) Q E s := by
  unfold leaving noteFrame
  simp only [hf]
  refine wpAny_bind (wpAny_bind (wpAny_field he hd h1 ?_))
  rw [if_neg (by decide)]
  refine entry_D hfr hl hf he hkb hen hd (Array.getElem?_eq_some_iff.mp h1).1 h0 hdx fun h' ⟨x1, x2, x3, x4⟩ hD => ?_
  exact setFlight_D (s := { s with heap := h' }) x1 x2 x3 hD fun h'' y1 y2 y3 y4 hD' => h h'' ⟨y1, hen, y2, y3⟩ (Heap.UpToSlots.trans x4 y4) hD'
theorem leaving_next_D (hfr : A.frames = some (env :: outer)) (hf : env.frame = some L) (hfl : Heap.FlyingW base (env :: outer) e cls a0 s.heap) (hD : DictAt s.heap e dx)
    (h : ∀ h', Heap.FlyingW base outer e cls a0 h' → s.heap.UpToSlots h' → DictAt h' e dx → Q () { s with heap := h' }) : wpAny M A (leaving env (.ref e)) Q E s := by
  obtain ⟨f1, f2, f3, f4⟩ := hfl
  unfold leaving
  refine wpAny_bind (note_D hfr f3 hf f4 f1 f2 hD fun h' ⟨x1, x2, x3, x4⟩ hD' => ?_)
  exact setFlight_D (s := { s with heap := h' }) x1 x2 x3 hD' fun h'' y1 ⟨_, _, y2⟩ y3 y4 hD'' => h h'' ⟨y1, f2, y2, y3⟩ (Heap.UpToSlots.trans x4 y4) hD''
theorem looks_D (hfr : A.frames = some (env :: outer)) (hf : env.frame = some L) (hfl : Heap.FlyingW base (env :: outer) e cls a0 s.heap) (hD : DictAt s.heap e dx)
    (hQ : ∀ h', Heap.HeldW base (env :: outer) e cls a0 L h' → s.heap.UpToSlots h' → DictAt h' e dx → Q () { s with heap := h' }) : wpAny M A (noteFrame (.ref e) env) Q E s := by
  obtain ⟨f1, f2, f3, f4⟩ := hfl
  exact note_D hfr f3 hf f4 f1 f2 hD fun h' ⟨k1, k2, k3, k4⟩ hD' => hQ h' ⟨k1, f2, k2, k3⟩ k4 hD'
theorem lands_D (hh : Heap.HeldW base l e cls a0 L s.heap) (hD : DictAt s.heap e dx)
    (hQ : ∀ h', Heap.FlyingW base l e cls a0 h' → s.heap.UpToSlots h' → DictAt h' e dx → Q () { s with heap := h' }) : wpAny M A (setFlight (.ref e) none) Q E s := by
  obtain ⟨f1, f2, f3, f4⟩ := hh
  exact setFlight_D f1 f3 f4 hD fun h' k1 k2 k3 k4 hD' => hQ h' ⟨k1, f2, k2, k3⟩ k4 hD'
theorem lands_again_D (hh : Heap.FlyingW base l e cls a0 s.heap) (hD : DictAt s.heap e dx)
    (hQ : ∀ h', Heap.FlyingW base l e cls a0 h' → s.heap.UpToSlots h' → DictAt h' e dx → Q () { s with heap := h' }) : wpAny M A (setFlight (.ref e) none) Q E s := by
  obtain ⟨f1, f2, f3, f4⟩ := hh
  exact setFlight_D f1 f3 f4.at hD fun h' k1 k2 k3 k4 hD' => hQ h' ⟨k1, f2, k2, k3⟩ k4 hD'
end
end Mine

namespace Mine
open PySem PySem.W PyProof.Rows PySem.Calls PySem.Spec
/-- an exception with a dict on its way: the ground G but for the frames, and the ledger, stand in B, which the flight leaves alone -/
def RaisedD (base G : Heap) (l : List Env) (e : Addr) (cls : Value) (dx : Addr) (news : List (Addr × Obj)) (h : Heap) : Prop :=
  ∃ B t, base.StaysIn B ∧ (∀ b o, G.get? b = some o → b ∉ l.filterMap (·.frame) → B.get? b = some o) ∧ (∀ q ∈ news, B.get? q.1 = some q.2 ∧ G.get? q.1 = none ∧ base.get? q.1 = none) ∧ Heap.FlyingW B l e cls (.ref t) h ∧ DictAt h e dx
section
variable {M : Model} {A : Around} {E : Value → Shared → Prop} {s' : Shared} {base g g₂ : Heap} {outer : List Env} {L a e t dx : Addr} {m : Str → Option Value} {name : Str} {scope : Scope} {cd : Value} {Q : Unit → Shared → Prop} {news : List (Addr × Obj)}
theorem leave_raiseD {cls : Value} (K : Below A base outer g) (F : Fr g L s'.heap m) (N : News g L s'.heap news) (he : s'.heap.get? e = some (excObj cls t (some dx))) (hge : g.get? e = none) (hne : ∀ q ∈ news, q.1 ≠ e)
    (hQ : ∀ h', RaisedD base g outer e cls dx news h' → g.UpToSlots h' → Q () { s' with heap := h' }) (hk : scope.kind = .function) :
    wpAny M (A.deeper (envOf name scope L a cd)) (leaving (envOf name scope L a cd) (.ref e)) Q E s' := by
  have K' := K.push (name := name) (a := a) (cd := cd) F hk
  have heL : e ≠ L := fun z => by
    obtain ⟨oL, es, ep, hL, hLd, _⟩ := F.ns
    rw [← z, he] at hL
    cases hL
    cases hLd
  have hef : e ∉ (envOf name scope L a cd :: outer).filterMap (·.frame) := fun hm => by
    obtain ⟨_, o, ho, hd⟩ := K'.frames.mem hm
    rw [he] at ho; cases ho
    exact hd _ rfl
  have hhid : ∀ b o, s'.heap.get? b = some o → b ≠ e → b ∉ (envOf name scope L a cd :: outer).filterMap (·.frame) → (hideAll s'.heap (e :: (envOf name scope L a cd :: outer).filterMap (·.frame))).get? b = some o := fun b o q n1 n2 =>
    hideAll_get _ q fun hm => (List.mem_cons.mp hm).elim n1 n2
  have hin : ∀ env ∈ (envOf name scope L a cd :: outer), ∀ b, env.frame = some b → b ∈ e :: (envOf name scope L a cd :: outer).filterMap (·.frame) := fun env he b hb => .tail _ (List.mem_filterMap.mpr ⟨env, he, hb⟩)
  have hbe : base.get? e = none := fresh_of_stays K.stays hge
  have st : base.StaysIn (hideAll s'.heap (e :: (envOf name scope L a cd :: outer).filterMap (·.frame))) := fun b o q => hhid b o (K'.stays b o q) (fun z => by rw [z, hbe] at q; cases q) fun hm => by
    rw [(K'.frames.mem hm).1] at q; cases q
  have sg : ∀ b o, g.get? b = some o → b ∉ outer.filterMap (·.frame) → (hideAll s'.heap (e :: (envOf name scope L a cd :: outer).filterMap (·.frame))).get? b = some o := fun b o q nm => hhid b o (F.keep b o q) (fun z => by rw [z, hge] at q; cases q) fun hm => by
    rcases kts_mem hm with z | z
    · rw [z, kts_self F] at q
      cases q
    · exact nm z
  have hl : ∀ q ∈ news, (hideAll s'.heap (e :: (envOf name scope L a cd :: outer).filterMap (·.frame))).get? q.1 = some q.2 ∧ g.get? q.1 = none ∧ base.get? q.1 = none := fun q hq => by
    refine ⟨hhid _ _ (N q hq).1 (hne q hq) fun hm => ?_, (N q hq).2.2, fresh_of_stays K.stays (N q hq).2.2⟩
    rcases kts_mem hm with z | z
    · exact (N q hq).2.1 z
    · obtain ⟨_, o, ho, _⟩ := K.frames.mem z
      rw [(N q hq).2.2] at ho; cases ho
  refine leaving_first_D (oe := excObj cls t (some dx)) (a0 := .ref t) K'.stack (funFrames_hide K'.frames hin) rfl he (fun b o q => of_hideAll _ q) (hideAll_none _ (.head _)) rfl rfl rfl rfl fun h' x1 x2 x3 => ?_
  obtain ⟨y1, y2, ⟨_, _, y3⟩, y4⟩ := x1
  exact hQ h' ⟨_, t, st, sg, hl, ⟨y1, y2, y3, y4⟩, x3⟩ ((Heap.UpToSlots.of_keeps F.keep).trans x2)
theorem leave_onD {cls : Value} (K : Below A base outer g) (F : Fr g L g₂ m) (R : RaisedD base g₂ (envOf name scope L a cd :: outer) e cls dx news s'.heap) (hsm : g₂.UpToSlots s'.heap)
    (hQ : ∀ h', RaisedD base g outer e cls dx news h' → g.UpToSlots h' → Q () { s' with heap := h' }) :
    wpAny M (A.deeper (envOf name scope L a cd)) (leaving (envOf name scope L a cd) (.ref e)) Q E s' := by
  obtain ⟨B, t', hB, hBG, hl, hfl, hD⟩ := R
  refine leaving_next_D (Around.frames_deeper K.stack) rfl hfl hD fun h' x1 x2 x3 => ?_
  exact hQ h' ⟨B, t', hB, fun b o q nm => hBG b o (F.keep b o q) (fun hm => by
      rcases kts_mem hm with z | z
      · rw [z, kts_self F] at q
        cases q
      · exact nm z), fun q hq => ⟨(hl q hq).1, kts_none F.keep (hl q hq).2.1, (hl q hq).2.2⟩, x1, x3⟩ ((Heap.UpToSlots.of_keeps F.keep).trans (hsm.trans x2))
end
section
variable {prog : Program} {w : World} {A₀ : Around} {E : Value → Shared → Prop} {s' : Shared} {base g G : Heap} {outer : List Env} {L a e dx C : Addr} {m : Str → Option Value} {name : Str} {scope : Scope} {cd : Value}
  {n : Str} {b₀ : Stmt} {suite : List Stmt} {pos np : Pos} {rest : List ExceptHandler} {Q : Flow → Shared → Prop} {news : List (Addr × Obj)} {KF : Frag}
  {p : Program} {loose : List Str} {mean : ExcName → Option Value} {mg mb : Str → Option Value} {x : Str}
/-- caught by the class itself, in a def that another one called -/
theorem caught_D (R : RaisedD base G (envOf name scope L a cd :: outer) e (.ref C) dx news s'.heap) (F : Fr g L G m) (K : Below A₀ base outer g) (hsm : G.UpToSlots s'.heap) (XB : KF.In base) (TB : Top p loose mean mg mb base)
    (ex : nsIn KF mainGlobals x = some (some (.ref C))) (q : ktsIn KF C "BaseException" = true)
    (k : ∀ h' g' tk, KtsTurn (outer.filterMap (·.frame)) g g' → Fr g' L h' (fun y => if y = n then some (.ref e) else m y) → News g' L h' news → (∃ oe, h'.get? e = some oe ∧ oe.cls = .ref C ∧ notCls oe = true ∧ oe.dict = some dx) → KF.In g' →
      wpAny (model prog w) ((A₀.deeper (envOf name scope L a cd)).mark (some (.ref e))) (execs (b₀ :: suite) (envOf name scope L a cd))
        (fun f s₄ => wpAny (model prog w) (A₀.deeper (envOf name scope L a cd)) (do bindName (envOf name scope L a cd) n .none; unbindBehindTheSuite (envOf name scope L a cd) n pos) (fun _ s₅ => Q f s₅) E s₄)
        (AsSuiteRaised (model prog w) ((A₀.deeper (envOf name scope L a cd)).mark (some (.ref e))) (envOf name scope L a cd) n pos (notedBy (model prog w) ((A₀.deeper (envOf name scope L a cd)).mark (some (.ref e))) (envOf name scope L a cd) (cameBackBy (model prog w) (A₀.deeper (envOf name scope L a cd)) (envOf name scope L a cd) E)))
        { s' with heap := h', toks := tk })
    (hk : scope.kind = .function) (hlo : (envOf name scope L a cd).kindOf n = some .local) (hx : (envOf name scope L a cd).kindOf x = some .globalImplicit) (hd : (x == ("__debug__" : Str)) = false) :
    wpAny (model prog w) (A₀.deeper (envOf name scope L a cd)) (noteFrame (.ref e) (envOf name scope L a cd))
      (fun _ s₂ => wpAny (model prog w) (A₀.deeper (envOf name scope L a cd)) (setFlight (.ref e) none) (fun _ s₃ =>
        wpAny (model prog w) (A₀.deeper (envOf name scope L a cd)) (handleBy (.ref e) (envOf name scope L a cd) (.ExceptHandler (some (.Name x np)) (some n) (b₀ :: suite) pos :: rest)) Q E s₃) E s₂) E s' := by
  obtain ⟨B, t, hB, hBG, hl, hfl, hD⟩ := R
  have hL : B.get? L = none := by
    obtain ⟨_, ⟨L', _, hf, hn', _⟩, _⟩ := hfl.2.2.1
    obtain rfl : L = L' := Option.some.inj hf
    exact hn'
  refine looks_D (Around.frames_deeper K.stack) rfl hfl hD fun h₄ hheld₄ hsm₄ hD₄ => ?_
  refine lands_D (s := { s' with heap := h₄ }) hheld₄ hD₄ fun h₅ hheld hsm₅' hD₅ => ?_
  have hsm₅ := hsm₄.trans hsm₅'
  obtain ⟨g₅, T₅, F₅, K₅⟩ := kts_ground K F hBG hheld.1 (hsm.trans hsm₅)
  have X₅ : KF.In g₅ := XB.keeps K₅.stays
  have P₅ : TopRead p loose mg mb g₅ := topRead_of (TB.keeps K₅.stays)
  obtain ⟨ob, hob, hobc⟩ := hheld.there
  obtain ⟨nm, q', N, bs, bm, hdct, sn, sub, ab, col, dd, k0, k1, k2, k3, k5, newId, hC, hbase, hbT⟩ := kts_cls X₅ q
  have hC₅ := F₅.keep _ _ hC
  refine wpAny_handleBy_cons (codeAny_handlers_test (name_K F₅ X₅ P₅ ex ?_ hk hx hd)) (by intro q; cases q)
  refine wpAny_excMatches_sub_self hC₅ hob hobc hbase (codeAny_handlers_suite_as ?_)
  refine lands_again_D (s := { s' with heap := h₅ }) hheld hD₅ fun h₆ hfl₆ hsm₆ hD₆ => ?_
  obtain ⟨g₆, T₆, F₆, K₆⟩ := kts_ground K F hBG hfl₆.1 ((hsm.trans hsm₅).trans hsm₆)
  obtain ⟨oe, ws, hoe, hoec, hoed, hoe0⟩ := hfl₆.first
  obtain ⟨oe', hoe', hdx⟩ := hD₆
  rw [hoe] at hoe'; cases hoe'
  have Nl : News g₆ L h₆ news := fun q hq => ⟨hfl₆.1 _ _ (hl q hq).1, (fun z => by have := (hl q hq).1; rw [z, hL] at this; cases this), T₆.none_ _ (kts_none F.keep (hl q hq).2.1)⟩
  have heL : e ≠ L := fun z => by
    obtain ⟨oL, es, ep, hL', hLd, _⟩ := F₆.ns
    rw [← z, hoe] at hL'
    cases hL'
    rw [hoed] at hLd; cases hLd
  refine wpAny_storeName_local hlo F₆.ns (fun h₇ hn₇ hs₇ => ?_) (by show (scope.kind == .class || (scope.kind == .module && L != mainGlobals)) = false; rw [hk]; rfl)
  exact k h₇ g₆ _ T₆ (F₆.set hn₇ hs₇) (Nl.set hs₇) ⟨oe, (hs₇.2 e heL).trans hoe, hoec, by unfold notCls; rw [hoed], hdx⟩ (XB.keeps K₆.stays)
end
end Mine

namespace Mine
open PySem PySem.W PyProof.Rows
local macro_rules | `(tactic| walk_at "exec Raise some none") => `(tactic| walk_at "held")
local macro_rules | `(tactic| walk_at "call ref") => `(tactic| (k_here; k_dflt (first | apply hold_ref 179)))
/-- the ball's tuples -/
def BallL (front : List (Addr × Obj)) (tD : Addr) (i f : Int) : Prop := ∃ (tC tB tF tA ta : Addr) (z1 z2 z3 z4 z5 z6 z7 z8 : Tok),
  front = [(tD, tupOf [.str "s" z1, .int 16 z2, .ref tC]), (tC, tupOf [.ref tF, .ref tB]), (tB, tupOf [.str "a" z3, .int 25 z4]), (tF, tupOf [.str "s" z5, .int f z6, .ref tA]), (tA, tupOf [.ref ta]), (ta, tupOf [.str "a" z7, .int i z8])]

theorem shl_raise {w : World} {mean : ExcName → Option Value} {mg mb : Str → Option Value} {dp un : Nat} {gd : Option (List Code)} {cn : Str} {cs : Scope} {a : Addr} {ccd : Value}
    {outer : List Env} {A₀ : Around} {base h₀ : Heap} {L : Addr} {m : Str → Option Value} {s : Shared} {Q E : Value → Shared → Prop}
    {rest SL : List (Addr × Obj)} {x : Addr} {n : Nat} {DA DF : List (PyData × PyData)} {v c b : Int} {tv tc tb : Tok}
    (B : Below A₀ base outer h₀) (F : Fr h₀ L s.heap m) (X : (hd.heap_39 w.params).In h₀)
    (T : Top hd.view_39 (looseW hd.view_39 []) mean mg mb h₀) (hk : cs.kind = .function) (hd : dp + 10 < recursionLimit) (hu : un + 120 < cLine)
    (N : News h₀ L s.heap (SL ++ rest)) (S : SymL w x n SL DA DF) (hr : Off rest SL) (hn : n ≤ 800)
    (hc : 0 ≤ c) (hv : v ≠ 0) (hb : b < (Builtin.Int.intBits v : Int) + c)
    (raise : ∀ (e dxe : Addr) (u : Tok) (tD : Addr) (i j f : Int) (DA' DF' : List (PyData × PyData)) (SL' front : List (Addr × Obj)) (g' h' : Heap) (tk9 : Nat), 
      PySem.Spec.lookup (PyData.str "memory") DA' = some (.int i) → PySem.Spec.lookup (PyData.str "resource_error") DA' = some (.int j) → PySem.Spec.lookup (encTuple PyData.int [j, 1]) DF' = some (.int f) →
      (∀ (k : Str) d, PySem.Spec.lookup (PyData.str k) DA = some d → PySem.Spec.lookup (PyData.str k) DA' = some d) →
      (∀ (k : List Int) d, PySem.Spec.lookup (encTuple PyData.int k) DF = some d → PySem.Spec.lookup (encTuple PyData.int k) DF' = some d) → SymL w x (n + 3) SL' DA' DF' → BallL front tD i f →
      Off (front ++ rest) SL' → Fr h₀ L g' m → RaisedD base g' (envX cn cs L a ccd [] :: outer) e (.ref 51) dxe ((dxe, ballDict w u tD) :: (SL' ++ (front ++ rest))) h' → g'.UpToSlots h' →
      E (.ref e) { s with heap := h', toks := tk9 }) :
    wpAny (model PySem.Challenge.rw_rh0066_01.row.prog w) (ktrTop dp un gd cn cs L a ccd [] outer) (call (.ref 186) [.ref x, .int v tv, .int c tc, .int b tb]) Q E s := by
  w_top off; revert X; k_fill; intro X
  refine wpAny_call ?_
  k_dflt cell_enter
  k_steps
  · exact absurd ‹v = 0› hv
  refine unhold ?_
  rw [arm_exec_Raise]
  simp only [evalOpt, Option.map]
  refine wpAny_bind (wpAny_standAt (raise_own (K := Mine.hd.heap_39 w.params) (C := 51) (by exact rfl) ?_))
  refine wpAny_bind ?_
  k_steps
  refine unhold ?_
  refine' resource_call ?B ?F ?X ?T ?hk ?hd ?hu ?N S hr ?hn ?_
  case B => k_asm
  case F => k_asm
  case X => k_asm
  case T => k_asm
  case hk => exact rfl
  case hd => ktr_room
  case hu => ktr_units
  case N => k_asm
  case hn => omega
  intro e t dxe u tD tC tB tF tA ta i j f z1 z2 z3 z4 z5 z6 z7 z8 DA1 DF1 SL1 front h1 tok1 hm1 hj1 hf1 kA kF S1 hfr O1 e1 F1 N1
  have ne1 : dxe ≠ e := fun z => by
    have y1 := (N1 _ (.head _)).1
    have y2 := (N1 _ (.tail _ (.head _))).1
    dsimp only at z y1 y2
    rw [z, y2] at y1
    cases y1
  refine wpAny_bind (wpAny_standAt (wpAny_pure ⟨e, t, some dxe, rfl, by k_in, (N1 _ (.tail _ (.head _))).1, pe_base w, pe_type w, ?_⟩))
  refine leave_raiseD ‹Below _ _ (_ :: _) _› F1 (news := (dxe, ballDict w u tD) :: (SL1 ++ (front ++ rest))) (fun q hq => N1 q ?_) (N1 _ (.tail _ (.head _))).1 (N1 _ (.tail _ (.head _))).2.2 (fun q hq => ?_) (fun h2 R2 U2 => ?_) rfl
  · rcases List.mem_cons.mp hq with rfl | hq
    · exact .head _
    · exact .tail _ (.tail _ (.tail _ hq))
  · rcases List.mem_cons.mp hq with rfl | hq
    · exact ne1
    · exact e1 q hq
  exact raise e dxe u tD i j f DA1 DF1 SL1 front _ _ _ hm1 hj1 hf1 kA kF S1 ⟨tC, tB, tF, tA, ta, z1, z2, z3, z4, z5, z6, z7, z8, hfr⟩ O1 ‹Fr h₀ L _ m› R2 U2
end Mine

namespace Mine
open PySem PySem.W PyProof.Rows
local macro_rules | `(tactic| walk_at "call ref") => `(tactic| (k_here; k_dflt (first | apply hold_ref 186)))

theorem shr_raise {w : World} {mean : ExcName → Option Value} {mg mb : Str → Option Value} {dp un : Nat} {gd : Option (List Code)} {cn : Str} {cs : Scope} {a : Addr} {ccd : Value}
    {outer : List Env} {A₀ : Around} {base h₀ : Heap} {L : Addr} {m : Str → Option Value} {s : Shared} {Q E : Value → Shared → Prop}
    {rest SL : List (Addr × Obj)} {x : Addr} {n : Nat} {DA DF : List (PyData × PyData)} {v c b : Int} {tv tc tb : Tok}
    (B : Below A₀ base outer h₀) (F : Fr h₀ L s.heap m) (X : (hd.heap_39 w.params).In h₀)
    (T : Top hd.view_39 (looseW hd.view_39 []) mean mg mb h₀) (hk : cs.kind = .function) (hd : dp + 12 < recursionLimit) (hu : un + 140 < cLine)
    (N : News h₀ L s.heap (SL ++ rest)) (S : SymL w x n SL DA DF) (hr : Off rest SL) (hn : n ≤ 800)
    (hc : c < 0) (hv : v ≠ 0) (hb : b < (Builtin.Int.intBits v : Int) + -c)
    (raise : ∀ (e dxe : Addr) (u : Tok) (tD : Addr) (i j f : Int) (DA' DF' : List (PyData × PyData)) (SL' front : List (Addr × Obj)) (g' h' : Heap) (tk9 : Nat), 
      PySem.Spec.lookup (PyData.str "memory") DA' = some (.int i) → PySem.Spec.lookup (PyData.str "resource_error") DA' = some (.int j) → PySem.Spec.lookup (encTuple PyData.int [j, 1]) DF' = some (.int f) →
      (∀ (k : Str) d, PySem.Spec.lookup (PyData.str k) DA = some d → PySem.Spec.lookup (PyData.str k) DA' = some d) →
      (∀ (k : List Int) d, PySem.Spec.lookup (encTuple PyData.int k) DF = some d → PySem.Spec.lookup (encTuple PyData.int k) DF' = some d) → SymL w x (n + 3) SL' DA' DF' → BallL front tD i f →
      Off (front ++ rest) SL' → Fr h₀ L g' m → RaisedD base g' (envX cn cs L a ccd [] :: outer) e (.ref 51) dxe ((dxe, ballDict w u tD) :: (SL' ++ (front ++ rest))) h' → g'.UpToSlots h' →
      E (.ref e) { s with heap := h', toks := tk9 }) :
    wpAny (model PySem.Challenge.rw_rh0066_01.row.prog w) (ktrTop dp un gd cn cs L a ccd [] outer) (call (.ref 193) [.ref x, .int v tv, .int c tc, .int b tb]) Q E s := by
  w_top off; revert X; k_fill; intro X
  refine wpAny_call ?_
  k_dflt cell_enter
  k_steps
  refine unhold ?_
  refine' shl_raise ?B ?F ?X ?T ?hk ?hd ?hu ?N S hr ?hn ?hc hv ?hb ?_
  case B => k_asm
  case F => k_asm
  case X => k_asm
  case T => k_asm
  case hk => exact rfl
  case hd => ktr_room
  case hu => ktr_units
  case N => k_asm
  case hn => omega
  case hc => omega
  case hb => omega
  intro e dxe u tD i j f DA1 DF1 SL1 front g1 h1 tok1 hm1 hj1 hf1 kA kF S1 bl O1 F1 R1 U1
  refine leave_onD ‹Below _ _ (_ :: _) _› F1 R1 U1 fun h2 R2 U2 => ?_
  exact raise e dxe u tD i j f DA1 DF1 SL1 front _ _ _ hm1 hj1 hf1 kA kF S1 bl O1 ‹Fr h₀ L _ m› R2 U2
end Mine

namespace Mine
open PySem PySem.W PyProof.Rows
local macro_rules | `(tactic| walk_at "call ref") => `(tactic| (k_here; k_dflt (first | apply hold_ref 186)))
local macro_rules | `(tactic| walk_at "getAttr ref") => `(tactic| (apply hold))

theorem left_raise {w : World} {mean : ExcName → Option Value} {mg mb : Str → Option Value} {dp un : Nat} {gd : Option (List Code)} {cn : Str} {cs : Scope} {a : Addr} {ccd : Value}
    {A₀ : Around} {base h₀ : Heap} {L : Addr} {m : Str → Option Value} {s : Shared} {Q E : Value → Shared → Prop}
    {rest SL : List (Addr × Obj)} {x : Addr} {n : Nat} {DA DF : List (PyData × PyData)} {v c b : Int} {tv tc tb : Tok}
    (B : Below A₀ base [] h₀) (F : Fr h₀ L s.heap m) (X : (hd.heap_39 w.params).In h₀)
    (T : Top hd.view_39 (looseW hd.view_39 []) mean mg mb h₀) (XB : (hd.heap_39 w.params).In base) (TB : Top hd.view_39 (looseW hd.view_39 []) mean mg mb base) (hk : cs.kind = .function) (hd : dp + 14 < recursionLimit) (hu : un + 160 < cLine)
    (N : News h₀ L s.heap (SL ++ rest)) (S : SymL w x n SL DA DF) (hr : Off rest SL) (hn : n ≤ 800)
    (hc : 0 ≤ c) (hv : v ≠ 0) (hb : b < (Builtin.Int.intBits v : Int) + c)
    (ret : ∀ (tD : Addr) (i j f : Int) (DA' DF' : List (PyData × PyData)) (SL' front : List (Addr × Obj)) (h' : Heap) (tk9 : Nat), 
      PySem.Spec.lookup (PyData.str "memory") DA' = some (.int i) → PySem.Spec.lookup (PyData.str "resource_error") DA' = some (.int j) → PySem.Spec.lookup (encTuple PyData.int [j, 1]) DF' = some (.int f) →
      (∀ (k : Str) d, PySem.Spec.lookup (PyData.str k) DA = some d → PySem.Spec.lookup (PyData.str k) DA' = some d) →
      (∀ (k : List Int) d, PySem.Spec.lookup (encTuple PyData.int k) DF = some d → PySem.Spec.lookup (encTuple PyData.int k) DF' = some d) → SymL w x (n + 3) SL' DA' DF' → BallL front tD i f →
      Off (front ++ rest) SL' → Fr h₀ L h' m → News h₀ L h' (SL' ++ (front ++ rest)) →
      Q (.ref tD) { s with heap := h', toks := tk9 }) :
    wpAny (model PySem.Challenge.rw_rh0066_01.row.prog w) (ktrTop dp un gd cn cs L a ccd [] []) (call (.ref 221) [.ref x, .int v tv, .int c tc, .int b tb]) Q E s := by
  w_top off; revert X; k_fill; intro X
  refine wpAny_call ?_
  refine' code_defS0 ?k1 ?k2 ?k3 ?k4 ?k5 ?kA ?k6 ?k7 ?k8 ?k9 ?kB ?_ ?cK ?c2 ?c3 ?c4 ?c5
  case kA => exact rfl
  case k2 => k_asm
  case k1 => k_asm
  case k3 => k_asm
  case k4 => k_asm
  case k5 => k_asm
  case k6 => k_is
  case k7 => k_is
  case k8 => k_room
  case k9 => first | exact binds_K (by k_in) rfl (by k_is) rfl rfl rfl | exact BindsTo.of_eq rfl
  case kB => exact locs rfl
  case cK => assumption
  case c2 => exact rfl
  case c3 => exact rfl
  case c4 => exact rfl
  case c5 => decide
  k_whole
  intro g' L' h' FG' F' N' B' X' T' D'
  try dsimp only
  try k_lift B'
  try k_fold
  k_steps
  refine unhold ?_
  refine' shl_raise B' F' X' T' ?hk ?hd ?hu N' S hr ?hn hc hv hb ?_
  case hk => exact rfl
  case hd => ktr_room
  case hu => ktr_units
  case hn => omega
  intro e dxe u tD i j f DA1 DF1 SL1 front g1 h1 tok1 hm1 hj1 hf1 kA kF S1 bl O1 F1 R1 U1
  refine' caught_D R1 F1 B' U1 XB TB ?ex ?q ?_ rfl rfl rfl ?hdb
  case ex => k_is
  case q => kernel_rfl
  case hdb => decide
  intro h2 g2 tk2 T2 F2 N2 hoe X2
  obtain ⟨oe, hoe, hoec, hoen, hoed⟩ := hoe
  clear N'
  k_steps
  refine unhold ?_
  refine exc_get (K := Mine.hd.heap_39 w.params) (C := 51) (ox := oe) (od := some (ballDict w u tD)) (by k_in) ⟨hoe, hoec, hoen, by rw [hoed]; exact (N2 _ (.head _)).1⟩ (pe_ga w) (pe_noga w) (pe_base w) (pe_find w u tD) rfl ?_
  k_steps
  exact ret tD i j f DA1 DF1 SL1 front _ _ hm1 hj1 hf1 kA kF S1 bl O1 ‹Fr h₀ L _ m› (fun z hz => ‹News h₀ L _ (_ :: (SL1 ++ (front ++ rest)))› z (.tail _ hz))

local macro_rules | `(tactic| walk_at "call ref") => `(tactic| (k_here; k_dflt (first | apply hold_ref 193)))
theorem right_raise {w : World} {mean : ExcName → Option Value} {mg mb : Str → Option Value} {dp un : Nat} {gd : Option (List Code)} {cn : Str} {cs : Scope} {a : Addr} {ccd : Value}
    {A₀ : Around} {base h₀ : Heap} {L : Addr} {m : Str → Option Value} {s : Shared} {Q E : Value → Shared → Prop}
    {rest SL : List (Addr × Obj)} {x : Addr} {n : Nat} {DA DF : List (PyData × PyData)} {v c b : Int} {tv tc tb : Tok}
    (B : Below A₀ base [] h₀) (F : Fr h₀ L s.heap m) (X : (hd.heap_39 w.params).In h₀)
    (T : Top hd.view_39 (looseW hd.view_39 []) mean mg mb h₀) (XB : (hd.heap_39 w.params).In base) (TB : Top hd.view_39 (looseW hd.view_39 []) mean mg mb base) (hk : cs.kind = .function) (hd : dp + 14 < recursionLimit) (hu : un + 160 < cLine)
    (N : News h₀ L s.heap (SL ++ rest)) (S : SymL w x n SL DA DF) (hr : Off rest SL) (hn : n ≤ 800)
    (hc : c < 0) (hv : v ≠ 0) (hb : b < (Builtin.Int.intBits v : Int) + -c)
    (ret : ∀ (tD : Addr) (i j f : Int) (DA' DF' : List (PyData × PyData)) (SL' front : List (Addr × Obj)) (h' : Heap) (tk9 : Nat), 
      PySem.Spec.lookup (PyData.str "memory") DA' = some (.int i) → PySem.Spec.lookup (PyData.str "resource_error") DA' = some (.int j) → PySem.Spec.lookup (encTuple PyData.int [j, 1]) DF' = some (.int f) →
      (∀ (k : Str) d, PySem.Spec.lookup (PyData.str k) DA = some d → PySem.Spec.lookup (PyData.str k) DA' = some d) →
      (∀ (k : List Int) d, PySem.Spec.lookup (encTuple PyData.int k) DF = some d → PySem.Spec.lookup (encTuple PyData.int k) DF' = some d) → SymL w x (n + 3) SL' DA' DF' → BallL front tD i f →
      Off (front ++ rest) SL' → Fr h₀ L h' m → News h₀ L h' (SL' ++ (front ++ rest)) →
      Q (.ref tD) { s with heap := h', toks := tk9 }) :
    wpAny (model PySem.Challenge.rw_rh0066_01.row.prog w) (ktrTop dp un gd cn cs L a ccd [] []) (call (.ref 228) [.ref x, .int v tv, .int c tc, .int b tb]) Q E s := by
  w_top off; revert X; k_fill; intro X
  refine wpAny_call ?_
  refine' code_defS0 ?k1 ?k2 ?k3 ?k4 ?k5 ?kA ?k6 ?k7 ?k8 ?k9 ?kB ?_ ?cK ?c2 ?c3 ?c4 ?c5
  case kA => exact rfl
  case k2 => k_asm
  case k1 => k_asm
  case k3 => k_asm
  case k4 => k_asm
  case k5 => k_asm
  case k6 => k_is
  case k7 => k_is
  case k8 => k_room
  case k9 => first | exact binds_K (by k_in) rfl (by k_is) rfl rfl rfl | exact BindsTo.of_eq rfl
  case kB => exact locs rfl
  case cK => assumption
  case c2 => exact rfl
  case c3 => exact rfl
  case c4 => exact rfl
  case c5 => decide
  k_whole
  intro g' L' h' FG' F' N' B' X' T' D'
  try dsimp only
  try k_lift B'
  try k_fold
  k_steps
  refine unhold ?_
  refine' shr_raise B' F' X' T' ?hk ?hd ?hu N' S hr ?hn hc hv hb ?_
  case hk => exact rfl
  case hd => ktr_room
  case hu => ktr_units
  case hn => omega
  intro e dxe u tD i j f DA1 DF1 SL1 front g1 h1 tok1 hm1 hj1 hf1 kA kF S1 bl O1 F1 R1 U1
  refine' caught_D R1 F1 B' U1 XB TB ?ex ?q ?_ rfl rfl rfl ?hdb
  case ex => k_is
  case q => kernel_rfl
  case hdb => decide
  intro h2 g2 tk2 T2 F2 N2 hoe X2
  obtain ⟨oe, hoe, hoec, hoen, hoed⟩ := hoe
  clear N'
  k_steps
  refine unhold ?_
  refine exc_get (K := Mine.hd.heap_39 w.params) (C := 51) (ox := oe) (od := some (ballDict w u tD)) (by k_in) ⟨hoe, hoec, hoen, by rw [hoed]; exact (N2 _ (.head _)).1⟩ (pe_ga w) (pe_noga w) (pe_base w) (pe_find w u tD) rfl ?_
  k_steps
  exact ret tD i j f DA1 DF1 SL1 front _ _ hm1 hj1 hf1 kA kF S1 bl O1 ‹Fr h₀ L _ m› (fun z hz => ‹News h₀ L _ (_ :: (SL1 ++ (front ++ rest)))› z (.tail _ hz))
end Mine

namespace Mine
open PySem PySem.W PyProof.Rows
local macro_rules | `(tactic| walk_at "call ref") => `(tactic| (k_here; k_dflt (first | apply hold_ref 109 | apply hold_ref 88)))
local macro_rules | `(tactic| walk_at "execs cons") => `(tactic| (k_here; with_reducible apply hold_if BoolOp.And))
def Cut (P : Prop) (s s' : Shared) : Prop := P ∧ ∃ tk, s' = { s with toks := tk }
/-- a test that may end the call; what follows is walked once -/
theorem exec_cut {M : Model} {A : Around} {E : Value → Shared → Prop} {s : Shared} {env : Env} {st : Stmt} {r : List Stmt} {Q : Flow → Shared → Prop} (P : Prop)
    (h1 : wpAny M A (exec st env) (fun f s' => match f with | .next => Cut P s s' | f => Q f s') E s) (h2 : P → ∀ tk, wpAny M A (execs r env) Q E { s with toks := tk }) : wpAny M A (execs (st :: r) env) Q E s :=
  wpAny_execs_cons (wpAny_mono h1 (fun f s' h => by
    cases f <;> first
      | exact h
      | (obtain ⟨p, tk, rfl⟩ := h; exact h2 p tk)) fun _ _ x => x)
theorem big_shift {v c : Int} (h1 : -1152921504606846976 ≤ v) (h2 : v ≤ 1152921504606846976) (hc : c < -100) : v / 2 ^ (-c).toNat = if v < 0 then -1 else 0 := by
  have hc0 : 100 ≤ -c := by omega
  exact div_two_small (k := 100) (Nat.lt_of_le_of_lt (show v.natAbs ≤ 1152921504606846976 by omega) (by decide)) ((Int.le_toNat (Int.le_trans (by decide) hc0)).mpr hc0)
theorem news_ball {h₀ h : Heap} {L : Addr} {D1 D2 D3 tF tA ta : Addr × Obj} {SL rest : List (Addr × Obj)} (N : News h₀ L h (D1 :: D2 :: D3 :: tF :: tA :: ta :: (SL ++ rest))) (O : Off rest SL)
    (l1 : ∀ p ∈ SL ++ rest, @LT.lt Nat _ p.1 D1.1) (l2 : ∀ p ∈ SL ++ rest, @LT.lt Nat _ p.1 D2.1) (l3 : ∀ p ∈ SL ++ rest, @LT.lt Nat _ p.1 D3.1)
    (l4 : ∀ p ∈ SL ++ rest, @LT.lt Nat _ p.1 tF.1) (l5 : ∀ p ∈ SL ++ rest, @LT.lt Nat _ p.1 tA.1) (l6 : ∀ p ∈ SL ++ rest, @LT.lt Nat _ p.1 ta.1) :
    Off ([D1, D2, D3, tF, tA, ta] ++ rest) SL ∧ News h₀ L h (SL ++ ([D1, D2, D3, tF, tA, ta] ++ rest)) := by
  refine ⟨fun p hp q hq => ?_, fun q hq => N q ?_⟩
  · have hq' : q ∈ SL ++ rest := List.mem_append_left _ hq
    simp only [List.mem_append, List.mem_cons, List.not_mem_nil, or_false] at hp
    rcases hp with (rfl | rfl | rfl | rfl | rfl | rfl) | hp
    · exact Nat.ne_of_gt (l1 q hq')
    · exact Nat.ne_of_gt (l2 q hq')
    · exact Nat.ne_of_gt (l3 q hq')
    · exact Nat.ne_of_gt (l4 q hq')
    · exact Nat.ne_of_gt (l5 q hq')
    · exact Nat.ne_of_gt (l6 q hq')
    · exact O p hp q hq
  · simp only [List.mem_append, List.mem_cons, List.not_mem_nil, or_false] at hq ⊢
    rcases hq with h | (h | h | h | h | h | h) | h <;> simp [h]

theorem due_call {w : World} {mean : ExcName → Option Value} {mg mb : Str → Option Value} {dp un : Nat} {gd : Option (List Code)} {cn : Str} {cs : Scope} {a : Addr} {ccd : Value} {cl : List (Str × Addr)}
    {outer : List Env} {A₀ : Around} {base h₀ : Heap} {L : Addr} {m : Str → Option Value} {s : Shared} {Q E : Value → Shared → Prop}
    {rest SL : List (Addr × Obj)} {x : Addr} {n : Nat} {DA DF : List (PyData × PyData)} {v c b : Int} {tv tc tb : Tok}
    (B : Below A₀ base outer h₀) (F : Fr h₀ L s.heap m) (X : (hd.heap_39 w.params).In h₀)
    (T : Top hd.view_39 (looseW hd.view_39 []) mean mg mb h₀) (hk : cs.kind = .function) (hd : dp + 14 < recursionLimit) (hu : un + 160 < cLine)
    (N : News h₀ L s.heap (SL ++ rest)) (S : SymL w x n SL DA DF) (hr : Off rest SL) (hn : n ≤ 800) (hb1 : 1 ≤ b) (hb : b ≤ 100) (hv1 : -1152921504606846976 ≤ v) (hv2 : v ≤ 1152921504606846976)
    (ret : ∀ (td : Tok) (h' : Heap) (tk9 : Nat), LeftOk v c b → Fr h₀ L h' m → News h₀ L h' (SL ++ rest) → Q (.int (leftV v c) td) { s with heap := h', toks := tk9 })
    (ret' : ∀ (tD : Addr) (i j f : Int) (DA' DF' : List (PyData × PyData)) (SL' front : List (Addr × Obj)) (h' : Heap) (tk9 : Nat), 0 ≤ c → v ≠ 0 → b < (Builtin.Int.intBits v : Int) + c →
      PySem.Spec.lookup (PyData.str "memory") DA' = some (.int i) → PySem.Spec.lookup (PyData.str "resource_error") DA' = some (.int j) → PySem.Spec.lookup (encTuple PyData.int [j, 1]) DF' = some (.int f) →
      SymL w x (n + 3) SL' DA' DF' → BallL front tD i f →
      Off (front ++ rest) SL' → Fr h₀ L h' m → News h₀ L h' (SL' ++ (front ++ rest)) →
      Q (.ref tD) { s with heap := h', toks := tk9 }) :
    wpAny (model PySem.Challenge.rw_rh0066_01.row.prog w) (ktrTop dp un gd cn cs L a ccd cl outer) (call (.ref 235) [.ref x, .int v tv, .int c tc, .int b tb]) Q E s := by
  obtain ⟨dx, tl, ad, fl, fd, t1, t2, t3, t4, hx1, hx2⟩ := S.inst
  have hx1 := List.mem_append_left rest hx1
  have hx2 := List.mem_append_left rest hx2
  w_top off; revert X; k_fill; intro X
  refine wpAny_call ?_
  k_dflt cell_enter
  k_steps
  · have e : leftV v c = -1 := by unfold leftV; rw [if_pos (by omega), big_shift hv1 hv2 (by omega), if_pos (by assumption)]
    rw [← e]
    exact ret _ _ _ (.inl (by omega)) (by k_asm) (by k_asm)
  · have e : leftV v c = 0 := by unfold leftV; rw [if_pos (by omega), big_shift hv1 hv2 (by omega), if_neg (by assumption)]
    rw [← e]
    exact ret _ _ _ (.inl (by omega)) (by k_asm) (by k_asm)
  · have e : leftV v c = v.fdiv (2 ^ (-c).toNat) := by unfold leftV; rw [if_pos (by assumption), fdiv_two]
    rw [← e]
    exact ret _ _ _ (.inl (by assumption)) (by k_asm) (by k_asm)
  · have e : leftV v c = 0 := by unfold leftV; rw [if_neg (by assumption), show v = 0 by assumption, Int.zero_mul]
    rw [← e]
    exact ret _ _ _ (.inr (.inl (by assumption))) (by k_asm) (by k_asm)
  · refine unhold ?_
    refine' exec_cut (b < (Builtin.Int.intBits v : Int) + c) ?stA ?stB
    case stA =>
      k_steps
      · have e : leftV v c = v * 2 ^ c.toNat := if_neg (by assumption)
        rw [← e]
        exact ret _ _ _ (.inr (.inr ((room_iff (by assumption) (by omega) (by omega)).mpr ⟨by assumption, by assumption⟩))) (by k_asm) (by k_asm)
      · exact ⟨Int.not_le.mp fun h => by
          have := ((room_iff (by assumption) (by omega) (by omega)).mp h).2
          contradiction, _, rfl⟩
      · exact ⟨by omega, _, rfl⟩
    case stB =>
    intro hbig tk9
    dsimp only
    k_steps
    refine unhold ?_
    refine' func_call ?B ?F ?X ?T ?hk ?hd ?hu ?N S hr ?hn ?_
    case B => k_asm
    case F => k_asm
    case X => k_asm
    case T => k_asm
    case hk => exact rfl
    case hd => ktr_room
    case hu => ktr_units
    case N => k_asm
    case hn => omega
    intro j f tf DA1 DF1 SL1 h1 tok1 hf0 hj1 hf1 kA kF S1 O1 F1 N1
    try dsimp only
    try k_fold
    clear hx1 hx2
    obtain ⟨dx', tl', ad', fl', fd', t1', t2', t3', t4', hx1, hx2⟩ := S1.inst
    have hx1 := inNews N1 hx1
    have hx2 := inNews N1 hx2
    k_steps
    refine unhold ?_
    refine' atom_call ?B ?F ?X ?T ?hk ?hd ?hu ?N S1 O1 ?hn ?_
    case B => k_asm
    case F => k_asm
    case X => k_asm
    case T => k_asm
    case hk => exact rfl
    case hd => ktr_room
    case hu => ktr_units
    case N => k_asm
    case hn => omega
    intro i ti DA2 SL2 h2 tok2 hi0 hi1 kA2 S2 O2 F2 N2
    try dsimp only
    try k_fold
    clear hx1 hx2 N1
    k_steps
    have l1 : _ ∧ _ ∧ _ ∧ _ ∧ _ ∧ AllLt _ (SL2 ++ rest) := ‹_›
    have l2 : _ ∧ _ ∧ _ ∧ _ ∧ AllLt _ (SL2 ++ rest) := ‹_ ∧ _ ∧ _ ∧ _ ∧ AllLt _ (SL2 ++ rest)›
    have l3 : _ ∧ _ ∧ _ ∧ AllLt _ (SL2 ++ rest) := ‹_ ∧ _ ∧ _ ∧ AllLt _ (SL2 ++ rest)›
    have l4 : _ ∧ _ ∧ AllLt _ (SL2 ++ rest) := ‹_ ∧ _ ∧ AllLt _ (SL2 ++ rest)›
    have l5 : _ ∧ AllLt _ (SL2 ++ rest) := ‹_ ∧ AllLt _ (SL2 ++ rest)›
    obtain ⟨O9, N9⟩ := news_ball ‹News h₀ L _ (_ :: _ :: _ :: _ :: _ :: _ :: (SL2 ++ rest))› O2 (allLt_all l1.2.2.2.2.2) (allLt_all l2.2.2.2.2) (allLt_all l3.2.2.2) (allLt_all l4.2.2) (allLt_all l5.2) (by assumption)
    refine ret' _ i j f DA2 DF1 SL2 _ _ _ (by omega) (by assumption) ?_ hi1 (kA2 _ _ hj1) hf1 S2 ⟨_, _, _, _, _, _, _, _, _, _, _, _, _, rfl⟩ O9 ‹Fr h₀ L _ _› N9
    exact hbig
end Mine

namespace Mine
open PySem PySem.W PyProof.Rows PySem.Spec
theorem right_nn {v p : Int} (h : 0 ≤ p) : rightV v p = v / 2 ^ p.toNat := if_neg (Int.not_lt.mpr h)
theorem left_nn {v p : Int} (h : 0 ≤ p) : leftV v p = v * 2 ^ p.toNat := if_neg (Int.not_lt.mpr h)
theorem two_add {a b : Int} (ha : 0 ≤ a) (hb : 0 ≤ b) : (2 : Int) ^ (a + b).toNat = 2 ^ a.toNat * 2 ^ b.toNat := by
  rw [Int.toNat_add ha hb, Int.pow_add]
theorem right_right {v a b : Int} (ha : 0 ≤ a) (hb : 0 ≤ b) : rightV (rightV v a) b = rightV v (a + b) := by
  rw [right_nn hb, right_nn ha, right_nn (Int.add_nonneg ha hb), two_add ha hb, Int.ediv_ediv_of_nonneg (Int.le_of_lt (two_pos _))]
theorem right_of_left {v a b : Int} (ha : 0 ≤ a) (hb : 0 ≤ b) : rightV (leftV v a) b = leftV v (a - b) := by
  rw [right_nn hb, left_nn ha]
  by_cases h : a - b < 0
  · rw [show leftV v (a - b) = v / 2 ^ (-(a - b)).toNat from if_pos h]
    have e : (2 : Int) ^ b.toNat = 2 ^ a.toNat * 2 ^ (-(a - b)).toNat := by rw [← two_add ha (Int.neg_nonneg_of_nonpos (Int.le_of_lt h)), show a + -(a - b) = b by omega]
    rw [e, Int.mul_comm v, Int.mul_ediv_mul_of_pos _ _ (two_pos _)]
  · rw [left_nn (Int.not_lt.mp h)]
    have e : (2 : Int) ^ a.toNat = 2 ^ (a - b).toNat * 2 ^ b.toNat := by rw [← two_add (Int.not_lt.mp h) hb, Int.sub_add_cancel]
    rw [e, ← Int.mul_assoc, Int.mul_ediv_cancel _ (Int.ne_of_gt (two_pos _))]
theorem left_of_right {v a : Int} (ha : 0 ≤ a) : leftV (rightV v a) a = v - v % 2 ^ a.toNat := by
  rw [left_nn ha, right_nn ha]
  have := Int.ediv_mul_add_emod v (2 ^ a.toNat)
  omega
theorem right_mono {v u p : Int} (hp : 0 ≤ p) (h : v ≤ u) : rightV v p ≤ rightV u p := by
  rw [right_nn hp, right_nn hp]
  exact Int.ediv_le_ediv (two_pos _) h
theorem div_bounds (v : Int) {M : Int} (hM : 0 < M) : v / M * M ≤ v ∧ v < v / M * M + M := by
  have h := Int.lt_ediv_add_one_mul_self v hM
  rw [Int.add_mul, Int.one_mul] at h
  exact ⟨Int.ediv_mul_le v (Int.ne_of_gt hM), h⟩
theorem right_compl {v p : Int} (hp : 0 ≤ p) : rightV (-v - 1) p = -rightV v p - 1 := by
  rw [right_nn hp, right_nn hp]
  have hM := two_pos p.toNat
  generalize (2 : Int) ^ p.toNat = M at hM ⊢
  have h := div_bounds v hM
  refine (Int.ediv_eq_iff_of_pos hM).mpr ?_
  have e : (-(v / M) - 1) * M = -(v / M * M) - M := by rw [Int.sub_mul, Int.neg_mul, Int.one_mul]
  rw [e]
  omega
theorem right_sum {v u p : Int} (hp : 0 ≤ p) : rightV (v + u) p - rightV v p - rightV u p = 0 ∨ rightV (v + u) p - rightV v p - rightV u p = 1 := by
  rw [right_nn hp, right_nn hp, right_nn hp]
  have hM := two_pos p.toNat
  generalize (2 : Int) ^ p.toNat = M at hM ⊢
  have h1 := div_bounds v hM
  have h2 := div_bounds u hM
  by_cases h : v + u < v / M * M + u / M * M + M
  · left
    have : (v + u) / M = v / M + u / M := by
      refine (Int.ediv_eq_iff_of_pos hM).mpr ?_
      rw [Int.add_mul]
      omega
    omega
  · right
    have : (v + u) / M = v / M + u / M + 1 := by
      refine (Int.ediv_eq_iff_of_pos hM).mpr ?_
      rw [Int.add_mul, Int.add_mul, Int.one_mul]
      omega
    omega
theorem bits_small {v : Int} (h1 : -1152921504606846976 ≤ v) (h2 : v ≤ 1152921504606846976) : (Builtin.Int.intBits v : Int) ≤ 61 := by
  by_cases h : v = 0
  · subst h
    decide
  · have h3 := bits_ge h
    have h4 : 2 ^ Builtin.Int.intBits v < 2 ^ 62 := by
      refine Nat.lt_of_le_of_lt h3 ?_
      have : v.natAbs ≤ 1152921504606846976 := by omega
      omega
    have := (Nat.pow_lt_pow_iff_right (by decide : 1 < 2)).mp h4
    omega
theorem right_small {v p : Int} (hp : 0 ≤ p) (h1 : -1152921504606846976 ≤ v) (h2 : v ≤ 1152921504606846976) : -1152921504606846976 ≤ rightV v p ∧ rightV v p ≤ 1152921504606846976 := by
  rw [right_nn hp]
  have h := Int.natAbs_ediv_le_natAbs v (2 ^ p.toNat)
  generalize v / (2 : Int) ^ p.toNat = q at h ⊢
  constructor <;> omega
/-- the ball as data -/
def ballData (i f : Int) : PyData := .tuple [.str "s", .int 16, .tuple [.tuple [.str "s", .int f, .tuple [.tuple [.str "a", .int i]]], .tuple [.str "a", .int 25]]]
theorem ball_reads {h₀ h : Heap} {L tD : Addr} {i f : Int} {front led : List (Addr × Obj)} (N : News h₀ L h led) (bl : BallL front tD i f) (hs : ∀ q ∈ front, q ∈ led) : ∃ as, Reads h (.ref tD) (ballData i f) as := by
  obtain ⟨tC, tB, tF, tA, ta, z1, z2, z3, z4, z5, z6, z7, z8, rfl⟩ := bl
  have g := fun q hq => (N q (hs q hq)).1
  have gD := g _ (.head _)
  have gC := g _ (.tail _ (.head _))
  have gB := g _ (.tail _ (.tail _ (.head _)))
  have gF := g _ (.tail _ (.tail _ (.tail _ (.head _))))
  have gA := g _ (.tail _ (.tail _ (.tail _ (.tail _ (.head _)))))
  have ga := g _ (.tail _ (.tail _ (.tail _ (.tail _ (.tail _ (.head _))))))
  have ra := Reads.tuple ga rfl rfl (.cons (.str _ _) (.cons (.int _ _) .nil))
  have rA := Reads.tuple gA rfl rfl (.cons ra .nil)
  have rF := Reads.tuple gF rfl rfl (.cons (.str _ _) (.cons (.int _ _) (.cons rA .nil)))
  have rB := Reads.tuple gB rfl rfl (.cons (.str _ _) (.cons (.int _ _) .nil))
  have rC := Reads.tuple gC rfl rfl (.cons rF (.cons rB .nil))
  exact ⟨_, Reads.tuple gD rfl rfl (.cons (.str _ _) (.cons (.int _ _) (.cons rC .nil)))⟩
theorem ne_ball {prog : Program} {w : World} {A : Around} {E Q : Value → Shared → Prop} {s : Shared} {h₀ : Heap} {L a b : Addr} {i f : Int} {fa fb led : List (Addr × Obj)} (N : News h₀ L s.heap led) (ba : BallL fa a i f) (bb : BallL fb b i f) (ha : ∀ q ∈ fa, q ∈ led) (hb : ∀ q ∈ fb, q ∈ led)
    (hu : A.units + 64 < cLine) (h : Q (.bool false) s) : wpAny (model prog w) A (compareOp .NotEq (.ref a) (.ref b)) Q E s := by
  obtain ⟨as, ra⟩ := ball_reads N ba ha
  obtain ⟨bs, rb⟩ := ball_reads N bb hb
  have hsh : PySem.SeqAt.shaped (ballData i f) = true := by
    show (PyData.canLay0 (ballData i f) && decide (PyData.depth (ballData i f) ≤ 64)) = true
    simp [ballData, PyData.canLay0, PyData.canLayAll0, PyData.depth, PyData.depthAll]
    exact ⟨by decide +kernel, by decide +kernel⟩
  have hmx : PySem.SeqAt.noMix (ballData i f) (ballData i f) = true := by simp [ballData, PySem.SeqAt.noMix, PySem.SeqAt.noMixAll]
  refine ne_dataH_same ra rb hsh hsh hu hmx ?_
  have e : PySem.Spec.same (ballData i f) (ballData i f) = true := by simp [ballData, PySem.Spec.same, PySem.Spec.sameAll]
  rw [e]
  exact h
end Mine

namespace Mine
open PySem PySem.W PyProof.Rows
local macro_rules | `(tactic| walk_at "call ref") => `(tactic| (k_here; k_dflt (first | apply hold_ref 154 | apply hold_ref 200 | apply hold_ref 207 | apply hold_ref 214 | apply hold_ref 235 | apply hold_ref 221 | apply hold_ref 228)))
local macro_rules | `(tactic| walk_at "c9") => `(tactic| ((case hb => first | decide | omega); (case hr => first | assumption | exact Or.inl (by omega) | exact Or.inr (Or.inr (by omega)))))
local macro_rules | `(tactic| walk_at "call ref") => `(tactic| (k_here; k_dflt (apply left_call; walk_at "c1"; walk_at "c9"; k_whole); walk_at "c2"))
local macro_rules | `(tactic| walk_at "call ref") => `(tactic| (k_here; k_dflt (apply right_call; walk_at "c1"; walk_at "c9"; k_whole); walk_at "c2"))

local macro_rules | `(tactic| walk_at "eval Name") => `(tactic| walk_at "name")
local macro_rules | `(tactic| walk_at "execs cons") => `(tactic| (k_here; with_reducible apply hold_due))
local macro_rules | `(tactic| walk_at "execs cons") => `(tactic| (k_here; with_reducible apply hold_if BoolOp.Or))
local macro_rules | `(tactic| walk_at "exec For Name List cons nil") => `(tactic| walk_at "held")
local macro_rules | `(tactic| walk_at "compareOp NotEq ref ref") => `(tactic| walk_at "held")
theorem take_le {vs : List Value} {l : List Int} (h : IntsAre vs (l.take 63)) : (l.take 63).length ≤ 63 := by rw [List.length_take]; omega
theorem front_off {p q : Addr × Obj} {SL : List (Addr × Obj)} (O : Off (p :: q :: []) SL) : ∀ z ∈ SL ++ [], z.1 ≠ p.1 := fun z hz => by
  rw [List.append_nil] at hz
  exact fun e => O p (.head _) z hz e.symm
theorem ne_front {h₀ h : Heap} {L pa la : Addr} {o o' : Obj} {r : List (Addr × Obj)} (N : News h₀ L h ((pa, o) :: (la, o') :: r)) (h : @LT.lt Nat _ la pa) : @Ne Nat pa la := Nat.ne_of_gt h
theorem news_drop2 {h₀ h : Heap} {L : Addr} {p q : Addr × Obj} {r : List (Addr × Obj)} (N : News h₀ L h (p :: q :: r)) : News h₀ L h r := fun z hz => N z (.tail _ (.tail _ hz))
/-- the law's names and what they stand for -/
inductive Vars (m : Str → Option Value) (x : Addr) (one other count near far most : Int) : Prop
  | mk (u2 u3 u4 u5 u6 u7 : Tok) (v1 : m "names" = some (.ref x)) (v2 : m "one" = some (.int one u2)) (v3 : m "other" = some (.int other u3)) (v4 : m "count" = some (.int count u4)) (v5 : m "near" = some (.int near u5)) (v6 : m "far" = some (.int far u6)) (v7 : m "most" = some (.int most u7)) : Vars m x one other count near far most
/-- what `due` is: a number, or the ball -/
inductive DueIs (w : World) (h₀ h : Heap) (L x : Addr) (m : Str → Option Value) (one count most : Int) (n : Nat) : Prop
  | num (u8 : Tok) (rst : List (Addr × Obj)) (ok : LeftOk one count most) (v8 : m "due" = some (.int (leftV one count) u8)) (N5 : News h₀ L h rst) : DueIs w h₀ h L x m one count most n
  | ball (tD : Addr) (i j f : Int) (DA DF : List (PyData × PyData)) (SL front : List (Addr × Obj)) (hc : 0 ≤ count) (hv : one ≠ 0) (hb : most < (Builtin.Int.intBits one : Int) + count) (v8 : m "due" = some (.ref tD))
      (lm : PySem.Spec.lookup (PyData.str "memory") DA = some (.int i)) (lr : PySem.Spec.lookup (PyData.str "resource_error") DA = some (.int j)) (lf : PySem.Spec.lookup (encTuple PyData.int [j, 1]) DF = some (.int f))
      (S2 : SymL w x n SL DA DF) (bl : BallL front tD i f) (O2 : Off (front ++ []) SL) (N5 : News h₀ L h (SL ++ (front ++ []))) : DueIs w h₀ h L x m one count most n
/-- the state behind `due = ..` and behind the first test -/
inductive Jd (w : World) (h₀ : Heap) (L : Addr) (s : Shared) (x : Addr) (one other count near far most : Int) (n : Nat) (s' : Shared) : Prop
  | mk (m : Str → Option Value) (h : Heap) (tk : Nat) (e : s' = { s with heap := h, toks := tk }) (F : Fr h₀ L h m) (V : Vars m x one other count near far most) (c : DueIs w h₀ h L x m one count most n) : Jd w h₀ L s x one other count near far most n s'
/-- the state behind both tests -/
inductive J3 (h₀ : Heap) (L : Addr) (s : Shared) (x : Addr) (one other count near far most : Int) (s' : Shared) : Prop
  | mk (m : Str → Option Value) (h : Heap) (tk : Nat) (rst : List (Addr × Obj)) (e : s' = { s with heap := h, toks := tk }) (F : Fr h₀ L h m) (V : Vars m x one other count near far most) (N5 : News h₀ L h rst) : J3 h₀ L s x one other count near far most s'
theorem exec_J {M : Model} {A : Around} {E : Value → Shared → Prop} {s : Shared} {env : Env} {st : Stmt} {r : List Stmt} {Q : Flow → Shared → Prop} (J : Shared → Prop)
    (h1 : wpAny M A (exec st env) (fun f s' => f = .next ∧ J s') E s) (h2 : ∀ s', J s' → wpAny M A (execs r env) Q E s') : wpAny M A (execs (st :: r) env) Q E s :=
  wpAny_execs_cons (wpAny_mono h1 (fun f s' h => by obtain ⟨e, j⟩ := h; subst e; exact h2 s' j) fun _ _ x => x)
theorem exec_Jd {w : World} {M : Model} {A : Around} {E : Value → Shared → Prop} {s : Shared} {env : Env} {st : Stmt} {r : List Stmt} {Q : Flow → Shared → Prop} {h₀ : Heap} {L : Addr} {m : Str → Option Value} {x : Addr} {n : Nat} {SL : List (Addr × Obj)} {DA DF : List (PyData × PyData)}
    (S : SymL w x n SL DA DF) (F : Fr h₀ L s.heap m) (one other count near far most : Int) (k : Nat)
    (h1 : wpAny M A (exec st env) (fun f s' => f = .next ∧ Jd w h₀ L s x one other count near far most k s') E s) (h2 : ∀ s', Jd w h₀ L s x one other count near far most k s' → wpAny M A (execs r env) Q E s') : wpAny M A (execs (st :: r) env) Q E s :=
  exec_J _ h1 h2
theorem exec_JJ {w : World} {M : Model} {A : Around} {E : Value → Shared → Prop} {s s3 : Shared} {env : Env} {st : Stmt} {r : List Stmt} {Q : Flow → Shared → Prop} {h₀ : Heap} {L : Addr} {x : Addr} {one other count near far most : Int} {n : Nat}
    (hJ : Jd w h₀ L s x one other count near far most n s3) (k : Nat)
    (h1 : wpAny M A (exec st env) (fun f s' => f = .next ∧ Jd w h₀ L s x one other count near far most k s') E s3) (h2 : ∀ s', Jd w h₀ L s x one other count near far most k s' → wpAny M A (execs r env) Q E s') : wpAny M A (execs (st :: r) env) Q E s3 :=
  exec_J _ h1 h2
theorem exec_J3 {w : World} {M : Model} {A : Around} {E : Value → Shared → Prop} {s s3 : Shared} {env : Env} {st : Stmt} {r : List Stmt} {Q : Flow → Shared → Prop} {h₀ : Heap} {L : Addr} {x : Addr} {one other count near far most : Int} {n : Nat}
    (hJ : Jd w h₀ L s x one other count near far most n s3)
    (h1 : wpAny M A (exec st env) (fun f s' => f = .next ∧ J3 h₀ L s x one other count near far most s') E s3) (h2 : ∀ s', J3 h₀ L s x one other count near far most s' → wpAny M A (execs r env) Q E s') : wpAny M A (execs (st :: r) env) Q E s3 :=
  exec_J _ h1 h2
section
variable {prog : Program} {w : World} {A : Around} {E : Value → Shared → Prop} {s : Shared} {env : Env} {h₀ : Heap} {target : Expr} {body : List Stmt} {Q : Flow → Shared → Prop}
/-- the loop over a fresh list of two, by what its turns keep -/
theorem loop_rest {V : (Str → Option Value) → Prop} {I ax : Addr} {lo : Obj} {vs : List Value} {news : List (Addr × Obj)} (hm : (ax, lo) ∈ news) (hI : ∀ p ∈ news, p.1 ≠ I)
    (step : ∀ (v : Value), v ∈ vs → ∀ (m : Str → Option Value) (h : Heap) (tk : Nat) (o : Obj), V m → Fr h₀ env.locals h m → News h₀ env.locals h ((I, o) :: news) →
      ∀ Qt : Flow → Shared → Prop, (∀ (h' : Heap) (tk' : Nat) (m' : Str → Option Value), V m' → Fr h₀ env.locals h' m' → News h₀ env.locals h' ((I, o) :: news) → Qt .next { s with heap := h', toks := tk' }) →
      wpAny (model prog w) A (assign target env v) (fun _ s₂ => wpAny (model prog w) A (execs body env) Qt E s₂) E { s with heap := h, toks := tk })
    (fin : ∀ (m : Str → Option Value) (h : Heap) (tk : Nat), V m → Fr h₀ env.locals h m → News h₀ env.locals h news → Q .next { s with heap := h, toks := tk }) :
    ∀ (l pre : List Value) (m : Str → Option Value), vs = pre ++ l → V m →
      ItemsRest prog w A E h₀ env target body Q s [(I, "list_iterator")] [(ax, lo)] (l.map .val) m news
  | [], pre, m, e, v0 => ItemsRest.zero fun h tk F N => fin m h tk v0 F N
  | v :: r, pre, m, e, v0 => by
    refine ItemsRest.val fun h tk F => AllObj.cons fun o _ => AllObj.nil fun N => ?_
    refine step v (by rw [e]; exact List.mem_append_right _ (.head _)) m h tk o v0 F N _ fun h' tk' m' v0' F' N' => ?_
    refine ⟨h', tk', m', news, rfl, F', N', fun p hp q hq => ?_, ⟨hm, trivial⟩, ?_⟩
    · rw [List.mem_singleton.mp hq]; exact hI p hp
    · exact loop_rest hm hI step fin r (pre ++ [v]) m' (by rw [e, List.append_assoc]; rfl) v0'
theorem loop_two {V : (Str → Option Value) → Prop} {ax : Addr} {a b : Value} {n : Nat} {m : Str → Option Value} {rst : List (Addr × Obj)} (hh : A.handled = none) (F : Fr h₀ env.locals s.heap m) (N : News h₀ env.locals s.heap ((ax, W.listOf #[a, b] n) :: rst)) (v0 : V m)
    (step : ∀ (v : Value), v = a ∨ v = b → ∀ (m : Str → Option Value) (h : Heap) (tk : Nat) (I : Addr) (o : Obj) (news : List (Addr × Obj)), V m → Fr h₀ env.locals h m → News h₀ env.locals h ((I, o) :: news) →
      ∀ Qt : Flow → Shared → Prop, (∀ (h' : Heap) (tk' : Nat) (m' : Str → Option Value), V m' → Fr h₀ env.locals h' m' → News h₀ env.locals h' ((I, o) :: news) → Qt .next { s with heap := h', toks := tk' }) →
      wpAny (model prog w) A (assign target env v) (fun _ s₂ => wpAny (model prog w) A (execs body env) Qt E s₂) E { s with heap := h, toks := tk })
    (fin : ∀ (m : Str → Option Value) (h : Heap) (tk : Nat) (news : List (Addr × Obj)), V m → Fr h₀ env.locals h m → News h₀ env.locals h news → Q .next { s with heap := h, toks := tk }) :
    wpAny (model prog w) A (pyIter (.ref ax)) (fun it s₂ => TurnsAt prog w A h₀ env target body Q E it s₂) E s := by
  refine iter_listTurns (lo := W.listOf #[a, b] n) (vs := [a, b]) hh F N (.head _) rfl rfl fun I hI => ?_
  refine loop_rest (vs := [a, b]) (.head _) (fun p hp => Nat.ne_of_lt (hI p hp)) (V := V) (fun v hv m h tk o v0 F N Qt k => step v ?_ m h tk I o _ v0 F N Qt k) (fun m h tk v0 F N => fin m h tk _ v0 F N) [a, b] [] m rfl v0
  rcases List.mem_cons.mp hv with h | h
  · exact .inl h
  · exact .inr (List.mem_singleton.mp h)
end
theorem left_right_fmod {v a : Int} (ha : 0 ≤ a) : leftV (rightV v a) a = v - v.fmod (2 ^ a.toNat) := by
  rw [left_of_right ha, Int.fmod_eq_emod_of_nonneg v (Int.le_of_lt (two_pos _))]
theorem right_left (v c : Int) : rightV v (-c) = leftV v c := by
  unfold rightV leftV
  by_cases h : c < 0
  · rw [if_neg (by omega), if_pos h]
  · by_cases h0 : c = 0
    · subst h0
      rw [if_neg (by omega), if_neg (by omega)]
      show v / 2 ^ 0 = v * 2 ^ 0
      rw [Int.pow_zero, Int.ediv_one, Int.mul_one]
    · rw [if_pos (by omega), if_neg h, Int.neg_neg]
theorem left_zero (v c : Int) (h : c = 0) : leftV v c = v := by
  subst h
  show v * 2 ^ 0 = v
  rw [Int.pow_zero, Int.mul_one]
theorem ok_right {v c b : Int} (ok : LeftOk v c b) : RightOk v (-c) b := by
  rcases ok with h | h | h
  · exact Or.inl (by omega)
  · exact Or.inr (Or.inl h)
  · exact Or.inr (Or.inr (by omega))
theorem law_holds : PySem.Challenge.rw_rh0066_01.Holds := hd (by
  k_go0
  all_goals try k_fold
  k_steps
  have hlen := take_le ‹IntsAre _ (List.take 63 _)›
  try (rename (@LE.le Nat _ (List.length _) (List.length _)) => hz; clear hz)
  try (rename (_ = min _ _) => hz; clear hz)
  try (rename (¬ (@LT.lt Int _ _ (List.length _))) => hz; clear hz)
  refine unhold ?_
  refine' sym_call ?B ?F ?X ?T ?hk ?hd ?hu ?N ?_
  case B => k_asm
  case F => k_asm
  case X => k_asm
  case T => k_asm
  case hk => exact rfl
  case hd => first | decide | ktr_room
  case hu => first | decide | ktr_units
  case N => k_asm
  intro x SL DA DF h1 tok1 S1 O1 F1 N1
  try dsimp only
  try k_fold
  have N2 := news_front2 N1
  have hpl := ne_front N2 (by assumption)
  have hpr := front_off O1
  clear N1
  k_steps
  refine unhold ?_
  refine' whole_call ?B ?F ?X ?T ?hk ?hd ?hu ?N ?hI hlen ?hkk hpl hpr ?_
  case B => k_asm
  case F => k_asm
  case X => k_asm
  case T => k_asm
  case hk => exact rfl
  case hd => first | decide | ktr_room
  case hu => first | decide | ktr_units
  case N => k_asm
  case hI => k_asm
  case hkk => first | assumption | decide
  intro one x9 k9 e9 td9 tx9 tk9 te9 n9 h9 tok9 one1 one2 hk9 F9 N9
  try simp only [Int.reducePow, Int.reduceToNat] at one1 one2
  try dsimp only
  try k_fold
  k_steps
  refine unhold ?_
  refine' whole_call ?B ?F ?X ?T ?hk ?hd ?hu ?N ?hI hlen ?hkk hpl hpr ?_
  case B => k_asm
  case F => k_asm
  case X => k_asm
  case T => k_asm
  case hk => exact rfl
  case hd => first | decide | ktr_room
  case hu => first | decide | ktr_units
  case N => k_asm
  case hI => k_asm
  case hkk => first | assumption | decide
  intro other x9 k9 e9 td9 tx9 tk9 te9 n9 h9 tok9 other1 other2 hk9 F9 N9
  try simp only [Int.reducePow, Int.reduceToNat] at other1 other2
  try dsimp only
  try k_fold
  k_steps
  refine unhold ?_
  refine' count_call ?B ?F ?X ?T ?hk ?hd ?hu ?N ?hI hlen ?hkk hpl hpr ?_
  case B => k_asm
  case F => k_asm
  case X => k_asm
  case T => k_asm
  case hk => exact rfl
  case hd => first | decide | ktr_room
  case hu => first | decide | ktr_units
  case N => k_asm
  case hI => k_asm
  case hkk => first | assumption | decide
  intro count x9 k9 e9 td9 tx9 tk9 te9 n9 h9 tok9 count1 count2 hk9 F9 N9
  try simp only [Int.reducePow, Int.reduceToNat] at count1 count2
  try dsimp only
  try k_fold
  k_steps
  refine unhold ?_
  refine' draw_call ?B ?F ?X ?T ?hk ?hd ?hu ?N ?hI hlen ?hkk ?hl ?hl2 hpl hpr ?_
  case B => k_asm
  case F => k_asm
  case X => k_asm
  case T => k_asm
  case hk => exact rfl
  case hd => first | decide | ktr_room
  case hu => first | decide | ktr_units
  case N => k_asm
  case hI => k_asm
  case hkk => first | assumption | decide
  case hl => decide
  case hl2 => decide
  intro near x9 k9 e9 td9 tx9 tk9 te9 n9 h9 tok9 near1 near2 hk9 F9 N9
  try simp only [Int.reducePow, Int.reduceToNat] at near1 near2
  try dsimp only
  try k_fold
  k_steps
  refine unhold ?_
  refine' draw_call ?B ?F ?X ?T ?hk ?hd ?hu ?N ?hI hlen ?hkk ?hl ?hl2 hpl hpr ?_
  case B => k_asm
  case F => k_asm
  case X => k_asm
  case T => k_asm
  case hk => exact rfl
  case hd => first | decide | ktr_room
  case hu => first | decide | ktr_units
  case N => k_asm
  case hI => k_asm
  case hkk => first | assumption | decide
  case hl => decide
  case hl2 => decide
  intro far x9 k9 e9 td9 tx9 tk9 te9 n9 h9 tok9 far1 far2 hk9 F9 N9
  try simp only [Int.reducePow, Int.reduceToNat] at far1 far2
  try dsimp only
  try k_fold
  k_steps
  refine unhold ?_
  refine' draw_call ?B ?F ?X ?T ?hk ?hd ?hu ?N ?hI hlen ?hkk ?hl ?hl2 hpl hpr ?_
  case B => k_asm
  case F => k_asm
  case X => k_asm
  case T => k_asm
  case hk => exact rfl
  case hd => first | decide | ktr_room
  case hu => first | decide | ktr_units
  case N => k_asm
  case hI => k_asm
  case hkk => first | assumption | decide
  case hl => decide
  case hl2 => decide
  intro most x9 k9 e9 td9 tx9 tk9 te9 n9 h9 tok9 most1 most2 hk9 F9 N9
  try simp only [Int.reducePow, Int.reduceToNat] at most1 most2
  try dsimp only
  try k_fold
  k_steps
  refine unhold ?_
  have NN := ‹News _ _ _ (_ :: _ :: (SL ++ []))›
  have N4 := news_drop2 NN
  clear hpr hpl hlen O1
  repeat (rename (@LE.le Int _ (-1) _) => hz; clear hz)
  repeat (rename (@LT.lt Nat _ _ _) => hz; clear hz)
  refine' exec_Jd S1 (by assumption) one other count near far (1 + most) 203 ?stA ?stB
  case stA =>
    k_steps
    refine unhold ?_
    refine' due_call ?B ?F ?X ?T ?hk ?hd ?hu ?N S1 ?O ?hn ?hb1 ?hb ?hv1 ?hv2 ?_ ?_
    case B => k_asm
    case F => k_asm
    case X => k_asm
    case T => k_asm
    case hk => exact rfl
    case hd => first | decide | ktr_room
    case hu => first | decide | ktr_units
    case N => exact N4
    case O => exact fun p hp => nomatch hp
    case hn => decide
    case hb1 => omega
    case hb => omega
    case hv1 => omega
    case hv2 => omega
    · intro td2 h2 tok2 ok F2 N3
      try dsimp only
      try k_fold
      k_steps
      · trivial
      refine ⟨_, _, _, rfl, ‹Fr _ _ _ _›, ⟨_, _, _, _, _, _, rfl, rfl, rfl, rfl, rfl, rfl, rfl⟩, .num _ _ ok rfl ‹News _ _ _ (SL ++ [])›⟩
    · intro tD i j f DA1 DF1 SL1 front h2 tok2 hc hv hb lm lr lf S2 bl O2 F2 N3
      try dsimp only
      try k_fold
      k_steps
      · trivial
      refine ⟨_, _, _, rfl, ‹Fr _ _ _ _›, ⟨_, _, _, _, _, _, rfl, rfl, rfl, rfl, rfl, rfl, rfl⟩, .ball tD i j f DA1 DF1 SL1 front hc hv hb rfl lm lr lf S2 bl O2 ‹News _ _ _ (SL1 ++ _)›⟩
  case stB =>
    intro s3 hJ
    clear NN N4 S1
    refine' exec_JJ hJ 206 ?stA ?stB
    case stA =>
      obtain ⟨m, h3, tk3, rfl, F3, ⟨u2, u3, u4, u5, u6, u7, v1, v2, v3, v4, v5, v6, v7⟩, hcase⟩ := hJ
      rcases hcase with ⟨u8, rst, ok, v8, N5⟩ | ⟨tD, i, j, f, DA1, DF1, SL1, front, hc, hv, hb, v8, lm, lr, lf, S2, bl, O2, N5⟩
      · dsimp only
        k_steps
        all_goals first
          | (exfalso; omega)
          | trivial
          | exact ⟨m, _, _, rfl, ‹Fr _ _ _ m›, ⟨u2, u3, u4, u5, u6, u7, v1, v2, v3, v4, v5, v6, v7⟩, .num u8 _ ok v8 ‹News _ _ _ rst›⟩
      · dsimp only
        k_steps
        refine unhold ?_
        refine' left_raise ?B ?F ?X ?T ?XB ?TB ?hk ?hd ?hu N5 S2 O2 (by omega) hc hv hb ?_
        case B => k_asm
        case F => k_asm
        case X => k_asm
        case T => k_asm
        case hk => exact rfl
        case hd => first | decide | ktr_room
        case hu => first | decide | ktr_units
        case XB => k_asm
        case TB => k_asm
        intro tD2 i2 j2 f2 DA2 DF2 SL2 front2 h4 tok4 lm2 lr2 lf2 kA2 kF2 S4 bl2 O4 F4 N4'
        have ei : i2 = i := by
          have := kA2 _ _ lm
          rw [lm2] at this
          exact PyData.int.inj (Option.some.inj this)
        have ej : j2 = j := by
          have := kA2 _ _ lr
          rw [lr2] at this
          exact PyData.int.inj (Option.some.inj this)
        have ef : f2 = f := by
          have := kF2 _ _ lf
          rw [← ej, lf2] at this
          exact PyData.int.inj (Option.some.inj this)
        subst ei ej ef
        try dsimp only
        try k_fold
        k_steps
        refine unhold ?_
        refine ne_ball N4' bl2 bl ?_ ?_ ?_ ?_
        · exact fun q hq => List.mem_append_right _ (List.mem_append_left _ hq)
        · exact fun q hq => List.mem_append_right _ (List.mem_append_right _ (List.mem_append_left _ hq))
        · ktr_units
        k_steps
        all_goals first
          | trivial
          | exact ⟨m, _, _, rfl, ‹Fr _ _ _ m›, ⟨u2, u3, u4, u5, u6, u7, v1, v2, v3, v4, v5, v6, v7⟩, .ball tD _ _ _ DA2 DF2 SL2 front hc hv hb v8 lm2 lr2 lf2 S4 bl (fun p hp => O4 p (List.mem_append_right _ hp)) (fun q hq => N4' q (by
              rcases List.mem_append.mp hq with hq | hq
              · exact List.mem_append_left _ hq
              · exact List.mem_append_right _ (List.mem_append_right _ hq)))⟩
    case stB =>
    intro s4 hJ4
    clear hJ
    have e1 : rightV one (-count) = leftV one count := right_left _ _
    have e2 := left_zero one count
    refine' exec_J3 hJ4 ?stA ?stB
    case stA =>
      obtain ⟨m, h3, tk3, rfl, F3, ⟨u2, u3, u4, u5, u6, u7, v1, v2, v3, v4, v5, v6, v7⟩, hcase⟩ := hJ4
      rcases hcase with ⟨u8, rst, ok, v8, N5⟩ | ⟨tD, i, j, f, DA1, DF1, SL1, front, hc, hv, hb, v8, lm, lr, lf, S2, bl, O2, N5⟩
      · have okR := ok_right ok
        dsimp only
        k_steps
        all_goals first
          | (exfalso; omega)
          | trivial
          | exact ⟨m, _, _, _, rfl, ‹Fr _ _ _ m›, ⟨u2, u3, u4, u5, u6, u7, v1, v2, v3, v4, v5, v6, v7⟩, ‹News _ _ _ rst›⟩
      · by_cases h0 : count = 0
        · have e3 : leftV one count = one := e2 h0
          dsimp only
          k_steps
          all_goals first
            | (exfalso; omega)
            | trivial
            | exact ⟨m, _, _, _, rfl, ‹Fr _ _ _ m›, ⟨u2, u3, u4, u5, u6, u7, v1, v2, v3, v4, v5, v6, v7⟩, ‹News _ _ _ (SL1 ++ _)›⟩
        · dsimp only
          k_steps
          refine unhold ?_
          refine' right_raise ?B ?F ?X ?T ?XB ?TB ?hk ?hd ?hu N5 S2 O2 (by omega) (by omega) hv (by omega) ?_
          case B => k_asm
          case F => k_asm
          case X => k_asm
          case T => k_asm
          case hk => exact rfl
          case hd => first | decide | ktr_room
          case hu => first | decide | ktr_units
          case XB => k_asm
          case TB => k_asm
          intro tD2 i2 j2 f2 DA2 DF2 SL2 front2 h4 tok4 lm2 lr2 lf2 kA2 kF2 S4 bl2 O4 F4 N4'
          have ei : i2 = i := by
            have := kA2 _ _ lm
            rw [lm2] at this
            exact PyData.int.inj (Option.some.inj this)
          have ej : j2 = j := by
            have := kA2 _ _ lr
            rw [lr2] at this
            exact PyData.int.inj (Option.some.inj this)
          have ef : f2 = f := by
            have := kF2 _ _ lf
            rw [← ej, lf2] at this
            exact PyData.int.inj (Option.some.inj this)
          subst ei ej ef
          try dsimp only
          try k_fold
          k_steps
          · exact absurd ‹count = 0› h0
          refine unhold ?_
          refine ne_ball N4' bl2 bl ?_ ?_ ?_ ?_
          · exact fun q hq => List.mem_append_right _ (List.mem_append_left _ hq)
          · exact fun q hq => List.mem_append_right _ (List.mem_append_right _ (List.mem_append_left _ hq))
          · ktr_units
          k_steps
          all_goals first
            | (exfalso; omega)
            | trivial
            | exact ⟨m, _, _, _, rfl, ‹Fr _ _ _ m›, ⟨u2, u3, u4, u5, u6, u7, v1, v2, v3, v4, v5, v6, v7⟩, ‹News _ _ _ (SL2 ++ _)›⟩
    case stB =>
    intro s5 hJ5
    clear hJ4
    obtain ⟨m, h3, tk3, rst, rfl, F3, ⟨u2, u3, u4, u5, u6, u7, v1, v2, v3, v4, v5, v6, v7⟩, N5⟩ := hJ5
    have f1 : rightV (rightV one near) far = rightV one (near + far) := right_right (by omega) (by omega)
    have f2 : rightV (leftV one near) far = leftV one (near - far) := right_of_left (by omega) (by omega)
    have b1 : (Builtin.Int.intBits one : Int) ≤ 61 := bits_small (by omega) (by omega)
    have b2 : (Builtin.Int.intBits (rightV one near) : Int) ≤ 61 := bits_small (right_small (by omega) (by omega) (by omega)).1 (right_small (by omega) (by omega) (by omega)).2
    have f3 : leftV (rightV one near) near = one - one.fmod (2 ^ near.toNat) := left_right_fmod (by omega)
    dsimp only
    k_steps
    refine unhold ?_
    refine For_turns (by assumption) ?_
    k_steps
    refine' loop_two (V := fun m => Vars m x one other count near far (1 + most) ∧ ∃ u, m "wide" = some (.int 400 u)) rfl ?F ?N ?V ?stA ?stB
    case F => k_asm
    case N => k_asm
    case V => exact ⟨⟨u2, u3, u4, u5, u6, u7, v1, v2, v3, v4, v5, v6, v7⟩, _, rfl⟩
    case stA =>
      clear v1 v2 v3 v4 v5 v6 v7
      intro v hv m2 h6 tk6 I o news V6 F6 N6 Qt fin6
      obtain ⟨⟨u2, u3, u4, u5, u6, u7, v1, v2, v3, v4, v5, v6, v7⟩, u8, v8⟩ := V6
      obtain ⟨p, up, rfl, hp⟩ : ∃ (p : Int) (u : Tok), v = .int p u ∧ 0 ≤ p := by
        rcases hv with rfl | rfl
        · exact ⟨_, _, rfl, by omega⟩
        · exact ⟨_, _, rfl, by split <;> omega⟩
      clear hv
      have g1 : one ≤ other → rightV one p ≤ rightV other p := right_mono hp
      have g2 : other ≤ one → rightV other p ≤ rightV one p := right_mono hp
      have g3 : rightV (-one - 1) p = -rightV one p - 1 := right_compl hp
      have g4 := right_sum (v := one) (u := other) hp
      dsimp only
      k_steps
      refine unhold ?_
      refine' exec_cut True ?cA ?cB
      case cA =>
        k_steps
        all_goals first
          | (exfalso; omega)
          | exact ⟨trivial, _, rfl⟩
      case cB =>
      intro _ tk9
      dsimp only
      k_steps
      all_goals first
        | (exfalso; omega)
        | (refine' fin6 _ _ _ ?V ?F ?N; (case F => k_asm); (case N => k_asm); (case V => exact ⟨⟨u2, u3, u4, u5, u6, u7, v1, v2, v3, v4, v5, v6, v7⟩, u8, v8⟩))
    case stB =>
      clear v1 v2 v3 v4 v5 v6 v7
      intro m2 h6 tk6 news V6 F6 N6
      dsimp only
      k_steps)
end Mine

end

theorem PySem.Challenge.cw_rh0066_01_holds : PySem.Challenge.rw_rh0066_01.Holds := by
  exact Mine.law_holds
