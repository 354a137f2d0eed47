import PyProof.Rows.All
import Wide.All
import OpenK.AllK
import Wide.FinOn
import Lean
import PySem.Challenge.RW_tk0025_01
open PySem PySem.W PySem.Calls PyProof.Rows
set_option Elab.async false
set_option maxRecDepth 100000
set_option maxHeartbeats 8000000

section
namespace Mine
open_top hd for PySem.Challenge.rw_tk0025_01
end Mine
end

section
namespace Mine

def PureC (w : World) (f : Addr) (vs : List Value) (dn : Nat) (R : Tok → Value) : Prop :=
  ∀ (mean : ExcName → Option Value) (mg mb : Str → Option Value) (dp un : Nat) (gd : Option (List Code)) (cn : Str) (cs : Scope) (a : Addr) (ccd : Value) (cl : List (Str × Addr)) (outer : List Env) (A₀ : Around) (base h₀ : Heap) (L : Addr) (m : Str → Option Value) (news : List (Addr × Obj)) (s : Shared) (Q E : Value → Shared → Prop),
    Below A₀ base outer h₀ → Fr h₀ L s.heap m → (hd.heap_39 w.params).In h₀ → News h₀ L s.heap news → Top hd.view_39 (looseW hd.view_39 []) mean mg mb h₀ → cs.kind = .function →
    dp + dn < recursionLimit → un + 8 * dn < cLine →
    (∀ (t : Tok) (h' : Heap) (tk' : Nat), Fr h₀ L h' m → News h₀ L h' news → Q (R t) { s with heap := h', toks := tk' }) →
    wpAny (model PySem.Challenge.rw_tk0025_01.row.prog w) (ktrTop dp un gd cn cs L a ccd cl outer) (call (.ref f) vs) Q E s

def gcdL : Nat → Int → Int → Option Int
  | 0, _, _ => none
  | k + 1, a, b => if b = 0 then some a else gcdL k b (Int.fmod a b)

def GcdI (r a b : Int) : Prop := 0 ≤ a ∧ 0 ≤ b ∧ ∃ k, gcdL k a b = some r
theorem gcd_start {a b r : Int} (h : gcdL 20 (if a < 0 then -a else a) (if b < 0 then -b else b) = some r) :
    GcdI r (if a < 0 then -a else a) (if b < 0 then -b else b) := by
  refine ⟨?_, ?_, 20, h⟩ <;> split <;> omega
theorem gcd_turn {a b r : Int} (h : GcdI r a b) (hb : b ≠ 0) : GcdI r b (Int.fmod a b) := by
  obtain ⟨h1, h2, k, hk⟩ := h
  refine ⟨h2, Int.fmod_nonneg h1 h2, ?_⟩
  cases k with
  | zero => cases hk
  | succ k => exact ⟨k, by rw [gcdL, if_neg hb] at hk; exact hk⟩
theorem gcd_meas {a b r : Int} (h : GcdI r a b) (hb : b ≠ 0) : (Int.fmod a b).toNat < b.toNat := by
  have h1 := h.2.1
  have := Int.fmod_lt_of_pos a (show 0 < b by omega)
  have := Int.fmod_nonneg_of_pos a (show 0 < b by omega)
  omega
theorem gcd_done {a b r : Int} (h : GcdI r a b) (hb : b = 0) : a = r := by
  obtain ⟨_, _, k, hk⟩ := h
  cases k with
  | zero => cases hk
  | succ k => rw [gcdL, if_pos hb] at hk; exact Option.some.inj hk

theorem gcd_spec (w : World) (a b r : Int) (ta tb : Tok) (h : gcdL 20 (if a < 0 then -a else a) (if b < 0 then -b else b) = some r) : PureC w 60 [.int a ta, .int b tb] 1 (fun t => .int r t) := by
  unfold PureC
  k_fill; w_top off
  intro mean mg mb dp un gd cn cs ad ccd cl outer A₀ base h₀ L m news s Q E B F X N T hk hdp hun hret
  refine wpAny_call ?_
  k_dflt cell_enter
  k_with "state" => first | exact gcd_start h | exact gcd_turn (by assumption) (by omega)
  k_with "measure" => exact gcd_meas (by assumption) (by omega)
  k_with "exec While Compare cons nil" => k_while (fun _ a b => GcdI r a b) (fun _ _ b => b.toNat) "a" "b"
  k_steps
  refine' cb_retI hret ?e ?F ?N
  case F => k_asm
  case N => exact cb_drop (by assumption) (by kcj_all)
  case e => exact gcd_done (by assumption) (by omega)
end Mine
end

section
namespace Mine

def pmL (m : Int) : Nat → Int → Int → Int → Option Int
  | 0, _, _, _ => none
  | k + 1, f, q, n => if 0 < n then pmL m k (if Int.fmod n 2 = 1 then Int.fmod (f * q) m else f) (Int.fmod (q * q) m) (Int.fdiv n 2) else some f
def PmI (m r f q n : Int) : Prop := ∃ k, pmL m k f q n = some r
theorem pm_start {a n m r : Int} (h : pmL m 20 (Int.fmod 1 m) (Int.fmod a m) n = some r) (h0 : 0 < m) (h1 : m < 100) :
    (0 ≤ Int.fmod 1 m ∧ Int.fmod 1 m < 100) ∧ (0 ≤ Int.fmod a m ∧ Int.fmod a m < 100) ∧ PmI m r (Int.fmod 1 m) (Int.fmod a m) n := by
  have := Int.fmod_lt_of_pos a h0
  have := Int.fmod_nonneg_of_pos a h0
  have := Int.fmod_lt_of_pos 1 h0
  have := Int.fmod_nonneg_of_pos 1 h0
  exact ⟨by omega, by omega, 20, h⟩
theorem pm_odd {f q n m r : Int} (h0 : 0 < m) (h1 : m < 100) (hf : 0 ≤ f ∧ f < 100) (h : PmI m r f q n) (hn : 0 < n) (ho : Int.fmod n 2 = 1) :
    (0 ≤ Int.fmod (f * q) m ∧ Int.fmod (f * q) m < 100) ∧ (0 ≤ Int.fmod (q * q) m ∧ Int.fmod (q * q) m < 100) ∧ PmI m r (Int.fmod (f * q) m) (Int.fmod (q * q) m) (Int.fdiv n 2) := by
  have := Int.fmod_lt_of_pos (f * q) h0
  have := Int.fmod_nonneg_of_pos (f * q) h0
  have := Int.fmod_lt_of_pos (q * q) h0
  have := Int.fmod_nonneg_of_pos (q * q) h0
  obtain ⟨k, hk⟩ := h
  cases k with
  | zero => cases hk
  | succ k => exact ⟨by omega, by omega, k, by rw [pmL, if_pos hn, if_pos ho] at hk; exact hk⟩
theorem pm_even {f q n m r : Int} (h0 : 0 < m) (h1 : m < 100) (hf : 0 ≤ f ∧ f < 100) (h : PmI m r f q n) (hn : 0 < n) (ho : ¬ Int.fmod n 2 = 1) :
    (0 ≤ f ∧ f < 100) ∧ (0 ≤ Int.fmod (q * q) m ∧ Int.fmod (q * q) m < 100) ∧ PmI m r f (Int.fmod (q * q) m) (Int.fdiv n 2) := by
  have := Int.fmod_lt_of_pos (q * q) h0
  have := Int.fmod_nonneg_of_pos (q * q) h0
  obtain ⟨k, hk⟩ := h
  cases k with
  | zero => cases hk
  | succ k => exact ⟨by omega, by omega, k, by rw [pmL, if_pos hn, if_neg ho] at hk; exact hk⟩
theorem pm_meas {n : Int} (hn : 0 < n) : (Int.fdiv n 2).toNat < n.toNat := by
  rw [Int.fdiv_eq_ediv_of_nonneg _ (by omega)]; omega
theorem pm_done {f q n m r : Int} (h : PmI m r f q n) (hn : ¬ 0 < n) : f = r := by
  obtain ⟨k, hk⟩ := h
  cases k with
  | zero => cases hk
  | succ k => rw [pmL, if_neg hn] at hk; exact Option.some.inj hk

theorem power_mod_spec (w : World) (a n m r : Int) (ta tn tm : Tok) (h0 : 0 < m) (h1 : m < 100) (h : pmL m 20 (Int.fmod 1 m) (Int.fmod a m) n = some r) : PureC w 74 [.int a ta, .int n tn, .int m tm] 1 (fun t => .int r t) := by
  unfold PureC
  k_fill; w_top off
  intro mean mg mb dp un gd cn cs ad ccd cl outer A₀ base h₀ L mm news s Q E B F X N T hk hdp hun hret
  refine wpAny_call ?_
  k_dflt cell_enter
  k_with "state" => first | exact pm_start h h0 h1 | exact pm_odd h0 h1 (by omega) (by assumption) (by omega) (by omega) | exact pm_even h0 h1 (by omega) (by assumption) (by omega) (by omega)
  k_with "measure" => exact pm_meas (by omega)
  k_with "exec While Compare cons nil" => k_while (fun _ f q n => (0 ≤ f ∧ f < 100) ∧ (0 ≤ q ∧ q < 100) ∧ PmI m r f q n) (fun _ _ _ n => n.toNat) "found" "square" "n"
  k_steps
  all_goals trace_state
  refine' cb_retI hret ?e ?F ?N
  case F => k_asm
  case N => exact cb_drop (by assumption) (by kcj_all)
  case e => exact pm_done (by assumption) (by omega)
end Mine
end

section
namespace Mine

theorem PureC.use {w : World} {f : Addr} {vs : List Value} {dn : Nat} {R : Tok → Value} (C : PureC w f vs dn R)
    {mean : ExcName → Option Value} {mg mb : Str → Option Value} {dp un : Nat} {gd : Option (List Code)} {cn : Str} {cs : Scope} {a : Addr} {ccd : Value} {cl : List (Str × Addr)} {outer : List Env} {A₀ : Around} {base h₀ : Heap} {L : Addr} {m : Str → Option Value} {news : List (Addr × Obj)} {s : Shared} {Q E : Value → Shared → Prop}
    (B : Below A₀ base outer h₀) (F : Fr h₀ L s.heap m) (X : (hd.heap_39 w.params).In h₀) (N : News h₀ L s.heap news) (T : Top hd.view_39 (looseW hd.view_39 []) mean mg mb h₀) (hk : cs.kind = .function)
    (hd : dp + dn < recursionLimit) (hu : un + 8 * dn < cLine)
    (ret : ∀ (t : Tok) (h' : Heap) (tk' : Nat), Fr h₀ L h' m → News h₀ L h' news → Q (R t) { s with heap := h', toks := tk' }) :
    wpAny (model PySem.Challenge.rw_tk0025_01.row.prog w) (ktrTop dp un gd cn cs L a ccd cl outer) (call (.ref f) vs) Q E s :=
  C mean mg mb dp un gd cn cs a ccd cl outer A₀ base h₀ L m news s Q E B F X N T hk hd hu ret

def ldL (n : Int) : Nat → Int → Option Int
  | 0, _ => none
  | k + 1, f => if f * f ≤ n then (if Int.fmod n f = 0 then some f else ldL n k (f + if f = 2 then 1 else 2)) else some n
def LdI (n r f : Int) : Prop := ∃ k, ldL n k f = some r
theorem ld_two {n r f : Int} (h : LdI n r f) (h1 : f * f ≤ n) (h2 : ¬ Int.fmod n f = 0) (h3 : f = 2) : LdI n r (f + 1) := by
  obtain ⟨k, hk⟩ := h
  cases k with
  | zero => cases hk
  | succ k => exact ⟨k, by rw [ldL, if_pos h1, if_neg h2, if_pos h3] at hk; exact hk⟩
theorem ld_odd {n r f : Int} (h : LdI n r f) (h1 : f * f ≤ n) (h2 : ¬ Int.fmod n f = 0) (h3 : ¬ f = 2) : LdI n r (f + 2) := by
  obtain ⟨k, hk⟩ := h
  cases k with
  | zero => cases hk
  | succ k => exact ⟨k, by rw [ldL, if_pos h1, if_neg h2, if_neg h3] at hk; exact hk⟩
theorem ld_found {n r f : Int} (h : LdI n r f) (h1 : f * f ≤ n) (h2 : Int.fmod n f = 0) : f = r := by
  obtain ⟨k, hk⟩ := h
  cases k with
  | zero => cases hk
  | succ k => rw [ldL, if_pos h1, if_pos h2] at hk; exact Option.some.inj hk
theorem ld_none {n r f : Int} (h : LdI n r f) (h1 : ¬ f * f ≤ n) : n = r := by
  obtain ⟨k, hk⟩ := h
  cases k with
  | zero => cases hk
  | succ k => rw [ldL, if_neg h1] at hk; exact Option.some.inj hk
theorem ld_small {n f : Int} (h : 2 ≤ f) (h1 : f * f ≤ n) (h2 : n < 100) : f < 10 := by
  apply Decidable.byContradiction
  intro h3
  have := Int.mul_le_mul (show (10 : Int) ≤ f by omega) (show (10 : Int) ≤ f by omega) (by omega) (by omega)
  omega

theorem least_divisor_spec (w : World) (n b r : Int) (tn tb : Tok) (h0 : 2 ≤ b ∧ b < 100) (h1 : n < 100) (h : ldL n 20 b = some r) : PureC w 88 [.int n tn, .int b tb] 1 (fun t => .int r t) := by
  unfold PureC
  k_fill; w_top off
  intro mean mg mb dp un gd cn cs ad ccd cl outer A₀ base h₀ L mm news s Q E B F X N T hk hdp hun hret
  refine wpAny_call ?_
  k_dflt cell_enter
  k_with_none
  have hI : LdI n r b := ⟨20, h⟩
  k_with "state" => first | exact ⟨by omega, hI⟩ | (have := ld_small (by omega) (by assumption) h1; refine ⟨by omega, ?_⟩; first | exact ld_odd (by assumption) (by assumption) (by omega) (by omega) | exact ld_two (by assumption) (by assumption) (by assumption) (by assumption))
  k_with "measure" => have := ld_small (by omega) (by assumption) h1; omega
  k_with "exec While Compare cons nil" => k_while (fun _ f => (2 ≤ f ∧ f < 100) ∧ LdI n r f) (fun _ f => (100 - f).toNat) "found"
  k_steps
  all_goals refine cb_retI hret ?_ (by k_asm) (cb_drop (by assumption) (by kcj_all))
  all_goals first | exact ld_found (by assumption) (by assumption) (by assumption) | exact ld_none (by assumption) (by assumption)

end Mine
end

section
namespace Mine

abbrev tupO (vs : Array Value) : Obj := { cls := .type "tuple", data := .seq vs }
def PF1C (w : World) (n p k : Int) : Prop :=
  ∀ (tn : Tok) (mean : ExcName → Option Value) (mg mb : Str → Option Value) (dp un : Nat) (gd : Option (List Code)) (cn : Str) (cs : Scope) (a : Addr) (ccd : Value) (cl : List (Str × Addr)) (outer : List Env) (A₀ : Around) (base h₀ : Heap) (L : Addr) (m : Str → Option Value) (news : List (Addr × Obj)) (s : Shared) (Q E : Value → Shared → Prop),
    Below A₀ base outer h₀ → Fr h₀ L s.heap m → (hd.heap_39 w.params).In h₀ → News h₀ L s.heap news → Top hd.view_39 (looseW hd.view_39 []) mean mg mb h₀ → cs.kind = .function →
    dp + 2 < recursionLimit → un + 8 * 2 < cLine →
    (∀ (D t : Addr) (e : Nat) (a b : Tok) (h' : Heap) (tk' : Nat), Fr h₀ L h' m → News h₀ L h' ((D, W.listOf #[.ref t] e) :: (t, tupO #[.int p a, .int k b]) :: news) → Q (.ref D) { s with heap := h', toks := tk' }) →
    wpAny (model PySem.Challenge.rw_tk0025_01.row.prog w) (ktrTop dp un gd cn cs L a ccd cl outer) (call (.ref 95) [.int n tn]) Q E s
def PF2C (w : World) (n p k p' k' : Int) : Prop :=
  ∀ (tn : Tok) (mean : ExcName → Option Value) (mg mb : Str → Option Value) (dp un : Nat) (gd : Option (List Code)) (cn : Str) (cs : Scope) (a : Addr) (ccd : Value) (cl : List (Str × Addr)) (outer : List Env) (A₀ : Around) (base h₀ : Heap) (L : Addr) (m : Str → Option Value) (news : List (Addr × Obj)) (s : Shared) (Q E : Value → Shared → Prop),
    Below A₀ base outer h₀ → Fr h₀ L s.heap m → (hd.heap_39 w.params).In h₀ → News h₀ L s.heap news → Top hd.view_39 (looseW hd.view_39 []) mean mg mb h₀ → cs.kind = .function →
    dp + 2 < recursionLimit → un + 8 * 2 < cLine →
    (∀ (D t t' : Addr) (e : Nat) (a b a' b' : Tok) (h' : Heap) (tk' : Nat), Fr h₀ L h' m → News h₀ L h' ((D, W.listOf #[.ref t, .ref t'] e) :: (t, tupO #[.int p a, .int k b]) :: (t', tupO #[.int p' a', .int k' b']) :: news) → Q (.ref D) { s with heap := h', toks := tk' }) →
    wpAny (model PySem.Challenge.rw_tk0025_01.row.prog w) (ktrTop dp un gd cn cs L a ccd cl outer) (call (.ref 95) [.int n tn]) Q E s
theorem pf15 (w : World) : PF2C w 15 3 1 5 1 := by
  unfold PF2C
  k_fill; w_top off
  intro tn mean mg mb dp un gd cn cs ad ccd cl outer A₀ base h₀ L mm news s Q E B F X N T hk hdp hun hret
  refine wpAny_call ?_
  k_dflt cell_enter
  k_with_none
  have hf0 : ldL 15 20 2 = some 3 := by decide
  have hf1 : ldL (Int.fdiv 15 3) 20 (3 + 2) = some 5 := by decide
  k_with "call ref" => k_dflt (refine' PureC.use (least_divisor_spec _ _ _ _ _ _ ?b1 ?b2 ?h) ?k1 ?k2 ?k3 ?k4 ?k5 ?kK ?kd ?ku ?_); (case h => assumption); (case b1 => omega); (case b2 => first | omega | decide); (case k1 => k_asm); (case k2 => k_asm); (case k3 => k_asm); (case k4 => k_asm); (case k5 => k_asm); (case kK => first | exact rfl | assumption); (case kd => ktr_room); (case ku => ktr_units); k_whole; intro t9 h9 tk9 F9 N9; (try dsimp only); (try k_fold)
  k_steps
  (refine' hret _ _ _ _ _ _ _ _ _ _ ?F ?N; (case F => k_asm); (case N => exact cb_drop (by assumption) (by kcj_all)))
theorem pf9 (w : World) : PF1C w 9 3 2 := by
  unfold PF1C
  k_fill; w_top off
  intro tn mean mg mb dp un gd cn cs ad ccd cl outer A₀ base h₀ L mm news s Q E B F X N T hk hdp hun hret
  refine wpAny_call ?_
  k_dflt cell_enter
  k_with_none
  have hf0 : ldL 9 20 2 = some 3 := by decide
  k_with "call ref" => k_dflt (refine' PureC.use (least_divisor_spec _ _ _ _ _ _ ?b1 ?b2 ?h) ?k1 ?k2 ?k3 ?k4 ?k5 ?kK ?kd ?ku ?_); (case h => assumption); (case b1 => omega); (case b2 => first | omega | decide); (case k1 => k_asm); (case k2 => k_asm); (case k3 => k_asm); (case k4 => k_asm); (case k5 => k_asm); (case kK => first | exact rfl | assumption); (case kd => ktr_room); (case ku => ktr_units); k_whole; intro t9 h9 tk9 F9 N9; (try dsimp only); (try k_fold)
  k_steps
  (refine' hret _ _ _ _ _ _ _ ?F ?N; (case F => k_asm); (case N => exact cb_drop (by assumption) (by kcj_all)))
theorem pf3 (w : World) : PF1C w 3 3 1 := by
  unfold PF1C
  k_fill; w_top off
  intro tn mean mg mb dp un gd cn cs ad ccd cl outer A₀ base h₀ L mm news s Q E B F X N T hk hdp hun hret
  refine wpAny_call ?_
  k_dflt cell_enter
  k_with_none
  have hf0 : ldL 3 20 2 = some 3 := by decide
  k_with "call ref" => k_dflt (refine' PureC.use (least_divisor_spec _ _ _ _ _ _ ?b1 ?b2 ?h) ?k1 ?k2 ?k3 ?k4 ?k5 ?kK ?kd ?ku ?_); (case h => assumption); (case b1 => omega); (case b2 => first | omega | decide); (case k1 => k_asm); (case k2 => k_asm); (case k3 => k_asm); (case k4 => k_asm); (case k5 => k_asm); (case kK => first | exact rfl | assumption); (case kd => ktr_room); (case ku => ktr_units); k_whole; intro t9 h9 tk9 F9 N9; (try dsimp only); (try k_fold)
  k_steps
  (refine' hret _ _ _ _ _ _ _ ?F ?N; (case F => k_asm); (case N => exact cb_drop (by assumption) (by kcj_all)))
theorem pf5 (w : World) : PF1C w 5 5 1 := by
  unfold PF1C
  k_fill; w_top off
  intro tn mean mg mb dp un gd cn cs ad ccd cl outer A₀ base h₀ L mm news s Q E B F X N T hk hdp hun hret
  refine wpAny_call ?_
  k_dflt cell_enter
  k_with_none
  have hf0 : ldL 5 20 2 = some 5 := by decide
  k_with "call ref" => k_dflt (refine' PureC.use (least_divisor_spec _ _ _ _ _ _ ?b1 ?b2 ?h) ?k1 ?k2 ?k3 ?k4 ?k5 ?kK ?kd ?ku ?_); (case h => assumption); (case b1 => omega); (case b2 => first | omega | decide); (case k1 => k_asm); (case k2 => k_asm); (case k3 => k_asm); (case k4 => k_asm); (case k5 => k_asm); (case kK => first | exact rfl | assumption); (case kd => ktr_room); (case ku => ktr_units); k_whole; intro t9 h9 tk9 F9 N9; (try dsimp only); (try k_fold)
  k_steps
  (refine' hret _ _ _ _ _ _ _ ?F ?N; (case F => k_asm); (case N => exact cb_drop (by assumption) (by kcj_all)))
theorem pf7 (w : World) : PF1C w 7 7 1 := by
  unfold PF1C
  k_fill; w_top off
  intro tn mean mg mb dp un gd cn cs ad ccd cl outer A₀ base h₀ L mm news s Q E B F X N T hk hdp hun hret
  refine wpAny_call ?_
  k_dflt cell_enter
  k_with_none
  have hf0 : ldL 7 20 2 = some 7 := by decide
  k_with "call ref" => k_dflt (refine' PureC.use (least_divisor_spec _ _ _ _ _ _ ?b1 ?b2 ?h) ?k1 ?k2 ?k3 ?k4 ?k5 ?kK ?kd ?ku ?_); (case h => assumption); (case b1 => omega); (case b2 => first | omega | decide); (case k1 => k_asm); (case k2 => k_asm); (case k3 => k_asm); (case k4 => k_asm); (case k5 => k_asm); (case kK => first | exact rfl | assumption); (case kd => ktr_room); (case ku => ktr_units); k_whole; intro t9 h9 tk9 F9 N9; (try dsimp only); (try k_fold)
  k_steps
  (refine' hret _ _ _ _ _ _ _ ?F ?N; (case F => k_asm); (case N => exact cb_drop (by assumption) (by kcj_all)))
theorem pf11 (w : World) : PF1C w 11 11 1 := by
  unfold PF1C
  k_fill; w_top off
  intro tn mean mg mb dp un gd cn cs ad ccd cl outer A₀ base h₀ L mm news s Q E B F X N T hk hdp hun hret
  refine wpAny_call ?_
  k_dflt cell_enter
  k_with_none
  have hf0 : ldL 11 20 2 = some 11 := by decide
  k_with "call ref" => k_dflt (refine' PureC.use (least_divisor_spec _ _ _ _ _ _ ?b1 ?b2 ?h) ?k1 ?k2 ?k3 ?k4 ?k5 ?kK ?kd ?ku ?_); (case h => assumption); (case b1 => omega); (case b2 => first | omega | decide); (case k1 => k_asm); (case k2 => k_asm); (case k3 => k_asm); (case k4 => k_asm); (case k5 => k_asm); (case kK => first | exact rfl | assumption); (case kd => ktr_room); (case ku => ktr_units); k_whole; intro t9 h9 tk9 F9 N9; (try dsimp only); (try k_fold)
  k_steps
  (refine' hret _ _ _ _ _ _ _ ?F ?N; (case F => k_asm); (case N => exact cb_drop (by assumption) (by kcj_all)))
theorem pf13 (w : World) : PF1C w 13 13 1 := by
  unfold PF1C
  k_fill; w_top off
  intro tn mean mg mb dp un gd cn cs ad ccd cl outer A₀ base h₀ L mm news s Q E B F X N T hk hdp hun hret
  refine wpAny_call ?_
  k_dflt cell_enter
  k_with_none
  have hf0 : ldL 13 20 2 = some 13 := by decide
  k_with "call ref" => k_dflt (refine' PureC.use (least_divisor_spec _ _ _ _ _ _ ?b1 ?b2 ?h) ?k1 ?k2 ?k3 ?k4 ?k5 ?kK ?kd ?ku ?_); (case h => assumption); (case b1 => omega); (case b2 => first | omega | decide); (case k1 => k_asm); (case k2 => k_asm); (case k3 => k_asm); (case k4 => k_asm); (case k5 => k_asm); (case kK => first | exact rfl | assumption); (case kd => ktr_room); (case ku => ktr_units); k_whole; intro t9 h9 tk9 F9 N9; (try dsimp only); (try k_fold)
  k_steps
  (refine' hret _ _ _ _ _ _ _ ?F ?N; (case F => k_asm); (case N => exact cb_drop (by assumption) (by kcj_all)))
end Mine
end

section
namespace Mine

theorem PF1C.use {w : World} {n p k : Int} (C : PF1C w n p k)
    {tn : Tok} {mean : ExcName → Option Value} {mg mb : Str → Option Value} {dp un : Nat} {gd : Option (List Code)} {cn : Str} {cs : Scope} {a : Addr} {ccd : Value} {cl : List (Str × Addr)} {outer : List Env} {A₀ : Around} {base h₀ : Heap} {L : Addr} {m : Str → Option Value} {news : List (Addr × Obj)} {s : Shared} {Q E : Value → Shared → Prop}
    (B : Below A₀ base outer h₀) (F : Fr h₀ L s.heap m) (X : (hd.heap_39 w.params).In h₀) (N : News h₀ L s.heap news) (T : Top hd.view_39 (looseW hd.view_39 []) mean mg mb h₀) (hk : cs.kind = .function)
    (hd : dp + 2 < recursionLimit) (hu : un + 8 * 2 < cLine)
    (ret : ∀ (D t : Addr) (e : Nat) (a b : Tok) (h' : Heap) (tk' : Nat), Fr h₀ L h' m → News h₀ L h' ((D, W.listOf #[.ref t] e) :: (t, tupO #[.int p a, .int k b]) :: news) → Q (.ref D) { s with heap := h', toks := tk' }) :
    wpAny (model PySem.Challenge.rw_tk0025_01.row.prog w) (ktrTop dp un gd cn cs L a ccd cl outer) (call (.ref 95) [.int n tn]) Q E s :=
  C tn mean mg mb dp un gd cn cs a ccd cl outer A₀ base h₀ L m news s Q E B F X N T hk hd hu ret
theorem PF2C.use {w : World} {n p k p' k' : Int} (C : PF2C w n p k p' k')
    {tn : Tok} {mean : ExcName → Option Value} {mg mb : Str → Option Value} {dp un : Nat} {gd : Option (List Code)} {cn : Str} {cs : Scope} {a : Addr} {ccd : Value} {cl : List (Str × Addr)} {outer : List Env} {A₀ : Around} {base h₀ : Heap} {L : Addr} {m : Str → Option Value} {news : List (Addr × Obj)} {s : Shared} {Q E : Value → Shared → Prop}
    (B : Below A₀ base outer h₀) (F : Fr h₀ L s.heap m) (X : (hd.heap_39 w.params).In h₀) (N : News h₀ L s.heap news) (T : Top hd.view_39 (looseW hd.view_39 []) mean mg mb h₀) (hk : cs.kind = .function)
    (hd : dp + 2 < recursionLimit) (hu : un + 8 * 2 < cLine)
    (ret : ∀ (D t t' : Addr) (e : Nat) (a b a' b' : Tok) (h' : Heap) (tk' : Nat), Fr h₀ L h' m → News h₀ L h' ((D, W.listOf #[.ref t, .ref t'] e) :: (t, tupO #[.int p a, .int k b]) :: (t', tupO #[.int p' a', .int k' b']) :: news) → Q (.ref D) { s with heap := h', toks := tk' }) :
    wpAny (model PySem.Challenge.rw_tk0025_01.row.prog w) (ktrTop dp un gd cn cs L a ccd cl outer) (call (.ref 95) [.int n tn]) Q E s :=
  C tn mean mg mb dp un gd cn cs a ccd cl outer A₀ base h₀ L m news s Q E B F X N T hk hd hu ret

theorem code_def0 {prog : Program} {w : World} {A A₀ : Around} {s : Shared} {K : Frag} {L : Addr} {h₀ base : Heap} {m mg mb : Str → Option Value} {p : Program} {loose : List Str} {mean : ExcName → Option Value} {env : Env} {outer : List Env} {R : Result → Shared → Prop} {name qual : Str} {params : Arguments} {body : List Stmt} {scope : Scope} {dV kV doc pm cdv ct oc : Value} {an od : Option Addr} {osl : Array (Option Value)} {f : Addr} {args : Args} {binds : List (Str × Value)}
    (B : Below A₀ base outer h₀) (F : Fr h₀ L s.heap m) (X₀ : K.In h₀) (T : Top p loose mean mg mb h₀) (hA : A.frames = some (env :: outer)) (hf : env.frame = some L) (hke : env.scope.kind = .function)
    (ho : K.lookup f = some ⟨oc, od, .func (fnOf name qual params body scope dV kV doc pm an cdv ct), osl⟩) (hcd : codeIn K cdv qual = true) (hroom : A.depth < recursionLimit)
    (hbind : BindsTo s (fnOf name qual params body scope dV kV doc pm an cdv ct) args binds) (hloc : ∀ y ∈ binds, scope.names.lookup y.1 = some .local)
    (h : ∀ g L' h₁, (∀ b o, s.heap.get? b = some o → g.get? b = some o) → Fr h₀ L g m → Fr g L' h₁ (fun y => binds.reverse.lookup y) → News g L' h₁ [] → Below A base (env :: outer) g → K.In g → Top p loose mean mg mb g →
      wpAny (model prog w) (A.deeper (envOf qual scope L' f cdv)) (execs body (envOf qual scope L' f cdv))
        (fun fl s' => LeaveK h₀ L m g R (match fl with | .ret v => v | _ => .none) s')
        (fun e s' => wpAny (model prog w) (A.deeper (envOf qual scope L' f cdv)) (leaving (envOf qual scope L' f cdv) e) (fun _ s'' => R (.error e) s'') (fun e' s'' => R (.error e') s'') s')
        { s with heap := h₁, toks := s.toks + binds.length })
    (hco : scope.isCoroutine = false) (hgen : scope.isGenerator = false) (hk : scope.kind = .function)
    (hcell : ∀ x ∈ scope.names, x.2 ≠ .cell) : codeAny (model prog w) A (.call (.ref f) args) R s := by
  obtain ⟨_, BG, _, lv⟩ := groundX (R := R) B F News.nil hA hf hke
  have X := X₀.keeps F.keep
  refine codeAny_call_def (fd := fnOf name qual params body scope dV kV doc pm an cdv ct) (body := body) (binds := binds) hroom (X _ _ ho) rfl (T.nolimit.keeps F.keep) (codeRec_of X hcd) rfl hbind hcell hloc (fun h₁ hns hk₁ => ?_) hco hgen hk
  exact wpAny_mono (h s.heap s.heap.objs.size h₁ (fun _ _ e => e) F ⟨hns, hk₁, Nat.le_refl _⟩ News.nil BG X (T.keeps F.keep)) (fun fl s' hl => lv _ _ hl) fun _ _ y => y

/-- the caller's ledger, read again behind a callee that kept all that stood -/
theorem news_kept {h₀ g h : Heap} {L L' : Addr} {m' : Str → Option Value} {news : List (Addr × Obj)} {sh : Heap} (N : News h₀ L sh news) (hg : ∀ b o, sh.get? b = some o → g.get? b = some o) (F : Fr g L' h m') : News h₀ L h news :=
  fun p hp => ⟨F.keep _ _ (hg _ _ (N p hp).1), (N p hp).2⟩

theorem jac1 (w : World) (a n p k pw r : Int) (ta tn : Tok) (C : PF1C w n p k) (h0 : 0 < p) (h1 : p < 100) (hk0 : 0 ≤ k) (hk1 : k < 100)
    (hp : pmL p 20 (Int.fmod 1 p) (Int.fmod a p) (Int.fdiv (p - 1) 2) = some pw) (hpw : 0 ≤ pw ∧ pw < 100) (hr : r = (if pw = p - 1 then -1 else pw) ^ k.toNat) :
    PureC w 114 [.int a ta, .int n tn] 4 (fun t => .int r t) := by
  unfold PureC
  k_fill; w_top off
  intro mean mg mb dp un gd cn cs ad ccd cl outer A₀ base h₀ L m news s Q E B F X N T hk hdp hun hret
  refine wpAny_call ?_
  k_dflt (refine' code_def0 ?k1 ?k2 ?k3 ?k5 ?kA ?kF ?kK ?k6 ?k7 ?k8 ?k9 ?kB ?_ ?c2 ?c3 ?c4 ?c5; (case kA => exact rfl); (case kF => exact rfl); (case kK => assumption); (case k1 => k_asm); (case k2 => k_asm); (case k3 => k_asm); (case k5 => k_asm); (case k6 => k_is); (case k7 => k_is); (case k8 => ktr_room); (case k9 => exact BindsTo.of_eq rfl); (case c5 => decide); (case kB => exact locs rfl); (case c2 => exact rfl); (case c3 => exact rfl); (case c4 => exact rfl); k_whole; intro g' L' h' hg' FG' F' N' B' X' T'; (try dsimp only); (try k_lift B'); (try k_fold))
  k_with_none
  k_with "call ref" => k_dflt (refine' PF1C.use C ?k1 ?k2 ?k3 ?k4 ?k5 ?kK ?kd ?ku ?_); (case k1 => k_asm); (case k2 => k_asm); (case k3 => k_asm); (case k4 => k_asm); (case k5 => k_asm); (case kK => first | exact rfl | assumption); (case kd => ktr_room); (case ku => ktr_units); k_whole; intro D9 t9 e9 a9 b9 h9 tk9 F9 N9; (try dsimp only); (try k_fold)
  k_with "call ref" => k_dflt (refine' PureC.use (power_mod_spec _ _ _ _ _ _ _ _ ?b1 ?b2 ?h) ?k1 ?k2 ?k3 ?k4 ?k5 ?kK ?kd ?ku ?_); (case h => assumption); (case b1 => omega); (case b2 => omega); (case k1 => k_asm); (case k2 => k_asm); (case k3 => k_asm); (case k4 => k_asm); (case k5 => k_asm); (case kK => first | exact rfl | assumption); (case kd => ktr_room); (case ku => ktr_units); k_whole; intro t9 h9 tk9 F9 N9; (try dsimp only); (try k_fold)
  k_with "exec For Tuple Call cons nil" => (rename Fr _ _ _ _ => lF'); (with_unfolding_all refine' For_turns lF' ?_; k_whole)
  k_steps
  all_goals (refine' cb_retI hret ?_ ?_ ?_; rotate_left 1; k_asm; exact news_kept N hg' (by assumption))
  · rw [hr, if_pos (by assumption), Int.one_mul]
  · rw [hr, if_neg (by assumption), Int.one_mul]

section
variable {prog : Program} {w : World} {A : Around} {E : Value → Shared → Prop} {s : Shared} {a : Int} {t u : Tok} {Q : Value → Shared → Prop}
theorem pow_one_int (ha : -1000 ≤ a ∧ a < 1000) (h : Q (.int a s.toks) { s with toks := s.toks + 1 }) :
    wpAny (model prog w) A (binaryOp .Pow (.int a t) (.int 1 u)) Q E s :=
  pow_int_small (by decide) (by decide) (by omega) (by rw [show a ^ (1 : Int).toNat = a from Int.pow_one a]; exact h)
end
theorem jac2 (w : World) (a n p p' pw pw' r : Int) (ta tn : Tok) (C : PF2C w n p 1 p' 1) (h0 : 0 < p ∧ 0 < p') (h1 : p < 100 ∧ p' < 100) 
    (hp : pmL p 20 (Int.fmod 1 p) (Int.fmod a p) (Int.fdiv (p - 1) 2) = some pw) (hpw : 0 ≤ pw ∧ pw < 100)
    (hp' : pmL p' 20 (Int.fmod 1 p') (Int.fmod a p') (Int.fdiv (p' - 1) 2) = some pw') (hpw' : 0 ≤ pw' ∧ pw' < 100)
    (hr : r = (if pw = p - 1 then -1 else pw) * (if pw' = p' - 1 then -1 else pw')) :
    PureC w 114 [.int a ta, .int n tn] 4 (fun t => .int r t) := by
  unfold PureC
  k_fill; w_top off
  intro mean mg mb dp un gd cn cs ad ccd cl outer A₀ base h₀ L m news s Q E B F X N T hk hdp hun hret
  refine wpAny_call ?_
  k_dflt (refine' code_def0 ?k1 ?k2 ?k3 ?k5 ?kA ?kF ?kK ?k6 ?k7 ?k8 ?k9 ?kB ?_ ?c2 ?c3 ?c4 ?c5; (case kA => exact rfl); (case kF => exact rfl); (case kK => assumption); (case k1 => k_asm); (case k2 => k_asm); (case k3 => k_asm); (case k5 => k_asm); (case k6 => k_is); (case k7 => k_is); (case k8 => ktr_room); (case k9 => exact BindsTo.of_eq rfl); (case c5 => decide); (case kB => exact locs rfl); (case c2 => exact rfl); (case c3 => exact rfl); (case c4 => exact rfl); k_whole; intro g' L' h' hg' FG' F' N' B' X' T'; (try dsimp only); (try k_lift B'); (try k_fold))
  k_with_none
  k_with "call ref" => k_dflt (refine' PF2C.use C ?k1 ?k2 ?k3 ?k4 ?k5 ?kK ?kd ?ku ?_); (case k1 => k_asm); (case k2 => k_asm); (case k3 => k_asm); (case k4 => k_asm); (case k5 => k_asm); (case kK => first | exact rfl | assumption); (case kd => ktr_room); (case ku => ktr_units); k_whole; intro D9 t9 u9 e9 a9 b9 c9 d9 h9 tk9 F9 N9; (try dsimp only); (try k_fold)
  k_with "call ref" => k_dflt (refine' PureC.use (power_mod_spec _ _ _ _ _ _ _ _ ?b1 ?b2 ?h) ?k1 ?k2 ?k3 ?k4 ?k5 ?kK ?kd ?ku ?_); (case h => assumption); (case b1 => omega); (case b2 => omega); (case k1 => k_asm); (case k2 => k_asm); (case k3 => k_asm); (case k4 => k_asm); (case k5 => k_asm); (case kK => first | exact rfl | assumption); (case kd => ktr_room); (case ku => ktr_units); k_whole; intro t9 h9 tk9 F9 N9; (try dsimp only); (try k_fold)
  k_with "exec For Tuple Call cons nil" => (rename Fr _ _ _ _ => lF'); (with_unfolding_all refine' For_turns lF' ?_; k_whole)
  k_with "binaryOp Pow int int" => (with_unfolding_all refine' pow_one_int ?_ ?_; focus l_fact)
  k_steps
  all_goals (refine' cb_retI hret ?_ ?_ ?_; rotate_left 1; k_asm; exact news_kept N hg' (by assumption))
  · rw [hr, if_pos (by assumption), if_pos (by assumption), Int.one_mul] <;> first | done | rfl | decide
  · rw [hr, if_pos (by assumption), if_neg (by assumption), Int.one_mul] <;> first | done | rfl | decide
  · rw [hr, if_neg (by assumption), if_pos (by assumption), Int.one_mul] <;> first | done | rfl | decide
  · rw [hr, if_neg (by assumption), if_neg (by assumption), Int.one_mul] <;> first | done | rfl | decide
end Mine
end

section
namespace Mine

section
variable {prog : Program} {w : World} {A : Around} {E : Value → Shared → Prop} {s : Shared} {env : Env} {h₀ : Heap} {x : Str} {body : List Stmt} {Q : Flow → Shared → Prop}
theorem iter_rangeN {r : Addr} {a₀ b₀ : Int} {t₀ u₀ v₀ : Tok} {n : Nat} {m₀ : Str → Option Value} {news : List (Addr × Obj)}
    (J : Nat → (Str → Option Value) → List (Addr × Obj) → Prop)
    (hh : A.handled = none) (hr : IsRange s.heap r a₀ b₀ 1 t₀ u₀ v₀) (hsmall : Builtin.Range.small a₀ b₀ 1 = true) (hn : Builtin.Range.rangeSize a₀ b₀ 1 = (n : Int)) (F : Fr h₀ env.locals s.heap m₀) (N : News h₀ env.locals s.heap news) (hj : J 0 m₀ news)
    (turn : ∀ (i : Nat) t m₁ nx h tk own, i < n → nx.map (·.1) = news.map (·.1) → OwnOff own (news.map (·.1)) → J i m₁ nx → Fr h₀ env.locals h (fun y => if y = x then some (.int (a₀ + (i : Int)) t) else m₁ y) → News h₀ env.locals h (nx ++ own) →
      wpAny (model prog w) A (execs body env) (InvPostN h₀ env.locals (J (i + 1)) own (news.map (·.1)) { s with heap := h, toks := tk } Q) E { s with heap := h, toks := tk })
    (done : ∀ m₁ nx h tk, J n m₁ nx → Fr h₀ env.locals h m₁ → News h₀ env.locals h nx → Q .next { s with heap := h, toks := tk }) :
    wpAny (model prog w) A (pyIter (.ref r)) (fun it s₂ => LoopAtV prog w A h₀ env x body Q E it s₂) E s := by
  refine wpAny_pyIter_range hr hsmall ?_
  have W : Walks prog w A s.heap.objs.size [s.heap.objs.size] [s.heap.objs.size] n (fun i v => i < n ∧ ∃ t, v = .int (a₀ + i * 1) t)
      (fun i h => IsRangeIter h s.heap.objs.size (a₀ + (i : Nat) * 1) ((n : Int) - (i : Nat)) 1) := (Walks.range hh _ a₀ 1 n).bound
  refine loop_invN J W ?_ ?_ ?_ ?_ (by show IsRangeIter _ _ _ _ _; rw [hn]; simpa using Heap.get?_push_size _ rfl) (F.push _) (fun p hp => ⟨Heap.get?_push_of_some _ (N p hp).1, (N p hp).2⟩) hj ?_ done
  · intro hm
    exact absurd F.ns.lt ((List.mem_singleton.mp hm) ▸ Nat.lt_irrefl _)
  · intro b hb
    rw [List.mem_singleton.mp hb]
    exact next_is_new F
  · intro p hp hI
    exact absurd (Heap.lt_size (N p hp).1) ((List.mem_singleton.mp hI) ▸ Nat.lt_irrefl _)
  · intro p hp hI
    exact absurd (Heap.lt_size (N p hp).1) ((List.mem_singleton.mp hI) ▸ Nat.lt_irrefl _)
  · rintro i v m₁ nx h tk own hin ⟨_, t, rfl⟩ ha ho hJ F' N'
    exact turn i t m₁ nx h tk own hin ha ho hJ (by simpa using F') N'
end

/-- a list's items changed in one place, in the ledger -/
def updL (b : Addr) (o : Obj) (led : List (Addr × Obj)) : List (Addr × Obj) := led.map fun p => if p.1 = b then (b, o) else p
theorem updL_adr (b : Addr) (o : Obj) (led : List (Addr × Obj)) : (updL b o led).map (·.1) = led.map (·.1) := by
  unfold updL
  rw [List.map_map]
  refine List.map_congr_left fun p _ => ?_
  show (if p.1 = b then (b, o) else p).1 = p.1
  split
  · rename_i h; exact h.symm
  · rfl
theorem mem_updL_ne {b : Addr} {o : Obj} {led : List (Addr × Obj)} {p : Addr × Obj} (h : p ∈ led) (hn : p.1 ≠ b) : p ∈ updL b o led :=
  List.mem_map.mpr ⟨p, h, if_neg hn⟩
theorem mem_updL_self {b : Addr} {o o' : Obj} {led : List (Addr × Obj)} (h : (b, o') ∈ led) : (b, o) ∈ updL b o led :=
  List.mem_map.mpr ⟨_, h, if_pos rfl⟩
theorem updL_append (b : Addr) (o : Obj) (l l' : List (Addr × Obj)) : updL b o (l ++ l') = updL b o l ++ updL b o l' := List.map_append
theorem updL_off {b : Addr} {o : Obj} {led : List (Addr × Obj)} (h : ∀ p ∈ led, p.1 ≠ b) : updL b o led = led := by
  unfold updL
  conv => rhs; rw [← List.map_id led]
  exact List.map_congr_left fun p hp => if_neg (h p hp)
theorem news_updL {h₀ h h' : Heap} {L b : Addr} {o o' : Obj} {led : List (Addr × Obj)} (N : News h₀ L h led) (hm : (b, o') ∈ led) (hs : Heap.SameBut b h h') (ho : h'.get? b = some o) : News h₀ L h' (updL b o led) := by
  intro p hp
  obtain ⟨q, hq, rfl⟩ := List.mem_map.mp hp
  by_cases hb : q.1 = b
  · rw [if_pos hb]; exact ⟨ho, (N _ hm).2⟩
  · rw [if_neg hb]; exact ⟨(hs.2 _ hb).trans (N q hq).1, (N q hq).2⟩

section
variable {prog : Program} {w : World} {A : Around} {E : Value → Shared → Prop} {s : Shared} {h₀ : Heap} {L l : Addr} {m : Str → Option Value} {led : List (Addr × Obj)} {vs : List Value} {e : Nat} {k : Int} {t : Tok} {v : Value}
theorem item_led {value slice : PySem.Expr} {Q : Value → Shared → Prop} (N : News h₀ L s.heap led) (hm : (l, W.listOf vs.toArray e) ∈ led) (h0 : 0 ≤ k) (hfit : k < 2 ^ 62) (hx : vs[k.toNat]? = some v) (h : Q v s)
    (hs : subscripted slice false (.ref l) (.int k t) = operate [.ref l, .int k t] (getItem (.ref l) (.int k t)) := by with_unfolding_all rfl) :
    wpAny (model prog w) A (subscriptTail value slice (.ref l) (.int k t)) Q E s :=
  have hl : s.heap.IsList l vs.toArray := ⟨_, (N _ hm).1, rfl, e, rfl⟩
  tail_any hl.typeIs slot_list_getitem.lookup (wpAny_getItem_list hl h0 (by omega) (by simpa using hx) h) hs
theorem item_base {value slice : PySem.Expr} {Q : Value → Shared → Prop} (F : Fr h₀ L s.heap m) (hl₀ : h₀.IsList l vs.toArray) (h0 : 0 ≤ k) (hfit : k < 2 ^ 62) (hx : vs[k.toNat]? = some v) (h : Q v s)
    (hs : subscripted slice false (.ref l) (.int k t) = operate [.ref l, .int k t] (getItem (.ref l) (.int k t)) := by with_unfolding_all rfl) :
    wpAny (model prog w) A (subscriptTail value slice (.ref l) (.int k t)) Q E s :=
  have hl : s.heap.IsList l vs.toArray := hl₀.at fun o e => F.keep l o e
  tail_any hl.typeIs slot_list_getitem.lookup (wpAny_getItem_list hl h0 (by omega) (by simpa using hx) h) hs
theorem set_led {Q : Unit → Shared → Prop} (F : Fr h₀ L s.heap m) (N : News h₀ L s.heap led) (hm : (l, W.listOf vs.toArray e) ∈ led) (h0 : 0 ≤ k) (hfit : k < 2 ^ 62) (hn : k.toNat < vs.length)
    (h : ∀ h', Fr h₀ L h' m → News h₀ L h' (updL l (W.listOf (vs.set k.toNat v).toArray e) led) → Q () { s with heap := h' }) :
    wpAny (model prog w) A (setItem (.ref l) (.int k t) v) Q E s := by
  have z := N _ hm
  refine ki_setAt z.1 h0 (by omega) (by simp; omega) (h _ (F.change (Heap.SameBut.update ..) z.2.1 z.2.2) (news_updL N hm (Heap.SameBut.update ..) ?_))
  have q := PySem.IsL.update z.1 (·.setIfInBounds k.toNat v)
  rw [q]
  simp
theorem len_base {Q : Value → Shared → Prop} (F : Fr h₀ L s.heap m) (hl₀ : h₀.IsList l vs.toArray) (hfit : vs.length < 2 ^ 62) (h : Q (.int (vs.length : Nat) (s.toks + 1)) { s with toks := s.toks + 1 + 1 }) :
    wpAny (model prog w) A (call (.builtin "len") [.ref l]) Q E s :=
  Calls.call_len_list (hl₀.at fun o e => F.keep l o e) (by simp; omega) (by simpa using h)
theorem len_led {Q : Value → Shared → Prop} (N : News h₀ L s.heap led) (hm : (l, W.listOf vs.toArray e) ∈ led) (hfit : vs.length < 2 ^ 62) (h : Q (.int (vs.length : Nat) (s.toks + 1)) { s with toks := s.toks + 1 + 1 }) :
    wpAny (model prog w) A (call (.builtin "len") [.ref l]) Q E s :=
  Calls.call_len_list ⟨_, (N _ hm).1, rfl, e, rfl⟩ (by simp; omega) (by simpa using h)
end

theorem ints_get {vs : List Value} {ns : List Int} (h : IntsAre vs ns) {i : Nat} {x : Int} (hx : ns[i]? = some x) : ∃ t, vs[i]? = some (.int x t) := h.get i x hx

/-- a matrix that stands in a heap -/
def MatH (a : Addr) (bs : List Addr) (M : List (List Int)) (h : Heap) : Prop :=
  h.IsList a (bs.map Value.ref).toArray ∧ bs.length = M.length ∧ ∀ (i : Nat) b ns, bs[i]? = some b → M[i]? = some ns → ∃ vs, h.IsList b vs.toArray ∧ IntsAre vs ns
theorem MatH.mono {a : Addr} {bs : List Addr} {M : List (List Int)} {h g : Heap} (x : MatH a bs M h) (k : ∀ b o, h.get? b = some o → g.get? b = some o) : MatH a bs M g :=
  ⟨x.1.at fun o e => k a o e, x.2.1, fun i b ns hb hn => let ⟨vs, hl, hi⟩ := x.2.2 i b ns hb hn; ⟨vs, hl.at fun o e => k b o e, hi⟩⟩
/-- a matrix in the ledger -/
def MatL (a : Addr) (bs : List Addr) (M : List (List Int)) (led : List (Addr × Obj)) : Prop :=
  (∃ e, (a, W.listOf (bs.map Value.ref).toArray e) ∈ led) ∧ bs.length = M.length ∧ a ∉ bs ∧ bs.Nodup ∧ ∀ (i : Nat) b ns, bs[i]? = some b → M[i]? = some ns → ∃ vs e, (b, W.listOf vs.toArray e) ∈ led ∧ IntsAre vs ns
theorem MatL.heap {a : Addr} {bs : List Addr} {M : List (List Int)} {led : List (Addr × Obj)} {h₀ h : Heap} {L : Addr} (x : MatL a bs M led) (N : News h₀ L h led) : MatH a bs M h :=
  ⟨let ⟨e, hm⟩ := x.1; ⟨_, (N _ hm).1, rfl, e, rfl⟩, x.2.1, fun i b ns hb hn => let ⟨vs, e, hm, hi⟩ := x.2.2.2.2 i b ns hb hn; ⟨vs, ⟨_, (N _ hm).1, rfl, e, rfl⟩, hi⟩⟩
theorem MatL.sub {a : Addr} {bs : List Addr} {M : List (List Int)} {led led' : List (Addr × Obj)} (x : MatL a bs M led) (h : ∀ p ∈ led, p ∈ led') : MatL a bs M led' :=
  ⟨let ⟨e, hm⟩ := x.1; ⟨e, h _ hm⟩, x.2.1, x.2.2.1, x.2.2.2.1, fun i b ns hb hn => let ⟨vs, e, hm, hi⟩ := x.2.2.2.2 i b ns hb hn; ⟨vs, e, h _ hm, hi⟩⟩
theorem MatL.set {a : Addr} {bs : List Addr} {M : List (List Int)} {led : List (Addr × Obj)} {i : Nat} {b : Addr} {ns : List Int} {vs : List Value} {e : Nat} (x : MatL a bs M led) (hb : bs[i]? = some b) (hn : M[i]? = some ns) (hi : IntsAre vs ns) :
    MatL a bs M (updL b (W.listOf vs.toArray e) led) := by
  obtain ⟨⟨e₀, hm⟩, hlen, hab, hnd, hr⟩ := x
  refine ⟨⟨e₀, mem_updL_ne hm fun q => hab (by have q' : a = b := q; rw [q']; exact List.mem_of_getElem? hb)⟩, hlen, hab, hnd, fun j c ms hc hms => ?_⟩
  obtain ⟨vs', e', hm', hi'⟩ := hr j c ms hc hms
  by_cases hcb : c = b
  · subst hcb
    have hji : j = i := by
      obtain ⟨hj, ej⟩ := List.getElem?_eq_some_iff.mp hc
      obtain ⟨hi2, ei⟩ := List.getElem?_eq_some_iff.mp hb
      exact (List.getElem_inj hnd).mp (ej.trans ei.symm)
    subst hji
    rw [hn] at hms
    cases hms
    exact ⟨vs, e, mem_updL_self hm', hi⟩
  · exact ⟨vs', e', mem_updL_ne hm' hcb, hi'⟩

def PureH (w : World) (f : Addr) (vs : List Value) (dn : Nat) (Pre : Heap → Prop) (R : Tok → Value) : Prop :=
  ∀ (mean : ExcName → Option Value) (mg mb : Str → Option Value) (dp un : Nat) (gd : Option (List Code)) (cn : Str) (cs : Scope) (a : Addr) (ccd : Value) (cl : List (Str × Addr)) (outer : List Env) (A₀ : Around) (base h₀ : Heap) (L : Addr) (m : Str → Option Value) (news : List (Addr × Obj)) (s : Shared) (Q E : Value → Shared → Prop),
    Below A₀ base outer h₀ → Fr h₀ L s.heap m → (hd.heap_39 w.params).In h₀ → News h₀ L s.heap news → Top hd.view_39 (looseW hd.view_39 []) mean mg mb h₀ → cs.kind = .function →
    dp + dn < recursionLimit → un + 8 * dn < cLine → Pre s.heap →
    (∀ (t : Tok) (h' : Heap) (tk' : Nat), Fr h₀ L h' m → News h₀ L h' news → Q (R t) { s with heap := h', toks := tk' }) →
    wpAny (model PySem.Challenge.rw_tk0025_01.row.prog w) (ktrTop dp un gd cn cs L a ccd cl outer) (call (.ref f) vs) Q E s
theorem PureH.use {w : World} {f : Addr} {vs : List Value} {dn : Nat} {Pre : Heap → Prop} {R : Tok → Value} (C : PureH w f vs dn Pre R)
    {mean : ExcName → Option Value} {mg mb : Str → Option Value} {dp un : Nat} {gd : Option (List Code)} {cn : Str} {cs : Scope} {a : Addr} {ccd : Value} {cl : List (Str × Addr)} {outer : List Env} {A₀ : Around} {base h₀ : Heap} {L : Addr} {m : Str → Option Value} {news : List (Addr × Obj)} {s : Shared} {Q E : Value → Shared → Prop}
    (B : Below A₀ base outer h₀) (F : Fr h₀ L s.heap m) (X : (hd.heap_39 w.params).In h₀) (N : News h₀ L s.heap news) (T : Top hd.view_39 (looseW hd.view_39 []) mean mg mb h₀) (hk : cs.kind = .function)
    (hd : dp + dn < recursionLimit) (hu : un + 8 * dn < cLine) (hp : Pre s.heap)
    (ret : ∀ (t : Tok) (h' : Heap) (tk' : Nat), Fr h₀ L h' m → News h₀ L h' news → Q (R t) { s with heap := h', toks := tk' }) :
    wpAny (model PySem.Challenge.rw_tk0025_01.row.prog w) (ktrTop dp un gd cn cs L a ccd cl outer) (call (.ref f) vs) Q E s :=
  C mean mg mb dp un gd cn cs a ccd cl outer A₀ base h₀ L m news s Q E B F X N T hk hd hu hp ret
end Mine
end

section
namespace Mine

theorem kst_map {ps : List (Str × Value)} {stored : List Str} {m₀ m₁ : Str → Option Value} (h1 : ∀ p ∈ ps, m₁ p.1 = some p.2) (h2 : ∀ z, (∀ p ∈ ps, z ≠ p.1) → stored.contains z = false → m₁ z = m₀ z) :
    m₁ = kstB (fun z => if stored.contains z then m₁ z else m₀ z) ps := by
  funext y
  refine (kstB_eq h1 fun hn => ?_).symm
  show (if stored.contains y = true then m₁ y else m₀ y) = m₁ y
  cases h3 : stored.contains y with
  | true => simp
  | false => simp only [Bool.false_eq_true, if_false]; exact (h2 y hn h3).symm

section
variable {prog : Program} {w : World} {A : Around} {E : Value → Shared → Prop} {s : Shared} {env : Env} {h₀ : Heap} {x : Str} {body : List Stmt} {Q : Flow → Shared → Prop}
theorem iter_rangeP {σ : Type} {r : Addr} {a₀ b₀ : Int} {t₀ u₀ v₀ : Tok} {n : Nat} {m₀ : Str → Option Value} {news : List (Addr × Obj)}
    (ps : σ → List (Str × Value)) (st : List Str) (J : Nat → σ → List (Addr × Obj) → Prop) (c₀ : σ)
    (hh : A.handled = none) (hr : IsRange s.heap r a₀ b₀ 1 t₀ u₀ v₀) (hsmall : Builtin.Range.small a₀ b₀ 1 = true) (hn : Builtin.Range.rangeSize a₀ b₀ 1 = (n : Int)) (F : Fr h₀ env.locals s.heap m₀) (N : News h₀ env.locals s.heap news)
    (hj : J 0 c₀ news) (hps : ∀ p ∈ ps c₀, m₀ p.1 = some p.2)
    (turn : ∀ (i : Nat) t c (u : Str → Option Value) nx h tk own, i < n → nx.map (·.1) = news.map (·.1) → OwnOff own (news.map (·.1)) → J i c nx →
      Fr h₀ env.locals h (fun y => if y = x then some (.int (a₀ + (i : Int)) t) else kstB (fun z => if st.contains z then u z else m₀ z) (ps c) y) → News h₀ env.locals h (nx ++ own) →
      wpAny (model prog w) A (execs body env) (InvPostN h₀ env.locals (fun m' nx' => ∃ c', J (i + 1) c' nx' ∧ (∀ p ∈ ps c', m' p.1 = some p.2) ∧ ∀ z, (∀ p ∈ ps c', z ≠ p.1) → st.contains z = false → m' z = m₀ z) own (news.map (·.1)) { s with heap := h, toks := tk } Q) E { s with heap := h, toks := tk })
    (done : ∀ c (u : Str → Option Value) nx h tk, J n c nx → Fr h₀ env.locals h (kstB (fun z => if st.contains z then u z else m₀ z) (ps c)) → News h₀ env.locals h nx → Q .next { s with heap := h, toks := tk }) :
    wpAny (model prog w) A (pyIter (.ref r)) (fun it s₂ => LoopAtV prog w A h₀ env x body Q E it s₂) E s := by
  refine iter_rangeN (fun i m nx => ∃ c, J i c nx ∧ (∀ p ∈ ps c, m p.1 = some p.2) ∧ ∀ z, (∀ p ∈ ps c, z ≠ p.1) → st.contains z = false → m z = m₀ z) hh hr hsmall hn F N ⟨c₀, hj, hps, fun _ _ _ => rfl⟩ ?_ ?_
  · rintro i t m₁ nx h tk own hi ha ho ⟨c, hJ, h1, h2⟩ F' N'
    refine turn i t c m₁ nx h tk own hi ha ho hJ ?_ N'
    rw [← kst_map h1 h2]
    exact F'
  · rintro m₁ nx h tk ⟨c, hJ, h1, h2⟩ F' N'
    refine done c m₁ nx h tk hJ ?_ N'
    rw [← kst_map h1 h2]
    exact F'
end

/-- the first row from r on whose place c is not 0 -/
def pivF (M : List (List Int)) (c : Nat) : Nat → Nat → Option Nat
  | 0, _ => none
  | f + 1, r => if (M.getD r []).getD c 0 = 0 then pivF M c f (r + 1) else some r
def pivV (o : Option Nat) (t : Tok) : Value := match o with
  | some r => .int (r : Int) t
  | none => .none

theorem getElem?_some {α : Type} {l : List α} {i : Nat} (h : i < l.length) : ∃ x, l[i]? = some x := ⟨l[i], List.getElem?_eq_getElem h⟩
theorem getD_of {l : List Int} {i : Nat} {x : Int} (h : l[i]? = some x) : l.getD i 0 = x := by rw [List.getD_eq_getElem?_getD, h]; rfl
theorem getD_of' {l : List (List Int)} {i : Nat} {x : List Int} (h : l[i]? = some x) : l.getD i [] = x := by rw [List.getD_eq_getElem?_getD, h]; rfl
theorem refs_get {bs : List Addr} {i : Nat} {b : Addr} (h : bs[i]? = some b) : (bs.map Value.ref)[i]? = some (.ref b) := by rw [List.getElem?_map, h]; rfl

theorem matH_at {a : Addr} {bs : List Addr} {M : List (List Int)} {h : Heap} {k : Nat} (x : MatH a bs M h) (hk : M.length = k) (hrow : ∀ ns ∈ M, ns.length = k) {r c : Int} (hr : r.toNat < k) (hc : c.toNat < k) :
    ∃ (b : Addr) (vs : List Value) (e : Int) (t : Tok), (bs.map Value.ref)[r.toNat]? = some (.ref b) ∧ h.IsList b vs.toArray ∧ vs[c.toNat]? = some (.int e t) ∧ e = (M.getD r.toNat []).getD c.toNat 0 := by
  obtain ⟨b, hb⟩ := getElem?_some (l := bs) (i := r.toNat) (by rw [x.2.1, hk]; exact hr)
  obtain ⟨ns, hn⟩ := getElem?_some (l := M) (i := r.toNat) (by rw [hk]; exact hr)
  obtain ⟨vs, hl, hi⟩ := x.2.2 _ b ns hb hn
  obtain ⟨e, he⟩ := getElem?_some (l := ns) (i := c.toNat) (by rw [hrow ns (List.mem_of_getElem? hn)]; exact hc)
  obtain ⟨t, ht⟩ := ints_get hi he
  exact ⟨b, vs, e, t, refs_get hb, hl, ht, by rw [getD_of' hn, getD_of he]⟩

theorem pivF_no {M : List (List Int)} {c f r : Nat} {o : Option Nat} (h : pivF M c (f + 1) r = o) (hz : (M.getD r []).getD c 0 = 0) : pivF M c f (r + 1) = o := by
  rw [pivF, if_pos hz] at h; exact h
theorem pivF_yes {M : List (List Int)} {c f r : Nat} {o : Option Nat} (h : pivF M c (f + 1) r = o) (hz : ¬ (M.getD r []).getD c 0 = 0) : o = some r := by
  rw [pivF, if_neg hz] at h; exact h.symm

theorem piv_no {M : List (List Int)} {st : Int} {k i : Nat} {o : Option Nat} (h0 : 0 ≤ st) (hi : i < ((k : Int) - st).toNat) (h : pivF M st.toNat (k - st.toNat - i) (st.toNat + i) = o)
    {e : Int} (he : e = (M.getD (st + (i : Int)).toNat []).getD st.toNat 0) (hz : e = 0) : pivF M st.toNat (k - st.toNat - (i + 1)) (st.toNat + (i + 1)) = o := by
  have e1 : k - st.toNat - i = (k - st.toNat - (i + 1)) + 1 := by omega
  have e2 : (st + (i : Int)).toNat = st.toNat + i := by omega
  rw [e1] at h; rw [e2, hz] at he
  exact pivF_no h he.symm
theorem piv_yes {M : List (List Int)} {st : Int} {k i : Nat} {o : Option Nat} (h0 : 0 ≤ st) (hi : i < ((k : Int) - st).toNat) (h : pivF M st.toNat (k - st.toNat - i) (st.toNat + i) = o)
    {e : Int} (he : e = (M.getD (st + (i : Int)).toNat []).getD st.toNat 0) (hz : ¬ e = 0) (t : Tok) : Value.int (st + (i : Int)) t = pivV o t := by
  have e1 : k - st.toNat - i = (k - st.toNat - (i + 1)) + 1 := by omega
  have e2 : (st + (i : Int)).toNat = st.toNat + i := by omega
  rw [e1] at h; rw [e2] at he
  rw [pivF_yes h (fun q => hz (he.trans q))]
  show Value.int (st + (i : Int)) t = .int ((st.toNat + i : Nat) : Int) t
  rw [show st + (i : Int) = ((st.toNat + i : Nat) : Int) by omega]
theorem piv_done {M : List (List Int)} {st : Int} {k : Nat} {o : Option Nat} (h0 : 0 ≤ st) (h : pivF M st.toNat (k - st.toNat - ((k : Int) - st).toNat) (st.toNat + ((k : Int) - st).toNat) = o) (t : Tok) : Value.none = pivV o t := by
  have e1 : k - st.toNat - ((k : Int) - st).toNat = 0 := by omega
  rw [e1, pivF] at h
  rw [← h]; rfl
theorem ret_val {h₀ h' : Heap} {L : Addr} {m : Str → Option Value} {news : List (Addr × Obj)} {s : Shared} {Q : Value → Shared → Prop} {v : Value} {tk' : Nat} {R : Tok → Value}
    (hret : ∀ (t : Tok) (h' : Heap) (tk' : Nat), Fr h₀ L h' m → News h₀ L h' news → Q (R t) { s with heap := h', toks := tk' }) (t : Tok) (e : v = R t) (F : Fr h₀ L h' m) (N : News h₀ L h' news) : Q v { s with heap := h', toks := tk' } := by
  rw [e]
  exact hret t h' tk' F N

local macro_rules | `(tactic| walk_at $s:str) => `(tactic| k_extra $s)

theorem pivot_spec (w : World) (a : Addr) (bs : List Addr) (M : List (List Int)) (st : Int) (ts : Tok) (k : Nat) (o : Option Nat)
    (hk : M.length = k) (hk1 : k < 100) (hrow : ∀ ns ∈ M, ns.length = k) (h0 : 0 ≤ st) (h1 : st < k) (h : pivF M st.toNat (k - st.toNat) st.toNat = o) :
    PureH w 41 [.ref a, .int st ts] 1 (MatH a bs M) (fun t => pivV o t) := by
  unfold PureH
  k_fill; w_top off
  intro mean mg mb dp un gd cn cs ad ccd cl outer A₀ base h₀ L m news s Q E B F X N T hkf hdp hun hmat hret
  refine wpAny_call ?_
  k_dflt (refine' code_def0 ?k1 ?k2 ?k3 ?k5 ?kA ?kF ?kK ?k6 ?k7 ?k8 ?k9 ?kB ?_ ?c2 ?c3 ?c4 ?c5; (case kA => exact rfl); (case kF => exact rfl); (case kK => assumption); (case k1 => k_asm); (case k2 => k_asm); (case k3 => k_asm); (case k5 => k_asm); (case k6 => k_is); (case k7 => k_is); (case k8 => ktr_room); (case k9 => exact BindsTo.of_eq rfl); (case c5 => decide); (case kB => exact locs rfl); (case c2 => exact rfl); (case c3 => exact rfl); (case c4 => exact rfl); k_whole; intro g' L' h' hg' FG' F' N' B' X' T'; (try dsimp only); (try k_lift B'); (try k_fold))
  k_with_none
  have hM := hmat.mono hg'
  have hA := hM.1
  have hlen : (bs.map Value.ref).length = k := by rw [List.length_map, hM.2.1, hk]
  have hbl : bs.length = k := hM.2.1.trans hk
  k_with "call builtin:len" => k_dflt (refine' len_base ?k1 ?k2 ?k3 ?_; (case k1 => k_asm); (case k2 => k_asm); (case k3 => omega); k_whole; try rw [hlen])
  k_with "exec For Name Call cons nil" => (k_here; (rename Fr _ _ _ _ => lF'); (with_unfolding_all refine' For_invVF lF' ?k1 ?k2 ?_; (case k1 => exact rfl); (case k2 => exact rfl); k_whole))
  k_with "pyIter ref" => ((rename Fr _ _ _ _ => lF'); (rename News _ _ _ _ => lN'); (rename IsRange _ _ _ _ _ _ _ _ => rgX); (with_unfolding_all refine' iter_rangeP (σ := Unit) (fun _ => []) [Str.ofString "row"] (fun i _ _ => pivF M st.toNat (k - st.toNat - i) (st.toNat + i) = o) () (by rfl) rgX (small_one (by omega) (by omega) (by omega) (by omega)) (rangeSize_nat _ _) lF' lN' ?kj ?kp ?_ ?_); (case kj => simpa using h); (case kp => exact fun p hp => nomatch hp); (all_goals (try clear lF' lN')); (intro i' t' c' u' nx' hh' tk' own' hi' ha' ho' hJ' F' N'; obtain ⟨b9, vs9, e9, t9, hb9, hl9, hv9, he9⟩ := matH_at hM hk hrow (r := st + (i' : Int)) (c := st) (by omega) (by omega); try dsimp only [kstB] at F'; try k_fold); rotate_left 1; (intro c' u' nx' hh' tk' hJ' F' N'; try dsimp only [kstB] at F'; try k_fold); rotate_right 1)
  k_with "subscriptTail" => k_dflt (refine' item_base ?k1 ?k2 ?k3 ?k4 ?k5 ?_ ?k6; (case k1 => k_asm); (case k2 => k_asm); (case k3 => omega); (case k4 => omega); (case k5 => k_asm); (case k6 => with_unfolding_all rfl))
  k_with "InvEndN" => (refine InvEndN.intro (by assumption) (by assumption) ⟨(), piv_no h0 hi' hJ' he9 (by omega), (fun p hp => nomatch hp), by ksw_same⟩ ha' (fun p hp => List.mem_append_left _ hp) (fun p hp => List.mem_append_right _ hp))
  k_steps
  all_goals first
    | exact ret_val hret 0 (piv_done h0 (by assumption) 0) (by k_asm) (news_kept N hg' (by assumption))
    | exact ret_val hret _ (piv_yes h0 hi' hJ' he9 (by omega) _) (by k_asm) (news_kept N hg' (by assumption))
end Mine
end

section
namespace Mine

theorem split_adr {l l1 l2 : List (Addr × Obj)} (h : l.map (·.1) = (l1 ++ l2).map (·.1)) : ∃ a b, l = a ++ b ∧ a.map (·.1) = l1.map (·.1) ∧ b.map (·.1) = l2.map (·.1) := by
  refine ⟨l.take l1.length, l.drop l1.length, (List.take_append_drop _ _).symm, ?_, ?_⟩
  · rw [List.map_take, h, List.map_append, List.take_left' (by simp)]
  · rw [List.map_drop, h, List.map_append, List.drop_left' (by simp)]
theorem MatL.part {a : Addr} {bs : List Addr} {M : List (List Int)} {l1 l2 : List (Addr × Obj)} (x : MatL a bs M (l1 ++ l2)) (h : ∀ p ∈ l2, p.1 ≠ a ∧ p.1 ∉ bs) : MatL a bs M l1 := by
  obtain ⟨⟨e, hm⟩, hlen, hab, hnd, hr⟩ := x
  refine ⟨⟨e, (List.mem_append.mp hm).resolve_right fun q => (h _ q).1 rfl⟩, hlen, hab, hnd, fun i b ns hb hn => ?_⟩
  obtain ⟨vs, e', hm', hi⟩ := hr i b ns hb hn
  exact ⟨vs, e', (List.mem_append.mp hm').resolve_right fun q => (h _ q).2 (List.mem_of_getElem? hb), hi⟩
theorem MatL.adr {a : Addr} {bs : List Addr} {M : List (List Int)} {led : List (Addr × Obj)} (x : MatL a bs M led) {b : Addr} (hb : b ∈ bs) : b ∈ led.map (·.1) := by
  obtain ⟨i, hi⟩ := List.getElem?_of_mem hb
  obtain ⟨ns, hn⟩ := getElem?_some (l := M) (i := i) (by rw [← x.2.1]; exact (List.getElem?_eq_some_iff.mp hi).1)
  obtain ⟨vs, e, hm, _⟩ := x.2.2.2.2 i b ns hi hn
  exact List.mem_map.mpr ⟨_, hm, rfl⟩
theorem MatL.adrA {a : Addr} {bs : List Addr} {M : List (List Int)} {led : List (Addr × Obj)} (x : MatL a bs M led) : a ∈ led.map (·.1) :=
  let ⟨_, hm⟩ := x.1; List.mem_map.mpr ⟨_, hm, rfl⟩

theorem matL_at {a : Addr} {bs : List Addr} {M : List (List Int)} {led : List (Addr × Obj)} {k : Nat} (x : MatL a bs M led) (hk : M.length = k) (hrow : ∀ ns ∈ M, ns.length = k) {r c : Int} (hr : r.toNat < k) (hc : c.toNat < k) :
    ∃ (b : Addr) (ns : List Int) (vs : List Value) (e : Nat) (y : Int) (t : Tok), bs[r.toNat]? = some b ∧ (bs.map Value.ref)[r.toNat]? = some (.ref b) ∧ M[r.toNat]? = some ns ∧ IntsAre vs ns ∧ (b, W.listOf vs.toArray e) ∈ led ∧ vs[c.toNat]? = some (.int y t) ∧ ns[c.toNat]? = some y ∧ y = (M.getD r.toNat []).getD c.toNat 0 := by
  obtain ⟨b, hb⟩ := getElem?_some (l := bs) (i := r.toNat) (by rw [x.2.1, hk]; exact hr)
  obtain ⟨ns, hn⟩ := getElem?_some (l := M) (i := r.toNat) (by rw [hk]; exact hr)
  obtain ⟨vs, e, hl, hi⟩ := x.2.2.2.2 _ b ns hb hn
  obtain ⟨y, he⟩ := getElem?_some (l := ns) (i := c.toNat) (by rw [hrow ns (List.mem_of_getElem? hn)]; exact hc)
  obtain ⟨t, ht⟩ := ints_get hi he
  exact ⟨b, ns, vs, e, y, t, hb, refs_get hb, hn, hi, hl, ht, he, by rw [getD_of' hn, getD_of he]⟩
theorem ints_set' : ∀ {vs : List Value} {ns : List Int}, IntsAre vs ns → ∀ {j : Nat} {x : Int} {u : Tok}, ns[j]? = some x → IntsAre (vs.set j (.int x u)) ns
  | _, _, .nil, j, _, _, h => by simp at h
  | _, _, .cons i t r, 0, x, u, h => by
    have e : i = x := by simpa using h
    subst e
    exact .cons i u r
  | _, _, .cons i t r, j + 1, x, u, h => .cons i t (ints_set' r (by simpa using h))

/-- what a step in a matrix of 0 and 1 whose column is out already asks -/
def StepOk (M : List (List Int)) (k st : Nat) : Prop :=
  M.length = k ∧ (∀ ns ∈ M, ns.length = k) ∧ (∀ r c : Nat, 0 ≤ (M.getD r []).getD c 0 ∧ (M.getD r []).getD c 0 ≤ 1) ∧ (M.getD st []).getD st 0 = 1 ∧ ∀ r, st < r → (M.getD r []).getD st 0 = 0

theorem outer_end {h₀ h : Heap} {L a bX : Addr} {o : Obj} {bs : List Addr} {M : List (List Int)} {led nx own nx2 : List (Addr × Obj)} (_N : News h₀ L h (updL bX o nx2)) (hX : MatL a bs M (updL bX o nx2)) (hbX : bX ∈ bs) (hM : MatL a bs M led)
    (ho : OwnOff own (led.map (·.1))) (hJ0 : nx.map (·.1) = led.map (·.1)) (hJ2 : ∀ p ∈ led, p.1 ∉ bs → p ∈ nx) (hJ5 : ∀ p ∈ nx ++ own, p.1 ∉ bs → p ∈ nx2) (hJ6 : nx2.map (·.1) = (nx ++ own).map (·.1)) :
    ∃ xa, (∀ p ∈ xa, p ∈ updL bX o nx2) ∧ (∀ p ∈ own, p ∈ updL bX o nx2) ∧ xa.map (·.1) = led.map (·.1) ∧ MatL a bs M xa ∧ ∀ p ∈ led, p.1 ∉ bs → p ∈ xa := by
  obtain ⟨xa, xb, e9, h9a, h9b⟩ := split_adr (l1 := nx) (l2 := own) ((updL_adr bX o nx2).trans hJ6)
  have hOb : ∀ p ∈ own, p.1 ≠ a ∧ p.1 ∉ bs := fun p hp => ⟨ho p hp a hM.adrA, fun q => ho p hp _ (hM.adr q) rfl⟩
  have hkeep : ∀ p ∈ nx ++ own, p.1 ∉ bs → p ∈ updL bX o nx2 := fun p hp hb => mem_updL_ne (hJ5 p hp hb) fun q => hb (by rw [q]; exact hbX)
  rw [e9] at hX hkeep ⊢
  have hxb : ∀ p ∈ xb, ∃ q ∈ own, q.1 = p.1 := fun p hp => List.mem_map.mp (h9b ▸ List.mem_map_of_mem hp)
  refine ⟨xa, fun p hp => List.mem_append_left _ hp, fun p hp => hkeep p (List.mem_append_right _ hp) (hOb p hp).2, h9a.trans hJ0, hX.part fun p hp => ?_, fun p hp hb => ?_⟩
  · obtain ⟨q, hq, e⟩ := hxb p hp
    rw [← e]
    exact hOb q hq
  · refine (List.mem_append.mp (hkeep p (List.mem_append_left _ (hJ2 p hp hb)) hb)).resolve_right fun q => ?_
    obtain ⟨q', hq', e⟩ := hxb p q
    exact ho q' hq' p.1 (List.mem_map_of_mem hp) e

def Stuck (p : Prop) : Prop := p
theorem stuck {p : Prop} (h : Stuck p) : p := h

local macro_rules | `(tactic| walk_at $s:str) => `(tactic| k_extra $s)
theorem step_spec (w : World) (a : Addr) (bs : List Addr) (M : List (List Int)) (st : Int) (ts ta : Tok) (k : Nat) (hk1 : k < 100) (h0 : 0 ≤ st) (h1 : st < k) (hS : StepOk M k st.toNat)
    (mean : ExcName → Option Value) (mg mb : Str → Option Value) (dp un : Nat) (gd : Option (List Code)) (cn : Str) (cs : Scope) (ad : Addr) (ccd : Value) (cl : List (Str × Addr)) (outer : List Env) (A₀ : Around) (base h₀ : Heap) (L : Addr) (m : Str → Option Value) (led : List (Addr × Obj)) (s : Shared) (Q E : Value → Shared → Prop)
    (B : Below A₀ base outer h₀) (F : Fr h₀ L s.heap m) (X : (hd.heap_39 w.params).In h₀) (N : News h₀ L s.heap led) (T : Top hd.view_39 (looseW hd.view_39 []) mean mg mb h₀) (hkf : cs.kind = .function)
    (hdp : dp + 1 < recursionLimit) (hun : un + 8 * 1 < cLine) (hM : MatL a bs M led)
    (hret : ∀ (led' : List (Addr × Obj)) (h' : Heap) (tk' : Nat), Fr h₀ L h' m → News h₀ L h' led' → MatL a bs M led' → led'.map (·.1) = led.map (·.1) → (∀ p ∈ led, p.1 ∉ bs → p ∈ led') → Q .none { s with heap := h', toks := tk' }) :
    wpAny (model PySem.Challenge.rw_tk0025_01.row.prog w) (ktrTop dp un gd cn cs L ad ccd cl outer) (call (.ref 48) [.ref a, .int st ts, .int 1 ta]) Q E s := by
  revert X; k_fill; intro X; w_top off
  obtain ⟨hk, hrow, hbd, hlead, hcol⟩ := hS
  refine wpAny_call ?_
  k_dflt cell_enter
  k_with_none
  have hlen : (bs.map Value.ref).length = k := by rw [List.length_map, hM.2.1, hk]
  obtain ⟨eA, hA⟩ := hM.1
  obtain ⟨bL, nsL, vsL, eL, yL, tL, hbL, hrL, hnL, hiL, hmL, hvL, hyL, heL⟩ := matL_at hM hk hrow (r := st) (c := st) (by omega) (by omega)
  rw [hlead] at heL
  subst heL
  k_with "call builtin:len" => k_dflt (refine' len_led ?k1 ?k2 ?k3 ?_; (case k1 => k_asm); (case k2 => k_asm); (case k3 => omega); k_whole; (try rw [hlen]); (try dsimp only))
  k_with "exec For Name Call cons nil" => (k_here; (rename Fr _ _ _ _ => lF'); (with_unfolding_all refine' For_invVF lF' ?k1 ?k2 ?_; (case k1 => exact rfl); (case k2 => exact rfl); k_whole))
  k_with "subscriptTail" => k_dflt (refine' item_led ?k1 ?k2 ?k3 ?k4 ?k5 ?_ ?k6; (case k1 => k_asm); (case k2 => k_asm); (case k3 => omega); (case k4 => omega); (case k5 => k_asm); (case k6 => with_unfolding_all rfl); (try dsimp only))
  k_with "pyIter ref" => ((rename Fr _ _ _ _ => lF'); (rename News _ _ _ _ => lN'); (rename IsRange _ _ _ _ _ _ _ _ => rgX); (with_unfolding_all refine' iter_rangeP (σ := Unit) (fun _ => []) [Str.ofString "row", Str.ofString "first", Str.ofString "column"] (fun _ _ nx => MatL a bs M nx ∧ (∀ p ∈ led, p.1 ∉ bs → p ∈ nx) ∧ nx.map (·.1) = led.map (·.1)) () (by rfl) rgX (small_one (by omega) (by omega) (by omega) (by omega)) (rangeSize_nat _ _) lF' lN' ?kj ?kp ?_ ?_); (case kj => exact ⟨hM, (fun p hp _ => hp), rfl⟩); (case kp => exact fun p hp => nomatch hp); (all_goals (try clear lF' lN')); (intro i' t' c' u' nx' hh' tk' own' hi' ha' ho' hJ' F' N'; try dsimp only [kstB] at F'; obtain ⟨hJ1, hJ2, hJ0⟩ := hJ'; have hJa := hJ1.sub (fun p hp => List.mem_append_left own' hp); obtain ⟨eB, hB⟩ := hJa.1; obtain ⟨bR, nsR, vsR, eR, yR, tR, hbR, hrR, hnR, hiR, hmR, hvR, hyR, heR⟩ := matL_at hJa hk hrow (r := st + 1 + (i' : Int)) (c := st) (by omega) (by omega); rw [hcol _ (by omega)] at heR; subst heR; try k_fold); rotate_left 1; (intro c' u' nx' hh' tk' hJ' F' N'; try dsimp only [kstB] at F'; try k_fold); rotate_right 1)
  k_with "pyIter ref" => ((rename Fr _ _ _ _ => lF'); (rename News _ _ _ _ => lN'); (rename IsRange _ _ _ _ _ _ _ _ => rgX); (with_unfolding_all refine' iter_rangeP (σ := Unit) (fun _ => []) [Str.ofString "column"] (fun _ _ nx => MatL a bs M nx ∧ (∀ p ∈ nx' ++ own', p.1 ∉ bs → p ∈ nx) ∧ nx.map (·.1) = (nx' ++ own').map (·.1)) () (by rfl) rgX (small_one (by omega) (by omega) (by omega) (by omega)) (rangeSize_nat _ _) lF' lN' ?kj ?kp ?_ ?_); (case kj => exact ⟨hJa, (fun p hp _ => hp), rfl⟩); (case kp => exact fun p hp => nomatch hp); (all_goals (try clear lF' lN')); (intro i2 t2 c2 u2 nx2 hh2 tk2 own2 hi2 ha2 ho2 hJ3 F2 N2; try dsimp only [kstB] at F2; obtain ⟨hJ4, hJ5, hJ6⟩ := hJ3; have hJb := hJ4.sub (fun p hp => List.mem_append_left own2 hp); obtain ⟨eC, hC⟩ := hJb.1; obtain ⟨bY, nsY, vsY, eY, yY, tY, hbY, hrY, hnY, hiY, hmY, hvY, hyY, heY⟩ := matL_at hJb hk hrow (r := st) (c := st + 1 + (i2 : Int)) (by omega) (by omega); obtain ⟨bX, nsX, vsX, eX, yX, tX, hbX, hrX, hnX, hiX, hmX, hvX, hyX, heX⟩ := matL_at hJb hk hrow (r := st + 1 + (i' : Int)) (c := st + 1 + (i2 : Int)) (by omega) (by omega); have hx1 := hbd (st + 1 + (i' : Int)).toNat (st + 1 + (i2 : Int)).toNat; have hy1 := hbd st.toNat (st + 1 + (i2 : Int)).toNat; rw [← heX] at hx1; rw [← heY] at hy1; have hlX : vsX.length = k := hiX.length.trans (hrow _ (List.mem_of_getElem? hnX)); try k_fold); rotate_left 1; (intro c2 u2 nx2 hh2 tk2 hJ3 F2 N2; try dsimp only [kstB] at F2; obtain ⟨hJ4, hJ5, hJ6⟩ := hJ3; obtain ⟨eC, hC⟩ := hJ4.1; obtain ⟨bX, nsX, vsX, eX, yX, tX, hbX, hrX, hnX, hiX, hmX, hvX, hyX, heX⟩ := matL_at hJ4 hk hrow (r := st + 1 + (i' : Int)) (c := st) (by omega) (by omega); have hlX : vsX.length = k := hiX.length.trans (hrow _ (List.mem_of_getElem? hnX)); rw [hcol _ (by omega)] at heX; subst heX; try k_fold); rotate_right 1)
  k_with "setItem ref int" => k_dflt (refine' set_led ?k1 ?k2 ?k3 ?k4 ?k5 ?k6 ?_; (case k1 => k_asm); (case k2 => k_asm); (case k3 => k_asm); (case k4 => omega); (case k5 => omega); (case k6 => omega); intro h9 F9 N9; try k_fold)
  k_with "InvEndN" => (refine stuck ?_)
  k_steps
  · unfold Stuck
    rw [updL_append, updL_off (fun p hp => ho2 p hp bX (hJa.adr (List.mem_of_getElem? hbX)))] at N9
    refine' InvEndN.intro F9 N9 ?j ?a (fun p hp => List.mem_append_left _ hp) (fun p hp => List.mem_append_right _ hp)
    case a => rw [updL_adr]; exact ha2
    case j =>
      refine ⟨(), ⟨MatL.set hJ4 hbX hnX (ints_set' hiX ?_), (fun p hp hb => mem_updL_ne (hJ5 p hp hb) fun q => hb (by rw [q]; exact List.mem_of_getElem? hbX)), by rw [updL_adr]; exact hJ6⟩, (fun p hp => nomatch hp), by ksw_same⟩
      rw [hyX]; simp
  · unfold Stuck
    obtain ⟨xa, g1, g2, g3, g4, g5⟩ := outer_end N9 (MatL.set hJ4 hbX hnX (ints_set' hiX hyX)) (List.mem_of_getElem? hbX) hM ho' hJ0 hJ2 hJ5 hJ6
    exact InvEndN.intro F9 N9 ⟨(), ⟨g4, g5, g3⟩, (fun p hp => nomatch hp), by ksw_same⟩ g3 g1 g2
  · exact hret _ _ _ (by assumption) (by assumption) hJ'.1 hJ'.2.2 hJ'.2.1
end Mine
end

section
open PySem.Spec
namespace Mine

theorem code_defC0 {prog : Program} {w : World} {A A₀ : Around} {s : Shared} {K : Frag} {L : Addr} {h₀ base : Heap} {m mg mb : Str → Option Value} {p : Program} {loose : List Str} {mean : ExcName → Option Value} {env : Env} {outer : List Env} {R : Result → Shared → Prop} {name qual : Str} {params : Arguments} {body : List Stmt} {scope : Scope} {dV kV doc pm cdv ct oc : Value} {an od : Option Addr} {osl : Array (Option Value)} {f : Addr} {args : Args} {binds : List (Str × Value)}
    (B : Below A₀ base outer h₀) (F : Fr h₀ L s.heap m) (X₀ : K.In h₀) (T : Top p loose mean mg mb h₀) (hA : A.frames = some (env :: outer)) (hf : env.frame = some L) (hke : env.scope.kind = .function)
    (ho : K.lookup f = some ⟨oc, od, .func (fnOf name qual params body scope dV kV doc pm an cdv ct), osl⟩) (hcd : codeIn K cdv qual = true) (hroom : A.depth < recursionLimit)
    (hbind : BindsTo s (fnOf name qual params body scope dV kV doc pm an cdv ct) args binds) (hkind : (binds.all fun y => scope.names.lookup y.1 == some .local || scope.names.lookup y.1 == some .cell) = true)
    (hnd : ((cellsFrom 0 scope.names []).map (·.1)).Nodup)
    (h : ∀ g L' h₁ tk cells, (∀ b o, s.heap.get? b = some o → g.get? b = some o) → Fr h₀ L g m → Fr g L' h₁ (bindL (envOfC qual scope L' f cdv).kindOf binds fun _ => none) → News g L' h₁ cells →
      CellsAre (bindC (envOfC qual scope L' f cdv).kindOf binds fun _ => none) (cellsFrom (L' + 1) scope.names []) cells → Below A base (env :: outer) g → K.In g → Top p loose mean mg mb g →
      wpAny (model prog w) (A.deeper (envOfC qual scope L' f cdv)) (execs body (envOfC qual scope L' f cdv))
        (fun fl s' => LeaveK h₀ L m g R (match fl with | .ret v => v | _ => .none) s')
        (fun e s' => wpAny (model prog w) (A.deeper (envOfC qual scope L' f cdv)) (leaving (envOfC qual scope L' f cdv) e) (fun _ s'' => R (.error e) s'') (fun e' s'' => R (.error e') s'') s')
        { s with heap := h₁, toks := tk })
    (hco : scope.isCoroutine = false) (hgen : scope.isGenerator = false) (hk : scope.kind = .function) : codeAny (model prog w) A (.call (.ref f) args) R s := by
  obtain ⟨_, BG, _, lv⟩ := groundX (R := R) B F News.nil hA hf hke
  have X := X₀.keeps F.keep
  refine codeAny_call_function (fd := fnOf name qual params body scope dV kV doc pm an cdv ct) hroom (X _ _ ho) rfl hco hgen rfl (codeRec_of X hcd) (hbind _ _ _ _ ?_)
  refine wpAny_newFunctionEnv_cells hk (kindsX hkind _) fun env' he s' x => ?_
  subst he
  refine ⟨(T.nolimit.keeps F.keep).keeps x.toInCall.keep, codeAny_func ?_⟩
  obtain ⟨h₁, tk, rfl, _⟩ := x.done
  have hc : ∀ n c, (n, c) ∈ cellsFrom (s.heap.objs.size + 1) scope.names [] → (cellsFrom (s.heap.objs.size + 1) scope.names []).lookup n = some c := fun n c hm =>
    lookup_of_mem_nodup (cellsFrom_names scope.names 0 (s.heap.objs.size + 1) [] [] rfl ▸ hnd) hm
  obtain ⟨cells, NC, Y⟩ := Cl.news (h₀ := s.heap) (Nat.le_refl _) fun n c hm => ⟨x.cell n c (hc n c hm), x.above n c hm⟩
  exact wpAny_mono (h s.heap s.heap.objs.size h₁ tk cells (fun _ _ e => e) F ⟨x.toInCall.ns, x.toInCall.keep, Nat.le_refl _⟩ NC Y BG X (T.keeps F.keep)) (fun fl s' hl => lv _ _ hl) fun _ _ y => y

section
open LCg LCt
variable {prog : Program} {w : World} {A : Around} {h₀ : Heap} {L : Addr} {m : Str → Option Value} {env : Env} {ct elt : Expr} {x : Str} {scope : Scope} {cl : List (Str × Addr)} {s : Shared} {S : List (Addr × Obj) → Prop} {P : Nat → Value → Prop} {Fin : List Value → List (Addr × Obj) → Prop}
/-- a comprehension by an invariant over its list and the ledger -/
theorem comp_inv {n : Nat} (J : Nat → List Value → List (Addr × Obj) → Prop)
    (turn : ∀ i ys news v I oI C oC D m₂ h tk (E' : Value → Shared → Prop), i < n → P i v → J i ys news → NsObj oC m₂ → m₂ x = some v → Fr h₀ L h m → News h₀ L h ((I, oI) :: (C, oC) :: (D, lst ys) :: news) → Off3 I C D news → ((@Ne Nat I C) ∧ (@Ne Nat I D) ∧ (@Ne Nat C D)) →
      wpAny (model prog w) A (eval elt (compEnvC scope cl C env)) (CompEnd h₀ L m { s with heap := h, toks := tk } I oI C oC D (lst ys) S (fun y news' => J (i + 1) (ys ++ [y]) news')) E' { s with heap := h, toks := tk })
    (fin : ∀ ys news, J n ys news → Fin ys news) : ∀ (j i : Nat) (ys : List Value) (news : List (Addr × Obj)), i + j = n → J i ys news → CompRest prog w A h₀ L m env elt x scope cl s S P Fin j i ys news := by
  intro j
  induction j with
  | zero =>
    intro i ys news hi hJ
    have e : i = n := by omega
    subst e
    exact CompRest.zero (fin _ _ hJ)
  | succ j ih =>
    intro i ys news hi hJ
    refine CompRest.succ ?_
    intro v I oI C oC D m₂ h tk E' hv hC hx F N off ne
    refine wpAny_mono (turn i ys news v I oI C oC D m₂ h tk E' (by omega) hv hJ hC hx F N off ne) (fun y s₂ hq => ?_) fun _ _ e => e
    obtain ⟨h', tk', nw, e, F', N', off', hS, hJ'⟩ := hq
    exact ⟨h', tk', nw, e, F', N', off', hS, ih (i + 1) _ _ (by omega) hJ'⟩
/-- the same with a test that is false for every item -/
theorem comp_none {n : Nat} {news : List (Addr × Obj)}
    (turn : ∀ i v I oI C oC D m₂ h tk (E' : Value → Shared → Prop), i < n → P i v → NsObj oC m₂ → m₂ x = some v → Fr h₀ L h m → News h₀ L h ((I, oI) :: (C, oC) :: (D, lst []) :: news) → Off3 I C D news → ((@Ne Nat I C) ∧ (@Ne Nat I D) ∧ (@Ne Nat C D)) →
      wpAny (model prog w) A (isTrue ct (compEnvC scope cl C env) (eval ct (compEnvC scope cl C env))) (fun ok s' => if ok = true then False else CompEnd h₀ L m { s with heap := h, toks := tk } I oI C oC D (lst []) S (fun _ news' => news' = news) Value.none s') E' { s with heap := h, toks := tk })
    (fin : Fin [] news) : ∀ (j i : Nat), i + j = n → CompRestT prog w A h₀ L m env ct elt x scope cl s S P Fin j i [] news := by
  intro j
  induction j with
  | zero =>
    intro i hi
    exact CompRestT.zero fin
  | succ j ih =>
    intro i hi
    refine CompRestT.succ ?_
    intro v I oI C oC D m₂ h tk E' hv hC hx F N off ne
    refine wpAny_mono (turn i v I oI C oC D m₂ h tk E' (by omega) hv hC hx F N off ne) (fun ok s₂ hq => ?_) fun _ _ e => e
    cases ok with
    | true => simp at hq
    | false =>
      simp only [Bool.false_eq_true, if_false] at hq ⊢
      obtain ⟨h', tk', nw, e, F', N', off', hS, hJ'⟩ := hq
      subst hJ'
      exact ⟨h', tk', nw, e, F', N', off', hS, ih (i + 1) (by omega)⟩
end

/-- the rows copied so far -/
def CopyI (M : List (List Int)) (led : List (Addr × Obj)) (i : Nat) (ys : List Value) (news : List (Addr × Obj)) : Prop :=
  ∃ bs : List Addr, ys = bs.map Value.ref ∧ bs.length = i ∧ bs.Nodup ∧ (∀ b ∈ bs, b ∈ news.map (·.1)) ∧ (∀ (j : Nat) b ns, bs[j]? = some b → M[j]? = some ns → ∃ vs e, (b, W.listOf vs.toArray e) ∈ news ∧ IntsAre vs ns) ∧ ∀ p ∈ led, p ∈ news
theorem CopyI.start (M : List (List Int)) (led : List (Addr × Obj)) : CopyI M led 0 [] led := ⟨[], rfl, rfl, .nil, (fun _ h => nomatch h), (fun j b ns h => by simp at h), fun _ h => h⟩
theorem CopyI.next {M : List (List Int)} {led news : List (Addr × Obj)} {i : Nat} {ys : List Value} {D : Addr} {vs : List Value} {ns : List Int} {e : Nat} (x : CopyI M led i ys news) (hn : M[i]? = some ns) (hi : IntsAre vs ns) (hD : ∀ p ∈ news, p.1 < D) :
    CopyI M led (i + 1) (ys ++ [.ref D]) ((D, W.listOf vs.toArray e) :: news) := by
  obtain ⟨bs, rfl, rfl, hnd, hin, hr, hl⟩ := x
  have hDb : D ∉ bs := fun q => by
    obtain ⟨p, hp, ep⟩ := List.mem_map.mp (hin D q)
    have := hD p hp
    rw [ep] at this
    exact Nat.lt_irrefl _ this
  refine ⟨bs ++ [D], by simp, by simp, ?_, ?_, ?_, fun p hp => List.mem_cons_of_mem _ (hl p hp)⟩
  · rw [List.nodup_append]
    refine ⟨hnd, by simp, fun a ha b hb => ?_⟩
    rw [List.mem_singleton.mp hb]
    exact fun q => hDb (q ▸ ha)
  · intro b hb
    rcases List.mem_append.mp hb with hb | hb
    · exact List.mem_cons_of_mem _ (hin b hb)
    · rw [List.mem_singleton.mp hb]; exact List.mem_cons_self
  · intro j b ms hb hm
    by_cases hj : j < bs.length
    · rw [List.getElem?_append_left hj] at hb
      obtain ⟨vs', e', h1, h2⟩ := hr j b ms hb hm
      exact ⟨vs', e', List.mem_cons_of_mem _ h1, h2⟩
    · rw [List.getElem?_append_right (by omega)] at hb
      have hj' : j = bs.length := by
        have := (List.getElem?_eq_some_iff.mp hb).1
        simp at this
        omega
      subst hj'
      rw [hn] at hm
      cases hm
      simp at hb
      subst hb
      exact ⟨vs, e, List.mem_cons_self, hi⟩
theorem CopyI.led {M : List (List Int)} {led news : List (Addr × Obj)} {k : Nat} {ys : List Value} (x : CopyI M led k ys news) : ∀ p ∈ led, p ∈ news := let ⟨_, _, _, _, _, _, h⟩ := x; h
theorem CopyI.mat {M : List (List Int)} {led news : List (Addr × Obj)} {k : Nat} {ys : List Value} {D : Addr} (x : CopyI M led k ys news) (hk : M.length = k) (hD : LCg.Off1 D news) : ∃ bs, MatL D bs M ((D, LCg.lst ys) :: news) := by
  obtain ⟨bs, rfl, rfl, hnd, hin, hr, hl⟩ := x
  have off : ∀ {l : List (Addr × Obj)}, LCg.Off1 D l → ∀ p ∈ l, p.1 ≠ D := by
    intro l
    induction l with
    | nil => intro _ p hp; cases hp
    | cons q r ih =>
      intro h p hp
      rcases List.mem_cons.mp hp with rfl | hp
      · exact h.1
      · exact ih h.2 p hp
  refine ⟨bs, ⟨_, List.mem_cons_self⟩, hk.symm, fun q => ?_, hnd, fun i b ns hb hn => ?_⟩
  · obtain ⟨p, hp, ep⟩ := List.mem_map.mp (hin D q)
    exact off hD p hp ep
  · obtain ⟨vs, e, h1, h2⟩ := hr i b ns hb hn
    exact ⟨vs, e, List.mem_cons_of_mem _ h1, h2⟩
theorem matH_row {a : Addr} {bs : List Addr} {M : List (List Int)} {h : Heap} (x : MatH a bs M h) {i : Nat} {v : Value} (hv : (bs.map Value.ref).toArray[i]? = some v) :
    ∃ (b : Addr) (ns : List Int) (vs : List Value), v = .ref b ∧ M[i]? = some ns ∧ h.IsList b vs.toArray ∧ IntsAre vs ns := by
  have hv' : (bs.map Value.ref)[i]? = some v := by simpa using hv
  rw [List.getElem?_map] at hv'
  obtain ⟨b, hb, rfl⟩ := Option.map_eq_some_iff.mp hv'
  obtain ⟨ns, hn⟩ := getElem?_some (l := M) (i := i) (by rw [← x.2.1]; exact (List.getElem?_eq_some_iff.mp hb).1)
  obtain ⟨vs, hl, hi⟩ := x.2.2 i b ns hb hn
  exact ⟨b, ns, vs, rfl, hn, hl, hi⟩

theorem swap_get {α : Type} {l : List α} {r s : Nat} {x y : α} (hr : l[r]? = some x) (hs : l[s]? = some y) (i : Nat) : ((l.set r y).set s x)[i]? = l[if i = s then r else if i = r then s else i]? := by
  have h1 := (List.getElem?_eq_some_iff.mp hr).1
  have h2 := (List.getElem?_eq_some_iff.mp hs).1
  by_cases e : i = s
  · subst e
    rw [if_pos rfl, hr, List.getElem?_set_self (by simpa using h2)]
  · rw [if_neg e, List.getElem?_set_ne (fun q => e q.symm)]
    by_cases e' : i = r
    · subst e'
      rw [if_pos rfl, hs, List.getElem?_set_self h1]
    · rw [if_neg e', List.getElem?_set_ne (fun q => e' q.symm)]
theorem swap_mem {α : Type} {l : List α} {r s : Nat} {x y z : α} (hr : l[r]? = some x) (hs : l[s]? = some y) (hz : z ∈ (l.set r y).set s x) : z ∈ l := by
  obtain ⟨i, hi⟩ := List.getElem?_of_mem hz
  rw [swap_get hr hs] at hi
  exact List.mem_of_getElem? hi
theorem swap_nodup {l : List Addr} {r s : Nat} {x y : Addr} (h : l.Nodup) (hr : l[r]? = some x) (hs : l[s]? = some y) : ((l.set r y).set s x).Nodup := by
  rw [List.Nodup, List.pairwise_iff_getElem]
  intro i j hi hj hij heq
  have e1 := List.getElem?_eq_getElem hi
  have e2 := List.getElem?_eq_getElem hj
  rw [heq, ← e2, swap_get hr hs, swap_get hr hs] at e1
  have hlj : (if j = s then r else if j = r then s else j) < l.length := by
    have := (List.getElem?_eq_some_iff.mp hr).1
    have := (List.getElem?_eq_some_iff.mp hs).1
    have : j < l.length := by simpa using hj
    split
    · assumption
    · split <;> assumption
  have hli : (if i = s then r else if i = r then s else i) < l.length := by
    have := (List.getElem?_eq_some_iff.mp hr).1
    have := (List.getElem?_eq_some_iff.mp hs).1
    have : i < l.length := by simpa using hi
    split
    · assumption
    · split <;> assumption
  have q := (List.getElem?_inj hli h).mp e1
  revert q
  repeat' split
  all_goals (intro q; omega)

theorem MatL.swap {a bR bS : Addr} {bs : List Addr} {M : List (List Int)} {led led' : List (Addr × Obj)} {r s e : Nat} {nsR nsS : List Int} (x : MatL a bs M led) (hr : bs[r]? = some bR) (hs : bs[s]? = some bS) (hnr : M[r]? = some nsR) (hns : M[s]? = some nsS)
    (hm : (a, W.listOf (((bs.set r bS).set s bR).map Value.ref).toArray e) ∈ led') (hk : ∀ p ∈ led, p.1 ≠ a → p ∈ led') : MatL a ((bs.set r bS).set s bR) ((M.set r nsS).set s nsR) led' := by
  obtain ⟨_, hlen, hab, hnd, hrow⟩ := x
  refine ⟨⟨e, hm⟩, by simpa using hlen, fun q => hab (swap_mem hr hs q), swap_nodup hnd hr hs, fun i b ns hb hn => ?_⟩
  rw [swap_get hr hs] at hb
  rw [swap_get hnr hns] at hn
  obtain ⟨vs, e', h1, h2⟩ := hrow _ b ns hb hn
  exact ⟨vs, e', hk _ h1 fun q => hab (by have q' : b = a := q; rw [← q']; exact List.mem_of_getElem? hb), h2⟩

/-- from a ledger, the entries at another's addresses -/
theorem pick_adr {h₀ h : Heap} {L : Addr} {led nx : List (Addr × Obj)} (N : News h₀ L h led) (hsub : ∀ p ∈ nx, p.1 ∈ led.map (·.1)) :
    ∃ xa : List (Addr × Obj), xa.map (·.1) = nx.map (·.1) ∧ (∀ p ∈ xa, p ∈ led) ∧ ∀ p ∈ led, p.1 ∈ nx.map (·.1) → p ∈ xa := by
  refine ⟨nx.map fun p => (p.1, (h.get? p.1).getD p.2), by rw [List.map_map]; rfl, fun p hp => ?_, fun p hp hq => ?_⟩
  · obtain ⟨q, hq, rfl⟩ := List.mem_map.mp hp
    obtain ⟨u, hu, eu⟩ := List.mem_map.mp (hsub q hq)
    have : h.get? q.1 = some u.2 := by rw [← eu]; exact (N u hu).1
    rw [this]
    have e : (q.1, (some u.2 : Option Obj).getD q.2) = u := by rw [← eu]; rfl
    rw [e]
    exact hu
  · obtain ⟨q, hq', eq⟩ := List.mem_map.mp hq
    refine List.mem_map.mpr ⟨q, hq', ?_⟩
    have eq' : q.1 = p.1 := eq
    rw [eq', (N p hp).1]
    rfl
theorem MatL.pick {a : Addr} {bs : List Addr} {M : List (List Int)} {led xa nx : List (Addr × Obj)} (x : MatL a bs M led) (hp : ∀ p ∈ led, p.1 ∈ nx.map (·.1) → p ∈ xa) (ha : a ∈ nx.map (·.1)) (hb : ∀ b ∈ bs, b ∈ nx.map (·.1)) : MatL a bs M xa :=
  ⟨let ⟨e, hm⟩ := x.1; ⟨e, hp _ hm ha⟩, x.2.1, x.2.2.1, x.2.2.2.1, fun i b ns hbi hn => let ⟨vs, e, hm, hi⟩ := x.2.2.2.2 i b ns hbi hn; ⟨vs, e, hp _ hm (hb b (List.mem_of_getElem? hbi)), hi⟩⟩

/-- a square of 0 and 1 -/
def Sq (k : Nat) (M : List (List Int)) : Prop := M.length = k ∧ ∀ ns ∈ M, ns.length = k ∧ ∀ x ∈ ns, 0 ≤ x ∧ x ≤ 1
theorem Sq.row {k : Nat} {M : List (List Int)} (x : Sq k M) : ∀ ns ∈ M, ns.length = k := fun ns h => (x.2 ns h).1
theorem Sq.bd {k : Nat} {M : List (List Int)} (x : Sq k M) (r c : Nat) : 0 ≤ (M.getD r []).getD c 0 ∧ (M.getD r []).getD c 0 ≤ 1 := by
  rw [List.getD_eq_getElem?_getD, List.getD_eq_getElem?_getD]
  cases hr : M[r]? with
  | none => simp
  | some ns =>
    rw [Option.getD_some]
    cases hc : ns[c]? with
    | none => simp
    | some y => exact (x.2 ns (List.mem_of_getElem? hr)).2 y (List.mem_of_getElem? hc)
def swapM (M : List (List Int)) (r s : Nat) : List (List Int) := (M.set r (M.getD s [])).set s (M.getD r [])
theorem swapM_eq {M : List (List Int)} {r s : Nat} {x y : List Int} (hr : M[r]? = some x) (hs : M[s]? = some y) : swapM M r s = (M.set r y).set s x := by
  rw [swapM, getD_of' hr, getD_of' hs]
theorem Sq.swap {k : Nat} {M : List (List Int)} {r s : Nat} {x y : List Int} (h : Sq k M) (hr : M[r]? = some x) (hs : M[s]? = some y) : Sq k ((M.set r y).set s x) :=
  ⟨by simpa using h.1, fun ns hn => h.2 ns (swap_mem hr hs hn)⟩
def okB (M : List (List Int)) (k st : Nat) : Bool := (M.getD st []).getD st 0 == 1 && (List.range k).all fun r => decide (r ≤ st) || (M.getD r []).getD st 0 == 0
theorem okB.step {k st : Nat} {M : List (List Int)} (h : Sq k M) (ho : okB M k st = true) : StepOk M k st := by
  rw [okB, Bool.and_eq_true, beq_iff_eq, List.all_eq_true] at ho
  refine ⟨h.1, h.row, h.bd, ho.1, fun r hr => ?_⟩
  by_cases hk : r < k
  · have q := ho.2 r (List.mem_range.mpr hk)
    rw [Bool.or_eq_true, decide_eq_true_eq, beq_iff_eq] at q
    exact q.resolve_left (by omega)
  · rw [List.getD_eq_getElem?_getD (l := M), List.getElem?_eq_none (by rw [h.1]; omega)]
    rfl
/-- the determinant as the text finds it, where each step finds its column out -/
def detL (k : Nat) : Nat → Nat → Int → List (List Int) → Option Int
  | 0, _, sg, _ => some sg
  | f + 1, st, sg, M => match pivF M st (k - st) st with
    | none => some 0
    | some r => if okB (if r = st then M else swapM M r st) k st = true then detL k f (st + 1) (if r = st then sg else -sg) (if r = st then M else swapM M r st) else none
theorem detL_none {k st : Nat} {sg d : Int} {M : List (List Int)} (hst : st < k) (h : detL k (k - st) st sg M = some d) (hp : pivF M st (k - st) st = none) : d = 0 := by
  obtain ⟨f, hf⟩ : ∃ f, k - st = f + 1 := ⟨k - st - 1, by omega⟩
  have h' : detL k (f + 1) st sg M = some d := hf ▸ h
  rw [detL, hp] at h'
  exact (Option.some.inj h').symm
theorem detL_same {k st : Nat} {sg d : Int} {M : List (List Int)} (hst : st < k) (h : detL k (k - st) st sg M = some d) (hp : pivF M st (k - st) st = some st) : okB M k st = true ∧ detL k (k - (st + 1)) (st + 1) sg M = some d := by
  obtain ⟨f, hf⟩ : ∃ f, k - st = f + 1 := ⟨k - st - 1, by omega⟩
  have h' : detL k (f + 1) st sg M = some d := hf ▸ h
  rw [detL, hp] at h'
  simp only [if_true] at h'
  split at h'
  · rename_i q
    exact ⟨q, by rw [show k - (st + 1) = f by omega]; exact h'⟩
  · cases h'
theorem detL_swap {k st r : Nat} {sg d : Int} {M : List (List Int)} (hst : st < k) (h : detL k (k - st) st sg M = some d) (hp : pivF M st (k - st) st = some r) (hr : r ≠ st) :
    okB (swapM M r st) k st = true ∧ detL k (k - (st + 1)) (st + 1) (-sg) (swapM M r st) = some d := by
  obtain ⟨f, hf⟩ : ∃ f, k - st = f + 1 := ⟨k - st - 1, by omega⟩
  have h' : detL k (f + 1) st sg M = some d := hf ▸ h
  rw [detL, hp] at h'
  simp only [if_neg hr] at h'
  split at h'
  · rename_i q
    exact ⟨q, by rw [show k - (st + 1) = f by omega]; exact h'⟩
  · cases h'
theorem pivF_lt {M : List (List Int)} {c r : Nat} : ∀ {f s : Nat}, pivF M c f s = some r → s ≤ r ∧ r < s + f
  | 0, s, h => by rw [pivF] at h; cases h
  | f + 1, s, h => by
    rw [pivF] at h
    split at h
    · have := pivF_lt h
      omega
    · cases h
      omega

end Mine
end

section
open PySem.Spec
namespace Mine

theorem comp_sub (a b c d : Addr × Obj) (l : List (Addr × Obj)) : ∀ p ∈ a :: b :: c :: d :: l, p ∈ d :: a :: b :: c :: l := by
  intro p hp
  simp only [List.mem_cons] at hp ⊢
  rcases hp with h | h | h | h | h
  · exact .inr (.inl h)
  · exact .inr (.inr (.inl h))
  · exact .inr (.inr (.inr (.inl h)))
  · exact .inl h
  · exact .inr (.inr (.inr (.inr h)))

theorem step_use {w : World} {a : Addr} {bs : List Addr} {M : List (List Int)} {st : Int} {ts ta : Tok} {k : Nat} (hk1 : k < 100) (h0 : 0 ≤ st) (h1 : st < k) (hS : StepOk M k st.toNat)
    {mean : ExcName → Option Value} {mg mb : Str → Option Value} {dp un : Nat} {gd : Option (List Code)} {cn : Str} {cs : Scope} {ad : Addr} {ccd : Value} {cl : List (Str × Addr)} {outer : List Env} {A₀ : Around} {base h₀ : Heap} {L : Addr} {m : Str → Option Value} {led : List (Addr × Obj)} {s : Shared} {Q E : Value → Shared → Prop}
    (B : Below A₀ base outer h₀) (F : Fr h₀ L s.heap m) (X : (hd.heap_39 w.params).In h₀) (N : News h₀ L s.heap led) (T : Top hd.view_39 (looseW hd.view_39 []) mean mg mb h₀) (hkf : cs.kind = .function)
    (hdp : dp + 1 < recursionLimit) (hun : un + 8 * 1 < cLine) (hM : MatL a bs M led)
    (hret : ∀ (led' : List (Addr × Obj)) (h' : Heap) (tk' : Nat), Fr h₀ L h' m → News h₀ L h' led' → MatL a bs M led' → led'.map (·.1) = led.map (·.1) → (∀ p ∈ led, p.1 ∉ bs → p ∈ led') → Q .none { s with heap := h', toks := tk' }) :
    wpAny (model PySem.Challenge.rw_tk0025_01.row.prog w) (ktrTop dp un gd cn cs L ad ccd cl outer) (call (.ref 48) [.ref a, .int st ts, .int 1 ta]) Q E s :=
  step_spec w a bs M st ts ta k hk1 h0 h1 hS mean mg mb dp un gd cn cs ad ccd cl outer A₀ base h₀ L m led s Q E B F X N T hkf hdp hun hM hret
theorem refs_swap {bs : List Addr} {r s : Nat} {x y : Addr} : ((bs.map Value.ref).set r (.ref y)).set s (.ref x) = ((bs.set r y).set s x).map Value.ref := by
  rw [List.map_set, List.map_set]

theorem m_pos {c : Prop} [Decidable c] {p q : Prop} (h : c) (hp : p) : if c then p else q := by rw [if_pos h]; exact hp
theorem m_neg {c : Prop} [Decidable c] {p q : Prop} (h : ¬ c) (hq : q) : if c then p else q := by rw [if_neg h]; exact hq

local macro_rules | `(tactic| walk_at $s:str) => `(tactic| k_extra $s)
theorem det_spec (w : World) (a : Addr) (bs : List Addr) (M : List (List Int)) (k : Nat) (d : Int)
    (hSq : Sq k M) (hk1 : k < 100) (hdet : detL k k 0 1 M = some d) :
    PureH w 53 [.ref a] 12 (MatH a bs M) (fun t => .int d t) := by
  unfold PureH
  k_fill; w_top off
  intro mean mg mb dp un gd cn cs ad ccd cl outer A₀ base h₀ L m news s Q E B F X N T hkf hdp hun hmat hret
  have hk := hSq.1
  have hrow := hSq.row
  refine wpAny_call ?_
  k_dflt (refine' code_defC0 ?k1 ?k2 ?k3 ?k5 ?kA ?kF ?kK ?k6 ?k7 ?k8 ?k9 ?kB ?kD ?_ ?c2 ?c3 ?c4; (case kA => exact rfl); (case kF => exact rfl); (case kK => assumption); (case k1 => k_asm); (case k2 => k_asm); (case k3 => k_asm); (case k5 => k_asm); (case k6 => k_is); (case k7 => k_is); (case k8 => ktr_room); (case k9 => exact BindsTo.of_eq rfl); (case kB => exact rfl); (case kD => decide +kernel); (case c2 => exact rfl); (case c3 => exact rfl); (case c4 => exact rfl); k_whole; intro g' L' h' tk' cells' hg' FG' F' N' Y' B' X' T'; (have hY := CellsAre.one Y'); (obtain ⟨oc, hE', d1'⟩ := hY); subst hE'; (try dsimp only); (try k_lift B'); (try k_fold))
  k_with_none
  have hM := hmat.mono hg'
  have hA := hM.1
  have hlen : (bs.map Value.ref).length = k := by rw [List.length_map, hM.2.1, hk]
  have hbl : bs.length = k := hM.2.1.trans hk
  have hsz : (bs.map Value.ref).toArray.size ≤ sizeLine := by rw [List.size_toArray, hlen, sizeLine_eq]; omega
  k_with "eval Name" => (k_here; (with_reducible show wpAny _ _ (eval (Expr.Name (PySem.Str.ofString "a") _) (envOfC _ _ _ _ _)) _ _ _); k_dflt (refine' nameX_C ?N ?c ?m ?d ?_; (case N => k_asm); (case c => exact rfl); (case m => first | exact List.mem_cons_of_mem _ (List.mem_cons_of_mem _ hc9) | exact List.mem_cons_of_mem _ hc9 | exact hc9); (case d => exact d1'); k_whole))
  k_with "call builtin:len" => k_dflt (refine' len_base ?k1 ?k2 ?k3 ?_; (case k1 => k_asm); (case k2 => k_asm); (case k3 => omega); k_whole; (try rw [hlen]); (try dsimp only))
  k_with "eval ListComp" => (k_dflt (refine LCg.ListComp_U (F₀ := by k_asm) (by with_unfolding_all rfl) (by decide) (by rfl) (by decide) (by rfl) ?_))
  k_with "eval ListComp" => (lct_look; k_dflt (refine LCt.ListComp_T (F₀ := by k_asm) (by with_unfolding_all rfl) (by decide) (by rfl) (by decide) (by rfl) ?_))
  k_with "CompSrcT" => ((rename Fr _ _ _ _ => lF'); (rename News _ _ _ _ => lN'); k_dflt (refine LCt.CompSrcT.base (by rfl) lF' lN' hA hsz ?_); intro g9; refine comp_none ?_ ?_ _ _ (Nat.zero_add _); (intro i9 v9 I9 oI9 C9 oC9 D9 m9 h9 tk9 E9 hi9 hv9 hC9 hx9 F9 N9 off9 ne9; obtain ⟨b9, ns9, vs9, e9, hn9, hl9, hI9⟩ := matH_row hM hv9; subst e9; have hlen9 : vs9.length = k := hI9.length.trans (hrow _ (List.mem_of_getElem? hn9)); try k_fold))
  k_with "call builtin:len" => k_dflt (refine' len_base ?k1 ?k2 ?k3 ?_; (case k1 => k_asm); (case k2 => k_asm); (case k3 => omega); k_whole; (rw [hlen9]); (try dsimp only))
  k_with "CompEnd" => (exact LCg.CompEnd.intro (by assumption) (by assumption) _ (fun p hp => hp) off9 (Or.inl hA) rfl)
  k_with "compareOp NotEq ref ref" => (with_unfolding_all refine' ne_intsK (vs := []) (us := []) (ns := []) (ms := []) ?k1 .nil ?k3 .nil ?k5 ?_; (case k1 => exact ⟨_, News.get (by assumption) (by k_mem), rfl, _, rfl⟩); (case k3 => exact ⟨_, News.get (by assumption) (by k_mem), rfl, _, rfl⟩); (case k5 => ktr_units); k_whole)
  k_with "CompEnd" => (exact LCg.CompEnd.intro (by assumption) (by assumption) ((D8, W.listOf vs9.toArray c8) :: nw9) (comp_sub _ _ _ _ _) ⟨⟨Nat.ne_of_gt (l8 _ List.mem_cons_self), Nat.ne_of_gt (l8 _ (List.mem_cons_of_mem _ List.mem_cons_self)), Nat.ne_of_gt (l8 _ (List.mem_cons_of_mem _ (List.mem_cons_of_mem _ List.mem_cons_self)))⟩, off9⟩ (Or.inl hA) (hJ9.next hn9 hI9 fun p hp => l8 p (List.mem_cons_of_mem _ (List.mem_cons_of_mem _ (List.mem_cons_of_mem _ hp)))))
  k_with "CompSrc" => ((rename Fr _ _ _ _ => lF'); (rename News _ _ _ _ => lN'); k_dflt (refine LCg.CompSrc.base (by rfl) lF' lN' hA hsz ?_); intro g9; refine comp_inv (CopyI M _) ?_ ?_ _ _ _ _ (Nat.zero_add _) (CopyI.start M _); (intro i9 ys9 nw9 v9 I9 oI9 C9 oC9 D9 m9 h9 tk9 E9 hi9 hv9 hJ9 hC9 hx9 F9 N9 off9 ne9; obtain ⟨b9, ns9, vs9, e9, hn9, hl9, hI9⟩ := matH_row hM hv9; subst e9; have hlen9 : vs9.length = k := hI9.length.trans (hrow _ (List.mem_of_getElem? hn9)); try k_fold); rotate_left 1; (intro ys9 nw9 hJ9; have hbs9 := fun D o => CopyI.mat (D := D) hJ9 (by rw [List.size_toArray, hlen, hk]) o; have hc9 : (L' + 1, oc) ∈ nw9 := hJ9.led _ (by k_mem)))
  k_with "FinE" => ((unfold LCg.FinE); intro D0 h0' tk0' F0 N0 o10; (obtain ⟨bs0, hM0⟩ := hbs9 D0 o10); (try dsimp only))
  k_with "call type:list" => k_dflt (refine' list_copyK ?k1 ?k2 ?k3 ?_ ?z; (case k1 => k_asm); (case k2 => k_asm); (case k3 => exact hl9.at fun o e => Fr.keep (by assumption) _ _ e); (case z => (rw [List.size_toArray, hlen9, sizeLine_eq]; omega)); intro D8 c8 h8 F8 N8 l8; try k_fold)
  k_with "exec For Name Call cons nil" => (k_here; (rename Fr _ _ _ _ => lF'); (with_unfolding_all refine' For_invVF lF' ?k1 ?k2 ?_; (case k1 => exact rfl); (case k2 => exact rfl); k_whole))
  k_with "pyIter ref" => (refine stuck ?_)
  k_steps
  unfold Stuck
  (rename Fr _ _ _ _ => lF')
  (rename News _ _ _ _ => lN')
  (rename IsRange _ _ _ _ _ _ _ _ => rgX)
  (with_unfolding_all refine' iter_rangeP (σ := List Addr × List (List Int) × Int × Tok × Tok) (fun c => [(Str.ofString "sign", .int c.2.2.1 c.2.2.2.1), (Str.ofString "ahead", .int 1 c.2.2.2.2)]) [Str.ofString "step", Str.ofString "row", Str.ofString "sign", Str.ofString "ahead"] (fun i c nx => Sq k c.2.1 ∧ MatL D0 c.1 c.2.1 nx ∧ detL k (k - i) i c.2.2.1 c.2.1 = some d ∧ (-1 ≤ c.2.2.1 ∧ c.2.2.1 ≤ 1)) (bs0, M, 1, _, _) (by rfl) rgX (small_one (by omega) (by omega) (by omega) (by omega)) (rangeSize_nat _ _) lF' lN' ?kj ?kp ?_ ?_)
  (case kp => kst_all)
  (case kj => exact ⟨hSq, hM0.sub fun p hp => List.mem_cons_of_mem _ hp, hdet, show (-1 : Int) ≤ 1 by decide, show (1 : Int) ≤ 1 by decide⟩)
  (all_goals (try clear lF' lN'))
  · intro i' t' c' u' nx' hh' tk' own' hi' ha' ho' hJ' F' N'
    obtain ⟨bsC, MC, sgC, tC1, tC2⟩ := c'
    dsimp only [kstB] at F' hJ'
    obtain ⟨hSC, hMC, hdC, hsg⟩ := hJ'
    have hik : i' < k := by omega
    have e0 : (0 + (i' : Int)).toNat = i' := by omega
    have hMa := hMC.sub (fun p hp => List.mem_append_left own' hp)
    rcases hpo : pivF MC i' (k - i') i' with _ | r
    · try k_fold
      have hd0 := detL_none hik hdC hpo
      k_with "call ref" => k_dflt (refine' PureH.use (pivot_spec w D0 bsC MC _ _ k none hSC.1 hk1 hSC.row ?b1 ?b2 ?h) ?k1 ?k2 ?k3 ?k4 ?k5 ?kK ?kd ?ku ?kp ?_; (case h => (rw [e0]; exact hpo)); (case b1 => omega); (case b2 => omega); (case k1 => k_asm); (case k2 => k_asm); (case k3 => k_asm); (case k4 => k_asm); (case k5 => k_asm); (case kK => first | exact rfl | assumption); (case kd => ktr_room); (case ku => ktr_units); (case kp => exact hMa.heap (by assumption)); k_whole; intro t9 h9 tk9 F9 N9; (try dsimp only [pivV]); (try k_fold))
      k_steps
      exact cb_retI hret hd0.symm (by k_asm) (news_kept N hg' (by assumption))
    have hrl := pivF_lt hpo
    by_cases hri : r = i'
    · subst hri
      try k_fold
      obtain ⟨ho1, hd1⟩ := detL_same hik hdC hpo
      have hst := okB.step hSC ho1
      k_with "call ref" => k_dflt (refine' PureH.use (pivot_spec w D0 bsC MC _ _ k (some r) hSC.1 hk1 hSC.row ?b1 ?b2 ?h) ?k1 ?k2 ?k3 ?k4 ?k5 ?kK ?kd ?ku ?kp ?_; (case h => (rw [e0]; exact hpo)); (case b1 => omega); (case b2 => omega); (case k1 => k_asm); (case k2 => k_asm); (case k3 => k_asm); (case k4 => k_asm); (case k5 => k_asm); (case kK => first | exact rfl | assumption); (case kd => ktr_room); (case ku => ktr_units); (case kp => exact hMa.heap (by assumption)); k_whole; intro t9 h9 tk9 F9 N9; (try dsimp only [pivV]); (try k_fold))
      k_with "call ref" => k_dflt (refine' step_use (k := k) (bs := bsC) (M := MC) hk1 ?b1 ?b2 ?h ?k1 ?k2 ?k3 ?k4 ?k5 ?kK ?kd ?ku ?kp ?_; (case h => (rw [e0]; exact hst)); (case b1 => omega); (case b2 => omega); (case k1 => k_asm); (case k2 => k_asm); (case k3 => k_asm); (case k4 => k_asm); (case k5 => k_asm); (case kK => first | exact rfl | assumption); (case kd => ktr_room); (case ku => ktr_units); (case kp => exact hMa); intro led9 h9 tk9 F9 N9 hM9 hA9 hK9; obtain ⟨e5, hD5⟩ := hM9.1; obtain ⟨xa, g1, g2, g3⟩ := pick_adr N9 (nx := nx') (fun p hp => by rw [hA9]; first | exact List.mem_map_of_mem (List.mem_append_left _ hp) | (rw [updL_adr, updL_adr]; exact List.mem_map_of_mem (List.mem_cons_of_mem _ (List.mem_append_left _ hp)))); obtain ⟨b5, ns5, vs5, u5, y5, t5, hb5, hr5, hn5, hi5, hm5, hv5, hy5, he5⟩ := matL_at hM9 hSC.1 hSC.row (r := 0 + (r : Int)) (c := 0 + (r : Int)) (by omega) (by omega); (rw [e0, hst.2.2.2.1] at he5); subst he5; (try k_fold))
      k_with "subscriptTail" => k_dflt (refine' item_led ?k1 ?k2 ?k3 ?k4 ?k5 ?_ ?k6; (case k1 => k_asm); (case k2 => k_asm); (case k3 => omega); (case k4 => omega); (case k5 => k_asm); (case k6 => with_unfolding_all rfl); (try dsimp only))
      k_with "ite" => first | (refine m_pos (by first | omega | (simp only [decide_eq_true_eq, decide_eq_false_iff_not, bne_iff_ne, beq_iff_eq, Bool.not_eq_true', ne_eq]; omega)) ?_) | (refine m_neg (by first | omega | (simp only [decide_eq_true_eq, decide_eq_false_iff_not, bne_iff_ne, beq_iff_eq, Bool.not_eq_true', ne_eq]; omega)) ?_)
      k_with "InvEndN" => (refine stuck ?_)
      k_steps
      · unfold Stuck
        exact InvEndN.intro (nx := xa) (by assumption) (by assumption) ⟨(bsC, MC, sgC, tC1, _), ⟨hSC, hM9.pick g3 hMC.adrA (fun b hb => hMC.adr hb), hd1, hsg⟩, by kst_all, by ksw_same⟩ (g1.trans ha') g2 (fun p hp => hK9 p (List.mem_append_right _ hp) fun q => ho' p hp _ (ha' ▸ hMC.adr q) rfl)
    · try k_fold
      obtain ⟨ho1, hd1⟩ := detL_swap hik hdC hpo hri
      obtain ⟨bR, nsR, vsR, uR, yR, tR, hbR, hrR, hnR, hiR, hmR, hvR, hyR, heR⟩ := matL_at hMa hSC.1 hSC.row (r := (r : Int)) (c := 0) (by omega) (by omega)
      obtain ⟨bS, nsS, vsS, uS, yS, tS, hbS, hrS, hnS, hiS, hmS, hvS, hyS, heS⟩ := matL_at hMa hSC.1 hSC.row (r := 0 + (i' : Int)) (c := 0) (by omega) (by omega)
      obtain ⟨eD, hD⟩ := hMa.1
      rw [Int.toNat_natCast] at hbR hnR
      rw [e0] at hbS hnS
      rw [swapM_eq hnR hnS] at ho1 hd1
      have hSq2 := hSC.swap hnR hnS
      have hst := okB.step hSq2 ho1
      have hlr : (bsC.map Value.ref).length = k := by rw [List.length_map, hMC.2.1, hSC.1]
      have hlr2 : ((bsC.map Value.ref).set (r : Int).toNat (.ref bS)).length = k := by rw [List.length_set, hlr]
      k_with "call ref" => k_dflt (refine' PureH.use (pivot_spec w D0 bsC MC _ _ k (some r) hSC.1 hk1 hSC.row ?b1 ?b2 ?h) ?k1 ?k2 ?k3 ?k4 ?k5 ?kK ?kd ?ku ?kp ?_; (case h => (rw [e0]; exact hpo)); (case b1 => omega); (case b2 => omega); (case k1 => k_asm); (case k2 => k_asm); (case k3 => k_asm); (case k4 => k_asm); (case k5 => k_asm); (case kK => first | exact rfl | assumption); (case kd => ktr_room); (case ku => ktr_units); (case kp => exact hMa.heap (by assumption)); k_whole; intro t9 h9 tk9 F9 N9; (try dsimp only [pivV]); (try k_fold))
      k_with "call ref" => k_dflt (refine' step_use (k := k) (bs := (bsC.set r bS).set i' bR) (M := (MC.set r nsS).set i' nsR) hk1 ?b1 ?b2 ?h ?k1 ?k2 ?k3 ?k4 ?k5 ?kK ?kd ?ku ?kp ?_; (case h => (rw [e0]; exact hst)); (case b1 => omega); (case b2 => omega); (case k1 => k_asm); (case k2 => k_asm); (case k3 => k_asm); (case k4 => k_asm); (case k5 => k_asm); (case kK => first | exact rfl | assumption); (case kd => ktr_room); (case ku => ktr_units); (case kp => exact hMa.swap hbR hbS hnR hnS (e := eD) (by rw [← refs_swap]; simpa only [Int.toNat_natCast, e0] using mem_updL_self (mem_updL_self (List.mem_cons_of_mem _ hD))) (fun p hp hne => mem_updL_ne (mem_updL_ne (List.mem_cons_of_mem _ hp) hne) hne)); intro led9 h9 tk9 F9 N9 hM9 hA9 hK9; obtain ⟨e5, hD5⟩ := hM9.1; obtain ⟨xa, g1, g2, g3⟩ := pick_adr N9 (nx := nx') (fun p hp => by rw [hA9]; first | exact List.mem_map_of_mem (List.mem_append_left _ hp) | (rw [updL_adr, updL_adr]; exact List.mem_map_of_mem (List.mem_cons_of_mem _ (List.mem_append_left _ hp)))); obtain ⟨b5, ns5, vs5, u5, y5, t5, hb5, hr5, hn5, hi5, hm5, hv5, hy5, he5⟩ := matL_at hM9 hSq2.1 hSq2.row (r := 0 + (i' : Int)) (c := 0 + (i' : Int)) (by omega) (by omega); (rw [e0, hst.2.2.2.1] at he5); subst he5; (try k_fold))
      k_with "subscriptTail" => k_dflt (refine' item_led ?k1 ?k2 ?k3 ?k4 ?k5 ?_ ?k6; (case k1 => k_asm); (case k2 => k_asm); (case k3 => omega); (case k4 => omega); (case k5 => k_asm); (case k6 => with_unfolding_all rfl); (try dsimp only))
      k_with "setItem ref int" => k_dflt (refine' set_led ?k1 ?k2 ?k3 ?k4 ?k5 ?k6 ?_; (case k1 => k_asm); (case k2 => k_asm); (case k3 => first | exact List.mem_cons_of_mem _ hD | exact mem_updL_self (List.mem_cons_of_mem _ hD)); (case k4 => omega); (case k5 => omega); (case k6 => omega); intro h9 F9 N9; try k_fold)
      k_with "ite" => first | (refine m_pos (by first | omega | (simp only [decide_eq_true_eq, decide_eq_false_iff_not, bne_iff_ne, beq_iff_eq, Bool.not_eq_true', ne_eq]; omega)) ?_) | (refine m_neg (by first | omega | (simp only [decide_eq_true_eq, decide_eq_false_iff_not, bne_iff_ne, beq_iff_eq, Bool.not_eq_true', ne_eq]; omega)) ?_)
      k_with "InvEndN" => (refine stuck ?_)
      k_steps
      · unfold Stuck
        have hneD : ∀ p ∈ own', p.1 ≠ D0 := fun p hp => ho' p hp D0 (ha' ▸ hMC.adrA)
        exact InvEndN.intro (nx := xa) (by assumption) (by assumption) ⟨((bsC.set r bS).set i' bR, (MC.set r nsS).set i' nsR, -sgC, _, _), ⟨hSq2, hM9.pick g3 hMC.adrA (fun b hb => hMC.adr (swap_mem hbR hbS hb)), hd1, by dsimp only; omega⟩, by kst_all, by ksw_same⟩ (g1.trans ha') g2
          (fun p hp => hK9 p (mem_updL_ne (mem_updL_ne (List.mem_cons_of_mem _ (List.mem_append_right _ hp)) (hneD p hp)) (hneD p hp)) fun q => ho' p hp _ (ha' ▸ hMC.adr (swap_mem hbR hbS q)) rfl)
  · intro c' u' nx' hh' tk' hJ' F' N'
    obtain ⟨bsC, MC, sgC, tC1, tC2⟩ := c'
    dsimp only [kstB] at F' hJ'
    obtain ⟨hSC, hMC, hdC, hsg⟩ := hJ'
    try k_fold
    k_steps
    refine cb_retI hret ?_ (by k_asm) (news_kept N hg' (by assumption))
    rw [show k - ((k : Int) - 0).toNat = 0 by omega, detL] at hdC
    rw [Int.mul_one]
    exact Option.some.inj hdC
end Mine
end

section
open PySem.Spec
namespace Mine

structure ExS where
  T1 : Addr
  T2 : Addr
  x0 : Int
  x1 : Int
  x2 : Int
  y0 : Int
  y1 : Int
  y2 : Int
  a0 : Tok
  a1 : Tok
  a2 : Tok
  b0 : Tok
  b1 : Tok
  b2 : Tok
def exL : Nat → Int → Int → Int → Int → Int → Int → Option (Int × Int)
  | 0, _, _, _, _, _, _ => none
  | f + 1, x0, x1, x2, y0, y1, y2 => if y0 = 0 then some (x0, x1) else exL f y0 y1 y2 (x0 - Int.fdiv x0 y0 * y0) (x1 - Int.fdiv x0 y0 * y1) (x2 - Int.fdiv x0 y0 * y2)
def ExI (g s : Int) (c : ExS) : Prop := (0 ≤ c.x0 ∧ c.x0 < 100) ∧ (0 ≤ c.y0 ∧ c.y0 < 100) ∧ ∃ f, exL f c.x0 c.x1 c.x2 c.y0 c.y1 c.y2 = some (g, s)
theorem ex_rest {x y : Int} (hx : 0 ≤ x) (hy : 0 < y) : 0 ≤ x - Int.fdiv x y * y ∧ x - Int.fdiv x y * y < y := by
  have e : x - Int.fdiv x y * y = Int.fmod x y := by rw [Int.fmod_def, Int.mul_comm]
  rw [e]
  exact ⟨Int.fmod_nonneg_of_pos x hy, Int.fmod_lt_of_pos x hy⟩
theorem ex_quot {x y : Int} (hx : 0 ≤ x ∧ x < 100) (hy : 0 < y) : 0 ≤ Int.fdiv x y ∧ Int.fdiv x y < 100 := by
  rw [Int.fdiv_eq_ediv_of_nonneg _ (by omega)]
  have h1 := Int.ediv_nonneg hx.1 (show 0 ≤ y by omega)
  have h2 := Int.ediv_le_self y hx.1
  omega
theorem ex_turn {g s : Int} {c : ExS} (h : ExI g s c) (hy : ¬ c.y0 = 0) {T T' : Addr} {t0 t1 t2 u0 u1 u2 : Tok} :
    ExI g s ⟨T, T', c.y0, c.y1, c.y2, c.x0 - Int.fdiv c.x0 c.y0 * c.y0, c.x1 - Int.fdiv c.x0 c.y0 * c.y1, c.x2 - Int.fdiv c.x0 c.y0 * c.y2, t0, t1, t2, u0, u1, u2⟩ := by
  obtain ⟨hx, hy0, f, hf⟩ := h
  have := ex_rest hx.1 (show 0 < c.y0 by omega)
  refine ⟨hy0, by dsimp only; omega, ?_⟩
  cases f with
  | zero => cases hf
  | succ f => exact ⟨f, by rw [exL, if_neg hy] at hf; exact hf⟩
theorem ex_meas {g s : Int} {c : ExS} (h : ExI g s c) (hy : ¬ c.y0 = 0) : (c.x0 - Int.fdiv c.x0 c.y0 * c.y0).toNat < c.y0.toNat := by
  obtain ⟨hx, hy0, _⟩ := h
  have := ex_rest hx.1 (show 0 < c.y0 by omega)
  omega
theorem ex_done {g s : Int} {c : ExS} (h : ExI g s c) (hy : c.y0 = 0) : c.x0 = g ∧ c.x1 = s := by
  obtain ⟨hx, hy0, f, hf⟩ := h
  cases f with
  | zero => cases hf
  | succ f => rw [exL, if_pos hy] at hf; cases hf; exact ⟨rfl, rfl⟩

local macro_rules | `(tactic| walk_at $s:str) => `(tactic| k_extra $s)
theorem inverse_spec (w : World) (a m g s : Int) (ta tm : Tok) (h0 : 0 < m) (h1 : m < 100) (h : exL 20 (Int.fmod a m) 1 0 m 0 1 = some (g, s)) :
    PureC w 81 [.int a ta, .int m tm] 3 (fun t => if g = 1 then .int (Int.fmod s m) t else .none) := by
  unfold PureC
  k_fill; w_top off
  intro mean mg mb dp un gd cn cs ad ccd cl outer A₀ base h₀ L mm news sh Q E B F X N T hk hdp hun hret
  refine wpAny_call ?_
  k_dflt (refine' code_def0 ?k1 ?k2 ?k3 ?k5 ?kA ?kF ?kK ?k6 ?k7 ?k8 ?k9 ?kB ?_ ?c2 ?c3 ?c4 ?c5; (case kA => exact rfl); (case kF => exact rfl); (case kK => assumption); (case k1 => k_asm); (case k2 => k_asm); (case k3 => k_asm); (case k5 => k_asm); (case k6 => k_is); (case k7 => k_is); (case k8 => ktr_room); (case k9 => exact BindsTo.of_eq rfl); (case c5 => decide); (case kB => exact locs rfl); (case c2 => exact rfl); (case c3 => exact rfl); (case c4 => exact rfl); k_whole; intro g' L' h' hg' FG' F' N' B' X' T'; (try dsimp only); (try k_lift B'); (try k_fold))
  k_with_none
  k_with "call ref" => (refine wpAny_call ?_; k_dflt (refine' code_def ?k1 ?k2 ?k3 ?k4 ?k5 ?kA ?kF ?kK ?k6 ?k7 ?k8 ?k9 ?kB ?_ ?c2 ?c3 ?c4 ?c5; (case kA => exact rfl); (case kF => exact rfl); (case kK => first | exact rfl | assumption); (case k1 => k_asm); (case k2 => k_asm); (case k3 => k_asm); (case k4 => k_asm); (case k5 => k_asm); (case k6 => k_is); (case k7 => k_is); (case k8 => ktr_room); (case k9 => exact BindsTo.of_eq rfl); (case c5 => decide); (case kB => exact locs rfl); (case c2 => exact rfl); (case c3 => exact rfl); (case c4 => exact rfl); k_whole; intro g2 L2 h2 FG2 F2 N2 B2 X2 T2; (try dsimp only); (try k_lift B2); (try k_fold)))
  k_with "exec While Compare cons nil" => (refine stuck ?_)
  k_steps
  unfold Stuck
  rename Fr _ _ _ _ => lF'
  rename News _ _ _ _ => lN'
  with_unfolding_all refine' ksw_while (σ := ExS) (fun c => [(c.T1, tupO #[.int c.x0 c.a0, .int c.x1 c.a1, .int c.x2 c.a2]), (c.T2, tupO #[.int c.y0 c.b0, .int c.y1 c.b1, .int c.y2 c.b2])]) (fun c => [(Str.ofString "one", .ref c.T1), (Str.ofString "other", .ref c.T2)]) (fun _ => True) [Str.ofString "times", Str.ofString "rest"] (ExI g s) (fun c => c.y0.toNat) ⟨_, _, Int.fmod a m, 1, 0, m, 0, 1, _, _, _, _, _, _⟩ lF' ?kn trivial ?kk ?kp ?_
  case kk => kst_all
  case kn => exact cb_drop lN' (by kcj_all)
  case kp => exact ⟨⟨Int.fmod_nonneg_of_pos a h0, Int.lt_of_lt_of_le (Int.fmod_lt_of_pos a h0) (by omega)⟩, ⟨by dsimp only; omega, by dsimp only; omega⟩, 20, h⟩
  clear lF' lN'
  intro c u hh tk hf hI F3 N3
  obtain ⟨T1, T2, x0, x1, x2, y0, y1, y2, a0, a1, a2, b0, b1, b2⟩ := c
  have hx := hI.1
  have hy1 := hI.2.1
  dsimp only [kstB] at F3 N3 hx hy1
  by_cases hy : y0 = 0
  · obtain ⟨e1, e2⟩ := ex_done hI hy
    dsimp only at e1 e2
    subst e1; subst e2; subst hy
    try k_fold
    k_steps
    · exact ret_val hret _ (if_pos (by assumption)).symm (by k_asm) (news_kept N hg' (by assumption))
    · exact ret_val hret 0 (if_neg (by assumption)).symm (by k_asm) (news_kept N hg' (by assumption))
  · have hq := ex_quot hx (show 0 < y0 by omega)
    try k_fold
    k_steps
    · rename News _ _ _ _ => nE
      refine' ksw_end ⟨_, _, y0, y1, y2, x0 - Int.fdiv x0 y0 * y0, x1 - Int.fdiv x0 y0 * y1, x2 - Int.fdiv x0 y0 * y2, _, _, _, _, _, _⟩ (by assumption) nE ?hn trivial ?hk ?hs (ex_turn hI hy) (ex_meas hI hy)
      case hk => kst_all
      case hn => kst_in
      case hs => ksw_same
    · exfalso; omega
end Mine
end

section
open PySem.Spec
namespace Mine

theorem append_led {prog : Program} {w : World} {A : Around} {E : Value → Shared → Prop} {s : Shared} {h₀ : Heap} {L D : Addr} {m : Str → Option Value} {led : List (Addr × Obj)} {its : Array Value} {n : Nat} {x : Value} {Q : Value → Shared → Prop} (F : Fr h₀ L s.heap m) (N : News h₀ L s.heap led) (hm : (D, W.listOf its n) ∈ led) (hsz : its.size ≤ sizeLine)
    (h : ∀ h', Fr h₀ L h' m → News h₀ L h' (updL D (W.listOf (its.push x) (n + 1)) led) → Q .none { s with heap := h' }) : wpAny (model prog w) A (call (.builtin "list.append") [.ref D, x]) Q E s := by
  have z := N _ hm
  exact append_at (hsz := hsz) z.1 fun h' hs ho' => h h' (F.change hs z.2.1 z.2.2) (news_updL N hm hs ho')

theorem ne_of_data {h₀ h : Heap} {L : Addr} {led : List (Addr × Obj)} (N : News h₀ L h led) {p q : Addr × Obj} (hp : p ∈ led) (hq : q ∈ led) (hd : p.2.data ≠ q.2.data) : p.1 ≠ q.1 := fun e => by
  have h1 := (N p hp).1
  rw [e, (N q hq).1] at h1
  exact hd (congrArg Obj.data (Option.some.inj h1)).symm

def CellEnd (h₀ : Heap) (L : Addr) (m : Str → Option Value) (s : Shared) (pre : List (Addr × Obj)) (c I : Addr) (oI oc : Obj) (J : List (Addr × Obj) → Prop) (s₃ : Shared) : Prop :=
  ∃ h' tk' rest', s₃ = { s with heap := h', toks := tk' } ∧ Fr h₀ L h' m ∧ News h₀ L h' ((I, oI) :: (pre ++ (c, oc) :: rest')) ∧ (∀ p ∈ rest', p.1 ≠ I ∧ p.1 ≠ c) ∧ J rest'
section
variable {prog : Program} {w : World} {A : Around} {s : Shared} {env : Env} {h₀ : Heap} {x : Str} {px : Pos} {body : List Stmt} {R : Result → Shared → Prop} {E : Value → Shared → Prop}
/-- a for over a range whose target is a cell of the frame -/
theorem iter_rangeCell {r : Addr} {a₀ b₀ : Int} {t₀ u₀ v₀ : Tok} {n : Nat} {m : Str → Option Value} {pre rest₀ : List (Addr × Obj)} {c : Addr} {o₀ : Obj} {w₀ : Option Value}
    (J : Nat → List (Addr × Obj) → Prop)
    (hh : A.handled = none) (hr : IsRange s.heap r a₀ b₀ 1 t₀ u₀ v₀) (hsmall : Builtin.Range.small a₀ b₀ 1 = true) (hn : Builtin.Range.rangeSize a₀ b₀ 1 = (n : Int))
    (F : Fr h₀ env.locals s.heap m) (N : News h₀ env.locals s.heap (pre ++ (c, o₀) :: rest₀)) (hd₀ : o₀.data = .cell w₀) (hpre : ∀ p ∈ pre, p.1 ≠ c) (hrest : ∀ p ∈ rest₀, p.1 ≠ c) (hj : J 0 rest₀)
    (hk : env.scope.kind = .function) (hx : env.kindOf x = some .cell) (hc : env.cells.lookup x = some c)
    (turn : ∀ (i : Nat) t rest h tk I oI oc E', i < n → J i rest → oc.data = .cell (some (.int (a₀ + (i : Int)) t)) → Fr h₀ env.locals h m → News h₀ env.locals h ((I, oI) :: (pre ++ (c, oc) :: rest)) → (∀ p ∈ pre, p.1 ≠ I) → (∀ p ∈ rest, p.1 ≠ I ∧ p.1 ≠ c) →
      wpAny (model prog w) A (execs body env) (fun f s₃ => match f with
        | .ret v => R (.ok (.ret v)) s₃
        | .brk => R (.ok .next) s₃
        | _ => CellEnd h₀ env.locals m s pre c I oI oc (J (i + 1)) s₃) E' { s with heap := h, toks := tk })
    (done : ∀ rest oc h tk, J n rest → Fr h₀ env.locals h m → News h₀ env.locals h (pre ++ (c, oc) :: rest) → R (.ok .next) { s with heap := h, toks := tk }) :
    wpAny (model prog w) A (pyIter (.ref r)) (fun it s₂ => codeAny (model prog w) A (.forLoop (.Name x px) it body [] env) R s₂) E s := by
  refine wpAny_pyIter_range hr hsmall ?_
  rw [hn]
  have hIc : ∀ {b o}, s.heap.get? b = some o → b ≠ s.heap.objs.size := fun e => Nat.ne_of_lt (Heap.lt_size e)
  have N1 : News h₀ env.locals (s.heap.push { cls := .type "range_iterator", data := .fields #[rawInt a₀, rawInt (n : Int), rawInt 1] }) (pre ++ (c, o₀) :: rest₀) := fun p hp => ⟨Heap.get?_push_of_some _ (N p hp).1, (N p hp).2⟩
  have hcI : c ≠ s.heap.objs.size := hIc (N (c, o₀) (List.mem_append_right _ List.mem_cons_self)).1
  have hpI : ∀ p ∈ pre, p.1 ≠ s.heap.objs.size := fun p hp => hIc (N p (List.mem_append_left _ hp)).1
  have hI₀ : h₀.get? s.heap.objs.size = none := next_is_new F
  have hLI : env.locals ≠ s.heap.objs.size := Nat.ne_of_lt F.ns.lt
  refine codeAny_forLoop (fun k s' => ∃ i h' tk rest oc w₁, s' = { s with heap := h', toks := tk } ∧ i ≤ n ∧ k = n + 1 - i ∧ IsRangeIter h' s.heap.objs.size (a₀ + (i : Nat) * 1) ((n : Int) - (i : Nat)) 1 ∧ Fr h₀ env.locals h' m ∧
      News h₀ env.locals h' (pre ++ (c, oc) :: rest) ∧ oc.data = .cell w₁ ∧ (∀ p ∈ rest, p.1 ≠ s.heap.objs.size ∧ p.1 ≠ c) ∧ J i rest) ?_ (n + 1)
    ⟨0, _, s.toks, rest₀, o₀, w₀, rfl, Nat.zero_le _, rfl, by simpa using Heap.get?_push_size _ rfl, F.push _, N1, hd₀, fun p hp => ⟨hIc (N p (List.mem_append_right _ (List.mem_cons_of_mem _ hp))).1, hrest p hp⟩, hj⟩
  rintro k s' ⟨i, h', tk, rest, oc, w₁, rfl, hi, rfl, hst, F', N', hoc, hoff, hJ⟩
  have W : Walks prog w A s.heap.objs.size [s.heap.objs.size] [s.heap.objs.size] n (fun i v => i < n ∧ ∃ t, v = .int (a₀ + i * 1) t)
      (fun i h => IsRangeIter h s.heap.objs.size (a₀ + (i : Nat) * 1) ((n : Int) - (i : Nat)) 1) := (Walks.range hh _ a₀ 1 n).bound
  have next : ∀ h₁ : Heap, (∀ b o, b ∉ [s.heap.objs.size] → h'.get? b = some o → h₁.get? b = some o) → Fr h₀ env.locals h₁ m ∧ News h₀ env.locals h₁ (pre ++ (c, oc) :: rest) := fun h₁ hk₁ => by
    refine ⟨⟨F'.ns.at' fun o e => hk₁ _ o (by simpa using hLI) e, fun b o e => hk₁ b o (fun q => by rw [List.mem_singleton.mp q, hI₀] at e; cases e) (F'.keep b o e), F'.above⟩, fun p hp => ⟨hk₁ _ _ (fun q => ?_) (N' p hp).1, (N' p hp).2⟩⟩
    have q' := List.mem_singleton.mp q
    rcases List.mem_append.mp hp with hp | hp
    · exact hpI p hp q'
    · rcases List.mem_cons.mp hp with rfl | hp
      · exact hcI q'
      · exact (hoff p hp).1 q'
  by_cases hlt : i < n
  · refine W.item i _ _ _ hlt hst fun v h₁ tk₁ hP hst₁ hk₁ => ?_
    obtain ⟨F₁, N₁⟩ := next h₁ hk₁
    obtain ⟨_, t, rfl⟩ := hP
    have zc := N₁ (c, oc) (List.mem_append_right _ List.mem_cons_self)
    refine wpAny_assign_Name (wpAny_storeName_cell hk hx hc ⟨oc, zc.1, hoc⟩ fun h₂ hv₂ hs₂ => ?_)
    obtain ⟨o₂, ho₂, hd₂⟩ := hv₂
    have F₂ : Fr h₀ env.locals h₂ m := F₁.change hs₂ zc.2.1 zc.2.2
    have hst₂ : IsRangeIter h₂ s.heap.objs.size (a₀ + ((i + 1 : Nat) : Int) * 1) ((n : Int) - ((i + 1 : Nat) : Int)) 1 := (hs₂.2 _ (Ne.symm hcI)).trans hst₁
    obtain ⟨oI, hoI⟩ : ∃ oI, h₂.get? s.heap.objs.size = some oI := ⟨_, hst₂⟩
    have N₂ : News h₀ env.locals h₂ ((s.heap.objs.size, oI) :: (pre ++ (c, o₂) :: rest)) := by
      intro p hp
      rcases List.mem_cons.mp hp with rfl | hp
      · exact ⟨hoI, Ne.symm hLI, hI₀⟩
      · rcases List.mem_append.mp hp with hp | hp
        · have z := N₁ p (List.mem_append_left _ hp)
          exact ⟨(hs₂.2 _ (hpre p hp)).trans z.1, z.2⟩
        · rcases List.mem_cons.mp hp with rfl | hp
          · exact ⟨ho₂, zc.2⟩
          · have z := N₁ p (List.mem_append_right _ (List.mem_cons_of_mem _ hp))
            exact ⟨(hs₂.2 _ (hoff p hp).2).trans z.1, z.2⟩
    refine wpAny_mono (turn i t rest h₂ _ s.heap.objs.size oI o₂ _ hlt hJ (by rw [hd₂, Int.mul_one]) F₂ N₂ hpI hoff) (fun f s₃ h₃ => ?_) fun _ _ e => e
    have fin : CellEnd h₀ env.locals m s pre c s.heap.objs.size oI o₂ (J (i + 1)) s₃ →
        ∃ m', m' < n + 1 - i ∧ ∃ i h' tk rest oc w₁, s₃ = { s with heap := h', toks := tk } ∧ i ≤ n ∧ m' = n + 1 - i ∧ IsRangeIter h' s.heap.objs.size (a₀ + (i : Nat) * 1) ((n : Int) - (i : Nat)) 1 ∧ Fr h₀ env.locals h' m ∧
          News h₀ env.locals h' (pre ++ (c, oc) :: rest) ∧ oc.data = .cell w₁ ∧ (∀ p ∈ rest, p.1 ≠ s.heap.objs.size ∧ p.1 ≠ c) ∧ J i rest := by
      rintro ⟨h₄, tk₄, rest', rfl, F₄, N₄, hoff', hJ'⟩
      refine ⟨n + 1 - (i + 1), by omega, i + 1, h₄, tk₄, rest', o₂, _, rfl, hlt, rfl, ?_, F₄, fun p hp => N₄ p (List.mem_cons_of_mem _ hp), hd₂, hoff', hJ'⟩
      have e1 := (N₄ _ List.mem_cons_self).1
      have e2 : some oI = some _ := hoI.symm.trans hst₂
      exact e1.trans e2
    cases f with
    | ret v => exact h₃
    | brk => exact h₃
    | next => exact fin h₃
    | cont => exact fin h₃
  · have hin : i = n := by omega
    subst hin
    refine W.done _ _ _ hst fun h₁ tk₁ hk₁ => wpAny_execs_nil ?_
    obtain ⟨F₁, N₁⟩ := next h₁ hk₁
    exact done rest oc h₁ tk₁ hJ F₁ N₁
end
end Mine
end

section
open PySem.Spec
namespace Mine

def rowF (a n one : Int) : List Int := (rangeKs 1 (n - 1).toNat).map fun k => if k = Int.fmod (a * one) n then 1 else 0
def matF (a n : Int) : List (List Int) := (rangeKs 1 (n - 1).toNat).map (rowF a n)

def MatC (w : World) (f : Addr) (vs : List Value) (dn : Nat) (M : List (List Int)) : Prop :=
  ∀ (mean : ExcName → Option Value) (mg mb : Str → Option Value) (dp un : Nat) (gd : Option (List Code)) (cn : Str) (cs : Scope) (a : Addr) (ccd : Value) (cl : List (Str × Addr)) (outer : List Env) (A₀ : Around) (base h₀ : Heap) (L : Addr) (m : Str → Option Value) (news : List (Addr × Obj)) (s : Shared) (Q E : Value → Shared → Prop),
    Below A₀ base outer h₀ → Fr h₀ L s.heap m → (hd.heap_39 w.params).In h₀ → News h₀ L s.heap news → Top hd.view_39 (looseW hd.view_39 []) mean mg mb h₀ → cs.kind = .function →
    dp + dn < recursionLimit → un + 8 * dn < cLine →
    (∀ (D : Addr) (bs : List Addr) (h' : Heap) (tk' : Nat), Fr h₀ L h' m → News h₀ L h' news → MatH D bs M h' → Q (.ref D) { s with heap := h', toks := tk' }) →
    wpAny (model PySem.Challenge.rw_tk0025_01.row.prog w) (ktrTop dp un gd cn cs L a ccd cl outer) (call (.ref f) vs) Q E s

/-- the rows made so far -/
def RowsI (a n : Int) (D : Addr) (i : Nat) (rest : List (Addr × Obj)) : Prop :=
  ∃ (bs : List Addr) (e : Nat) (rows : List (Addr × Obj)), rest = (D, W.listOf (bs.map Value.ref).toArray e) :: rows ∧ bs.length = i ∧ (∀ p ∈ rows, p.1 ≠ D) ∧
    ∀ (j : Nat) b, bs[j]? = some b → ∃ vs e', (b, W.listOf vs.toArray e') ∈ rows ∧ IntsAre vs (rowF a n (1 + (j : Int)))

theorem rangeKs_get {a : Int} {N i : Nat} (h : i < N) : (rangeKs a N)[i]? = some (a + (i : Int)) := by simp [rangeKs, h]
theorem RowsI.start (a n : Int) (D : Addr) : RowsI a n D 0 [(D, W.listOf #[] 0)] := ⟨[], 0, [], rfl, rfl, (fun _ h => nomatch h), fun j b h => by simp at h⟩
theorem RowsI.mat {a n : Int} {D L : Addr} {h₀ h : Heap} {led : List (Addr × Obj)} {rest : List (Addr × Obj)} (x : RowsI a n D (n - 1).toNat rest) (N : News h₀ L h led) (hs : ∀ p ∈ rest, p ∈ led) : ∃ bs, MatH D bs (matF a n) h := by
  obtain ⟨bs, e, rows, rfl, hl, _, hr⟩ := x
  refine ⟨bs, ⟨_, (N _ (hs _ List.mem_cons_self)).1, rfl, e, rfl⟩, by rw [hl, matF, List.length_map, rangeKs_length], fun i b ns hb hn => ?_⟩
  obtain ⟨vs, e', hm, hi⟩ := hr i b hb
  have hlt : i < (n - 1).toNat := by rw [← hl]; exact (List.getElem?_eq_some_iff.mp hb).1
  rw [matF, List.getElem?_map, rangeKs_get hlt] at hn
  cases hn
  exact ⟨vs, ⟨_, (N _ (hs _ (List.mem_cons_of_mem _ hm))).1, rfl, e', rfl⟩, hi⟩
theorem RowsI.next {a n : Int} {D D' : Addr} {i : Nat} {bs : List Addr} {e : Nat} {rows : List (Addr × Obj)} {ys : List Value} (hl : bs.length = i) (hrD : ∀ p ∈ rows, p.1 ≠ D) (hr : ∀ (j : Nat) b, bs[j]? = some b → ∃ vs e', (b, W.listOf vs.toArray e') ∈ rows ∧ IntsAre vs (rowF a n (1 + (j : Int)))) (hD : D' ≠ D)
    (hy : IntsAre ys (rowF a n (1 + (i : Int)))) : RowsI a n D (i + 1) ((D, W.listOf ((bs ++ [D']).map Value.ref).toArray (e + 1)) :: (D', LCg.lst ys) :: rows) := by
  refine ⟨bs ++ [D'], e + 1, _, rfl, by simp [hl], ?_, fun j b hb => ?_⟩
  · intro p hp
    rcases List.mem_cons.mp hp with rfl | hp
    · exact hD
    · exact hrD p hp
  · by_cases hj : j < bs.length
    · rw [List.getElem?_append_left hj] at hb
      obtain ⟨vs, e', h1, h2⟩ := hr j b hb
      exact ⟨vs, e', List.mem_cons_of_mem _ h1, h2⟩
    · rw [List.getElem?_append_right (by omega)] at hb
      have hj' : j = bs.length := by
        have := (List.getElem?_eq_some_iff.mp hb).1
        simp at this
        omega
      subst hj'
      simp at hb
      subst hb
      rw [hl]
      exact ⟨ys, _, List.mem_cons_self, hy⟩

local macro_rules | `(tactic| walk_at $s:str) => `(tactic| k_extra $s)
theorem matrix_spec (w : World) (a n : Int) (ta tn : Tok) (h0 : 0 ≤ a ∧ a < 100) (h1 : 2 ≤ n ∧ n < 100) : MatC w 107 [.int a ta, .int n tn] 12 (matF a n) := by
  unfold MatC
  k_fill; w_top off
  intro mean mg mb dp un gd cn cs ad ccd cl outer A₀ base h₀ L m news sh Q E B F X N T hkf hdp hun hret
  refine wpAny_call ?_
  k_dflt (refine' code_defC0 ?k1 ?k2 ?k3 ?k5 ?kA ?kF ?kK ?k6 ?k7 ?k8 ?k9 ?kB ?kD ?_ ?c2 ?c3 ?c4; (case kA => exact rfl); (case kF => exact rfl); (case kK => assumption); (case k1 => k_asm); (case k2 => k_asm); (case k3 => k_asm); (case k5 => k_asm); (case k6 => k_is); (case k7 => k_is); (case k8 => ktr_room); (case k9 => exact BindsTo.of_eq rfl); (case kB => exact rfl); (case kD => decide +kernel); (case c2 => exact rfl); (case c3 => exact rfl); (case c4 => exact rfl); k_whole; intro g' L' h' tk' cells' hg' FG' F' N' Y' B' X' T'; (have hY := CellsAre.three Y'); (obtain ⟨o1, o2, o3, hE', d1', d2', d3'⟩ := hY); subst hE'; (try dsimp only); (try k_lift B'); (try k_fold))
  k_with_none
  k_with "exec For Name Call cons nil" => (refine wpAny_For ?_)
  k_with "pyIter ref" => (refine stuck ?_)
  k_with "newList" => (k_here; k_dflt (refine' newList_K ?k1 ?k2 ?_; (case k1 => k_asm); (case k2 => k_asm); k_whole); intro D0 hD0 FD0 ND0 lD0; k_lt lD0; (try k_sweep))
  k_steps
  have d2 : o2.data = .cell (some (.int n tn)) := d2'
  have d3 : o3.data = .cell (some (.int a ta)) := d3'
  unfold Stuck
  rename Fr _ _ _ _ => lF'
  rename News _ _ _ _ => lN'
  rename IsRange _ _ _ _ _ _ _ _ => rgX
  with_unfolding_all refine' iter_rangeCell (pre := [(L' + 1 + 1, o2), (L' + 1, o3)]) (c := L' + 1 + 1 + 1) (o₀ := o1) (rest₀ := [(D0, W.listOf #[] 0)]) (RowsI a n D0) (by rfl) rgX (small_one (by omega) (by omega) (by omega) (by omega)) (rangeSize_nat _ _) lF' (cb_drop lN' (by kcj_all)) d1' ?hpre ?hrest (RowsI.start a n D0) (by rfl) (by rfl) (by rfl) ?_ ?_
  case hpre => k_all
  case hrest => k_all
  · clear lF' lN'
    intro i' t' rest' hh' tk' I' oI' oc' E' hi' hJ' hoc' F' N' hpI' hoff'
    obtain ⟨bs, e, rows, rfl, hbl, hrD, hrows⟩ := hJ'
    simp only [List.cons_append, List.nil_append] at N'
    try k_fold
    k_with "eval ListComp" => (k_dflt (refine LCg.ListComp_U (F₀ := by k_asm) (by with_unfolding_all rfl) (by decide) (by rfl) (by decide) (by rfl) ?_))
    k_with "CompSrc" => ((rename Fr _ _ _ _ => lF'); (rename News _ _ _ _ => lN'); (rename IsRange _ _ _ _ _ _ _ _ => rgX); k_dflt (refine LCg.CompSrc.range (by rfl) lF' lN' rgX (small_one (by omega) (by omega) (by omega) (by omega)) (rangeSize_nat _ _) (by rw [PySem.sizeLine_eq]; omega) ?_); intro g9; refine kcf_range (fun k => if k = Int.fmod (a * (1 + (i' : Int))) n then 1 else 0) ?_ ?_; (intro k9 t9 I9 oI9 C9 oC9 D9 m9 ys9 h9 tk9 E9 hlo9 hhi9 hC9 hx9 F9 N9 off9 ne9 hM9; try k_fold); rotate_left 1; (unfold KPfDone; intro ys9 hI9))
    k_with "CompEnd" => first | exact LCg.CompEnd.intro (by assumption) (by assumption) _ (fun p hp => hp) off9 trivial ⟨rfl, _, by rw [if_pos (by assumption)]⟩ | exact LCg.CompEnd.intro (by assumption) (by assumption) _ (fun p hp => hp) off9 trivial ⟨rfl, _, by rw [if_neg (by assumption)]⟩
    k_with "FinE" => ((unfold LCg.FinE); intro D7 h7 tk7 F7 N7 o7; (try dsimp only))
    k_with "call builtin:list.append" => k_dflt (refine' append_led ?k1 ?k2 ?k3 ?k4 ?_; (case k1 => k_asm); (case k2 => k_asm); (case k3 => k_mem); (case k4 => (rw [List.size_toArray, List.length_map, hbl, sizeLine_eq]; omega)); intro h6 F6 N6; try k_fold)
    k_steps
    have hD7 : D0 ≠ D7 := o7.2.2.2.2.1
    refine ⟨_, _, (D0, W.listOf ((bs ++ [D7]).map Value.ref).toArray (e + 1)) :: (D7, LCg.lst ys9) :: rows, rfl, F6, ?_, ?_, RowsI.next hbl hrD hrows (Ne.symm hD7) hI9⟩
    · have ep : (bs.map Value.ref).toArray.push (.ref D7) = ((bs ++ [D7]).map Value.ref).toArray := by simp
      rw [ep] at N6
      have hI0 : I' ≠ D0 := Ne.symm (hoff' _ List.mem_cons_self).1
      refine cb_drop N6 fun p hp => ?_
      simp only [List.cons_append, List.nil_append, List.mem_cons] at hp
      rcases hp with rfl | rfl | rfl | rfl | rfl | rfl | hp
      · exact mem_updL_ne (by simp) hI0
      · exact mem_updL_ne (by simp) (by k_ne)
      · exact mem_updL_ne (by simp) (by k_ne)
      · exact mem_updL_ne (by simp) (by k_ne)
      · exact mem_updL_self (o' := W.listOf (bs.map Value.ref).toArray e) (by simp)
      · exact mem_updL_ne (by simp) (Ne.symm hD7)
      · exact mem_updL_ne (by simp [hp]) (hrD p hp)
    · intro p hp
      simp only [List.mem_cons] at hp
      rcases hp with rfl | rfl | hp
      · exact hoff' (D0, W.listOf (bs.map Value.ref).toArray e) List.mem_cons_self
      · exact ⟨Ne.symm o7.1, Ne.symm o7.2.2.2.1⟩
      · exact hoff' _ (List.mem_cons_of_mem _ hp)
  · intro rest oc hh tk hJ F N9
    obtain ⟨bs, hmat⟩ := hJ.mat N9 (fun p hp => by simp [hp])
    obtain ⟨bs', e, rows, rfl, hbl, hrD, hrows⟩ := hJ
    try k_fold
    k_steps
    exact hret D0 bs _ _ (by k_asm) (news_kept N hg' (by assumption)) hmat
end Mine
end

section
open PySem.Spec
namespace Mine

def halfN (n : Int) : Nat := (Int.fdiv (n - 1) 2 + 1 - 1).toNat
def beyN (a n : Int) : Nat := (List.foldl (fun l' k' => if n < 2 * Int.fmod (a * k') n then l' ++ [1] else l') ([] : List Int) (rangeKs 1 (halfN n))).length
def sumF (a n : Int) : Int := ((rangeKs 1 (halfN n)).map fun k => Int.fdiv (a * k) n).sum

local macro_rules | `(tactic| walk_at $s:str) => `(tactic| k_extra $s)
theorem counts_spec (w : World) (a n sg : Int) (ta tn ts : Tok) (h0 : 0 ≤ a ∧ a < 100) (h1 : 2 ≤ n ∧ n < 100) (hb : (-1 : Int) ^ ((beyN a n : Nat) : Int).toNat = sg)
    (hs : Int.fmod a 2 = 0 ∨ (¬ Int.fmod a 2 = 0 ∧ (-1 : Int) ^ (sumF a n).toNat = sg)) (hsn : 0 ≤ sumF a n ∧ sumF a n < 1000) : PureC w 119 [.int a ta, .int n tn, .int sg ts] 12 (fun _ => .bool true) := by
  unfold PureC
  k_fill; w_top off
  intro mean mg mb dp un gd cn cs ad ccd cl outer A₀ base h₀ L m news sh Q E B F X N T hkf hdp hun hret
  have hhf : 0 ≤ Int.fdiv (n - 1) 2 ∧ Int.fdiv (n - 1) 2 < 100 := by rw [Int.fdiv_eq_ediv_of_nonneg _ (by omega)]; omega
  refine wpAny_call ?_
  k_dflt (refine' code_defC0 ?k1 ?k2 ?k3 ?k5 ?kA ?kF ?kK ?k6 ?k7 ?k8 ?k9 ?kB ?kD ?_ ?c2 ?c3 ?c4; (case kA => exact rfl); (case kF => exact rfl); (case kK => assumption); (case k1 => k_asm); (case k2 => k_asm); (case k3 => k_asm); (case k5 => k_asm); (case k6 => k_is); (case k7 => k_is); (case k8 => ktr_room); (case k9 => exact BindsTo.of_eq rfl); (case kB => exact rfl); (case kD => decide +kernel); (case c2 => exact rfl); (case c3 => exact rfl); (case c4 => exact rfl); k_whole; intro g' L' h' tk' cells' hg' FG' F' N' Y' B' X' T'; (have hY := CellsAre.two Y'); (obtain ⟨o1, o2, hE', d1', d2'⟩ := hY); subst hE'; (try dsimp only); (try k_lift B'); (try k_fold))
  k_with_none
  have hsn1 : 0 ≤ (List.map (fun k => Int.fdiv (a * k) n) (rangeKs 1 (halfN n))).sum := hsn.1
  have hsn2 : (List.map (fun k => Int.fdiv (a * k) n) (rangeKs 1 (halfN n))).sum < 1000 := hsn.2
  have hHN : halfN n = (Int.fdiv (n - 1) 2 + 1 - 1).toNat := rfl
  have hH1 : halfN n < 1000 := by omega
  k_with "eval ListComp" => ((fail_if_success lct_look); k_dflt (refine LCg.ListComp_U (F₀ := by k_asm) (by with_unfolding_all rfl) (by decide) (by rfl) (by decide) (by rfl) ?_))
  k_with "FinE" => ((unfold LCg.FinE); intro D7 h7 tk7 F7 N7 o7; (try dsimp only))
  k_with "CompEnd" => (exact LCg.CompEnd.intro (by assumption) (by assumption) _ (fun p hp => hp) off8 trivial ⟨rfl, _, rfl⟩)
  k_with "CompSrc" => ((rename Fr _ _ _ _ => lF'); (rename News _ _ _ _ => lN'); (rename IsRange _ _ _ _ _ _ _ _ => rgX); k_dflt (refine LCg.CompSrc.range (n := halfN n) (by rfl) lF' lN' rgX (small_one (by omega) (by omega) (by omega) (by omega)) (rangeSize_nat _ _) (by rw [PySem.sizeLine_eq]; omega) ?_); intro g9; refine kcf_range (fun k => Int.fdiv (a * k) n) ?_ ?_; (intro k9 t9 I9 oI9 C9 oC9 D9 m9 ys9 h9 tk9 E9 hlo9 hhi9 hC9 hx9 F9 N9 off8 ne9 hM9; try k_fold); rotate_left 1; (unfold KPfDone; intro ys9 hI9))
  k_steps
  · exact absurd hb.symm (by assumption)
  · exact ret_val hret 0 (by rw [show (Int.fmod a 2 == 0) = true from beq_iff_eq.mpr (by assumption)]) (by k_asm) (news_kept N hg' (by assumption))
  · have hs2 := (hs.resolve_left (by assumption)).2
    exact ret_val hret 0 (by rw [show (sg == (-1) ^ (List.map (fun k => Int.fdiv (a * k) n) (rangeKs 1 (halfN n))).sum.toNat) = true from beq_iff_eq.mpr hs2.symm]) (by k_asm) (news_kept N hg' (by assumption))
end Mine
end

section
open PySem.Spec
namespace Mine

theorem upd2 {h₀ h : Heap} {L bx lst : Addr} {o o' ol : Obj} (N : News h₀ L h (updL bx o [(bx, o'), (lst, ol)])) (hne : lst < bx) : News h₀ L h [(bx, o), (lst, ol)] :=
  cb_drop N fun p hp => by
    simp only [List.mem_cons, List.not_mem_nil, or_false] at hp
    rcases hp with rfl | rfl
    · exact mem_updL_self (o' := o') (by simp)
    · exact mem_updL_ne (by simp) (Nat.ne_of_lt hne)
local macro_rules | `(tactic| walk_at $s:str) => `(tactic| k_extra $s)
theorem take_spec {w : World} {bx lst : Addr} {c many : Int} {tc tm : Tok} {ws : List Value} {ns : List Int} {e1 e2 : Nat} (hm : 0 < many ∧ many < 100) (hc : 0 ≤ c ∧ c < 10) (hi : IntsAre ws ns) (hl : ns.length < 100) (hne : lst < bx)
    {mean : ExcName → Option Value} {mg mb : Str → Option Value} {dp un : Nat} {gd : Option (List Code)} {cn : Str} {cs : Scope} {ad : Addr} {ccd : Value} {cl : List (Str × Addr)} {outer : List Env} {A₀ : Around} {base h₀ : Heap} {L : Addr} {m : Str → Option Value} {s : Shared} {Q E : Value → Shared → Prop}
    (B : Below A₀ base outer h₀) (F : Fr h₀ L s.heap m) (X : (hd.heap_39 w.params).In h₀) (N : News h₀ L s.heap [(bx, W.listOf #[.ref lst, .int c tc] e1), (lst, W.listOf ws.toArray e2)]) (T : Top hd.view_39 (looseW hd.view_39 []) mean mg mb h₀) (hkf : cs.kind = .function)
    (hdp : dp + 1 < recursionLimit) (hun : un + 8 * 1 < cLine)
    (hret : ∀ (v : Int) (t t' : Tok) (h' : Heap) (tk' : Nat), 0 ≤ v → v < many → Fr h₀ L h' m → News h₀ L h' [(bx, W.listOf #[.ref lst, .int (c + 1) t'] e1), (lst, W.listOf ws.toArray e2)] → Q (.int v t) { s with heap := h', toks := tk' }) :
    wpAny (model PySem.Challenge.rw_tk0025_01.row.prog w) (ktrTop dp un gd cn cs L ad ccd cl outer) (call (.ref 102) [.ref bx, .int many tm]) Q E s := by
  revert X; k_fill; intro X; w_top off
  refine wpAny_call ?_
  k_dflt cell_enter
  k_with_none
  k_with "setItem ref int" => k_dflt (refine' set_led (vs := [.ref lst, .int c tc]) ?k1 ?k2 ?k3 ?k4 ?k5 ?k6 ?_; (case k1 => k_asm); (case k2 => k_asm); (case k3 => exact List.mem_cons_self); (case k4 => decide); (case k5 => decide); (case k6 => exact Nat.lt_succ_self 1); intro h9 F9 N8; (have N9 : News _ _ _ [(bx, W.listOf #[.ref lst, .int (c + 1) _] e1), (lst, W.listOf ws.toArray e2)] := upd2 N8 hne); clear N8; (try k_sweep))
  k_steps
  all_goals exact hret _ _ _ _ _ (Int.fmod_nonneg_of_pos _ hm.1) (Int.fmod_lt_of_pos _ hm.1) (by k_asm) (by k_asm)
end Mine
end

section
open PySem.Spec
namespace Mine

def jpw (p x : Int) : Int := (pmL p 20 (Int.fmod 1 p) (Int.fmod x p) (Int.fdiv (p - 1) 2)).getD 1000
def jone (p pw : Int) : Int := if pw = p - 1 then -1 else pw
/-- what the text's Jacobi sign is -/
def jacF (x n : Int) : Int := if n = 9 then jone 3 (jpw 3 x) ^ (2 : Int).toNat else if n = 15 then jone 3 (jpw 3 x) * jone 5 (jpw 5 x) else jone n (jpw n x) ^ (1 : Int).toNat
/-- and that it is found -/
abbrev PwOk (p x : Int) : Prop := pmL p 20 (Int.fmod 1 p) (Int.fmod x p) (Int.fdiv (p - 1) 2) = some (jpw p x) ∧ 0 ≤ jpw p x ∧ jpw p x < 100
abbrev JacOk (x n : Int) : Prop := if n = 9 then PwOk 3 x else if n = 15 then PwOk 3 x ∧ PwOk 5 x else PwOk n x

def sgF (a n : Int) : Int := (detL (n - 1).toNat (n - 1).toNat 0 1 (matF a n)).getD 7
abbrev DetOk (a n : Int) : Prop := ((matF a n).length = (n - 1).toNat ∧ ∀ ns ∈ matF a n, ns.length = (n - 1).toNat ∧ ∀ x ∈ ns, 0 ≤ x ∧ x ≤ 1) ∧ detL (n - 1).toNat (n - 1).toNat 0 1 (matF a n) = some (sgF a n)
def gF (a n : Int) : Int := (gcdL 20 (if a < 0 then -a else a) (if n < 0 then -n else n)).getD 0
abbrev GcdOk (a n : Int) : Prop := gcdL 20 (if a < 0 then -a else a) (if n < 0 then -n else n) = some (gF a n)
def exF (a n : Int) : Int × Int := (exL 20 (Int.fmod a n) 1 0 n 0 1).getD (0, 0)
def tuF (a n : Int) : Int := Int.fmod (exF a n).2 n

/-- what the law asks of n and a -/
abbrev FactsA (n a : Int) : Prop :=
  DetOk a n ∧ JacOk a n ∧ jacF a n = sgF a n ∧ GcdOk a n ∧ exL 20 (Int.fmod a n) 1 0 n 0 1 = some (exF a n) ∧
  ((sgF a n = 0 ∧ gF a n ≠ 1 ∧ (exF a n).1 ≠ 1) ∨
   (sgF a n ≠ 0 ∧ gF a n = 1 ∧ (exF a n).1 = 1 ∧ (0 ≤ tuF a n ∧ tuF a n < 100) ∧ DetOk (tuF a n) n ∧ sgF (tuF a n) n = sgF a n ∧
    (-1 : Int) ^ ((beyN a n : Nat) : Int).toNat = sgF a n ∧ (Int.fmod a 2 = 0 ∨ (¬ Int.fmod a 2 = 0 ∧ (-1 : Int) ^ (sumF a n).toNat = sgF a n)) ∧ (0 ≤ sumF a n ∧ sumF a n < 1000)))
/-- of n -/
abbrev FactsN (n : Int) : Prop :=
  JacOk 2 n ∧ JacOk (n - 1) n ∧ jacF 2 n = (if Int.fmod n 8 = 1 ∨ Int.fmod n 8 = 7 then 1 else -1) ∧ jacF (n - 1) n = (if Int.fmod n 4 = 1 then 1 else -1)
/-- of n and b -/
abbrev FactsB (n b : Int) : Prop :=
  JacOk b n ∧ JacOk n b ∧ GcdOk b n ∧ ((1 < gF b n ∧ jacF b n = 0 ∧ jacF n b = 0) ∨ (¬ 1 < gF b n ∧ ((Int.fmod b 4 = 3 ∧ Int.fmod n 4 = 3 ∧ jacF b n = 0 - jacF n b) ∨ (¬ (Int.fmod b 4 = 3 ∧ Int.fmod n 4 = 3) ∧ jacF b n = jacF n b))))

theorem a3_0 : FactsA 3 (1 + ((0 : Nat) : Int)) := by decide +kernel
theorem a3_1 : FactsA 3 (1 + ((1 : Nat) : Int)) := by decide +kernel
theorem a5_0 : FactsA 5 (1 + ((0 : Nat) : Int)) := by decide +kernel
theorem a5_1 : FactsA 5 (1 + ((1 : Nat) : Int)) := by decide +kernel
theorem a5_2 : FactsA 5 (1 + ((2 : Nat) : Int)) := by decide +kernel
theorem a5_3 : FactsA 5 (1 + ((3 : Nat) : Int)) := by decide +kernel
theorem a7_0 : FactsA 7 (1 + ((0 : Nat) : Int)) := by decide +kernel
theorem a7_1 : FactsA 7 (1 + ((1 : Nat) : Int)) := by decide +kernel
theorem a7_2 : FactsA 7 (1 + ((2 : Nat) : Int)) := by decide +kernel
theorem a7_3 : FactsA 7 (1 + ((3 : Nat) : Int)) := by decide +kernel
theorem a7_4 : FactsA 7 (1 + ((4 : Nat) : Int)) := by decide +kernel
theorem a7_5 : FactsA 7 (1 + ((5 : Nat) : Int)) := by decide +kernel
theorem a9_0 : FactsA 9 (1 + ((0 : Nat) : Int)) := by decide +kernel
theorem a9_1 : FactsA 9 (1 + ((1 : Nat) : Int)) := by decide +kernel
theorem a9_2 : FactsA 9 (1 + ((2 : Nat) : Int)) := by decide +kernel
theorem a9_3 : FactsA 9 (1 + ((3 : Nat) : Int)) := by decide +kernel
theorem a9_4 : FactsA 9 (1 + ((4 : Nat) : Int)) := by decide +kernel
theorem a9_5 : FactsA 9 (1 + ((5 : Nat) : Int)) := by decide +kernel
theorem a9_6 : FactsA 9 (1 + ((6 : Nat) : Int)) := by decide +kernel
theorem a9_7 : FactsA 9 (1 + ((7 : Nat) : Int)) := by decide +kernel
theorem a11_0 : FactsA 11 (1 + ((0 : Nat) : Int)) := by decide +kernel
theorem a11_1 : FactsA 11 (1 + ((1 : Nat) : Int)) := by decide +kernel
theorem a11_2 : FactsA 11 (1 + ((2 : Nat) : Int)) := by decide +kernel
theorem a11_3 : FactsA 11 (1 + ((3 : Nat) : Int)) := by decide +kernel
theorem a11_4 : FactsA 11 (1 + ((4 : Nat) : Int)) := by decide +kernel
theorem a11_5 : FactsA 11 (1 + ((5 : Nat) : Int)) := by decide +kernel
theorem a11_6 : FactsA 11 (1 + ((6 : Nat) : Int)) := by decide +kernel
theorem a11_7 : FactsA 11 (1 + ((7 : Nat) : Int)) := by decide +kernel
theorem a11_8 : FactsA 11 (1 + ((8 : Nat) : Int)) := by decide +kernel
theorem a11_9 : FactsA 11 (1 + ((9 : Nat) : Int)) := by decide +kernel
theorem a13_0 : FactsA 13 (1 + ((0 : Nat) : Int)) := by decide +kernel
theorem a13_1 : FactsA 13 (1 + ((1 : Nat) : Int)) := by decide +kernel
theorem a13_2 : FactsA 13 (1 + ((2 : Nat) : Int)) := by decide +kernel
theorem a13_3 : FactsA 13 (1 + ((3 : Nat) : Int)) := by decide +kernel
theorem a13_4 : FactsA 13 (1 + ((4 : Nat) : Int)) := by decide +kernel
theorem a13_5 : FactsA 13 (1 + ((5 : Nat) : Int)) := by decide +kernel
theorem a13_6 : FactsA 13 (1 + ((6 : Nat) : Int)) := by decide +kernel
theorem a13_7 : FactsA 13 (1 + ((7 : Nat) : Int)) := by decide +kernel
theorem a13_8 : FactsA 13 (1 + ((8 : Nat) : Int)) := by decide +kernel
theorem a13_9 : FactsA 13 (1 + ((9 : Nat) : Int)) := by decide +kernel
theorem a13_10 : FactsA 13 (1 + ((10 : Nat) : Int)) := by decide +kernel
theorem a13_11 : FactsA 13 (1 + ((11 : Nat) : Int)) := by decide +kernel
theorem a15_0 : FactsA 15 (1 + ((0 : Nat) : Int)) := by decide +kernel
theorem a15_1 : FactsA 15 (1 + ((1 : Nat) : Int)) := by decide +kernel
theorem a15_2 : FactsA 15 (1 + ((2 : Nat) : Int)) := by decide +kernel
theorem a15_3 : FactsA 15 (1 + ((3 : Nat) : Int)) := by decide +kernel
theorem a15_4 : FactsA 15 (1 + ((4 : Nat) : Int)) := by decide +kernel
theorem a15_5 : FactsA 15 (1 + ((5 : Nat) : Int)) := by decide +kernel
theorem a15_6 : FactsA 15 (1 + ((6 : Nat) : Int)) := by decide +kernel
theorem a15_7 : FactsA 15 (1 + ((7 : Nat) : Int)) := by decide +kernel
theorem a15_8 : FactsA 15 (1 + ((8 : Nat) : Int)) := by decide +kernel
theorem a15_9 : FactsA 15 (1 + ((9 : Nat) : Int)) := by decide +kernel
theorem a15_10 : FactsA 15 (1 + ((10 : Nat) : Int)) := by decide +kernel
theorem a15_11 : FactsA 15 (1 + ((11 : Nat) : Int)) := by decide +kernel
theorem a15_12 : FactsA 15 (1 + ((12 : Nat) : Int)) := by decide +kernel
theorem a15_13 : FactsA 15 (1 + ((13 : Nat) : Int)) := by decide +kernel
theorem all_A0 : ∀ j < 2, FactsA 3 (1 + ((j : Nat) : Int)) := fun j hj => match j, hj with
  | 0, _ => a3_0
  | 1, _ => a3_1
  | j + 2, hj => absurd hj (by omega)
theorem all_A1 : ∀ j < 4, FactsA 5 (1 + ((j : Nat) : Int)) := fun j hj => match j, hj with
  | 0, _ => a5_0
  | 1, _ => a5_1
  | 2, _ => a5_2
  | 3, _ => a5_3
  | j + 4, hj => absurd hj (by omega)
theorem all_A2 : ∀ j < 6, FactsA 7 (1 + ((j : Nat) : Int)) := fun j hj => match j, hj with
  | 0, _ => a7_0
  | 1, _ => a7_1
  | 2, _ => a7_2
  | 3, _ => a7_3
  | 4, _ => a7_4
  | 5, _ => a7_5
  | j + 6, hj => absurd hj (by omega)
theorem all_A3 : ∀ j < 8, FactsA 9 (1 + ((j : Nat) : Int)) := fun j hj => match j, hj with
  | 0, _ => a9_0
  | 1, _ => a9_1
  | 2, _ => a9_2
  | 3, _ => a9_3
  | 4, _ => a9_4
  | 5, _ => a9_5
  | 6, _ => a9_6
  | 7, _ => a9_7
  | j + 8, hj => absurd hj (by omega)
theorem all_A4 : ∀ j < 10, FactsA 11 (1 + ((j : Nat) : Int)) := fun j hj => match j, hj with
  | 0, _ => a11_0
  | 1, _ => a11_1
  | 2, _ => a11_2
  | 3, _ => a11_3
  | 4, _ => a11_4
  | 5, _ => a11_5
  | 6, _ => a11_6
  | 7, _ => a11_7
  | 8, _ => a11_8
  | 9, _ => a11_9
  | j + 10, hj => absurd hj (by omega)
theorem all_A5 : ∀ j < 12, FactsA 13 (1 + ((j : Nat) : Int)) := fun j hj => match j, hj with
  | 0, _ => a13_0
  | 1, _ => a13_1
  | 2, _ => a13_2
  | 3, _ => a13_3
  | 4, _ => a13_4
  | 5, _ => a13_5
  | 6, _ => a13_6
  | 7, _ => a13_7
  | 8, _ => a13_8
  | 9, _ => a13_9
  | 10, _ => a13_10
  | 11, _ => a13_11
  | j + 12, hj => absurd hj (by omega)
theorem all_A6 : ∀ j < 14, FactsA 15 (1 + ((j : Nat) : Int)) := fun j hj => match j, hj with
  | 0, _ => a15_0
  | 1, _ => a15_1
  | 2, _ => a15_2
  | 3, _ => a15_3
  | 4, _ => a15_4
  | 5, _ => a15_5
  | 6, _ => a15_6
  | 7, _ => a15_7
  | 8, _ => a15_8
  | 9, _ => a15_9
  | 10, _ => a15_10
  | 11, _ => a15_11
  | 12, _ => a15_12
  | 13, _ => a15_13
  | j + 14, hj => absurd hj (by omega)
theorem n_0 : FactsN (3 + 2 * ((0 : Nat) : Int)) := by decide +kernel
theorem n_1 : FactsN (3 + 2 * ((1 : Nat) : Int)) := by decide +kernel
theorem n_2 : FactsN (3 + 2 * ((2 : Nat) : Int)) := by decide +kernel
theorem n_3 : FactsN (3 + 2 * ((3 : Nat) : Int)) := by decide +kernel
theorem n_4 : FactsN (3 + 2 * ((4 : Nat) : Int)) := by decide +kernel
theorem n_5 : FactsN (3 + 2 * ((5 : Nat) : Int)) := by decide +kernel
theorem n_6 : FactsN (3 + 2 * ((6 : Nat) : Int)) := by decide +kernel
theorem all_N : ∀ i < 7, FactsN (3 + 2 * ((i : Nat) : Int)) := fun i hi => match i, hi with
  | 0, _ => n_0
  | 1, _ => n_1
  | 2, _ => n_2
  | 3, _ => n_3
  | 4, _ => n_4
  | 5, _ => n_5
  | 6, _ => n_6
  | i + 7, hi => absurd hi (by omega)
theorem b0_0 : FactsB (3 + 2 * ((0 : Nat) : Int)) (3 + 2 * ((0 : Nat) : Int)) := by decide +kernel
theorem b0_1 : FactsB (3 + 2 * ((0 : Nat) : Int)) (3 + 2 * ((1 : Nat) : Int)) := by decide +kernel
theorem b0_2 : FactsB (3 + 2 * ((0 : Nat) : Int)) (3 + 2 * ((2 : Nat) : Int)) := by decide +kernel
theorem b0_3 : FactsB (3 + 2 * ((0 : Nat) : Int)) (3 + 2 * ((3 : Nat) : Int)) := by decide +kernel
theorem b0_4 : FactsB (3 + 2 * ((0 : Nat) : Int)) (3 + 2 * ((4 : Nat) : Int)) := by decide +kernel
theorem b0_5 : FactsB (3 + 2 * ((0 : Nat) : Int)) (3 + 2 * ((5 : Nat) : Int)) := by decide +kernel
theorem b0_6 : FactsB (3 + 2 * ((0 : Nat) : Int)) (3 + 2 * ((6 : Nat) : Int)) := by decide +kernel
theorem b1_0 : FactsB (3 + 2 * ((1 : Nat) : Int)) (3 + 2 * ((0 : Nat) : Int)) := by decide +kernel
theorem b1_1 : FactsB (3 + 2 * ((1 : Nat) : Int)) (3 + 2 * ((1 : Nat) : Int)) := by decide +kernel
theorem b1_2 : FactsB (3 + 2 * ((1 : Nat) : Int)) (3 + 2 * ((2 : Nat) : Int)) := by decide +kernel
theorem b1_3 : FactsB (3 + 2 * ((1 : Nat) : Int)) (3 + 2 * ((3 : Nat) : Int)) := by decide +kernel
theorem b1_4 : FactsB (3 + 2 * ((1 : Nat) : Int)) (3 + 2 * ((4 : Nat) : Int)) := by decide +kernel
theorem b1_5 : FactsB (3 + 2 * ((1 : Nat) : Int)) (3 + 2 * ((5 : Nat) : Int)) := by decide +kernel
theorem b1_6 : FactsB (3 + 2 * ((1 : Nat) : Int)) (3 + 2 * ((6 : Nat) : Int)) := by decide +kernel
theorem b2_0 : FactsB (3 + 2 * ((2 : Nat) : Int)) (3 + 2 * ((0 : Nat) : Int)) := by decide +kernel
theorem b2_1 : FactsB (3 + 2 * ((2 : Nat) : Int)) (3 + 2 * ((1 : Nat) : Int)) := by decide +kernel
theorem b2_2 : FactsB (3 + 2 * ((2 : Nat) : Int)) (3 + 2 * ((2 : Nat) : Int)) := by decide +kernel
theorem b2_3 : FactsB (3 + 2 * ((2 : Nat) : Int)) (3 + 2 * ((3 : Nat) : Int)) := by decide +kernel
theorem b2_4 : FactsB (3 + 2 * ((2 : Nat) : Int)) (3 + 2 * ((4 : Nat) : Int)) := by decide +kernel
theorem b2_5 : FactsB (3 + 2 * ((2 : Nat) : Int)) (3 + 2 * ((5 : Nat) : Int)) := by decide +kernel
theorem b2_6 : FactsB (3 + 2 * ((2 : Nat) : Int)) (3 + 2 * ((6 : Nat) : Int)) := by decide +kernel
theorem b3_0 : FactsB (3 + 2 * ((3 : Nat) : Int)) (3 + 2 * ((0 : Nat) : Int)) := by decide +kernel
theorem b3_1 : FactsB (3 + 2 * ((3 : Nat) : Int)) (3 + 2 * ((1 : Nat) : Int)) := by decide +kernel
theorem b3_2 : FactsB (3 + 2 * ((3 : Nat) : Int)) (3 + 2 * ((2 : Nat) : Int)) := by decide +kernel
theorem b3_3 : FactsB (3 + 2 * ((3 : Nat) : Int)) (3 + 2 * ((3 : Nat) : Int)) := by decide +kernel
theorem b3_4 : FactsB (3 + 2 * ((3 : Nat) : Int)) (3 + 2 * ((4 : Nat) : Int)) := by decide +kernel
theorem b3_5 : FactsB (3 + 2 * ((3 : Nat) : Int)) (3 + 2 * ((5 : Nat) : Int)) := by decide +kernel
theorem b3_6 : FactsB (3 + 2 * ((3 : Nat) : Int)) (3 + 2 * ((6 : Nat) : Int)) := by decide +kernel
theorem b4_0 : FactsB (3 + 2 * ((4 : Nat) : Int)) (3 + 2 * ((0 : Nat) : Int)) := by decide +kernel
theorem b4_1 : FactsB (3 + 2 * ((4 : Nat) : Int)) (3 + 2 * ((1 : Nat) : Int)) := by decide +kernel
theorem b4_2 : FactsB (3 + 2 * ((4 : Nat) : Int)) (3 + 2 * ((2 : Nat) : Int)) := by decide +kernel
theorem b4_3 : FactsB (3 + 2 * ((4 : Nat) : Int)) (3 + 2 * ((3 : Nat) : Int)) := by decide +kernel
theorem b4_4 : FactsB (3 + 2 * ((4 : Nat) : Int)) (3 + 2 * ((4 : Nat) : Int)) := by decide +kernel
theorem b4_5 : FactsB (3 + 2 * ((4 : Nat) : Int)) (3 + 2 * ((5 : Nat) : Int)) := by decide +kernel
theorem b4_6 : FactsB (3 + 2 * ((4 : Nat) : Int)) (3 + 2 * ((6 : Nat) : Int)) := by decide +kernel
theorem b5_0 : FactsB (3 + 2 * ((5 : Nat) : Int)) (3 + 2 * ((0 : Nat) : Int)) := by decide +kernel
theorem b5_1 : FactsB (3 + 2 * ((5 : Nat) : Int)) (3 + 2 * ((1 : Nat) : Int)) := by decide +kernel
theorem b5_2 : FactsB (3 + 2 * ((5 : Nat) : Int)) (3 + 2 * ((2 : Nat) : Int)) := by decide +kernel
theorem b5_3 : FactsB (3 + 2 * ((5 : Nat) : Int)) (3 + 2 * ((3 : Nat) : Int)) := by decide +kernel
theorem b5_4 : FactsB (3 + 2 * ((5 : Nat) : Int)) (3 + 2 * ((4 : Nat) : Int)) := by decide +kernel
theorem b5_5 : FactsB (3 + 2 * ((5 : Nat) : Int)) (3 + 2 * ((5 : Nat) : Int)) := by decide +kernel
theorem b5_6 : FactsB (3 + 2 * ((5 : Nat) : Int)) (3 + 2 * ((6 : Nat) : Int)) := by decide +kernel
theorem b6_0 : FactsB (3 + 2 * ((6 : Nat) : Int)) (3 + 2 * ((0 : Nat) : Int)) := by decide +kernel
theorem b6_1 : FactsB (3 + 2 * ((6 : Nat) : Int)) (3 + 2 * ((1 : Nat) : Int)) := by decide +kernel
theorem b6_2 : FactsB (3 + 2 * ((6 : Nat) : Int)) (3 + 2 * ((2 : Nat) : Int)) := by decide +kernel
theorem b6_3 : FactsB (3 + 2 * ((6 : Nat) : Int)) (3 + 2 * ((3 : Nat) : Int)) := by decide +kernel
theorem b6_4 : FactsB (3 + 2 * ((6 : Nat) : Int)) (3 + 2 * ((4 : Nat) : Int)) := by decide +kernel
theorem b6_5 : FactsB (3 + 2 * ((6 : Nat) : Int)) (3 + 2 * ((5 : Nat) : Int)) := by decide +kernel
theorem b6_6 : FactsB (3 + 2 * ((6 : Nat) : Int)) (3 + 2 * ((6 : Nat) : Int)) := by decide +kernel
theorem all_B0 : ∀ j < 7, FactsB (3 + 2 * ((0 : Nat) : Int)) (3 + 2 * ((j : Nat) : Int)) := fun j hj => match j, hj with
  | 0, _ => b0_0
  | 1, _ => b0_1
  | 2, _ => b0_2
  | 3, _ => b0_3
  | 4, _ => b0_4
  | 5, _ => b0_5
  | 6, _ => b0_6
  | j + 7, hj => absurd hj (by omega)
theorem all_B1 : ∀ j < 7, FactsB (3 + 2 * ((1 : Nat) : Int)) (3 + 2 * ((j : Nat) : Int)) := fun j hj => match j, hj with
  | 0, _ => b1_0
  | 1, _ => b1_1
  | 2, _ => b1_2
  | 3, _ => b1_3
  | 4, _ => b1_4
  | 5, _ => b1_5
  | 6, _ => b1_6
  | j + 7, hj => absurd hj (by omega)
theorem all_B2 : ∀ j < 7, FactsB (3 + 2 * ((2 : Nat) : Int)) (3 + 2 * ((j : Nat) : Int)) := fun j hj => match j, hj with
  | 0, _ => b2_0
  | 1, _ => b2_1
  | 2, _ => b2_2
  | 3, _ => b2_3
  | 4, _ => b2_4
  | 5, _ => b2_5
  | 6, _ => b2_6
  | j + 7, hj => absurd hj (by omega)
theorem all_B3 : ∀ j < 7, FactsB (3 + 2 * ((3 : Nat) : Int)) (3 + 2 * ((j : Nat) : Int)) := fun j hj => match j, hj with
  | 0, _ => b3_0
  | 1, _ => b3_1
  | 2, _ => b3_2
  | 3, _ => b3_3
  | 4, _ => b3_4
  | 5, _ => b3_5
  | 6, _ => b3_6
  | j + 7, hj => absurd hj (by omega)
theorem all_B4 : ∀ j < 7, FactsB (3 + 2 * ((4 : Nat) : Int)) (3 + 2 * ((j : Nat) : Int)) := fun j hj => match j, hj with
  | 0, _ => b4_0
  | 1, _ => b4_1
  | 2, _ => b4_2
  | 3, _ => b4_3
  | 4, _ => b4_4
  | 5, _ => b4_5
  | 6, _ => b4_6
  | j + 7, hj => absurd hj (by omega)
theorem all_B5 : ∀ j < 7, FactsB (3 + 2 * ((5 : Nat) : Int)) (3 + 2 * ((j : Nat) : Int)) := fun j hj => match j, hj with
  | 0, _ => b5_0
  | 1, _ => b5_1
  | 2, _ => b5_2
  | 3, _ => b5_3
  | 4, _ => b5_4
  | 5, _ => b5_5
  | 6, _ => b5_6
  | j + 7, hj => absurd hj (by omega)
theorem all_B6 : ∀ j < 7, FactsB (3 + 2 * ((6 : Nat) : Int)) (3 + 2 * ((j : Nat) : Int)) := fun j hj => match j, hj with
  | 0, _ => b6_0
  | 1, _ => b6_1
  | 2, _ => b6_2
  | 3, _ => b6_3
  | 4, _ => b6_4
  | 5, _ => b6_5
  | 6, _ => b6_6
  | j + 7, hj => absurd hj (by omega)
theorem all_B : ∀ i < 7, ∀ j < 7, FactsB (3 + 2 * ((i : Nat) : Int)) (3 + 2 * ((j : Nat) : Int)) := fun i hi => match i, hi with
  | 0, _ => all_B0
  | 1, _ => all_B1
  | 2, _ => all_B2
  | 3, _ => all_B3
  | 4, _ => all_B4
  | 5, _ => all_B5
  | 6, _ => all_B6
  | i + 7, hi => absurd hi (by omega)
theorem facts_A {v u : Int} (h1 : 0 ≤ v) (h2 : v < 7) (h3 : 0 ≤ u) (h4 : u < 3 + 2 * v - 1) : FactsA (3 + 2 * v) (1 + u) := by
  obtain ⟨j, rfl⟩ := Int.eq_ofNat_of_zero_le h3
  have h : v = 0 ∨ v = 1 ∨ v = 2 ∨ v = 3 ∨ v = 4 ∨ v = 5 ∨ v = 6 := by omega
  rcases h with rfl | rfl | rfl | rfl | rfl | rfl | rfl
  · exact all_A0 j (by omega)
  · exact all_A1 j (by omega)
  · exact all_A2 j (by omega)
  · exact all_A3 j (by omega)
  · exact all_A4 j (by omega)
  · exact all_A5 j (by omega)
  · exact all_A6 j (by omega)
theorem facts_N {v : Int} (h1 : 0 ≤ v) (h2 : v < 7) : FactsN (3 + 2 * v) := by
  obtain ⟨i, rfl⟩ := Int.eq_ofNat_of_zero_le h1
  exact all_N i (by omega)
theorem facts_B {v u : Int} (h1 : 0 ≤ v) (h2 : v < 7) (h3 : 0 ≤ u) (h4 : u < 7) : FactsB (3 + 2 * v) (3 + 2 * u) := by
  obtain ⟨i, rfl⟩ := Int.eq_ofNat_of_zero_le h1
  obtain ⟨j, rfl⟩ := Int.eq_ofNat_of_zero_le h3
  exact all_B i (by omega) j (by omega)

theorem jac_call (w : World) {x v : Int} {tx tn : Tok} (h1 : 0 ≤ v) (h2 : v < 7) (h : JacOk x (3 + 2 * v)) : PureC w 114 [.int x tx, .int (3 + 2 * v) tn] 4 (fun t => .int (jacF x (3 + 2 * v)) t) := by
  have h' : v = 0 ∨ v = 1 ∨ v = 2 ∨ v = 3 ∨ v = 4 ∨ v = 5 ∨ v = 6 := by omega
  rcases h' with rfl | rfl | rfl | rfl | rfl | rfl | rfl
  · exact jac1 w x 3 3 1 (jpw 3 x) _ tx tn (pf3 w) (by decide) (by decide) (by decide) (by decide) h.1 h.2 rfl
  · exact jac1 w x 5 5 1 (jpw 5 x) _ tx tn (pf5 w) (by decide) (by decide) (by decide) (by decide) h.1 h.2 rfl
  · exact jac1 w x 7 7 1 (jpw 7 x) _ tx tn (pf7 w) (by decide) (by decide) (by decide) (by decide) h.1 h.2 rfl
  · exact jac1 w x 9 3 2 (jpw 3 x) _ tx tn (pf9 w) (by decide) (by decide) (by decide) (by decide) h.1 h.2 rfl
  · exact jac1 w x 11 11 1 (jpw 11 x) _ tx tn (pf11 w) (by decide) (by decide) (by decide) (by decide) h.1 h.2 rfl
  · exact jac1 w x 13 13 1 (jpw 13 x) _ tx tn (pf13 w) (by decide) (by decide) (by decide) (by decide) h.1 h.2 rfl
  · have h3 : PwOk 3 x ∧ PwOk 5 x := h
    exact jac2 w x 15 3 5 (jpw 3 x) (jpw 5 x) _ tx tn (pf15 w) (by decide) (by decide) h3.1.1 h3.1.2 h3.2.1 h3.2.2 rfl
theorem inverse_unit (w : World) {a n : Int} {ta tn : Tok} (h0 : 0 < n) (h1 : n < 100) (h : exL 20 (Int.fmod a n) 1 0 n 0 1 = some (exF a n)) (hg : (exF a n).1 = 1) : PureC w 81 [.int a ta, .int n tn] 3 (fun t => .int (tuF a n) t) := by
  have q := inverse_spec w a n (exF a n).1 (exF a n).2 ta tn h0 h1 h
  simp only [hg, if_true] at q
  exact q
theorem inverse_non (w : World) {a n : Int} {ta tn : Tok} (h0 : 0 < n) (h1 : n < 100) (h : exL 20 (Int.fmod a n) 1 0 n 0 1 = some (exF a n)) (hg : (exF a n).1 ≠ 1) : PureC w 81 [.int a ta, .int n tn] 3 (fun _ => .none) := by
  have q := inverse_spec w a n (exF a n).1 (exF a n).2 ta tn h0 h1 h
  simp only [if_neg hg] at q
  exact q
theorem MatC.use {w : World} {f : Addr} {vs : List Value} {dn : Nat} {M : List (List Int)} (C : MatC w f vs dn M)
    {mean : ExcName → Option Value} {mg mb : Str → Option Value} {dp un : Nat} {gd : Option (List Code)} {cn : Str} {cs : Scope} {a : Addr} {ccd : Value} {cl : List (Str × Addr)} {outer : List Env} {A₀ : Around} {base h₀ : Heap} {L : Addr} {m : Str → Option Value} {news : List (Addr × Obj)} {s : Shared} {Q E : Value → Shared → Prop}
    (B : Below A₀ base outer h₀) (F : Fr h₀ L s.heap m) (X : (hd.heap_39 w.params).In h₀) (N : News h₀ L s.heap news) (T : Top hd.view_39 (looseW hd.view_39 []) mean mg mb h₀) (hk : cs.kind = .function)
    (hd : dp + dn < recursionLimit) (hu : un + 8 * dn < cLine)
    (ret : ∀ (D : Addr) (bs : List Addr) (h' : Heap) (tk' : Nat), Fr h₀ L h' m → News h₀ L h' news → MatH D bs M h' → Q (.ref D) { s with heap := h', toks := tk' }) :
    wpAny (model PySem.Challenge.rw_tk0025_01.row.prog w) (ktrTop dp un gd cn cs L a ccd cl outer) (call (.ref f) vs) Q E s :=
  C mean mg mb dp un gd cn cs a ccd cl outer A₀ base h₀ L m news s Q E B F X N T hk hd hu ret
end Mine
end

section
open PySem.Spec
namespace Mine
local macro_rules | `(tactic| walk_at $s:str) => `(tactic| k_extra $s)
theorem main : PySem.Challenge.rw_tk0025_01.Holds := Mine.hd (by
  k_go0
  all_goals try k_fold
  k_with_none
  k_with "call ref" => ((with_reducible show wpAny _ _ (call (Value.ref 102) _) _ _ _); k_dflt (refine' take_spec (c := 0) ?hm ?hc ?hi ?hl ?hne ?k1 ?k2 ?k3 ?k4 ?k5 ?kK ?kd ?ku ?_); (case k4 => first | assumption | exact cb_drop (by assumption) (by kcj_all)); (case k1 => k_asm); (case k2 => k_asm); (case k3 => k_asm); (case k5 => k_asm); (case kK => first | exact rfl | assumption); (case kd => ktr_room); (case ku => ktr_units); (case hm => omega); (case hc => omega); (case hi => assumption); (case hl => omega); (case hne => (refine ltN ?_; omega)); k_whole; intro v1 t1 u9 h9 tk9 hv1a hv1b F9 N9; (try dsimp only); (try k_fold))
  k_with "call ref" => ((with_reducible show wpAny _ _ (call (Value.ref 102) _) _ _ _); k_dflt (refine' take_spec (c := 0 + 1) ?hm ?hc ?hi ?hl ?hne ?k1 ?k2 ?k3 ?k4 ?k5 ?kK ?kd ?ku ?_); (case k4 => first | assumption | exact cb_drop (by assumption) (by kcj_all)); (case k1 => k_asm); (case k2 => k_asm); (case k3 => k_asm); (case k5 => k_asm); (case kK => first | exact rfl | assumption); (case kd => ktr_room); (case ku => ktr_units); (case hm => omega); (case hc => omega); (case hi => assumption); (case hl => omega); (case hne => (refine ltN ?_; omega)); k_whole; intro v2 t2 u9 h9 tk9 hv2a hv2b F9 N9; (try dsimp only); (try k_fold))
  k_with "call ref" => ((with_reducible show wpAny _ _ (call (Value.ref 102) _) _ _ _); k_dflt (refine' take_spec (c := 0 + 1 + 1) ?hm ?hc ?hi ?hl ?hne ?k1 ?k2 ?k3 ?k4 ?k5 ?kK ?kd ?ku ?_); (case k4 => first | assumption | exact cb_drop (by assumption) (by kcj_all)); (case k1 => k_asm); (case k2 => k_asm); (case k3 => k_asm); (case k5 => k_asm); (case kK => first | exact rfl | assumption); (case kd => ktr_room); (case ku => ktr_units); (case hm => omega); (case hc => omega); (case hi => assumption); (case hl => omega); (case hne => (refine ltN ?_; omega)); k_whole; intro v3 t3 u9 h9 tk9 hv3a hv3b F9 N9; (try dsimp only); (try k_fold))
  k_with "call ref" => ((with_reducible show wpAny _ _ (call (Value.ref 107) _) _ _ _); refine stuck ?_)
  k_steps
  rename World => w
  unfold Stuck
  have fA := facts_A hv1a hv1b hv2a hv2b
  have fN := facts_N hv1a hv1b
  have fB := facts_B hv1a hv1b hv3a hv3b
  obtain ⟨⟨hSq, hdet⟩, hJ, hJe, hG, hX, hcase⟩ := fA
  obtain ⟨hJ2, hJm, hJ2e, hJme⟩ := fN
  obtain ⟨hJb, hJn, hGb, hBc⟩ := fB
  have PM := fun ta tn => matrix_spec w (1 + v2) (3 + 2 * v1) ta tn (by omega) (by omega)
  have PD := fun D bs => det_spec w D bs (matF (1 + v2) (3 + 2 * v1)) (3 + 2 * v1 - 1).toNat (sgF (1 + v2) (3 + 2 * v1)) hSq (by omega) hdet
  have PJ := fun tx tn => jac_call w (x := 1 + v2) (tx := tx) (tn := tn) hv1a hv1b hJ
  rw [hJe] at PJ
  have PG := fun ta tb => gcd_spec w (1 + v2) (3 + 2 * v1) _ ta tb hG
  have PJ2 := fun tx tn => jac_call w (x := 2) (tx := tx) (tn := tn) hv1a hv1b hJ2
  have PJm := fun tx tn => jac_call w (x := 3 + 2 * v1 - 1) (tx := tx) (tn := tn) hv1a hv1b hJm
  have PJb := fun tx tn => jac_call w (x := 3 + 2 * v3) (tx := tx) (tn := tn) hv1a hv1b hJb
  have PJn := fun tx tn => jac_call w (x := 3 + 2 * v1) (tx := tx) (tn := tn) hv3a hv3b hJn
  have PGb := fun ta tb => gcd_spec w (3 + 2 * v3) (3 + 2 * v1) _ ta tb hGb
  have hr2a : Int.fmod (3 + 2 * v1) 8 = 1 ∨ Int.fmod (3 + 2 * v1) 8 = 7 → jacF 2 (3 + 2 * v1) = 1 := fun q => by rw [hJ2e, if_pos q]
  have hr2b : ¬ (Int.fmod (3 + 2 * v1) 8 = 1 ∨ Int.fmod (3 + 2 * v1) 8 = 7) → jacF 2 (3 + 2 * v1) = -1 := fun q => by rw [hJ2e, if_neg q]
  have hrma : Int.fmod (3 + 2 * v1) 4 = 1 → jacF (3 + 2 * v1 - 1) (3 + 2 * v1) = 1 := fun q => by rw [hJme, if_pos q]
  have hrmb : ¬ Int.fmod (3 + 2 * v1) 4 = 1 → jacF (3 + 2 * v1 - 1) (3 + 2 * v1) = -1 := fun q => by rw [hJme, if_neg q]
  clear hJ2e hJme hJ2 hJm hJb hJn hJ hJe hG hGb hSq hdet
  generalize jacF 2 (3 + 2 * v1) = r2 at PJ2 hr2a hr2b
  generalize jacF (3 + 2 * v1 - 1) (3 + 2 * v1) = rm at PJm hrma hrmb
  generalize jacF (3 + 2 * v3) (3 + 2 * v1) = ob at PJb hBc
  generalize jacF (3 + 2 * v1) (3 + 2 * v3) = on at PJn hBc
  generalize gF (3 + 2 * v3) (3 + 2 * v1) = gb at PGb hBc
  generalize gF (1 + v2) (3 + 2 * v1) = g at PG hcase
  rcases hcase with ⟨s0, g0, x0⟩ | ⟨s0, g1, x1, tb, ⟨hSq2, hdet2⟩, hD2e, c1, c2, c3⟩
  · have PI := fun ta tn => inverse_non w (ta := ta) (tn := tn) (by omega) (by omega) hX x0
    clear hX x0
    generalize sgF (1 + v2) (3 + 2 * v1) = sg at PJ PD s0
    k_with_none
    k_with "ite" => first | (refine m_pos (by first | omega | (simp only [decide_eq_true_eq, decide_eq_false_iff_not, bne_iff_ne, beq_iff_eq, Bool.not_eq_true', ne_eq]; omega)) ?_) | (refine m_neg (by first | omega | (simp only [decide_eq_true_eq, decide_eq_false_iff_not, bne_iff_ne, beq_iff_eq, Bool.not_eq_true', ne_eq]; omega)) ?_)
    k_with "call ref" => ((with_reducible show wpAny _ _ (call (Value.ref 107) [Value.int (1 + v2) _, Value.int (3 + 2 * v1) _]) _ _ _); k_dflt (refine' MatC.use (PM _ _) ?k1 ?k2 ?k3 ?k4 ?k5 ?kK ?kd ?ku ?_; (case k1 => k_asm); (case k2 => k_asm); (case k3 => k_asm); (case k4 => k_asm); (case k5 => k_asm); (case kK => first | exact rfl | assumption); (case kd => ktr_room); (case ku => ktr_units); k_whole; intro D7 bs7 h9 tk9 F9 N9 hM7; (try dsimp only); (try k_fold)))
    k_with "call ref" => ((with_reducible show wpAny _ _ (call (Value.ref 53) _) _ _ _); k_dflt (refine' PureH.use (PD D7 bs7) ?k1 ?k2 ?k3 ?k4 ?k5 ?kK ?kd ?ku ?kp ?_; (case k1 => k_asm); (case k2 => k_asm); (case k3 => k_asm); (case k4 => k_asm); (case k5 => k_asm); (case kK => first | exact rfl | assumption); (case kd => ktr_room); (case ku => ktr_units); (case kp => exact hM7); k_whole; intro t9 h9 tk9 F9 N9; (try dsimp only); (try k_fold)))
    k_with "call ref" => ((with_reducible show wpAny _ _ (call (Value.ref 114) [Value.int (1 + v2) _, Value.int (3 + 2 * v1) _]) _ _ _); k_dflt (refine' PureC.use (PJ _ _) ?k1 ?k2 ?k3 ?k4 ?k5 ?kK ?kd ?ku ?_; (case k1 => k_asm); (case k2 => k_asm); (case k3 => k_asm); (case k4 => k_asm); (case k5 => k_asm); (case kK => first | exact rfl | assumption); (case kd => ktr_room); (case ku => ktr_units); k_whole; intro t9 h9 tk9 F9 N9; (try dsimp only); (try k_fold)))
    k_with "call ref" => ((with_reducible show wpAny _ _ (call (Value.ref 60) [Value.int (1 + v2) _, Value.int (3 + 2 * v1) _]) _ _ _); k_dflt (refine' PureC.use (PG _ _) ?k1 ?k2 ?k3 ?k4 ?k5 ?kK ?kd ?ku ?_; (case k1 => k_asm); (case k2 => k_asm); (case k3 => k_asm); (case k4 => k_asm); (case k5 => k_asm); (case kK => first | exact rfl | assumption); (case kd => ktr_room); (case ku => ktr_units); k_whole; intro t9 h9 tk9 F9 N9; (try dsimp only); (try k_fold)))
    k_with "call ref" => ((with_reducible show wpAny _ _ (call (Value.ref 81) [Value.int (1 + v2) _, Value.int (3 + 2 * v1) _]) _ _ _); k_dflt (refine' PureC.use (PI _ _) ?k1 ?k2 ?k3 ?k4 ?k5 ?kK ?kd ?ku ?_; (case k1 => k_asm); (case k2 => k_asm); (case k3 => k_asm); (case k4 => k_asm); (case k5 => k_asm); (case kK => first | exact rfl | assumption); (case kd => ktr_room); (case ku => ktr_units); k_whole; intro t9 h9 tk9 F9 N9; (try dsimp only); (try k_fold)))
    k_with "call ref" => ((with_reducible show wpAny _ _ (call (Value.ref 114) [Value.int (2) _, Value.int (3 + 2 * v1) _]) _ _ _); k_dflt (refine' PureC.use (PJ2 _ _) ?k1 ?k2 ?k3 ?k4 ?k5 ?kK ?kd ?ku ?_; (case k1 => k_asm); (case k2 => k_asm); (case k3 => k_asm); (case k4 => k_asm); (case k5 => k_asm); (case kK => first | exact rfl | assumption); (case kd => ktr_room); (case ku => ktr_units); k_whole; intro t9 h9 tk9 F9 N9; (try dsimp only); (try k_fold)))
    k_with "call ref" => ((with_reducible show wpAny _ _ (call (Value.ref 114) [Value.int (3 + 2 * v1 - 1) _, Value.int (3 + 2 * v1) _]) _ _ _); k_dflt (refine' PureC.use (PJm _ _) ?k1 ?k2 ?k3 ?k4 ?k5 ?kK ?kd ?ku ?_; (case k1 => k_asm); (case k2 => k_asm); (case k3 => k_asm); (case k4 => k_asm); (case k5 => k_asm); (case kK => first | exact rfl | assumption); (case kd => ktr_room); (case ku => ktr_units); k_whole; intro t9 h9 tk9 F9 N9; (try dsimp only); (try k_fold)))
    k_with "call ref" => ((with_reducible show wpAny _ _ (call (Value.ref 114) [Value.int (3 + 2 * v3) _, Value.int (3 + 2 * v1) _]) _ _ _); k_dflt (refine' PureC.use (PJb _ _) ?k1 ?k2 ?k3 ?k4 ?k5 ?kK ?kd ?ku ?_; (case k1 => k_asm); (case k2 => k_asm); (case k3 => k_asm); (case k4 => k_asm); (case k5 => k_asm); (case kK => first | exact rfl | assumption); (case kd => ktr_room); (case ku => ktr_units); k_whole; intro t9 h9 tk9 F9 N9; (try dsimp only); (try k_fold)))
    k_with "call ref" => ((with_reducible show wpAny _ _ (call (Value.ref 114) [Value.int (3 + 2 * v1) _, Value.int (3 + 2 * v3) _]) _ _ _); k_dflt (refine' PureC.use (PJn _ _) ?k1 ?k2 ?k3 ?k4 ?k5 ?kK ?kd ?ku ?_; (case k1 => k_asm); (case k2 => k_asm); (case k3 => k_asm); (case k4 => k_asm); (case k5 => k_asm); (case kK => first | exact rfl | assumption); (case kd => ktr_room); (case ku => ktr_units); k_whole; intro t9 h9 tk9 F9 N9; (try dsimp only); (try k_fold)))
    k_with "call ref" => ((with_reducible show wpAny _ _ (call (Value.ref 60) [Value.int (3 + 2 * v3) _, Value.int (3 + 2 * v1) _]) _ _ _); k_dflt (refine' PureC.use (PGb _ _) ?k1 ?k2 ?k3 ?k4 ?k5 ?kK ?kd ?ku ?_; (case k1 => k_asm); (case k2 => k_asm); (case k3 => k_asm); (case k4 => k_asm); (case k5 => k_asm); (case kK => first | exact rfl | assumption); (case kd => ktr_room); (case ku => ktr_units); k_whole; intro t9 h9 tk9 F9 N9; (try dsimp only); (try k_fold)))
    k_steps
  · have PI := fun ta tn => inverse_unit w (ta := ta) (tn := tn) (by omega) (by omega) hX x1
    have PM2 := fun ta tn => matrix_spec w (tuF (1 + v2) (3 + 2 * v1)) (3 + 2 * v1) ta tn tb (by omega)
    have PD2 := fun D bs => det_spec w D bs (matF (tuF (1 + v2) (3 + 2 * v1)) (3 + 2 * v1)) (3 + 2 * v1 - 1).toNat (sgF (tuF (1 + v2) (3 + 2 * v1)) (3 + 2 * v1)) hSq2 (by omega) hdet2
    rw [hD2e] at PD2
    have PC := fun ta tn ts => counts_spec w (1 + v2) (3 + 2 * v1) (sgF (1 + v2) (3 + 2 * v1)) ta tn ts (by omega) (by omega) c1 c2 c3
    clear hX x1 hD2e c1 c2 c3 hSq2 hdet2
    generalize sgF (1 + v2) (3 + 2 * v1) = sg at PJ PD PD2 PC s0
    generalize tuF (1 + v2) (3 + 2 * v1) = tu at PI PM2 PD2 tb
    k_with_none
    k_with "ite" => first | (refine m_pos (by first | omega | (simp only [decide_eq_true_eq, decide_eq_false_iff_not, bne_iff_ne, beq_iff_eq, Bool.not_eq_true', ne_eq]; omega)) ?_) | (refine m_neg (by first | omega | (simp only [decide_eq_true_eq, decide_eq_false_iff_not, bne_iff_ne, beq_iff_eq, Bool.not_eq_true', ne_eq]; omega)) ?_)
    k_with "call ref" => ((with_reducible show wpAny _ _ (call (Value.ref 107) [Value.int (1 + v2) _, Value.int (3 + 2 * v1) _]) _ _ _); k_dflt (refine' MatC.use (PM _ _) ?k1 ?k2 ?k3 ?k4 ?k5 ?kK ?kd ?ku ?_; (case k1 => k_asm); (case k2 => k_asm); (case k3 => k_asm); (case k4 => k_asm); (case k5 => k_asm); (case kK => first | exact rfl | assumption); (case kd => ktr_room); (case ku => ktr_units); k_whole; intro D7 bs7 h9 tk9 F9 N9 hM7; (try dsimp only); (try k_fold)))
    k_with "call ref" => ((with_reducible show wpAny _ _ (call (Value.ref 53) _) _ _ _); k_dflt (refine' PureH.use (PD D7 bs7) ?k1 ?k2 ?k3 ?k4 ?k5 ?kK ?kd ?ku ?kp ?_; (case k1 => k_asm); (case k2 => k_asm); (case k3 => k_asm); (case k4 => k_asm); (case k5 => k_asm); (case kK => first | exact rfl | assumption); (case kd => ktr_room); (case ku => ktr_units); (case kp => exact hM7); k_whole; intro t9 h9 tk9 F9 N9; (try dsimp only); (try k_fold)))
    k_with "call ref" => ((with_reducible show wpAny _ _ (call (Value.ref 114) [Value.int (1 + v2) _, Value.int (3 + 2 * v1) _]) _ _ _); k_dflt (refine' PureC.use (PJ _ _) ?k1 ?k2 ?k3 ?k4 ?k5 ?kK ?kd ?ku ?_; (case k1 => k_asm); (case k2 => k_asm); (case k3 => k_asm); (case k4 => k_asm); (case k5 => k_asm); (case kK => first | exact rfl | assumption); (case kd => ktr_room); (case ku => ktr_units); k_whole; intro t9 h9 tk9 F9 N9; (try dsimp only); (try k_fold)))
    k_with "call ref" => ((with_reducible show wpAny _ _ (call (Value.ref 60) [Value.int (1 + v2) _, Value.int (3 + 2 * v1) _]) _ _ _); k_dflt (refine' PureC.use (PG _ _) ?k1 ?k2 ?k3 ?k4 ?k5 ?kK ?kd ?ku ?_; (case k1 => k_asm); (case k2 => k_asm); (case k3 => k_asm); (case k4 => k_asm); (case k5 => k_asm); (case kK => first | exact rfl | assumption); (case kd => ktr_room); (case ku => ktr_units); k_whole; intro t9 h9 tk9 F9 N9; (try dsimp only); (try k_fold)))
    k_with "call ref" => ((with_reducible show wpAny _ _ (call (Value.ref 81) [Value.int (1 + v2) _, Value.int (3 + 2 * v1) _]) _ _ _); k_dflt (refine' PureC.use (PI _ _) ?k1 ?k2 ?k3 ?k4 ?k5 ?kK ?kd ?ku ?_; (case k1 => k_asm); (case k2 => k_asm); (case k3 => k_asm); (case k4 => k_asm); (case k5 => k_asm); (case kK => first | exact rfl | assumption); (case kd => ktr_room); (case ku => ktr_units); k_whole; intro t9 h9 tk9 F9 N9; (try dsimp only); (try k_fold)))
    k_with "call ref" => ((with_reducible show wpAny _ _ (call (Value.ref 114) [Value.int (2) _, Value.int (3 + 2 * v1) _]) _ _ _); k_dflt (refine' PureC.use (PJ2 _ _) ?k1 ?k2 ?k3 ?k4 ?k5 ?kK ?kd ?ku ?_; (case k1 => k_asm); (case k2 => k_asm); (case k3 => k_asm); (case k4 => k_asm); (case k5 => k_asm); (case kK => first | exact rfl | assumption); (case kd => ktr_room); (case ku => ktr_units); k_whole; intro t9 h9 tk9 F9 N9; (try dsimp only); (try k_fold)))
    k_with "call ref" => ((with_reducible show wpAny _ _ (call (Value.ref 114) [Value.int (3 + 2 * v1 - 1) _, Value.int (3 + 2 * v1) _]) _ _ _); k_dflt (refine' PureC.use (PJm _ _) ?k1 ?k2 ?k3 ?k4 ?k5 ?kK ?kd ?ku ?_; (case k1 => k_asm); (case k2 => k_asm); (case k3 => k_asm); (case k4 => k_asm); (case k5 => k_asm); (case kK => first | exact rfl | assumption); (case kd => ktr_room); (case ku => ktr_units); k_whole; intro t9 h9 tk9 F9 N9; (try dsimp only); (try k_fold)))
    k_with "call ref" => ((with_reducible show wpAny _ _ (call (Value.ref 114) [Value.int (3 + 2 * v3) _, Value.int (3 + 2 * v1) _]) _ _ _); k_dflt (refine' PureC.use (PJb _ _) ?k1 ?k2 ?k3 ?k4 ?k5 ?kK ?kd ?ku ?_; (case k1 => k_asm); (case k2 => k_asm); (case k3 => k_asm); (case k4 => k_asm); (case k5 => k_asm); (case kK => first | exact rfl | assumption); (case kd => ktr_room); (case ku => ktr_units); k_whole; intro t9 h9 tk9 F9 N9; (try dsimp only); (try k_fold)))
    k_with "call ref" => ((with_reducible show wpAny _ _ (call (Value.ref 114) [Value.int (3 + 2 * v1) _, Value.int (3 + 2 * v3) _]) _ _ _); k_dflt (refine' PureC.use (PJn _ _) ?k1 ?k2 ?k3 ?k4 ?k5 ?kK ?kd ?ku ?_; (case k1 => k_asm); (case k2 => k_asm); (case k3 => k_asm); (case k4 => k_asm); (case k5 => k_asm); (case kK => first | exact rfl | assumption); (case kd => ktr_room); (case ku => ktr_units); k_whole; intro t9 h9 tk9 F9 N9; (try dsimp only); (try k_fold)))
    k_with "call ref" => ((with_reducible show wpAny _ _ (call (Value.ref 60) [Value.int (3 + 2 * v3) _, Value.int (3 + 2 * v1) _]) _ _ _); k_dflt (refine' PureC.use (PGb _ _) ?k1 ?k2 ?k3 ?k4 ?k5 ?kK ?kd ?ku ?_; (case k1 => k_asm); (case k2 => k_asm); (case k3 => k_asm); (case k4 => k_asm); (case k5 => k_asm); (case kK => first | exact rfl | assumption); (case kd => ktr_room); (case ku => ktr_units); k_whole; intro t9 h9 tk9 F9 N9; (try dsimp only); (try k_fold)))
    k_with "call ref" => ((with_reducible show wpAny _ _ (call (Value.ref 107) [Value.int tu _, Value.int (3 + 2 * v1) _]) _ _ _); k_dflt (refine' MatC.use (PM2 _ _) ?k1 ?k2 ?k3 ?k4 ?k5 ?kK ?kd ?ku ?_; (case k1 => k_asm); (case k2 => k_asm); (case k3 => k_asm); (case k4 => k_asm); (case k5 => k_asm); (case kK => first | exact rfl | assumption); (case kd => ktr_room); (case ku => ktr_units); k_whole; intro D8 bs8 h9 tk9 F9 N9 hM8; (try dsimp only); (try k_fold)))
    k_with "call ref" => ((with_reducible show wpAny _ _ (call (Value.ref 53) _) _ _ _); k_dflt (refine' PureH.use (PD2 D8 bs8) ?k1 ?k2 ?k3 ?k4 ?k5 ?kK ?kd ?ku ?kp ?_; (case k1 => k_asm); (case k2 => k_asm); (case k3 => k_asm); (case k4 => k_asm); (case k5 => k_asm); (case kK => first | exact rfl | assumption); (case kd => ktr_room); (case ku => ktr_units); (case kp => exact hM8); k_whole; intro t9 h9 tk9 F9 N9; (try dsimp only); (try k_fold)))
    k_with "call ref" => ((with_reducible show wpAny _ _ (call (Value.ref 119) _) _ _ _); k_dflt (refine' PureC.use (PC _ _ _) ?k1 ?k2 ?k3 ?k4 ?k5 ?kK ?kd ?ku ?_; (case k1 => k_asm); (case k2 => k_asm); (case k3 => k_asm); (case k4 => k_asm); (case k5 => k_asm); (case kK => first | exact rfl | assumption); (case kd => ktr_room); (case ku => ktr_units); k_whole; intro t9 h9 tk9 F9 N9; (try dsimp only); (try k_fold)))
    k_steps)
end Mine
end

theorem PySem.Challenge.cw_tk0025_01_holds : PySem.Challenge.rw_tk0025_01.Holds :=
  Mine.main
