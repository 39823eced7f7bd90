import PyProof.Rows.All
import Wide.All
import OpenK.AllK
import Wide.FinOn
import Lean
import PySem.Challenge.RW_pc0122_01

set_option Elab.async false

section
open PySem PySem.W PyProof.Rows
namespace Mine
set_option maxRecDepth 100000 in
set_option maxHeartbeats 8000000 in
open_top hd for PySem.Challenge.rw_pc0122_01
end Mine
end

section
open PySem PySem.W PyProof.Rows
open PySem.Builtin.Int (intBits)
namespace Mine
noncomputable section
/-- the noughts at the end struck, at most n of them -/
def strip : Nat → Int → Int × Int
  | 0, u => (u, 0)
  | n + 1, u => if u % 10 = 0 then strip n (u / 10) else (u, ((n + 1 : Nat) : Int))
def dec (u s : Int) : Int × Int := if s < 0 then (u * 10 ^ (-s).toNat, 0) else strip s.toNat u
abbrev tupO (x : Int) (t1 : Tok) (y : Int) (t2 : Tok) (c : Nat) : Obj := { cls := .type "tuple", data := .seq #[.int x t1, .int y t2] c }
abbrev P0 : Program := PySem.Challenge.rw_pc0122_01.row.prog
abbrev loose0 : List Str := looseW hd.view_39 [Str.ofString "LedgerError", Str.ofString "decimal"]
/-- what a call that hands back a new pair of ints owes -/
abbrev RetT (h₀ : Heap) (L : Addr) (m : Str → Option Value) (news : List (Addr × Obj)) (s : Shared) (Q : Value → Shared → Prop) (x y : Int) : Prop :=
  ∀ (D : Addr) (t1 t2 : Tok) (c : Nat) (h' : Heap) (tk' : Nat), Fr h₀ L h' m → News h₀ L h' ((D, tupO x t1 y t2 c) :: news) → AllLt D news → Q (.ref D) { s with heap := h', toks := tk' }
/-- the claim of a call (k: how many frames deep) -/
abbrev Claim (w : World) (mean : ExcName → Option Value) (mg mb : Str → Option Value) (k : Nat) (f : Addr) (vs : List Value) (news : List (Addr × Obj))
    (R : Heap → Heap → Addr → (Str → Option Value) → Shared → (Value → Shared → Prop) → Prop) : Prop :=
  ∀ (dp un : Nat) (gd : Option (List Code)) (cn : Str) (cs : Scope) (a : Addr) (ccd : Value) (cl : List (Str × Addr)) (outer : List Env) (A₀ : Around) (base h₀ : Heap) (L : Addr) (m : Str → Option Value) (s : Shared) (Q E : Value → Shared → Prop),
    Below A₀ base outer h₀ → Fr h₀ L s.heap m → (hd.heap_39 w.params).In h₀ → News h₀ L s.heap news → Top hd.view_39 loose0 mean mg mb h₀ → cs.kind = .function →
    dp + k < recursionLimit → un + 8 * k < cLine → R base h₀ L m s Q →
      wpAny (model P0 w) (ktrTop dp un gd cn cs L a ccd cl outer) (call (.ref f) vs) Q E s

theorem retT_end {h₀ : Heap} {L : Addr} {m : Str → Option Value} {news : List (Addr × Obj)} {s : Shared} {Q : Value → Shared → Prop} {x y x' y' : Int} {D : Addr} {t1 t2 : Tok} {c : Nat} {h' : Heap} {tk' : Nat}
    (hret : RetT h₀ L m news s Q x y) (F : Fr h₀ L h' m) (N : News h₀ L h' ((D, tupO x' t1 y' t2 c) :: news)) (hl : AllLt D news) (e : (x', y') = (x, y)) : Q (.ref D) { s with heap := h', toks := tk' } := by
  obtain ⟨e1, e2⟩ := Prod.mk.inj e
  subst e1; subst e2
  exact hret D t1 t2 c h' tk' F N hl

theorem bits_pow10 (n : Int) (h : n ≤ 160) : intBits ((10 : Int) ^ n.toNat) ≤ 640 := by
  refine intBits_le ?_
  rw [Int.natAbs_pow]
  show 10 ^ n.toNat < 2 ^ 640
  exact Nat.lt_of_le_of_lt (Nat.pow_le_pow_right (by decide) (show n.toNat ≤ 160 by omega)) (by decide +kernel)

theorem bits_draw (a n : Int) (h : n ≤ 160) : intBits (a.fmod ((10 : Int) ^ n.toNat)) ≤ 640 :=
  bits_fmod_by (Int.ne_of_gt (pow10_pos n.toNat)) (bits_pow10 n h)

theorem draw_lo (x : Int) : -5 ≤ x.fmod 24 - 5 := by have := Int.fmod_nonneg_of_pos x (b := 24) (by decide); omega
theorem draw_hi (x : Int) : x.fmod 24 - 5 ≤ 18 := by have := Int.fmod_lt_of_pos x (b := 24) (by decide); omega

/-- what a call that hands back an int owes -/
abbrev RetI (h₀ : Heap) (L : Addr) (m : Str → Option Value) (news : List (Addr × Obj)) (s : Shared) (Q : Value → Shared → Prop) (x : Int) : Prop :=
  ∀ (t : Tok) (h' : Heap) (tk' : Nat), Fr h₀ L h' m → News h₀ L h' news → Q (.int x t) { s with heap := h', toks := tk' }
/-- what a call that hands back a bool owes -/
abbrev RetB (h₀ : Heap) (L : Addr) (m : Str → Option Value) (news : List (Addr × Obj)) (s : Shared) (Q : Value → Shared → Prop) (x : Bool) : Prop :=
  ∀ (h' : Heap) (tk' : Nat), Fr h₀ L h' m → News h₀ L h' news → Q (.bool x) { s with heap := h', toks := tk' }
theorem retI_end {h₀ : Heap} {L : Addr} {m : Str → Option Value} {news : List (Addr × Obj)} {s : Shared} {Q : Value → Shared → Prop} {x x' : Int} {t : Tok} {h' : Heap} {tk' : Nat}
    (hret : RetI h₀ L m news s Q x) (F : Fr h₀ L h' m) (N : News h₀ L h' news) (e : x' = x) : Q (.int x' t) { s with heap := h', toks := tk' } := by
  subst e
  exact hret t h' tk' F N
theorem retB_end {h₀ : Heap} {L : Addr} {m : Str → Option Value} {news : List (Addr × Obj)} {s : Shared} {Q : Value → Shared → Prop} {x x' : Bool} {h' : Heap} {tk' : Nat}
    (hret : RetB h₀ L m news s Q x) (F : Fr h₀ L h' m) (N : News h₀ L h' news) (e : x' = x) : Q (.bool x') { s with heap := h', toks := tk' } := by
  subst e
  exact hret h' tk' F N
theorem bits_tdiv {a b : Int} {m : Nat} (h : intBits a ≤ m) : intBits (a.tdiv b) ≤ m := by
  refine bits_of_natAbs_le ?_ h
  rw [Int.natAbs_tdiv]
  exact Nat.div_le_self _ _

theorem cut_val3 {a b : Int} (hb : 0 < b) (h : a < 0) : -(Int.fdiv (-a) b) = a.tdiv b := by
  rw [Int.fdiv_eq_tdiv_of_nonneg (by omega) (by omega), Int.neg_tdiv, Int.neg_neg]
theorem cut_val4 {a b : Int} (hb : 0 < b) (h : ¬ a < 0) : Int.fdiv a b = a.tdiv b :=
  Int.fdiv_eq_tdiv_of_nonneg (by omega) (by omega)
theorem cut_val1 {a b : Int} (hb : 0 < b) (h : (decide (a < 0) != decide (b < 0)) = true) : -(Int.fdiv (if a < 0 then -a else a) (if b < 0 then -b else b)) = a.tdiv b := by
  rw [decide_eq_false (show ¬ b < 0 by omega)] at h
  have h' : a < 0 := by simpa using h
  rw [if_pos h', if_neg (by omega)]
  exact cut_val3 hb h'
theorem cut_val2 {a b : Int} (hb : 0 < b) (h : (decide (a < 0) != decide (b < 0)) = false) : Int.fdiv (if a < 0 then -a else a) (if b < 0 then -b else b) = a.tdiv b := by
  rw [decide_eq_false (show ¬ b < 0 by omega)] at h
  have h' : ¬ a < 0 := by simpa using h
  rw [if_neg h', if_neg (by omega)]
  exact cut_val4 hb h'
theorem pc_floordiv {prog : Program} {w : World} {A : Around} {E : Value → Shared → Prop} {s : Shared} {a b : Int} {t u : Tok} {Q : Value → Shared → Prop} {n : Nat} (hb : b ≠ 0) (hs : intBits b ≤ n) (hn : n ≤ 8000)
    (h : Q (.int (a.fdiv b) s.toks) { s with toks := s.toks + 1 }) : wpAny (model prog w) A (binaryOp .FloorDiv (.int a t) (.int b u)) Q E s := by
  refine floordiv_int hb h (Or.inl (PyProof.noPylong_of_log2 ?_))
  have h1 := lt_pow_of_bits hs hn
  by_cases h0 : b.natAbs = 0
  · rw [h0]; decide
  · have := (Nat.log2_lt h0).mpr h1
    omega

theorem news_tl {h₀ h : Heap} {L : Addr} {p : Addr × Obj} {news : List (Addr × Obj)} (N : News h₀ L h (p :: news)) : News h₀ L h news := fun q hq => N q (List.mem_cons_of_mem _ hq)
theorem news_drop1 {h₀ h : Heap} {L : Addr} {o p : Addr × Obj} {news : List (Addr × Obj)} (N : News h₀ L h (o :: p :: news)) : News h₀ L h (o :: news) := fun q hq => by
  rcases List.mem_cons.mp hq with rfl | hq
  · exact N _ (List.mem_cons_self ..)
  · exact N q (List.mem_cons_of_mem _ (List.mem_cons_of_mem _ hq))

/-- the loop's word -/
def Inv (u0 s0 u s : Int) : Prop := dec u s = dec u0 s0 ∧ 0 ≤ s ∧ s ≤ 40 ∧ intBits u ≤ 2000
theorem Inv.lo {u0 s0 u s : Int} (h : Inv u0 s0 u s) : 0 ≤ s := h.2.1
theorem Inv.hi {u0 s0 u s : Int} (h : Inv u0 s0 u s) : s ≤ 40 := h.2.2.1
theorem Inv.start {u s : Int} (h0 : ¬ s < 0) (h1 : s ≤ 40) (hb : intBits u ≤ 2000) : Inv u s u s := ⟨rfl, by omega, h1, hb⟩
theorem fdiv10 (u : Int) : u.fdiv 10 = u / 10 := Int.fdiv_eq_ediv_of_nonneg u (by decide)
theorem fmod10 (u : Int) : u.fmod 10 = u % 10 := Int.fmod_eq_emod_of_nonneg u (by decide)
theorem Inv.turn {u0 s0 u s : Int} (h : Inv u0 s0 u s) (h0 : 0 < s) (h1 : u.fmod 10 = 0) : Inv u0 s0 (u.fdiv 10) (s - 1) := by
  obtain ⟨a, b, c, d⟩ := h
  refine ⟨?_, by omega, by omega, bits_fdiv d⟩
  rw [← a]
  unfold dec
  rw [if_neg (by omega), if_neg (by omega)]
  obtain ⟨n, rfl⟩ : ∃ n : Nat, s = ((n + 1 : Nat) : Int) := ⟨(s - 1).toNat, by omega⟩
  have e1 : (((n + 1 : Nat) : Int) - 1).toNat = n := by omega
  have e2 : (((n + 1 : Nat) : Int)).toNat = n + 1 := by omega
  rw [e1, e2, fdiv10]
  rw [fmod10] at h1
  show _ = if u % 10 = 0 then strip n (u / 10) else (u, _)
  rw [if_pos h1]
theorem Inv.done {u0 s0 u s : Int} (h : Inv u0 s0 u s) (h0 : ¬ 0 < s ∨ u.fmod 10 ≠ 0) : (u, s) = dec u0 s0 := by
  obtain ⟨a, b, c, d⟩ := h
  rw [← a]
  unfold dec
  rw [if_neg (by omega)]
  rcases h0 with h0 | h0
  · obtain rfl : s = 0 := by omega
    rfl
  · rcases (show s = 0 ∨ 0 < s by omega) with rfl | h
    · rfl
    · obtain ⟨n, rfl⟩ : ∃ n : Nat, s = ((n + 1 : Nat) : Int) := ⟨(s - 1).toNat, by omega⟩
      have e2 : (((n + 1 : Nat) : Int)).toNat = n + 1 := by omega
      rw [fmod10] at h0
      rw [e2]
      show _ = if u % 10 = 0 then strip n (u / 10) else (u, _)
      rw [if_neg h0]
theorem dec_neg {u s : Int} (h : s < 0) : (u * 10 ^ (-s).toNat, (0 : Int)) = dec u s := by
  unfold dec
  rw [if_pos h]
theorem fillIt : (PySem.Challenge.rw_pc0122_01, hd.heap_39) = (PySem.Challenge.rw_pc0122_01, hd.heap_39) := by
  k_fill
  rfl
end
end Mine
end

section
open PySem PySem.W PyProof.Rows
open PySem.Builtin.Int (intBits)
namespace Mine
theorem fillIt1 : (PySem.Challenge.rw_pc0122_01, hd.heap_39) = (PySem.Challenge.rw_pc0122_01, hd.heap_39) := by
  k_fill
  rfl
local macro_rules | `(tactic| cell_enter) => `(tactic| (refine' code_def ?k1 ?k2 ?k3 ?k4 ?k5 ?kA ?kF ?kK ?k6 ?k7 ?k8 ?k9 ?kB ?_ ?c2 ?c3 ?c4 ?c5; (case kA => exact rfl); (case kF => exact rfl); (case kK => assumption); (case k1 => k_asm); (case k2 => k_asm); (case k3 => k_asm); (case k4 => k_asm); (case k5 => k_asm); (case k6 => k_is); (case k7 => k_is); (case k8 => ktr_room); (case k9 => first | exact BindsTo.of_eq rfl | exact binds_K (by k_in) rfl (by k_is) rfl rfl rfl); (case c5 => decide); (case kB => exact locs rfl); (case c2 => exact rfl); (case c3 => exact rfl); (case c4 => exact rfl); k_whole; intro g' L' h' FG' F' N' B' X' T'; (try dsimp only); (try k_lift B'); (try k_fold)))
local macro_rules | `(tactic| bits_by_make) => `(tactic| first
  | (with_reducible assumption)
  | ((with_reducible refine bits_pow10 _ ?_); omega))
set_option maxRecDepth 100000 in
set_option maxHeartbeats 8000000 in
theorem decimal_call (w : World) (mean : ExcName → Option Value) (mg mb : Str → Option Value) (news : List (Addr × Obj)) (u0 s0 : Int) (tu ts : Tok) (hb : intBits u0 ≤ 2000) (h1 : -20 ≤ s0) (h2 : s0 ≤ 40) :
    Claim w mean mg mb 1 70 [.int u0 tu, .int s0 ts] news (fun _ h₀ L m s Q => RetT h₀ L m news s Q (dec u0 s0).1 (dec u0 s0).2) := by
  dsimp only [Claim]
  intro dp un gd cn cs a ccd cl outer A₀ base h₀ L m s Q E B F X N T hk hd hu hret
  refine wpAny_call ?_
  k_dflt cell_enter
  (k_with "exec While" => k_while (fun script units scale => Inv u0 s0 units scale) (fun script units scale => scale.toNat) "units" "scale")
  (k_with "state" => (first | exact Inv.start (by assumption) (by assumption) (by assumption) | exact Inv.turn (by assumption) (by assumption) (by assumption)))
  (w_strict (k_steps
             all_goals (refine' retT_end hret ?kf ?kn ?kl ?ke; (case kn => assumption); (case kf => assumption); (case kl => exact allLt_of (by assumption)); (case ke => first | exact dec_neg (by assumption) | exact Inv.done (by assumption) (Or.inl (by assumption)) | exact Inv.done (by assumption) (Or.inr (by assumption))))))
set_option maxRecDepth 100000 in
set_option maxHeartbeats 8000000 in
theorem plain_call (w : World) (mean : ExcName → Option Value) (mg mb : Str → Option Value) (news : List (Addr × Obj)) (u0 s0 : Int) (tu ts : Tok) (hb : intBits u0 ≤ 2000) (h1 : -20 ≤ s0) (h2 : s0 ≤ 40) :
    Claim w mean mg mb 1 140 [.int u0 tu, .int s0 ts] news (fun _ h₀ L m s Q => RetT h₀ L m news s Q (dec u0 s0).1 (dec u0 s0).2) := by
  dsimp only [Claim]
  intro dp un gd cn cs a ccd cl outer A₀ base h₀ L m s Q E B F X N T hk hd hu hret
  refine wpAny_call ?_
  k_dflt cell_enter
  (k_with "exec While" => k_while (fun script units scale => Inv u0 s0 units scale) (fun script units scale => scale.toNat) "units" "scale")
  (k_with "state" => (first | exact Inv.start (by assumption) (by assumption) (by assumption) | exact Inv.turn (by assumption) (by assumption) (by assumption)))
  (w_strict (k_steps
             all_goals (refine' retT_end hret ?kf ?kn ?kl ?ke; (case kn => assumption); (case kf => assumption); (case kl => exact allLt_of (by assumption)); (case ke => first | exact dec_neg (by assumption) | exact Inv.done (by assumption) (Or.inl (by assumption)) | exact Inv.done (by assumption) (Or.inr (by assumption))))))
end Mine
end

section
open PySem PySem.W PyProof.Rows
open PySem.Builtin.Int (intBits)
namespace Mine
theorem fillIt2 : (PySem.Challenge.rw_pc0122_01, hd.heap_39) = (PySem.Challenge.rw_pc0122_01, hd.heap_39) := by
  k_fill
  rfl
local macro_rules | `(tactic| cell_enter) => `(tactic| (refine' code_def ?k1 ?k2 ?k3 ?k4 ?k5 ?kA ?kF ?kK ?k6 ?k7 ?k8 ?k9 ?kB ?_ ?c2 ?c3 ?c4 ?c5; (case kA => exact rfl); (case kF => exact rfl); (case kK => assumption); (case k1 => k_asm); (case k2 => k_asm); (case k3 => k_asm); (case k4 => k_asm); (case k5 => k_asm); (case k6 => k_is); (case k7 => k_is); (case k8 => ktr_room); (case k9 => first | exact BindsTo.of_eq rfl | exact binds_K (by k_in) rfl (by k_is) rfl rfl rfl); (case c5 => decide); (case kB => exact locs rfl); (case c2 => exact rfl); (case c3 => exact rfl); (case c4 => exact rfl); k_whole; intro g' L' h' FG' F' N' B' X' T'; (try dsimp only); (try k_lift B'); (try k_fold)))
local macro_rules | `(tactic| bits_by_make) => `(tactic| first
  | (with_reducible assumption)
  | ((with_reducible refine bits_pow10 _ ?_); omega))
set_option maxRecDepth 100000 in
set_option maxHeartbeats 8000000 in
theorem draw_call (w : World) (mean : ExcName → Option Value) (mg mb : Str → Option Value) (news : List (Addr × Obj)) (l : Addr) (vs : List Value) (ns : List Int) (k0 : Int) (tk : Tok) (hi : IntsAre vs ns) (hlen : ns.length < 2 ^ 62) (h1 : 0 ≤ k0) (h2 : k0 ≤ 2) :
    Claim w mean mg mb 1 133 [.ref l, .int k0 tk] news (fun base h₀ L m s Q => base.IsList l vs.toArray ∧ ∀ u sc, intBits u ≤ 640 → -5 ≤ sc → sc ≤ 18 → RetT h₀ L m news s Q u sc) := by
  dsimp only [Claim]
  intro dp un gd cn cs a ccd cl outer A₀ base h₀ L m s Q E B F X N T hk hd hu hret
  obtain ⟨hl, hret⟩ := hret
  refine wpAny_call ?_
  k_dflt cell_enter
  w_strict (k_steps
            all_goals (refine' (hret _ _ ?b1 ?b2 ?b3) _ _ _ _ _ _ ?kf ?kn ?kl; (case kn => assumption); (case kf => assumption); (case kl => exact allLt_of (by assumption)); (case b1 => first | exact bits_draw _ _ (by omega) | exact bits_neg (bits_draw _ _ (by omega))); (case b2 => exact draw_lo _); (case b3 => exact draw_hi _)))
end Mine
end

section
open PySem PySem.W PyProof.Rows
open PySem.Builtin.Int (intBits)
namespace Mine
theorem fillIt3 : (PySem.Challenge.rw_pc0122_01, hd.heap_39) = (PySem.Challenge.rw_pc0122_01, hd.heap_39) := by
  k_fill
  rfl
local macro_rules | `(tactic| cell_enter) => `(tactic| (refine' code_def ?k1 ?k2 ?k3 ?k4 ?k5 ?kA ?kF ?kK ?k6 ?k7 ?k8 ?k9 ?kB ?_ ?c2 ?c3 ?c4 ?c5; (case kA => exact rfl); (case kF => exact rfl); (case kK => assumption); (case k1 => k_asm); (case k2 => k_asm); (case k3 => k_asm); (case k4 => k_asm); (case k5 => k_asm); (case k6 => k_is); (case k7 => k_is); (case k8 => ktr_room); (case k9 => first | exact BindsTo.of_eq rfl | exact binds_K (by k_in) rfl (by k_is) rfl rfl rfl); (case c5 => decide); (case kB => exact locs rfl); (case c2 => exact rfl); (case c3 => exact rfl); (case c4 => exact rfl); k_whole; intro g' L' h' FG' F' N' B' X' T'; (try dsimp only); (try k_lift B'); (try k_fold)))
local macro_rules | `(tactic| bits_by_make) => `(tactic| first
  | (with_reducible assumption)
  | ((with_reducible refine bits_pow10 _ ?_); omega))
local macro_rules | `(tactic| walk_at "binaryOp FloorDiv int int") => `(tactic| (k_here; (with_reducible refine' pc_floordiv ?pne ?pbs ?pn ?_); (case pbs => bits_by_make); (case pne => omega); (case pn => decide)))
set_option maxRecDepth 100000 in
set_option maxHeartbeats 8000000 in
theorem cutq_call (w : World) (mean : ExcName → Option Value) (mg mb : Str → Option Value) (news : List (Addr × Obj)) (a0 b0 : Int) (ta tb : Tok) (hb : 0 < b0) (hs : intBits b0 ≤ 640) :
    Claim w mean mg mb 1 62 [.int a0 ta, .int b0 tb] news (fun _ h₀ L m s Q => RetI h₀ L m news s Q (a0.tdiv b0)) := by
  dsimp only [Claim]
  intro dp un gd cn cs a ccd cl outer A₀ base h₀ L m s Q E B F X N T hk hd hu hret
  refine wpAny_call ?_
  k_dflt cell_enter
  w_strict (k_steps
            all_goals (refine' retI_end hret ?kf ?kn ?ke; (case kn => assumption); (case kf => assumption); (case ke => first | exact cut_val1 hb (by assumption) | exact cut_val2 hb (by assumption) | exact cut_val3 hb (by assumption) | exact cut_val4 hb (by assumption))))
set_option maxRecDepth 100000 in
set_option maxHeartbeats 8000000 in
theorem lawcut_call (w : World) (mean : ExcName → Option Value) (mg mb : Str → Option Value) (news : List (Addr × Obj)) (a0 b0 : Int) (ta tb : Tok) (hb : 0 < b0) (hs : intBits b0 ≤ 640) :
    Claim w mean mg mb 1 147 [.int a0 ta, .int b0 tb] news (fun _ h₀ L m s Q => RetI h₀ L m news s Q (a0.tdiv b0)) := by
  dsimp only [Claim]
  intro dp un gd cn cs a ccd cl outer A₀ base h₀ L m s Q E B F X N T hk hd hu hret
  refine wpAny_call ?_
  k_dflt cell_enter
  w_strict (k_steps
            all_goals (refine' retI_end hret ?kf ?kn ?ke; (case kn => assumption); (case kf => assumption); (case ke => first | exact cut_val1 hb (by assumption) | exact cut_val2 hb (by assumption) | exact cut_val3 hb (by assumption) | exact cut_val4 hb (by assumption))))
end Mine
end

section
open PySem
set_option maxRecDepth 100000
namespace Mine
noncomputable section
/-- an exception object as `BaseException.__new__` makes it -/
abbrev excO (C t : Addr) : Obj := { cls := .ref C, data := .fields #[.ref t, .none, .none, .none, .bool false, .none] }
abbrev tupL (l : List Value) : Obj := { cls := .type "tuple", data := .seq l.toArray }

section
variable {M : Model} {A : Around} {E : Value → Shared → Prop} {h : Heap} {g : Array GenState} {d : Drawn} {t : Nat} {os : OsState}
variable {nm q : Str} {C N : Addr} {bs bm : List Value} {hdct : Bool} {sn : List Str} {sub : List Value} {ab : Bool} {col : Option Bool} {dd : Option Addr} {k0 k1 k2 k3 k5 : Option Value}
theorem xc_check_new {rest : List Value} {Q : Unit → Shared → Prop} (hC : h.get? C = some (excClassObj nm q C N bs bm hdct sn sub ab col dd k0 k1 k2 k3 k5 "Exception.__new__")) (hB : (Value.ref C :: bm).contains (.type "Exception") = true)
    (hq : Q () ⟨h, g, d, t, os⟩) : wpAny M A (checkBuiltinCall "Exception.__new__" ⟨.ref C :: rest, []⟩) Q E ⟨h, g, d, t, os⟩ := by
  have F := PySem.F.excBase_Exception
  have hstar := F.noStar
  simp only [checkBuiltinCall, F.newKind, F.newSplit, F.newRow]
  repeat (first | refine wpAny_loadPart_at hC ?_ | (refine wpAny_isSubtype_exc hC ?_; rw [hB]) | refine wpAny_staticBase_exc hC ?_ | refine wpAny_madeBy_exc hC ?_ | simp only [bne_self_eq_false, Bool.false_eq_true, if_false] | wp_step)
  exact hq
end
section
variable {prog : Program} {w : World} {A : Around} {R : Result → Shared → Prop} {h : Heap} {g : Array GenState} {d : Drawn} {t : Nat} {os : OsState}
variable {nm q : Str} {C N : Addr} {bs bm : List Value} {hdct : Bool} {sn : List Str} {sub : List Value} {ab : Bool} {col : Option Bool} {dd : Option Addr} {k0 k1 k2 k3 k5 : Option Value}
theorem xc_new {rest : List Value} (hC : h.get? C = some (excClassObj nm q C N bs bm hdct sn sub ab col dd k0 k1 k2 k3 k5 "Exception.__new__"))
    (hB : (Value.ref C :: bm).contains (.type "Exception") = true) (hAt : (Value.ref C :: bm).contains (.type "AttributeError") = false) (hNm : (Value.ref C :: bm).contains (.type "NameError") = false)
    (hq : R (.ok (.ret (.ref (h.objs.size + 1)))) ⟨(h.push (tupL rest)).push (excO C h.objs.size), g, d, t, os⟩) (hrest : rest.length ≤ sizeLine) :
    codeAny (model prog w) A (.builtin "Exception.__new__" ⟨.ref C :: rest, []⟩) R ⟨h, g, d, t, os⟩ := by
  have F := PySem.F.excBase_Exception
  have hends := F.ends
  refine codeAny_builtinAt F.entry ?_
  unfold Builtin.«BaseException.__new__»
  refine wpAt_bind ?_
  show wpAt _ _ _ (stack >>= _) _ _ _
  refine wpAt_bind (wpAt_stack fun p below => wpAt_of_wpAny ?_)
  wp_walk
  refine wpAt_of_wpAny ?_
  rw [F.owner]
  repeat (first | with_reducible refine wpAny_madeHere_exc F.canon hC ?_ | with_reducible refine wpAny_loadPart_at hC ?_ | (with_reducible refine wpAny_isSubtype_exc hC ?_; first | rw [hB] | rw [hAt] | rw [hNm]) | wp_step)
  show R _ _
  rw [Heap.size_push]
  exact hq
end

open PySem.W
section
variable {prog : Program} {w : World} {A : Around} {E : Value → Shared → Prop} {h : Heap} {g : Array GenState} {d : Drawn} {t : Nat} {os : OsState}
variable {nm q : Str} {C N : Addr} {bs bm : List Value} {hdct : Bool} {sn : List Str} {sub : List Value} {ab : Bool} {col : Option Bool} {dd : Option Addr} {k0 k1 k2 k3 k5 : Option Value} {K : PySem.W.Frag}
theorem xc_type_call {rest : List Value} {fI : Addr} {Q : Fin → Shared → Prop} (X : K.In h)
    (hC : h.get? C = some (excClassObj nm q C N bs bm hdct sn sub ab col dd k0 k1 k2 k3 k5 "Exception.__new__"))
    (hB : (Value.ref C :: bm).contains (.type "Exception") = true) (hAt : (Value.ref C :: bm).contains (.type "AttributeError") = false) (hNm : (Value.ref C :: bm).contains (.type "NameError") = false)
    (hi : findIn K (.ref C) "__init__" = some (some (.ref fI))) (hf : typeIn K (.ref fI) = some (.type "function"))
    (hq : wpAny (model prog w) A (call (.ref fI) (.ref (h.objs.size + 1) :: rest)) (fun r s' => r = .none ∧ Q (.done (.ret (.ref (h.objs.size + 1)))) s') E ⟨(h.push (tupL rest)).push (excO C h.objs.size), g, d, t, os⟩) (hrest : rest.length ≤ sizeLine) :
    wpAny (model prog w) A (Builtin.«type.__call__» ⟨.ref C :: rest, []⟩) Q E ⟨h, g, d, t, os⟩ := by
  have F := PySem.F.excBase_Exception
  repeat (first | with_reducible refine wpAny_loadPart_at hC ?_ | with_reducible refine wpAny_madeBy_exc hC ?_ | wp_step)
  refine codeAny_call_builtin_code (Code.quiet_builtin _ F.quiet) (xc_check_new hC hB ?_)
  refine xc_new hC hB hAt hNm ?_ hrest
  show wpAny _ _ _ _ _ _
  have hk : ∀ b o, h.get? b = some o → ((h.push (tupL rest)).push (excO C h.objs.size)).get? b = some o := fun b o e => Heap.get?_push_of_some _ (Heap.get?_push_of_some _ e)
  have hC₁ := hk _ _ hC
  have X₁ : K.In ((h.push (tupL rest)).push (excO C h.objs.size)) := X.keeps hk
  have hget : ((h.push (tupL rest)).push (excO C h.objs.size)).get? (h.objs.size + 1) = some (excO C h.objs.size) := by heap_get
  have hcC : (Value.ref C :: bm).contains (.ref C) = true := by simp
  unfold isInstance
  repeat (first | with_reducible refine wpAny_loadPart_at hget ?_ | (with_reducible refine wpAny_isSubtype_exc hC₁ ?_; rw [hcC]) | wp_step)
  show wpAny _ _ (typeLookup (.ref C) _) _ _ _
  refine looks_findIn X₁ hi _ _ _ _ (fun _ _ e => e) ?_
  refine wpAny_holding (wpAny_bind ?_)
  refine bind_fn X₁ _ hf _ _ _ _ (fun _ _ e => e) ?_
  refine wpAny_bind (wpAny_mono hq (fun r s' hr => ?_) fun _ _ x => x)
  obtain ⟨rfl, hQ⟩ := hr
  wp_walk
  exact hQ

theorem xc_call {rest : List Value} {fI : Addr} {Q : Value → Shared → Prop} (X : K.In h)
    (hC : h.get? C = some (excClassObj nm q C N bs bm hdct sn sub ab col dd k0 k1 k2 k3 k5 "Exception.__new__"))
    (hB : (Value.ref C :: bm).contains (.type "Exception") = true) (hAt : (Value.ref C :: bm).contains (.type "AttributeError") = false) (hNm : (Value.ref C :: bm).contains (.type "NameError") = false)
    (hi : findIn K (.ref C) "__init__" = some (some (.ref fI))) (hf : typeIn K (.ref fI) = some (.type "function"))
    (hq : wpAny (model prog w) (A.under (.builtin "type.__call__" ⟨.ref C :: rest, []⟩)) (call (.ref fI) (.ref (h.objs.size + 1) :: rest)) (fun r s' => r = .none ∧ Q (.ref (h.objs.size + 1)) s') E ⟨(h.push (tupL rest)).push (excO C h.objs.size), g, d, t, os⟩) (hrest : rest.length ≤ sizeLine) :
    wpAny (model prog w) A (call (.ref C) rest) Q E ⟨h, g, d, t, os⟩ := by
  have f1 := tc_lookup
  have f2 := tc_bind (.ref C)
  have hT : (⟨h, g, d, t, os⟩ : Shared).TypeIs (.ref C) "type" := ⟨_, hC, rfl⟩
  refine wpAny_call (codeAny_of_tree ?_)
  show wpAny _ _ (callAny (.ref C) _) _ _ _
  repeat (any_goals (first | assumption | with_reducible refine wpAny_loadPart_at hC ?_ | wp_step))
  refine ⟨rfl, ?_⟩
  refine codeAny_call_builtin_at (Code.quiet_builtin _ (by decide +kernel)) entry_typeCall (wpAny_check_type_call_sub hC (xc_type_call X hC hB hAt hNm hi hf ?_ hrest))
  exact hq
end
end
end Mine
end

section
open PySem PySem.Builtin PySem.Builtin.ObjectAttr PySem.W PyProof.Rows PySem.Calls PySem.Spec
set_option maxRecDepth 100000
namespace Mine
noncomputable section
abbrev excD (C t dx : Addr) : Obj := { cls := .ref C, dict := some dx, data := .fields #[.ref t, .none, .none, .none, .bool false, .none] }
section
variable {prog : Program} {w : World} {A : Around} {K : Frag} {C x : Addr} {s : Shared} {h₀ : Heap} {L : Addr} {m : Str → Option Value} {news : List (Addr × Obj)} {R : Result → Shared → Prop}
theorem xs_open {ox : Obj} {od : Option Obj} {name : Str} {tk : Tok} {v : Value} {cd : ClassData} (X : K.In s.heap) (I : InstAt s.heap x ox C od) (hc : clsIn K C = some cd) (hr : refuseLoop (.ref x) "__setattr__" cd.mro = pure ())
    (ho : cd.mro.contains (.type "object") = true) (ne : cd.mro.isEmpty = false) (ha : findIn K (.ref C) name = some none)
    (h : ∀ b, wpAny (model prog w) A.in1 (storeInOwnDict (.ref x) (.ref C) (.str name tk) name v b)
      (fun fin s' => match fin with | .done f => R (.ok f) s' | .again c' => c'.quiet = true ∧ codeAny (model prog w) A c' R s') (fun e s' => R (.error e) s') s) :
    codeAny (model prog w) A (.call (.builtin "object.__setattr__") ⟨[.ref x, .str name tk, v], []⟩) R s := by
  have SF := PySem.F.store_object
  have sub : Looks (model prog w) s.heap (isInstance (.ref x) (.type "object")) true := I.type.andThen (looks_mroIn X (by unfold mroIn; rw [hc, Option.bind_some, if_neg (by rw [ne]; decide), ho]))
  refine codeAny_call_builtin SF.slot.plain SF.entry (@check_slot (model prog w) _ _ s "object.__setattr__" "object" "__setattr__" (.ref x) [.str name tk, v] [] _ SF.kind SF.split sub (SF.args (.ref x) (.str name tk) v) ?_)
  have hm : Looks (model prog w) s.heap (mroOf (.ref C)) cd.mro := (looks_clsIn X hc).andThen .now
  rw [osa_eq, refuse_eq]
  refine wpAny_bind (wpAny_bind (I.type.here (wpAny_bind (hm.here ?_))))
  rw [hr]
  refine wpAny_pure (wpAny_bind (I.type.here (wpAny_bind ((looks_findIn X ha).here (wpAny_bind (wpAny_pure ?_))))))
  exact h _

theorem xs_new {t : Addr} {name : Str} {tk : Tok} {v : Value} {pre post : List (Addr × Obj)} {cd : ClassData} (F : Fr h₀ L s.heap m) (N : News h₀ L s.heap (pre ++ (x, excO C t) :: post)) (X : K.In s.heap)
    (hc : clsIn K C = some cd) (hr : refuseLoop (.ref x) "__setattr__" cd.mro = pure ()) (ho : cd.mro.contains (.type "object") = true) (ne : cd.mro.isEmpty = false) (ha : findIn K (.ref C) name = some none) (hh : cd.hasDict = true)
    (h1 : ∀ p ∈ pre, p.1 ≠ x) (h2 : ∀ p ∈ post, p.1 ≠ x)
    (h : ∀ dx h', Fr h₀ L h' m → News h₀ L h' ((dx, dictOf [⟨PyData.keyHash w.params name, .str name s.toks, v⟩] 1) :: (pre ++ (x, excD C t dx) :: post)) → (∀ p ∈ pre ++ (x, excO C t) :: post, p.1 < dx) → R (.ok (.ret .none)) { s with heap := h', toks := s.toks + 1 }) :
    codeAny (model prog w) A (.call (.builtin "object.__setattr__") ⟨[.ref x, .str name tk, v], []⟩) R s := by
  have hx := (N (x, excO C t) (by simp)).1
  have I : InstAt s.heap x (excO C t) C none := ⟨hx, rfl, rfl, trivial⟩
  refine xs_open X I hc hr ho ne ha fun b => ?_
  obtain ⟨hp, g, d, tk0, os⟩ := s
  dsimp only at hx F N X I h ⊢
  have hxs : x < hp.objs.size := Heap.lt_size hx
  have N1 : News h₀ L (hp.push emptyDict) ((hp.objs.size, emptyDict) :: (pre ++ (x, excO C t) :: post)) := N.push F emptyDict
  have F1 : Fr h₀ L (hp.push emptyDict) m := F.push _
  have hlt : ∀ p ∈ pre ++ (x, excO C t) :: post, p.1 < hp.objs.size := fun p q => Heap.lt_size (N p q).1
  obtain ⟨F2, N2⟩ := news_upd (pre := (hp.objs.size, emptyDict) :: pre) (f := fun o => { cls := o.cls, dict := some hp.objs.size, data := o.data, slots := o.slots }) (o' := excD C t hp.objs.size) F1 N1
    (fun p q => by
      rcases List.mem_cons.mp q with rfl | q
      · exact Nat.ne_of_gt hxs
      · exact h1 p q) h2 rfl rfl
  obtain ⟨F3, N3⟩ := news_upd (pre := []) (f := Obj.putName name (PyData.keyHash w.params name) (.str name tk0) v) (o' := dictOf [⟨PyData.keyHash w.params name, .str name tk0, v⟩] 1) F2 N2
    (fun p q => nomatch q) (fun p q => by
      have hp' : p.1 < hp.objs.size := by
        rcases List.mem_append.mp q with q | q
        · exact hlt p (List.mem_append_left _ q)
        · rcases List.mem_cons.mp q with rfl | q
          · exact hxs
          · exact hlt p (List.mem_append_right _ (List.mem_cons_of_mem _ q))
      exact Nat.ne_of_lt hp') (by show Obj.putName name _ _ v (dictOf [] 0) = _; rw [putName_dict]; rfl) rfl
  have D2 := (N2 (hp.objs.size, emptyDict) (by simp)).1
  have D3 := (N3 (hp.objs.size, dictOf [⟨PyData.keyHash w.params name, .str name tk0, v⟩] 1) (by simp)).1
  refine wpAny_bind (wpAny_pure (wpAny_bind (wpAny_bind (wpAny_loadPart hx (wpAny_bind ((looks_clsIn X hc).here ?_))))))
  rw [hh]
  dsimp only
  refine wpAny_bind (wpAny_alloc' ?_)
  refine wpAny_bind (wpAny_update' (Heap.get?_push_of_some _ hx) ?_)
  refine wpAny_pure (a := some hp.objs.size) ?_
  unfold storeInDict newKeyGuard nsSet
  refine wpAny_bind (wpAny_pure (wpAny_bind ?_))
  refine wpAny_bind (wpAny_bind (wpAny_askSetting (wpAny_pure (wpAny_bind (wpAny_mkText (wpAny_bind (wpAny_loadPart D2 ?_)))))))
  dsimp only
  rw [aRefKeyMayBeTheName_at, if_neg (by simp)]
  refine wpAny_updatePart D2 ?_
  refine wpAny_bind (wpAny_lookBehind D3 (pastItsLine_dict (by simp [sizeLine_eq])) ?_)
  exact wpAny_pure (h _ _ F3 N3 hlt)
theorem xs_more {t dx : Addr} {name : Str} {tk : Tok} {v : Value} {pre post : List (Addr × Obj)} {cd : ClassData} {es : List DictEntry} {n : Nat} (F : Fr h₀ L s.heap m) (N : News h₀ L s.heap (pre ++ (dx, dictOf es n) :: post)) (X : K.In s.heap)
    (hx : s.heap.get? x = some (excD C t dx))
    (hc : clsIn K C = some cd) (hr : refuseLoop (.ref x) "__setattr__" cd.mro = pure ()) (ho : cd.mro.contains (.type "object") = true) (ne : cd.mro.isEmpty = false) (ha : findIn K (.ref C) name = some none) (hh : cd.hasDict = true)
    (h1 : ∀ p ∈ pre, p.1 ≠ dx) (h2 : ∀ p ∈ post, p.1 ≠ dx) (hk : (!es.any (·.key.isStr name) && es.any (·.refKey)) = false)
    {es' : List DictEntry} {n' : Nat} (e : (putL name (PyData.keyHash w.params name) (.str name s.toks) v es, putN name es n) = (es', n')) (hz : es'.length ≤ 1000)
    (h : ∀ h', Fr h₀ L h' m → News h₀ L h' (pre ++ (dx, dictOf es' n') :: post) → R (.ok (.ret .none)) { s with heap := h', toks := s.toks + 1 }) :
    codeAny (model prog w) A (.call (.builtin "object.__setattr__") ⟨[.ref x, .str name tk, v], []⟩) R s := by
  have D := (N (dx, dictOf es n) (by simp)).1
  have I : InstAt s.heap x (excD C t dx) C (some (dictOf es n)) := ⟨hx, rfl, rfl, D⟩
  obtain ⟨rfl, rfl⟩ := Prod.mk.inj e
  refine xs_open X I hc hr ho ne ha fun b => ?_
  obtain ⟨F3, N3⟩ := news_upd (f := Obj.putName name (PyData.keyHash w.params name) (.str name s.toks) v) (o' := dictOf (putL name (PyData.keyHash w.params name) (.str name s.toks) v es) (putN name es n)) F N h1 h2 (by rw [putName_dict]) rfl
  have D3 := (N3 (dx, dictOf (putL name (PyData.keyHash w.params name) (.str name s.toks) v es) (putN name es n)) (by simp)).1
  refine wpAny_bind (wpAny_pure (wpAny_bind (wpAny_bind (wpAny_loadPart hx (wpAny_bind ((looks_clsIn X hc).here ?_))))))
  rw [hh]
  refine wpAny_pure (a := some dx) (wpAny_bind (wpAny_pure (wpAny_bind ?_)))
  unfold nsSet
  refine wpAny_bind (wpAny_bind (wpAny_askSetting (wpAny_pure (wpAny_bind (wpAny_mkText (wpAny_bind (wpAny_loadPart D ?_)))))))
  dsimp only
  have c : (!es.toArray.any (·.key.isStr name) && es.toArray.any (·.refKey)) = false := by
    rw [← Array.any_toList, ← Array.any_toList]; exact hk
  rw [aRefKeyMayBeTheName_at, c]
  refine wpAny_updatePart D ?_
  refine wpAny_bind (wpAny_lookBehind D3 (pastItsLine_dict (by rw [List.size_toArray, sizeLine_eq]; omega)) ?_)
  exact wpAny_pure (h _ F3 N3)

theorem xs_set_new {E : Value → Shared → Prop} {Q : Unit → Shared → Prop} {t : Addr} {name : Str} {v : Value} {pre post : List (Addr × Obj)} {cd : ClassData} (F : Fr h₀ L s.heap m) (X : K.In s.heap) (N : News h₀ L s.heap (pre ++ (x, excO C t) :: post))
    (hs : findIn K (.ref C) "__setattr__" = some (some (.builtin "object.__setattr__")))
    (hc : clsIn K C = some cd) (hr : refuseLoop (.ref x) "__setattr__" cd.mro = pure ()) (ho : cd.mro.contains (.type "object") = true) (ne : cd.mro.isEmpty = false) (ha : findIn K (.ref C) name = some none) (hh : cd.hasDict = true)
    (h1 : ∀ p ∈ pre, p.1 ≠ x) (h2 : ∀ p ∈ post, p.1 ≠ x)
    (h : ∀ dx h', Fr h₀ L h' m → News h₀ L h' ((dx, dictOf [⟨PyData.keyHash w.params name, .str name (s.toks + 1), v⟩] 1) :: (pre ++ (x, excD C t dx) :: post)) → (∀ p ∈ pre ++ (x, excO C t) :: post, p.1 < dx) → Q () { s with heap := h', toks := s.toks + 1 + 1 }) :
    wpAny (model prog w) A (setAttr (.ref x) name v) Q E s :=
  set_plain X (⟨(N (x, excO C t) (by simp)).1, rfl, rfl, trivial⟩ : InstAt s.heap x (excO C t) C none) hs (xs_new (s := { s with toks := s.toks + 1 }) F N X hc hr ho ne ha hh h1 h2 h)
theorem xs_set_more {E : Value → Shared → Prop} {Q : Unit → Shared → Prop} {t dx : Addr} {name : Str} {v : Value} {pre post : List (Addr × Obj)} {cd : ClassData} {es : List DictEntry} {n : Nat} (F : Fr h₀ L s.heap m) (X : K.In s.heap) (N : News h₀ L s.heap (pre ++ (dx, dictOf es n) :: post))
    (hx : s.heap.get? x = some (excD C t dx)) (hs : findIn K (.ref C) "__setattr__" = some (some (.builtin "object.__setattr__")))
    (hc : clsIn K C = some cd) (hr : refuseLoop (.ref x) "__setattr__" cd.mro = pure ()) (ho : cd.mro.contains (.type "object") = true) (ne : cd.mro.isEmpty = false) (ha : findIn K (.ref C) name = some none) (hh : cd.hasDict = true)
    (h1 : ∀ p ∈ pre, p.1 ≠ dx) (h2 : ∀ p ∈ post, p.1 ≠ dx) (hk : (!es.any (·.key.isStr name) && es.any (·.refKey)) = false)
    {es' : List DictEntry} {n' : Nat} (e : (putL name (PyData.keyHash w.params name) (.str name (s.toks + 1)) v es, putN name es n) = (es', n')) (hz : es'.length ≤ 1000)
    (h : ∀ h', Fr h₀ L h' m → News h₀ L h' (pre ++ (dx, dictOf es' n') :: post) → Q () { s with heap := h', toks := s.toks + 1 + 1 }) :
    wpAny (model prog w) A (setAttr (.ref x) name v) Q E s :=
  set_plain X (⟨hx, rfl, rfl, (N (dx, dictOf es n) (by simp)).1⟩ : InstAt s.heap x (excD C t dx) C (some (dictOf es n))) hs (xs_more (s := { s with toks := s.toks + 1 }) F N X hx hc hr ho ne ha hh h1 h2 hk e hz h)
end
end
end Mine
end

section
open PySem PySem.W PyProof.Rows PySem.Calls PySem.Spec
set_option maxRecDepth 100000
namespace Mine
noncomputable section
/-- a class as SizeFault's is laid in the written part -/
structure ExcAt (K : Frag) (C : Addr) (nm q : Str) (N : Addr) (bs bm : List Value) (hdct : Bool) (sn : List Str) (sub : List Value) (ab : Bool) (col : Option Bool) (dd : Option Addr) (k0 k1 k2 k3 k5 : Option Value) (fI : Addr) : Prop where
  obj : K.lookup C = some (excClassObj nm q C N bs bm hdct sn sub ab col dd k0 k1 k2 k3 k5 "Exception.__new__")
  isExc : (Value.ref C :: bm).contains (.type "Exception") = true
  isBase : (Value.ref C :: bm).contains (.type "BaseException") = true
  noAttr : (Value.ref C :: bm).contains (.type "AttributeError") = false
  noName : (Value.ref C :: bm).contains (.type "NameError") = false
  init : findIn K (.ref C) "__init__" = some (some (.ref fI))
  isFn : typeIn K (.ref fI) = some (.type "function")
section
variable {prog : Program} {w : World} {A : Around} {E : Value → Shared → Prop} {K : Frag} {C fI : Addr} {s : Shared} {h₀ : Heap} {L : Addr} {m : Str → Option Value} {news : List (Addr × Obj)}
variable {nm q : Str} {N : Addr} {bs bm : List Value} {hdct : Bool} {sn : List Str} {sub : List Value} {ab : Bool} {col : Option Bool} {dd : Option Addr} {k0 k1 k2 k3 k5 : Option Value}
theorem sz_make {rest : List Value} {Q : Value → Shared → Prop} (Z : ExcAt K C nm q N bs bm hdct sn sub ab col dd k0 k1 k2 k3 k5 fI) (F : Fr h₀ L s.heap m) (Nw : News h₀ L s.heap news) (X₀ : K.In h₀)
    (hrest : rest.length ≤ sizeLine)
    (h : ∀ e t h', Fr h₀ L h' m → News h₀ L h' ((e, excO C t) :: (t, tupL rest) :: news) → (∀ p ∈ news, p.1 < t) → t < e →
      wpAny (model prog w) (A.under (.builtin "type.__call__" ⟨.ref C :: rest, []⟩)) (call (.ref fI) (.ref e :: rest)) (fun r s' => r = .none ∧ Q (.ref e) s') E { s with heap := h' }) :
    wpAny (model prog w) A (call (.ref C) rest) Q E s := by
  have X : K.In s.heap := X₀.keeps F.keep
  obtain ⟨hp, g, d, t, os⟩ := s
  dsimp only at F Nw X h
  have N1 := Nw.push F (tupL rest)
  have F1 := F.push (tupL rest)
  have N2 := N1.push F1 (excO C hp.objs.size)
  have F2 := F1.push (excO C hp.objs.size)
  rw [Heap.size_push] at N2
  exact xc_call X (X _ _ Z.obj) Z.isExc Z.noAttr Z.noName Z.init Z.isFn (h _ _ _ F2 N2 (fun p hp => Heap.lt_size (Nw p hp).1) (Nat.lt_succ_self _)) hrest

/-- what a raise statement asks of its exception, when the exception is of such a class -/
def SzR (K : Frag) (C : Addr) (E : Value → Shared → Prop) (v : Value) (s₁ : Shared) : Prop :=
  ∃ e t dx, v = .ref e ∧ K.In s₁.heap ∧ s₁.heap.get? e = some (excD C t dx) ∧ E (.ref e) s₁
theorem SzR.intro {e t dx : Addr} {s₁ : Shared} (F : Fr h₀ L s₁.heap m) (X₀ : K.In h₀) (Nw : News h₀ L s₁.heap news) (hm : (e, excD C t dx) ∈ news) (h : E (.ref e) s₁) : SzR K C E (.ref e) s₁ :=
  ⟨e, t, dx, rfl, X₀.keeps F.keep, (Nw _ hm).1, h⟩
theorem sz_raise {M : Model} {env : Env} {e : Expr} {pos : Pos} {Q : Flow → Shared → Prop} (_X : K.In h₀) (Z : ExcAt K C nm q N bs bm hdct sn sub ab col dd k0 k1 k2 k3 k5 fI) (hh : A.handled = none)
    (h : wpAny M A (eval e env) (SzR K C E) E s) : wpAny M A (exec (.Raise (some e) none pos) env) Q E s := by
  have hcB := Z.isBase
  show wpAny M A (do standAt pos; raiseStmt env (some (do let v ← eval e env; standAt pos; pure v)) none) Q E s
  refine wpAny_bind (wpAny_standAt ?_)
  unfold raiseStmt
  dsimp only
  refine wpAny_bind (wpAny_bind (wpAny_mono h (fun v s₁ h₁ => wpAny_bind (wpAny_standAt (wpAny_pure ?_))) fun _ _ x => x))
  obtain ⟨a, t, dx, rfl, X, he, hE⟩ := h₁
  have hC := X _ _ Z.obj
  obtain ⟨hp, g, d, tk, os⟩ := s₁
  dsimp only at he hC
  repeat (first | with_reducible refine wpAny_loadPart_at he ?_ | with_reducible refine wpAny_loadPart_at hC ?_ | (with_reducible refine wpAny_isSubtype_exc hC ?_; rw [hcB]) | wp_step)
  exact wpAny_raiseNew_none hh hE
end

section
variable {M : Model} {A : Around} {E : Value → Shared → Prop} {s' : Shared} {base g : Heap} {outer : List Env} {L a e t dx C : Addr} {m : Str → Option Value} {name : Str} {scope : Scope} {cd : Value} {Q : Unit → Shared → Prop} {news pre post : List (Addr × Obj)} {vs : List Value} {c : Nat}
theorem sz_leave (K : Below A base outer g) (F : Fr g L s'.heap m) (N : News g L s'.heap news) (he : (e, excD C t dx) ∈ news) (ht : (t, ({ cls := .type "tuple", data := .seq vs.toArray c } : Obj)) ∈ news)
    {rest : List (Addr × Obj)} (hr : ∀ p ∈ rest, p ∈ news) (hne : ∀ p ∈ rest, p.1 ≠ e) (hnt : ∀ p ∈ rest, p.1 ≠ t)
    (hQ : ∀ h', RaisedS base g outer e (.ref C) t vs rest h' → RaisedK base outer e (.ref C) t vs rest h' → g.UpToSlots h' → Q () { s' with heap := h' }) (hk : scope.kind = .function := by rfl) :
    wpAny M (A.deeper (envOf name scope L a cd)) (leaving (envOf name scope L a cd) (.ref e)) Q E s' := by
  have K' := K.push (name := name) (a := a) (cd := cd) F hk
  have hfs : ∀ b ∈ (envOf name scope L a cd :: outer).filterMap (·.frame), base.get? b = none := fun b hb => (K'.frames.mem hb).1
  have st : base.StaysIn (hideAll s'.heap (e :: t :: (envOf name scope L a cd :: outer).filterMap (·.frame))) := fun b o q => hideAll_get _ (K'.stays b o q) fun hm => by
    rcases List.mem_cons.mp hm with rfl | hm
    · rw [fresh_of_stays K.stays (N _ he).2.2] at q; cases q
    · rcases List.mem_cons.mp hm with rfl | hm
      · rw [fresh_of_stays K.stays (N _ ht).2.2] at q; cases q
      · rw [hfs b hm] at q; cases q
  have sg : ∀ b o, g.get? b = some o → b ∉ outer.filterMap (·.frame) → (hideAll s'.heap (e :: t :: (envOf name scope L a cd :: outer).filterMap (·.frame))).get? b = some o := fun b o q nm => hideAll_get _ (F.keep b o q) fun hm => by
    rcases List.mem_cons.mp hm with rfl | hm
    · rw [(N _ he).2.2] at q; cases q
    · rcases List.mem_cons.mp hm with rfl | hm
      · rw [(N _ ht).2.2] at q; cases q
      · rcases kts_mem hm with z | z
        · rw [z, kts_self F] at q
          cases q
        · exact nm z
  have hl : ∀ p ∈ rest, (hideAll s'.heap (e :: t :: (envOf name scope L a cd :: outer).filterMap (·.frame))).get? p.1 = some p.2 ∧ g.get? p.1 = none ∧ base.get? p.1 = none := fun p hp => by
    refine ⟨hideAll_get _ (N p (hr p hp)).1 fun hm => ?_, (N p (hr p hp)).2.2, fresh_of_stays K.stays (N p (hr p hp)).2.2⟩
    rcases List.mem_cons.mp hm with z | hm
    · exact hne p hp z
    · rcases List.mem_cons.mp hm with z | hm
      · exact hnt p hp z
      · rcases kts_mem hm with z | z
        · exact (N p (hr p hp)).2.1 z
        · obtain ⟨_, o, ho, _⟩ := K.frames.mem z
          rw [(N p (hr p hp)).2.2] at ho; cases ho
  have hin : ∀ env ∈ (envOf name scope L a cd :: outer), ∀ b, env.frame = some b → b ∈ e :: t :: (envOf name scope L a cd :: outer).filterMap (·.frame) := fun env he' b hb => List.mem_cons_of_mem _ (List.mem_cons_of_mem _ (List.mem_filterMap.mpr ⟨env, he', hb⟩))
  have hen : (hideAll s'.heap (e :: t :: (envOf name scope L a cd :: outer).filterMap (·.frame))).get? e = none := hideAll_none _ (List.mem_cons_self ..)
  have htn : (hideAll s'.heap (e :: t :: (envOf name scope L a cd :: outer).filterMap (·.frame))).get? t = none := hideAll_none _ (List.mem_cons_of_mem _ (List.mem_cons_self ..))
  refine wpAny_leaving_firstW (a0 := .ref t) K'.stack (funFrames_hide K'.frames hin) rfl (N _ he).1 (fun b o hb => of_hideAll _ hb) hen rfl rfl rfl fun h' hL => ?_
  obtain ⟨x1, ⟨_, _, x2⟩, x3, x4⟩ := hL
  have htup : h'.TupAt t vs := Heap.TupAt.of_slots ⟨_, _, (N _ ht).1, rfl, rfl⟩ x4
  have R : RaisedS base g outer e (.ref C) t vs rest h' := ⟨⟨_, st, sg, hl, ⟨x1, hen, x2, x3⟩, htn⟩, htup⟩
  exact hQ h' R R.toK ((Heap.UpToSlots.of_keeps F.keep).trans x4)
end

section
variable {prog : Program} {w : World} {A₀ A : Around} {s : Shared} {base h₀ g₀ : Heap} {outer : List Env} {L a : Addr} {m : Str → Option Value} {env : Env} {news : List (Addr × Obj)} {K : Frag} {p : Program} {loose : List Str} {mean : ExcName → Option Value} {mg mb : Str → Option Value}
    {R : Result → Shared → Prop} {name qual : Str} {params : Arguments} {body : List Stmt} {scope : Scope} {dV kV doc pm cdv ct oc : Value} {an od : Option Addr} {osl : Array (Option Value)} {f : Addr} {args : Args} {binds : List (Str × Value)}
theorem mem_frames {b : Addr} (hf : env.frame = some L) (hm : b ∈ (env :: outer).filterMap (·.frame)) : b = L ∨ b ∈ outer.filterMap (·.frame) := by
  obtain ⟨env', he, hf'⟩ := List.mem_filterMap.mp hm
  rcases List.mem_cons.mp he with rfl | he
  · exact .inl (Option.some.inj (hf.symm.trans hf')).symm
  · exact .inr (List.mem_filterMap.mpr ⟨env', he, hf'⟩)
/-- a call from any frame, into a def whose frames may turn (by exceptions caught within) -/
theorem code_defSX (B : Below A₀ base outer h₀) (F : Fr h₀ L s.heap m) (X₀ : K.In h₀) (N : News h₀ L s.heap news) (T : Top p loose mean mg mb h₀) (XB : K.In base) (TB : Top p loose mean mg mb base) (D : KtsDicts (outer.filterMap (·.frame)) h₀)
    (T0 : KtsTurn (outer.filterMap (·.frame)) g₀ h₀) (hA : A.frames = some (env :: outer)) (hf : env.frame = some L) (hke : env.scope.kind = .function)
    (ho : K.lookup f = some ⟨oc, od, .func (fnOf name qual params body scope dV kV doc pm an cdv ct), osl⟩) (hcd : codeIn K cdv qual = true) (hroom : A.depth < recursionLimit)
    (hbind : BindsTo s (fnOf name qual params body scope dV kV doc pm an cdv ct) args binds) (hloc : ∀ y ∈ binds, scope.names.lookup y.1 = some .local)
    (h : ∀ g L' h₁, Fr h₀ L g m → Fr g L' h₁ (fun y => binds.reverse.lookup y) → News g L' h₁ news → Below A base (env :: outer) g → K.In g → Top p loose mean mg mb g → KtsDicts ((env :: outer).filterMap (·.frame)) g →
      wpAny (model prog w) (A.deeper (envOf qual scope L' f cdv)) (execs body (envOf qual scope L' f cdv))
        (fun fl s' => LeaveS ((env :: outer).filterMap (·.frame)) A₀ base outer K p loose mean mg mb g₀ h₀ L m g R (match fl with | .ret v => v | _ => .none) s')
        (fun e s' => wpAny (model prog w) (A.deeper (envOf qual scope L' f cdv)) (leaving (envOf qual scope L' f cdv) e) (fun _ s'' => R (.error e) s'') (fun e' s'' => R (.error e') s'') s')
        { s with heap := h₁, toks := s.toks + binds.length })
    (hco : scope.isCoroutine = false) (hgen : scope.isGenerator = false) (hk : scope.kind = .function)
    (hcell : ∀ x ∈ scope.names, x.2 ≠ .cell) : codeAny (model prog w) A (.call (.ref f) args) R s := by
  have X := X₀.keeps F.keep
  obtain ⟨FG, BG, st, _⟩ := groundX (R := R) B F N hA hf hke
  refine codeAny_call_def (fd := fnOf name qual params body scope dV kV doc pm an cdv ct) (body := body) (binds := binds) hroom (X _ _ ho) rfl (T.nolimit.keeps F.keep) (codeRec_of X hcd) rfl hbind hcell hloc (fun h₁ hns hk₁ => ?_) hco hgen hk
  obtain ⟨oL, es, ep, hLg, hLd, hLk, hLf⟩ := id FG.ns
  refine wpAny_mono (h _ s.heap.objs.size h₁ FG ⟨hns, fun b o e => hk₁ b o (of_hideAll _ e), Nat.le_of_eq (hideAll_size _ _)⟩
    (fun p hp => ⟨hk₁ _ _ (N p hp).1, Nat.ne_of_lt (Heap.lt_size (N p hp).1), hideAll_none _ (List.mem_map_of_mem hp)⟩) BG (X₀.keeps st) (T.keeps st) (fun b hb => by
      rcases mem_frames hf hb with rfl | hb
      · exact ⟨oL, es, ep, hLg, hLd⟩
      · obtain ⟨o, es', n', ho', hd'⟩ := D b hb
        exact ⟨o, es', n', st b o ho', hd'⟩)) (fun fl s' hl => ?_) fun _ _ y => y
  have nL₀ : h₀.get? L = none := kts_self F
  rcases hl with ⟨L', m', news', F', N', k⟩ | ⟨g', L', m', news', T', F', N', k⟩
  · refine k ⟨⟨oL, es, ep, F'.keep _ _ hLg, hLd, hLk, hLf⟩, fun b o e => F'.keep b o (st b o e), F.above⟩ fun p hp => ⟨(N' p hp).1, fun q => ?_, ?_⟩
    · have := (N' p hp).2.2; rw [q, hLg] at this; cases this
    · cases q : h₀.get? p.1 with
      | none => rfl
      | some o => have := (N' p hp).2.2; rw [st _ _ q] at this; cases this
  obtain ⟨sl, hs⟩ := T'.up hLg
  obtain ⟨T₁, S₁⟩ := kts_turn_at (h := s'.heap) (fs := outer.filterMap (·.frame)) (g := h₀)
    (fun b hb => by
      obtain ⟨_, o, ho', _⟩ := B.frames.mem hb
      exact ⟨o, ho'⟩)
    (fun b o e nmem => F'.keep b o (T'.other b o (st b o e) (fun q => by
      rcases mem_frames hf q with z | z
      · rw [z, nL₀] at e
        cases e
      · exact nmem z)))
    (fun b o e hm => by
      obtain ⟨sl', hs'⟩ := T'.up (st b o e)
      exact ⟨sl', F'.keep _ _ hs'⟩)
  have B₃ : Below A₀ base outer (ktsHeap s'.heap (outer.filterMap (·.frame)) h₀) := ⟨B.stack, fun b o e => T₁.other b o (B.stays b o e) (fun hm => by
    rw [(B.frames.mem hm).1] at e
    cases e), B.frames.of_keeps fun b o e _ => by
    obtain ⟨sl', hs'⟩ := T₁.up e
    exact ⟨_, hs', rfl⟩⟩
  refine k _ (T0.trans T₁) ⟨⟨_, es, ep, F'.keep _ _ hs, hLd, hLk, hLf⟩, S₁, by rw [T₁.size]; exact F.above⟩ (fun p hp => ⟨(N' p hp).1, fun q => ?_, ?_⟩) B₃ (XB.keeps B₃.stays) (TB.keeps B₃.stays) (D.turn T₁)
  · have := (N' p hp).2.2; rw [q, hs] at this; cases this
  · refine T₁.none_ _ ?_
    cases q : h₀.get? p.1 with
    | none => rfl
    | some o =>
      obtain ⟨sl', hs'⟩ := T'.up (st _ _ q)
      have := (N' p hp).2.2
      rw [hs'] at this
      cases this
end
end
end Mine
end

section
open PySem PySem.W PyProof.Rows
open PySem.Builtin.Int (intBits)
set_option maxRecDepth 100000
namespace Mine
noncomputable section
theorem szAt (P : Params) : ExcAt (hd.heap_39 P) 53 (Str.ofString "SizeFault") (Str.ofString "SizeFault") 52 [.ref 40] [.ref 40, .type "Exception", .type "BaseException", .type "object"] true [] [] false none none
    (some (.ref 44)) none (some (.str (Str.ofString "SizeFault") 229)) (some (.str (Str.ofString "SizeFault") 237)) (some (.bool true)) 30 where
  obj := by rfl
  isExc := by decide +kernel
  isBase := by decide +kernel
  noAttr := by decide +kernel
  noName := by decide +kernel
  init := by kernel_rfl
  isFn := by kernel_rfl
/-- the claim of a call that hands back a bool, and within which exceptions are caught: the frames below may turn -/
abbrev ClaimS (w : World) (mean : ExcName → Option Value) (mg mb : Str → Option Value) (k : Nat) (f : Addr) (vs : List Value) (news : List (Addr × Obj)) (x : Bool) : Prop :=
  ∀ (dp un : Nat) (gd : Option (List Code)) (cn : Str) (cs : Scope) (a : Addr) (ccd : Value) (cl : List (Str × Addr)) (outer : List Env) (A₀ : Around) (base g₀ h₀ : Heap) (L : Addr) (m : Str → Option Value) (s : Shared) (Q E : Value → Shared → Prop),
    Below A₀ base outer h₀ → Fr h₀ L s.heap m → (hd.heap_39 w.params).In h₀ → News h₀ L s.heap news → Top hd.view_39 loose0 mean mg mb h₀ → cs.kind = .function →
    dp + k < recursionLimit → un + 8 * k < cLine → (hd.heap_39 w.params).In base → Top hd.view_39 loose0 mean mg mb base → KtsDicts (outer.filterMap (·.frame)) h₀ → KtsTurn (outer.filterMap (·.frame)) g₀ h₀ →
    (∀ (h₀' h' : Heap) (tk' : Nat), KtsTurn (outer.filterMap (·.frame)) g₀ h₀' → Fr h₀' L h' m → News h₀' L h' news → Below A₀ base outer h₀' → (hd.heap_39 w.params).In h₀' → Top hd.view_39 loose0 mean mg mb h₀' → KtsDicts (outer.filterMap (·.frame)) h₀' → Q (.bool x) { s with heap := h', toks := tk' }) →
      wpAny (model P0 w) (ktrTop dp un gd cn cs L a ccd cl outer) (call (.ref f) vs) Q E s
theorem retS_end {w : World} {mean : ExcName → Option Value} {mg mb : Str → Option Value} {fs : List Addr} {A₀ : Around} {base g₀ : Heap} {outer : List Env} {L : Addr} {m : Str → Option Value} {news : List (Addr × Obj)} {s : Shared} {Q : Value → Shared → Prop} {x b : Bool} {h₀' h' : Heap} {tk' : Nat}
    (hret : ∀ (h₀' h' : Heap) (tk' : Nat), KtsTurn fs g₀ h₀' → Fr h₀' L h' m → News h₀' L h' news → Below A₀ base outer h₀' → (hd.heap_39 w.params).In h₀' → Top hd.view_39 loose0 mean mg mb h₀' → KtsDicts fs h₀' → Q (.bool x) { s with heap := h', toks := tk' })
    (F : Fr h₀' L h' m) (N : News h₀' L h' news) (T0 : KtsTurn fs g₀ h₀') (B : Below A₀ base outer h₀') (X : (hd.heap_39 w.params).In h₀') (T : Top hd.view_39 loose0 mean mg mb h₀') (D : KtsDicts fs h₀') (e : b = x) : Q (.bool b) { s with heap := h', toks := tk' } := by
  subst e
  exact hret h₀' h' tk' T0 F N B X T D
end
end Mine
end

section
open PySem
set_option maxRecDepth 100000
namespace Mine
noncomputable section
section
variable {prog : Program} {w : World} {A : Around} {E : Value → Shared → Prop} {h : Heap} {g : Array GenState} {d : Drawn} {t : Nat} {os : OsState}
variable {nm q : Str} {C N : Addr} {bs bm : List Value} {hdct : Bool} {sn : List Str} {sub : List Value} {ab : Bool} {col : Option Bool} {dd : Option Addr} {k0 k1 k2 k3 k5 : Option Value}
theorem xc_check_init {M : Model} {e : Addr} {oe : Obj} {rest : List Value} {Q : Unit → Shared → Prop} (hC : h.get? C = some (excClassObj nm q C N bs bm hdct sn sub ab col dd k0 k1 k2 k3 k5 "Exception.__new__")) (hB : (Value.ref C :: bm).contains (.type "Exception") = true)
    (he : h.get? e = some oe) (hcls : oe.cls = .ref C) (hq : Q () ⟨h, g, d, t, os⟩) :
    wpAny M A (checkBuiltinCall "Exception.__init__" ⟨.ref e :: rest, []⟩) Q E ⟨h, g, d, t, os⟩ := by
  have F := PySem.F.excBase_Exception
  have hshort := F.noStar
  simp only [checkBuiltinCall, F.initKind, F.initSplit, F.initRow]
  repeat (first | (with_reducible refine wpAny_loadPart_at he ?_; rw [hcls]) | with_reducible refine wpAny_loadPart_at hC ?_ | (with_reducible refine wpAny_isSubtype_exc hC ?_; rw [hB]) | wp_step)
  refine wpAny_onRaise ?_
  rw [show ∀ (a b : String) (n : Nat), Bind.check ⟨.positional, "*", "Exception", .self, [⟨"args", .varPos, false⟩]⟩ a b n (List.map (fun x => x.fst) ({ pos := Value.ref e :: rest } : Args).kw) = pure () from
    fun a b n => check_star_args _ _ _ _ _ _]
  exact wpAny_pure hq
theorem xc_init {e t0 : Addr} {rest : List Value} {Q : Value → Shared → Prop} (hC : h.get? C = some (excClassObj nm q C N bs bm hdct sn sub ab col dd k0 k1 k2 k3 k5 "Exception.__new__")) (hB : (Value.ref C :: bm).contains (.type "Exception") = true)
    (he : h.get? e = some (excO C t0)) (hrest : rest.length ≤ sizeLine)
    (hq : Q .none ⟨(h.push (tupL rest)).update e (Obj.mapFields (·.setIfInBounds 0 (.ref h.objs.size))), g, d, t, os⟩) :
    wpAny (model prog w) A (call (.builtin "Exception.__init__") (.ref e :: rest)) Q E ⟨h, g, d, t, os⟩ := by
  have F := PySem.F.excBase_Exception
  have he₁ : (h.push (tupL rest)).get? e = some (excO C t0) := Heap.get?_push_of_some _ he
  refine wpAny_call (codeAny_call_builtin F.init.plain F.initEntry (xc_check_init hC hB he rfl ?_))
  wp_walk
  exact hq
end
open PySem.W PyProof.Rows
section
variable {prog : Program} {w : World} {A : Around} {E : Value → Shared → Prop} {K : Frag} {C fI : Addr} {s : Shared} {h₀ : Heap} {L : Addr} {m : Str → Option Value} {pre post : List (Addr × Obj)}
variable {nm q : Str} {N : Addr} {bs bm : List Value} {hdct : Bool} {sn : List Str} {sub : List Value} {ab : Bool} {col : Option Bool} {dd : Option Addr} {k0 k1 k2 k3 k5 : Option Value}
theorem sz_init {e t0 : Addr} {rest : List Value} {Q : Value → Shared → Prop} (X₀ : K.In h₀) (Z : ExcAt K C nm q N bs bm hdct sn sub ab col dd k0 k1 k2 k3 k5 fI) (F : Fr h₀ L s.heap m) (Nw : News h₀ L s.heap (pre ++ (e, excO C t0) :: post))
    (hrest : rest.length ≤ sizeLine) (h1 : ∀ p ∈ pre, p.1 ≠ e) (h2 : ∀ p ∈ post, p.1 ≠ e)
    (h : ∀ t h', Fr h₀ L h' m → News h₀ L h' ((t, tupL rest) :: (pre ++ (e, excO C t) :: post)) → (∀ p ∈ pre ++ (e, excO C t0) :: post, p.1 < t) → Q .none { s with heap := h' }) :
    wpAny (model prog w) A (call (.builtin "Exception.__init__") (.ref e :: rest)) Q E s := by
  have X : K.In s.heap := X₀.keeps F.keep
  have he := (Nw (e, excO C t0) (by simp)).1
  obtain ⟨hp, g, d, t, os⟩ := s
  dsimp only at F Nw X h he
  have N1 := Nw.push F (tupL rest)
  have F1 := F.push (tupL rest)
  obtain ⟨F2, N2⟩ := news_upd (pre := (hp.objs.size, tupL rest) :: pre) (f := Obj.mapFields (·.setIfInBounds 0 (.ref hp.objs.size))) (o' := excO C hp.objs.size) F1 N1
    (fun p q => by
      rcases List.mem_cons.mp q with rfl | q
      · exact Nat.ne_of_gt (Heap.lt_size he)
      · exact h1 p q) h2 rfl rfl
  exact xc_init (X _ _ Z.obj) Z.isExc he hrest (h _ _ F2 N2 fun p q => Heap.lt_size (Nw p q).1)
theorem sz_init0 {e t0 : Addr} {rest : List Value} {Q : Value → Shared → Prop} (F : Fr h₀ L s.heap m) (Nw : News h₀ L s.heap ((e, excO C t0) :: post)) (X₀ : K.In h₀) (Z : ExcAt K C nm q N bs bm hdct sn sub ab col dd k0 k1 k2 k3 k5 fI)
    (hrest : rest.length ≤ sizeLine) (h2 : ∀ p ∈ post, p.1 ≠ e)
    (h : ∀ t h', Fr h₀ L h' m → News h₀ L h' ((t, tupL rest) :: (e, excO C t) :: post) → (∀ p ∈ (e, excO C t0) :: post, p.1 < t) → Q .none { s with heap := h' }) :
    wpAny (model prog w) A (call (.builtin "Exception.__init__") (.ref e :: rest)) Q E s :=
  sz_init (pre := []) X₀ Z F Nw hrest (fun _ q => nomatch q) h2 h
theorem sz_what {x t tt : Addr} {ot : Obj} {name : Str} {v : Value} {Q : Unit → Shared → Prop} {cd : ClassData} (F : Fr h₀ L s.heap m) (Nw : News h₀ L s.heap ((tt, ot) :: (x, excO C t) :: post)) (X₀ : K.In h₀)
    (hs : findIn K (.ref C) "__setattr__" = some (some (.builtin "object.__setattr__"))) (hc : clsIn K C = some cd) (hr : refuseLoop (.ref x) "__setattr__" cd.mro = pure ()) (ho : cd.mro.contains (.type "object") = true) (ne : cd.mro.isEmpty = false) (ha : findIn K (.ref C) name = some none) (hh : cd.hasDict = true)
    (h1 : tt ≠ x) (h2 : ∀ p ∈ post, p.1 ≠ x)
    (h : ∀ dx h', Fr h₀ L h' m → News h₀ L h' ((dx, dictOf [⟨PyData.keyHash w.params name, .str name (s.toks + 1), v⟩] 1) :: (tt, ot) :: (x, excD C t dx) :: post) → (∀ p ∈ (tt, ot) :: (x, excO C t) :: post, p.1 < dx) → Q () { s with heap := h', toks := s.toks + 1 + 1 }) :
    wpAny (model prog w) A (setAttr (.ref x) name v) Q E s :=
  xs_set_new (pre := [(tt, ot)]) F (X₀.keeps F.keep) Nw hs hc hr ho ne ha hh (fun p q => by
    rcases List.mem_cons.mp q with rfl | q
    · exact h1
    · exact nomatch q) h2 h
theorem sz_at {x t tt dx : Addr} {ot : Obj} {name : Str} {v : Value} {es es' : List DictEntry} {n n' : Nat} {Q : Unit → Shared → Prop} {cd : ClassData} (F : Fr h₀ L s.heap m) (Nw : News h₀ L s.heap ((dx, dictOf es n) :: (tt, ot) :: (x, excD C t dx) :: post)) (X₀ : K.In h₀)
    (hs : findIn K (.ref C) "__setattr__" = some (some (.builtin "object.__setattr__"))) (hc : clsIn K C = some cd) (hr : refuseLoop (.ref x) "__setattr__" cd.mro = pure ()) (ho : cd.mro.contains (.type "object") = true) (ne : cd.mro.isEmpty = false) (ha : findIn K (.ref C) name = some none) (hh : cd.hasDict = true)
    (h1 : tt < dx) (h2 : x < dx) (h3 : ∀ p ∈ post, p.1 < dx) (hk : (!es.any (·.key.isStr name) && es.any (·.refKey)) = false)
    (e : (putL name (PyData.keyHash w.params name) (.str name (s.toks + 1)) v es, putN name es n) = (es', n')) (hz : es'.length ≤ 1000)
    (h : ∀ h', Fr h₀ L h' m → News h₀ L h' ((dx, dictOf es' n') :: (tt, ot) :: (x, excD C t dx) :: post) → Q () { s with heap := h', toks := s.toks + 1 + 1 }) :
    wpAny (model prog w) A (setAttr (.ref x) name v) Q E s :=
  xs_set_more (pre := []) F (X₀.keeps F.keep) Nw (Nw (x, excD C t dx) (by simp)).1 hs hc hr ho ne ha hh (fun p q => nomatch q) (fun p q => by
    rcases List.mem_cons.mp q with rfl | q
    · exact Nat.ne_of_lt h1
    · rcases List.mem_cons.mp q with rfl | q
      · exact Nat.ne_of_lt h2
      · exact Nat.ne_of_lt (h3 p q)) hk e hz h
theorem meta_exc : typeOf (.type "Exception") = pure (.type "type") := by first | rfl | kernel_rfl
end
section
variable {M : Model} {A : Around} {E : Value → Shared → Prop} {s' : Shared} {base g : Heap} {outer : List Env} {L a e t dx t0 C : Addr} {m : Str → Option Value} {name : Str} {scope : Scope} {cd : Value} {Q : Unit → Shared → Prop} {od o0 : Obj} {rest : List (Addr × Obj)} {vs : List Value} {c : Nat}
theorem sz_leave4 (K : Below A base outer g) (F : Fr g L s'.heap m) (N : News g L s'.heap ((dx, od) :: (t, ({ cls := .type "tuple", data := .seq vs.toArray c } : Obj)) :: (e, excD C t dx) :: (t0, o0) :: rest))
    (hne : ∀ p ∈ rest, p.1 < e) (hte : e < t)
    (hQ : ∀ h', RaisedS base g outer e (.ref C) t vs rest h' → RaisedK base outer e (.ref C) t vs rest h' → g.UpToSlots h' → Q () { s' with heap := h' }) (hk : scope.kind = .function := by rfl) :
    wpAny M (A.deeper (envOf name scope L a cd)) (leaving (envOf name scope L a cd) (.ref e)) Q E s' :=
  sz_leave K F N (List.mem_cons_of_mem _ (List.mem_cons_of_mem _ (List.mem_cons_self ..))) (List.mem_cons_of_mem _ (List.mem_cons_self ..)) (rest := rest) (fun p hp => List.mem_cons_of_mem _ (List.mem_cons_of_mem _ (List.mem_cons_of_mem _ (List.mem_cons_of_mem _ hp)))) (fun p hp => Nat.ne_of_lt (hne p hp)) (fun p hp => Nat.ne_of_lt (Nat.lt_trans (hne p hp) hte)) hQ hk
theorem all_ne {l : List (Addr × Obj)} {t e : Addr} (h : ∀ p ∈ l, p.1 < t) (r : t < e) : ∀ p ∈ l, p.1 ≠ e := fun p hp => Nat.ne_of_lt (Nat.lt_trans (h p hp) r)
theorem all_lt {l : List (Addr × Obj)} {t e : Addr} (h : ∀ p ∈ l, p.1 < t) (r : t < e) : ∀ p ∈ l, p.1 < e := fun p hp => Nat.lt_trans (h p hp) r
theorem sz_refuse (x : Addr) : refuseLoop (.ref x) "__setattr__" [.ref 53, .ref 40, .type "Exception", .type "BaseException", .type "object"] = pure () := by
  rw [refuseLoop_ref, refuseLoop_ref]
  exact PySem.F.store_Exception.passes (.ref x)
end
end
end Mine
end

section
open PySem PySem.W PyProof.Rows
open PySem.Builtin.Int (intBits)
namespace Mine
theorem fillIt5 : (PySem.Challenge.rw_pc0122_01, hd.heap_39) = (PySem.Challenge.rw_pc0122_01, hd.heap_39) := by
  k_fill
  rfl
local macro_rules | `(tactic| cell_enter) => `(tactic| (refine' code_def ?k1 ?k2 ?k3 ?k4 ?k5 ?kA ?kF ?kK ?k6 ?k7 ?k8 ?k9 ?kB ?_ ?c2 ?c3 ?c4 ?c5; (case kA | kF => exact rfl); (case kK => assumption); (case k1 | k2 | k3 | k4 | k5 => k_asm); (case k6 | k7 => k_is); (case k8 => ktr_room); (case k9 => first | exact BindsTo.of_eq rfl | exact binds_K (by k_in) rfl (by k_is) rfl rfl rfl); (case c5 => decide); (case kB => exact locs rfl); (case c2 | c3 | c4 => exact rfl); k_whole; intro g' L' h' FG' F' N' B' X' T'; (try dsimp only); (try k_lift B'); (try k_fold)))
local macro_rules | `(tactic| bits_by_make) => `(tactic| first
  | (with_reducible assumption)
  | ((with_reducible refine bits_pow10 _ ?_); omega)
  | ((with_reducible apply bits_tdiv); bits_by_make))
local macro_rules | `(tactic| k_room) => `(tactic| ktr_room)
local macro_rules | `(tactic| units_room) => `(tactic| ktr_units)
local macro_rules | `(tactic| walk_at "binaryOp FloorDiv int int") => `(tactic| (k_here; (with_reducible refine' pc_floordiv ?z1pne ?z1pbs ?z1pn ?_); (case z1pbs => bits_by_make); (case z1pne => omega); (case z1pn => decide)))
local macro_rules | `(tactic| walk_at "call ref") => `(tactic| (k_here; (with_reducible show wpAny _ _ (call (Value.ref 70) _) _ _ _); k_dflt ((refine' decimal_call _ _ _ _ _ _ _ _ _ ?z2qb ?z2q1 ?z2q2 _ _ _ _ _ _ _ _ _ _ _ _ _ _ _ _ _ ?z2k1 ?z2k2 ?z2k3 ?z2k4 ?z2k5 ?z2kK ?z2kd ?z2ku ?_); (case z2k1 | z2k2 | z2k3 | z2k4 | z2k5 => k_asm); (case z2kK => first | exact rfl | assumption); (case z2kd => ktr_room); (case z2ku => ktr_units); (case z2qb => exact Nat.le_trans (by bits_by_make) (by decide)); (case z2q1 | z2q2 => omega)); intro D' t1' t2' c' h' tk' F' N' l1; (try dsimp only); (try (simp only [AllLt, and_true] at l1))))
local macro_rules | `(tactic| walk_at "call ref") => `(tactic| (k_here; (with_reducible show wpAny _ _ (call (Value.ref 140) _) _ _ _); k_dflt ((refine' plain_call _ _ _ _ _ _ _ _ _ ?z3qb ?z3q1 ?z3q2 _ _ _ _ _ _ _ _ _ _ _ _ _ _ _ _ _ ?z3k1 ?z3k2 ?z3k3 ?z3k4 ?z3k5 ?z3kK ?z3kd ?z3ku ?_); (case z3k1 | z3k2 | z3k3 | z3k4 | z3k5 => k_asm); (case z3kK => first | exact rfl | assumption); (case z3kd => ktr_room); (case z3ku => ktr_units); (case z3qb => exact Nat.le_trans (by bits_by_make) (by decide)); (case z3q1 | z3q2 => omega)); intro D' t1' t2' c' h' tk' F' N' l1; (try dsimp only); (try (simp only [AllLt, and_true] at l1))))
local macro_rules | `(tactic| walk_at "call ref") => `(tactic| (k_here; (with_reducible show wpAny _ _ (call (Value.ref 62) _) _ _ _); k_dflt ((refine' cutq_call _ _ _ _ _ _ _ _ _ ?z4qb ?z4q1 _ _ _ _ _ _ _ _ _ _ _ _ _ _ _ _ _ ?z4k1 ?z4k2 ?z4k3 ?z4k4 ?z4k5 ?z4kK ?z4kd ?z4ku ?_); (case z4k1 | z4k2 | z4k3 | z4k4 | z4k5 => k_asm); (case z4kK => first | exact rfl | assumption); (case z4kd => ktr_room); (case z4ku => ktr_units); (case z4qb => exact pow10_pos _); (case z4q1 => bits_by_make)); intro t1' h' tk' F' N'; (try dsimp only)))
local macro_rules | `(tactic| walk_at "call ref") => `(tactic| (k_here; (with_reducible show wpAny _ _ (call (Value.ref 147) _) _ _ _); k_dflt ((refine' lawcut_call _ _ _ _ _ _ _ _ _ ?z5qb ?z5q1 _ _ _ _ _ _ _ _ _ _ _ _ _ _ _ _ _ ?z5k1 ?z5k2 ?z5k3 ?z5k4 ?z5k5 ?z5kK ?z5kd ?z5ku ?_); (case z5k1 | z5k2 | z5k3 | z5k4 | z5k5 => k_asm); (case z5kK => first | exact rfl | assumption); (case z5kd => ktr_room); (case z5ku => ktr_units); (case z5qb => exact pow10_pos _); (case z5q1 => bits_by_make)); intro t1' h' tk' F' N'; (try dsimp only)))
local macro_rules | `(tactic| cell_enter) => `(tactic| (refine' code_defSX ?k1 ?k2 ?k3 ?k4 ?k5 ?XB ?TB ?D ?T0 ?kA ?kF ?kK ?k6 ?k7 ?k8 ?k9 ?kB ?_ ?c2 ?c3 ?c4 ?c5; (case kA | kF => exact rfl); (case kK => assumption); (case k1 | k2 | k3 | k4 | k5 => k_asm); (case XB | TB | D | T0 => assumption); (case k6 | k7 => k_is); (case k8 => ktr_room); (case k9 => first | exact BindsTo.of_eq rfl | exact binds_K (by k_in) rfl (by k_is) rfl rfl rfl); (case c5 => decide); (case kB => exact locs rfl); (case c2 | c3 | c4 => exact rfl); k_whole; intro g' L' h' FG' F' N' B' X' T' D'; (try dsimp only); (try k_lift B'); (try k_fold)))
local macro_rules | `(tactic| walk_at "exec Raise some none") => `(tactic| (k_here; (with_reducible show wpAny _ _ (exec (Stmt.Raise (some (Expr.Call (Expr.Name ("SizeFault" : Str) _) (_ :: _) [] _)) none _) _) _ _ _); k_dflt (refine' sz_raise ?z6X (szAt _) ?z6hh ?_; (case z6X => k_asm); (case z6hh => exact rfl))))
local macro_rules | `(tactic| walk_at "call ref") => `(tactic| (k_here; (with_reducible show wpAny _ _ (call (Value.ref 53) _) _ _ _); k_dflt (refine' sz_make (szAt _) ?z7F ?z7N ?z7X ?z7r ?_; (case z7F | z7N | z7X => k_asm); (case z7r => size_fits)); intro e' t' h' F' N' l1 l2; (have l3 := l1); (try k_lt l1); (try k_lt2 l2); (try k_sweep)))
local macro_rules | `(tactic| k_all) => `(tactic| (refine' all_ne ?zkl ?zkr; (case zkl => assumption); (case zkr => first | assumption | (refine ltN ?_; omega))))
local macro_rules | `(tactic| walk_at "getMethod type:Exception") => `(tactic| (k_here; refine' method_type ?z8F ?z8X ?z8m (by decide +kernel) ?z8e ?z8h ?_; (case z8F | z8X => k_asm); (case z8m => exact meta_exc); (case z8e => k_dflt k_is); (case z8h => k_handed)))
local macro_rules | `(tactic| walk_at "call builtin:Exception.__init__") => `(tactic| (k_here; k_dflt (refine' sz_init0 ?z9F ?z9N ?z9X (szAt _) ?z9r ?z9a ?_; (case z9F | z9N | z9X => k_asm); (case z9r => size_fits); (case z9a => k_all)); intro t' h' F' N' l1; (have l3 := fun p hp => l1 p (List.mem_cons_of_mem _ hp)); (try k_lt l1); (try k_sweep)))
local macro_rules | `(tactic| walk_at "setAttr ref") => `(tactic| (k_here; (with_reducible show wpAny _ _ (setAttr (Value.ref _) ("what" : Str) _) _ _ _); k_dflt (refine' sz_what ?z10F ?z10N ?z10X ?z10s ?z10c ?z10q ?z10o ?z10n ?z10a ?z10d ?z10h1 ?z10h2 ?_; (case z10F | z10N | z10X => k_asm); (case z10s | z10c => k_is); (case z10q => exact sz_refuse _); (case z10o => decide +kernel); (case z10n => rfl); (case z10a => k_is); (case z10d => rfl); (case z10h1 => k_ne); (case z10h2 => k_all)); intro x' h' F' N' l1; (have l3 := fun p hp => l1 p (List.mem_cons_of_mem _ (List.mem_cons_of_mem _ hp))); (try k_lt l1); (try k_sweep)))
local macro_rules | `(tactic| walk_at "setAttr ref") => `(tactic| (k_here; (with_reducible show wpAny _ _ (setAttr (Value.ref _) ("at" : Str) _) _ _ _); k_dflt (refine' sz_at ?z11F ?z11N ?z11X ?z11s ?z11c ?z11q ?z11o ?z11n ?z11a ?z11d ?z11h1 ?z11h2 ?z11h3 ?z11k ?z11e ?z11z ?_; (case z11F | z11N | z11X => k_asm); (case z11s | z11c => k_is); (case z11q => exact sz_refuse _); (case z11o => decide +kernel); (case z11n => rfl); (case z11a => k_is); (case z11d => rfl); (case z11h1 | z11h2 => (refine ltN ?_; omega)); (case z11h3 => first | assumption | (refine' all_lt ?zkl ?zkr; (case zkl => assumption); (case zkr => first | assumption | (refine ltN ?_; omega)))); (case z11k | z11e => rfl); (case z11z => exact Nat.le_of_ble_eq_true rfl)); intro h' F' N'; (try k_sweep)))
local macro_rules | `(tactic| walk_at "SzR") => `(tactic| (k_here; k_dflt (refine' SzR.intro ?z12F ?z12X ?z12N ?z12m ?_; (case z12F | z12X | z12N => k_asm); (case z12m => k_mem))))
local macro_rules | `(tactic| walk_at "leaving ref") => `(tactic| (k_here; k_dflt (refine' sz_leave4 ?z13K ?z13F ?z13N ?z13a ?z13b ?_ ?z13hk; (case z13K => assumption); (case z13F | z13N => k_asm); (case z13a => (refine' all_lt ?z13kl ?z13kr; (case z13kl => assumption); (case z13kr => first | assumption | (refine ltN ?_; omega)))); (case z13b => (refine ltN ?_; omega)); (case z13hk => exact rfl)); intro h' S' R' U'; (try dsimp only at S' R' U' ⊢)))
set_option maxRecDepth 100000 in
set_option maxHeartbeats 8000000 in
theorem prod_call (w : World) (mean : ExcName → Option Value) (mg mb : Str → Option Value) (news : List (Addr × Obj)) (d1 d2 : Addr) (x y sx sy : Int) (tx ty tsx tsy : Tok) (ca cb : Nat)
    (e1 : (d1, tupO x tx sx tsx ca) ∈ news) (e2 : (d2, tupO y ty sy tsy cb) ∈ news) (hx : intBits x ≤ 800) (hy : intBits y ≤ 800) (hsx : 0 ≤ sx) (hsx' : sx ≤ 18) (hsy : 0 ≤ sy) (hsy' : sy ≤ 18) :
    ClaimS w mean mg mb 10 161 [.ref d1, .ref d2] news true := by
  dsimp only [ClaimS]
  intro dp un gd cn cs a ccd cl outer A₀ base g₀ h₀ L m s Q E B F X N T hk hd hu XB TB D T0 hret
  have N2 : News h₀ L s.heap ((d1, tupO x tx sx tsx ca) :: (d2, tupO y ty sy tsy cb) :: news) := fun p hp => by
    rcases List.mem_cons.mp hp with rfl | hp
    · exact N _ e1
    · rcases List.mem_cons.mp hp with rfl | hp
      · exact N _ e2
      · exact N _ hp
  clear N
  refine wpAny_call ?_
  k_dflt cell_enter
  w_strict (k_steps
            all_goals (refine' retS_end hret ?ef ?en ?et ?eb ?ex ?ep ?ed ?ee; (case ef => assumption); (case en => first | assumption | exact (news_tl (by assumption)) | exact (news_tl (news_tl (by assumption))) | exact (news_tl (news_tl (news_tl (by assumption)))) | exact (news_tl (news_tl (news_tl (news_tl (by assumption))))) | exact (news_tl (news_tl (news_tl (news_tl (news_tl (by assumption)))))) | exact (news_tl (news_tl (news_tl (news_tl (news_tl (news_tl (by assumption))))))) | exact (news_tl (news_tl (news_tl (news_tl (news_tl (news_tl (news_tl (by assumption)))))))) | exact (news_tl (news_tl (news_tl (news_tl (news_tl (news_tl (news_tl (news_tl (by assumption)))))))))); (case et => assumption); (case eb => assumption); (case ex => assumption); (case ep => assumption); (case ed => assumption); (case ee => first | exact decide_eq_true (by assumption) | exact decide_eq_true (Int.not_lt.mp (by assumption)))))
end Mine
end

section
open PySem PySem.W PyProof.Rows
open PySem.Builtin.Int (intBits)
namespace Mine
theorem strip_mul (u : Int) (n : Nat) : ∀ k : Nat, strip (n + k) (u * 10 ^ k) = strip n u
  | 0 => by rw [Int.pow_zero, Int.mul_one]; rfl
  | k + 1 => by
    have e : u * 10 ^ (k + 1) = (u * 10 ^ k) * 10 := by rw [Int.pow_succ, Int.mul_assoc]
    have h1 : u * 10 ^ (k + 1) % 10 = 0 := by rw [e]; omega
    have h2 : u * 10 ^ (k + 1) / 10 = u * 10 ^ k := by rw [e]; omega
    show (if u * 10 ^ (k + 1) % 10 = 0 then strip (n + k) (u * 10 ^ (k + 1) / 10) else _) = _
    rw [if_pos h1, h2]
    exact strip_mul u n k
theorem dec_mul {u s t : Int} (h0 : 0 ≤ s) (h1 : s ≤ t) : dec (u * 10 ^ (t - s).toNat) t = dec u s := by
  unfold dec
  rw [if_neg (by omega), if_neg (by omega)]
  have e : t.toNat = s.toNat + (t - s).toNat := by omega
  rw [e]
  exact strip_mul u s.toNat _
theorem pow_split {a b c : Int} (h1 : a ≤ b) (h2 : b ≤ c) : (10 : Int) ^ (c - a).toNat = 10 ^ (b - a).toNat * 10 ^ (c - b).toNat := by
  rw [← Int.pow_add]
  congr 1
  omega
theorem far_split (x : Int) {a b c : Int} (h1 : a ≤ b) (h2 : b ≤ c) : x * (10 : Int) ^ (c - a).toNat = (x * 10 ^ (b - a).toNat) * 10 ^ (c - b).toNat := by
  rw [pow_split h1 h2, Int.mul_assoc]
theorem plus_val {x y sx sy s : Int} (h0 : 0 ≤ s) (hx : sx ≤ s) (hy : sy ≤ s) (h40 : s ≤ 40) :
    dec (x * 10 ^ (s - sx).toNat + y * 10 ^ (s - sy).toNat) s = dec (x * 10 ^ (40 - sx).toNat + y * 10 ^ (40 - sy).toNat) 40 := by
  rw [far_split x hx h40, far_split y hy h40, ← Int.add_mul]
  exact (dec_mul h0 h40).symm
theorem minus_val {x y sx sy s : Int} (h0 : 0 ≤ s) (hx : sx ≤ s) (hy : sy ≤ s) (h40 : s ≤ 40) :
    dec (x * 10 ^ (s - sx).toNat - y * 10 ^ (s - sy).toNat) s = dec (x * 10 ^ (40 - sx).toNat - y * 10 ^ (40 - sy).toNat) 40 := by
  rw [far_split x hx h40, far_split y hy h40, ← Int.sub_mul]
  exact (dec_mul h0 h40).symm
theorem cmp_lt {x y sx sy s : Int} (hx : sx ≤ s) (hy : sy ≤ s) (h40 : s ≤ 40) :
    x * 10 ^ (s - sx).toNat < y * 10 ^ (s - sy).toNat ↔ x * 10 ^ (40 - sx).toNat < y * 10 ^ (40 - sy).toNat := by
  rw [far_split x hx h40, far_split y hy h40]
  exact (Int.mul_lt_mul_right (pow10_pos _)).symm
theorem cmp_eq {x y sx sy s : Int} (hx : sx ≤ s) (hy : sy ≤ s) (h40 : s ≤ 40) :
    x * 10 ^ (s - sx).toNat = y * 10 ^ (s - sy).toNat ↔ x * 10 ^ (40 - sx).toNat = y * 10 ^ (40 - sy).toNat := by
  rw [far_split x hx h40, far_split y hy h40]
  exact (Int.mul_eq_mul_right_iff (Int.ne_of_gt (pow10_pos _))).symm
/-- a decimal without noughts at its end -/
def Canon (x s : Int) : Prop := 0 ≤ s ∧ (s = 0 ∨ x % 10 ≠ 0)
theorem Canon.dec {x s : Int} (h : Canon x s) : Mine.dec x s = (x, s) := by
  obtain ⟨h0, h1⟩ := h
  unfold Mine.dec
  rw [if_neg (by omega)]
  rcases (show s = 0 ∨ 0 < s by omega) with rfl | hs
  · rfl
  · obtain ⟨n, rfl⟩ : ∃ n : Nat, s = ((n + 1 : Nat) : Int) := ⟨(s - 1).toNat, by omega⟩
    have e2 : (((n + 1 : Nat) : Int)).toNat = n + 1 := by omega
    rw [e2]
    show (if x % 10 = 0 then strip n (x / 10) else (x, _)) = _
    rw [if_neg (by omega)]
theorem Canon.neg {x s : Int} (h : Canon x s) : Canon (-x) s := ⟨h.1, by have := h.2; omega⟩
theorem neg_val {x s : Int} (h : Canon x s) (h40 : s ≤ 40) : (-x, s) = dec (-(x * 10 ^ (40 - s).toNat)) 40 := by
  rw [← Int.neg_mul, dec_mul h.1 h40, h.neg.dec]
theorem strip_canon : ∀ (n : Nat) (u : Int), Canon (strip n u).1 (strip n u).2 ∧ (strip n u).2 ≤ n
  | 0, u => ⟨⟨Int.le_refl _, Or.inl rfl⟩, Int.le_refl _⟩
  | n + 1, u => by
    show Canon (if u % 10 = 0 then strip n (u / 10) else (u, ((n + 1 : Nat) : Int))).1 (if u % 10 = 0 then strip n (u / 10) else (u, ((n + 1 : Nat) : Int))).2 ∧ (if u % 10 = 0 then strip n (u / 10) else (u, ((n + 1 : Nat) : Int))).2 ≤ _
    by_cases h : u % 10 = 0
    · rw [if_pos h]
      have := strip_canon n (u / 10)
      exact ⟨this.1, by have := this.2; omega⟩
    · rw [if_neg h]
      exact ⟨⟨by show (0 : Int) ≤ ((n + 1 : Nat) : Int); omega, Or.inr h⟩, Int.le_refl _⟩
theorem strip_bits {k : Nat} : ∀ (n : Nat) (u : Int), intBits u ≤ k → intBits (strip n u).1 ≤ k
  | 0, u, h => h
  | n + 1, u, h => by
    show intBits (if u % 10 = 0 then strip n (u / 10) else (u, ((n + 1 : Nat) : Int))).1 ≤ k
    by_cases h1 : u % 10 = 0
    · rw [if_pos h1]
      refine strip_bits n (u / 10) ?_
      rw [← fdiv10]
      exact bits_fdiv h
    · rw [if_neg h1]
      exact h
theorem dec_canon {u s : Int} : Canon (dec u s).1 (dec u s).2 := by
  unfold dec
  split
  · exact ⟨Int.le_refl _, Or.inl rfl⟩
  · exact (strip_canon _ _).1
theorem dec_lo (u s : Int) : 0 ≤ (dec u s).2 := dec_canon.1
theorem dec_hi {u s : Int} (h : s ≤ 18) : (dec u s).2 ≤ 18 := by
  unfold dec
  split
  · show (0 : Int) ≤ 18; decide
  · have := (strip_canon s.toNat u).2
    omega
theorem dec_bits {u s : Int} (h : intBits u ≤ 640) (h5 : -5 ≤ s) : intBits (dec u s).1 ≤ 800 := by
  unfold dec
  split
  · refine Nat.le_trans (bits_mul h (?_ : intBits ((10 : Int) ^ (-s).toNat) ≤ 20)) (by decide)
    refine intBits_le ?_
    rw [Int.natAbs_pow]
    show 10 ^ (-s).toNat < 2 ^ 20
    exact Nat.lt_of_le_of_lt (Nat.pow_le_pow_right (by decide) (show (-s).toNat ≤ 5 by omega)) (by decide +kernel)
  · exact Nat.le_trans (strip_bits _ _ h) (by decide)
theorem neg_bits {y s : Int} (h : Canon y s) (h40 : s ≤ 40) (hb : intBits y ≤ 800) : intBits (dec (-(y * 10 ^ (40 - s).toNat)) 40).1 ≤ 800 := by
  rw [← neg_val h h40]
  exact bits_neg hb
theorem neg_lo {y s : Int} : 0 ≤ (dec (-(y * 10 ^ (40 - s).toNat)) 40).2 := dec_lo _ _
theorem neg_hi {y s : Int} (h : Canon y s) (h18 : s ≤ 18) : (dec (-(y * 10 ^ (40 - s).toNat)) 40).2 ≤ 18 := by
  rw [← neg_val h (by omega)]
  exact h18
theorem cmp_val0 {x y sx sy s : Int} (a : x * 10 ^ (s - sx).toNat = y * 10 ^ (s - sy).toNat) (hx : sx ≤ s) (hy : sy ≤ s) (h40 : s ≤ 40) :
    (0 : Int) = if y * 10 ^ (40 - sy).toNat < x * 10 ^ (40 - sx).toNat then 1 else if x * 10 ^ (40 - sx).toNat < y * 10 ^ (40 - sy).toNat then -1 else 0 := by
  have h := (cmp_eq hx hy h40).mp a
  rw [if_neg (by omega), if_neg (by omega)]
theorem cmp_valm {x y sx sy s : Int} (a : x * 10 ^ (s - sx).toNat < y * 10 ^ (s - sy).toNat) (hx : sx ≤ s) (hy : sy ≤ s) (h40 : s ≤ 40) :
    (-1 : Int) = if y * 10 ^ (40 - sy).toNat < x * 10 ^ (40 - sx).toNat then 1 else if x * 10 ^ (40 - sx).toNat < y * 10 ^ (40 - sy).toNat then -1 else 0 := by
  have h := (cmp_lt hx hy h40).mp a
  rw [if_neg (by omega), if_pos h]
theorem cmp_valp {x y sx sy s : Int} (a : ¬ x * 10 ^ (s - sx).toNat = y * 10 ^ (s - sy).toNat) (b : ¬ x * 10 ^ (s - sx).toNat < y * 10 ^ (s - sy).toNat) (hx : sx ≤ s) (hy : sy ≤ s) (h40 : s ≤ 40) :
    (1 : Int) = if y * 10 ^ (40 - sy).toNat < x * 10 ^ (40 - sx).toNat then 1 else if x * 10 ^ (40 - sx).toNat < y * 10 ^ (40 - sy).toNat then -1 else 0 := by
  have h1 := mt (cmp_eq hx hy h40).mpr a
  have h2 := mt (cmp_lt hx hy h40).mpr b
  rw [if_pos (by omega)]
theorem max_lo1 {a b : Int} : a ≤ if b > a then b else a := by split <;> omega
theorem max_lo2 {a b : Int} : b ≤ if b > a then b else a := by split <;> omega
theorem max_hi {a b c : Int} (h1 : a ≤ c) (h2 : b ≤ c) : (if b > a then b else a) ≤ c := by split <;> omega
/-- behind a statement: the frame's names and the ledger as they stood ahead of it -/
def Mid (h₀ : Heap) (L : Addr) (m : Str → Option Value) (news : List (Addr × Obj)) (s s' : Shared) : Prop :=
  ∃ h tk, s' = { s with heap := h, toks := tk } ∧ Fr h₀ L h m ∧ News h₀ L h news
theorem Mid.intro {h₀ h : Heap} {L : Addr} {m : Str → Option Value} {l news : List (Addr × Obj)} {s : Shared} {tk : Nat} (F : Fr h₀ L h m) (N : News h₀ L h l) (hs : ∀ p ∈ news, p ∈ l) : Mid h₀ L m news s { s with heap := h, toks := tk } :=
  ⟨h, tk, rfl, F, fun p hp => N p (hs p hp)⟩
theorem execs_cut {M : Model} {A : Around} {E : Value → Shared → Prop} {s : Shared} {env : Env} {st : Stmt} {rest : List Stmt} {Q : Flow → Shared → Prop} {h₀ : Heap} {L : Addr} {m : Str → Option Value} {news : List (Addr × Obj)}
    (_F : Fr h₀ L s.heap m) (_N : News h₀ L s.heap news)
    (h1 : wpAny M A (exec st env) (fun f s' => match f with | .next => Mid h₀ L m news s s' | f => Q f s') E s)
    (h2 : ∀ h tk, Fr h₀ L h m → News h₀ L h news → wpAny M A (execs rest env) Q E { s with heap := h, toks := tk }) : wpAny M A (execs (st :: rest) env) Q E s := by
  refine wpAny_execs_cons (wpAny_mono h1 (fun f s' q => ?_) fun _ _ x => x)
  cases f with
  | next =>
    obtain ⟨h, tk, rfl, F, N⟩ := q
    exact h2 h tk F N
  | ret v => exact q
  | brk => exact q
  | cont => exact q
theorem sub_refl {l : List (Addr × Obj)} : ∀ p ∈ l, p ∈ l := fun _ h => h
theorem sub_tl {l r : List (Addr × Obj)} {q : Addr × Obj} (h : ∀ p ∈ l, p ∈ r) : ∀ p ∈ l, p ∈ q :: r := fun p hp => List.mem_cons_of_mem _ (h p hp)
theorem news_sub {h₀ h : Heap} {L : Addr} {l r : List (Addr × Obj)} (N : News h₀ L h l) (s : ∀ p ∈ r, p ∈ l) : News h₀ L h r := fun p hp => N p (s p hp)
end Mine
end

section
open PySem PySem.W PyProof.Rows
open PySem.Builtin.Int (intBits)
namespace Mine
theorem fillIt6 : (PySem.Challenge.rw_pc0122_01, hd.heap_39) = (PySem.Challenge.rw_pc0122_01, hd.heap_39) := by
  k_fill
  rfl
local macro_rules | `(tactic| cell_enter) => `(tactic| (refine' code_def ?k1 ?k2 ?k3 ?k4 ?k5 ?kA ?kF ?kK ?k6 ?k7 ?k8 ?k9 ?kB ?_ ?c2 ?c3 ?c4 ?c5; (case kA | kF => exact rfl); (case kK => assumption); (case k1 | k2 | k3 | k4 | k5 => k_asm); (case k6 | k7 => k_is); (case k8 => ktr_room); (case k9 => first | exact BindsTo.of_eq rfl | exact binds_K (by k_in) rfl (by k_is) rfl rfl rfl); (case c5 => decide); (case kB => exact locs rfl); (case c2 | c3 | c4 => exact rfl); k_whole; intro g' L' h' FG' F' N' B' X' T'; (try dsimp only); (try k_lift B'); (try k_fold)))
local macro_rules | `(tactic| bits_by_make) => `(tactic| first
  | (with_reducible assumption)
  | ((with_reducible refine bits_pow10 _ ?_); omega)
  | ((with_reducible apply bits_tdiv); bits_by_make))
local macro_rules | `(tactic| k_room) => `(tactic| ktr_room)
local macro_rules | `(tactic| units_room) => `(tactic| ktr_units)
local macro_rules | `(tactic| walk_at "binaryOp Pow int int") => `(tactic| (k_here; (with_reducible refine pow_int_small ?pw1 ?pw2 ?pw3 ?_); (case pw1 | pw2 => first | decide | omega); (case pw3 => decide)))
local macro_rules | `(tactic| walk_at "binaryOp FloorDiv int int") => `(tactic| (k_here; (with_reducible refine' pc_floordiv ?pne ?pbs ?pn ?_); (case pbs => bits_by_make); (case pne => omega); (case pn => decide)))
local macro_rules | `(tactic| walk_at "call ref") => `(tactic| (k_here; (with_reducible show wpAny _ _ (call (Value.ref 70) _) _ _ _); k_dflt ((refine' decimal_call _ _ _ _ _ _ _ _ _ ?qb ?q1 ?q2 _ _ _ _ _ _ _ _ _ _ _ _ _ _ _ _ _ ?k1 ?k2 ?k3 ?k4 ?k5 ?kK ?kd ?ku ?_); (case k1 | k2 | k3 | k4 | k5 => k_asm); (case kK => first | exact rfl | assumption); (case kd => ktr_room); (case ku => ktr_units); (case qb => exact Nat.le_trans (by bits_by_make) (by decide)); (case q1 | q2 => omega)); intro D' t1' t2' c' h' tk' F' N' l1; (try dsimp only); (try (simp only [AllLt, and_true] at l1))))
local macro_rules | `(tactic| walk_at "call ref") => `(tactic| (k_here; (with_reducible show wpAny _ _ (call (Value.ref 140) _) _ _ _); k_dflt ((refine' plain_call _ _ _ _ _ _ _ _ _ ?qb ?q1 ?q2 _ _ _ _ _ _ _ _ _ _ _ _ _ _ _ _ _ ?k1 ?k2 ?k3 ?k4 ?k5 ?kK ?kd ?ku ?_); (case k1 | k2 | k3 | k4 | k5 => k_asm); (case kK => first | exact rfl | assumption); (case kd => ktr_room); (case ku => ktr_units); (case qb => exact Nat.le_trans (by bits_by_make) (by decide)); (case q1 | q2 => omega)); intro D' t1' t2' c' h' tk' F' N' l1; (try dsimp only); (try (simp only [AllLt, and_true] at l1))))
set_option maxRecDepth 100000 in
set_option maxHeartbeats 8000000 in
theorem far_call (w : World) (mean : ExcName → Option Value) (mg mb : Str → Option Value) (news : List (Addr × Obj)) (d1 : Addr) (x sx : Int) (tx tsx : Tok) (ca : Nat) (e1 : (d1, tupO x tx sx tsx ca) ∈ news) (hx : intBits x ≤ 800) (hsx : 0 ≤ sx) (hsx' : sx ≤ 18) :
    Claim w mean mg mb 4 154 [.ref d1] news (fun _ h₀ L m s Q => RetI h₀ L m news s Q (x * 10 ^ (40 - sx).toNat)) := by
  dsimp only [Claim]
  intro dp un gd cn cs a ccd cl outer A₀ base h₀ L m s Q E B F X N T hk hd hu hret
  have N2 : News h₀ L s.heap ((d1, tupO x tx sx tsx ca) :: news) := fun p hp => by
    rcases List.mem_cons.mp hp with rfl | hp
    · exact N _ e1
    · exact N _ hp
  clear N
  refine wpAny_call ?_
  k_dflt cell_enter
  w_strict (k_steps; all_goals (refine' retI_end hret ?kf ?kn ?ke; (case kn => first | assumption | exact (news_tl (by assumption)) | exact (news_tl (news_tl (by assumption))) | exact (news_tl (news_tl (news_tl (by assumption)))) | exact (news_tl (news_tl (news_tl (news_tl (by assumption))))) | exact (news_tl (news_tl (news_tl (news_tl (news_tl (by assumption)))))) | exact (news_tl (news_tl (news_tl (news_tl (news_tl (news_tl (by assumption)))))))); (case kf => assumption); (case ke => rfl)))
set_option maxRecDepth 100000 in
set_option maxHeartbeats 8000000 in
theorem negated_call (w : World) (mean : ExcName → Option Value) (mg mb : Str → Option Value) (news : List (Addr × Obj)) (d1 : Addr) (x sx : Int) (tx tsx : Tok) (ca : Nat) (e1 : (d1, tupO x tx sx tsx ca) ∈ news) (hx : intBits x ≤ 800) (hsx : 0 ≤ sx) (hsx' : sx ≤ 18) (hc : Canon x sx) :
    Claim w mean mg mb 4 112 [.ref d1] news (fun _ h₀ L m s Q => RetT h₀ L m news s Q (dec (-(x * 10 ^ (40 - sx).toNat)) 40).1 (dec (-(x * 10 ^ (40 - sx).toNat)) 40).2) := by
  dsimp only [Claim]
  intro dp un gd cn cs a ccd cl outer A₀ base h₀ L m s Q E B F X N T hk hd hu hret
  have N2 : News h₀ L s.heap ((d1, tupO x tx sx tsx ca) :: news) := fun p hp => by
    rcases List.mem_cons.mp hp with rfl | hp
    · exact N _ e1
    · exact N _ hp
  clear N
  refine wpAny_call ?_
  k_dflt cell_enter
  w_strict (k_steps; all_goals (refine' retT_end hret ?kf ?kn ?kl ?ke; (case kn => first | assumption | exact news_drop1 (by assumption) | exact news_drop1 (news_drop1 (by assumption)) | exact news_drop1 (news_drop1 (news_drop1 (by assumption)))); (case kf => assumption); (case kl => first | assumption | (simp only [AllLt] at *; simp_all; done)); (case ke => exact neg_val hc (by omega))))
set_option maxRecDepth 100000 in
set_option maxHeartbeats 8000000 in
theorem plus_call (w : World) (mean : ExcName → Option Value) (mg mb : Str → Option Value) (news : List (Addr × Obj)) (d1 d2 : Addr) (x y sx sy : Int) (tx ty tsx tsy : Tok) (ca cb : Nat) (e1 : (d1, tupO x tx sx tsx ca) ∈ news) (e2 : (d2, tupO y ty sy tsy cb) ∈ news) (hx : intBits x ≤ 800) (hy : intBits y ≤ 800) (hsx : 0 ≤ sx) (hsx' : sx ≤ 18) (hsy : 0 ≤ sy) (hsy' : sy ≤ 18) :
    Claim w mean mg mb 4 91 [.ref d1, .ref d2] news (fun _ h₀ L m s Q => RetT h₀ L m news s Q (dec (x * 10 ^ (40 - sx).toNat + y * 10 ^ (40 - sy).toNat) 40).1 (dec (x * 10 ^ (40 - sx).toNat + y * 10 ^ (40 - sy).toNat) 40).2) := by
  dsimp only [Claim]
  intro dp un gd cn cs a ccd cl outer A₀ base h₀ L m s Q E B F X N T hk hd hu hret
  have N2 : News h₀ L s.heap ((d1, tupO x tx sx tsx ca) :: (d2, tupO y ty sy tsy cb) :: news) := fun p hp => by
    rcases List.mem_cons.mp hp with rfl | hp
    · exact N _ e1
    · rcases List.mem_cons.mp hp with rfl | hp
      · exact N _ e2
      · exact N _ hp
  clear N
  refine wpAny_call ?_
  k_dflt cell_enter
  w_strict (k_steps; all_goals (refine' retT_end hret ?kf ?kn ?kl ?ke; (case kn => first | assumption | exact news_drop1 (by assumption) | exact news_drop1 (news_drop1 (by assumption)) | exact news_drop1 (news_drop1 (news_drop1 (by assumption)))); (case kf => assumption); (case kl => first | assumption | (simp only [AllLt] at *; simp_all; done)); (case ke => exact plus_val (Int.le_trans hsx max_lo1) max_lo1 max_lo2 (max_hi (by omega) (by omega)))))
set_option maxRecDepth 100000 in
set_option maxHeartbeats 8000000 in
theorem minus_call (w : World) (mean : ExcName → Option Value) (mg mb : Str → Option Value) (news : List (Addr × Obj)) (d1 d2 : Addr) (x y sx sy : Int) (tx ty tsx tsy : Tok) (ca cb : Nat) (e1 : (d1, tupO x tx sx tsx ca) ∈ news) (e2 : (d2, tupO y ty sy tsy cb) ∈ news) (hx : intBits x ≤ 800) (hy : intBits y ≤ 800) (hsx : 0 ≤ sx) (hsx' : sx ≤ 18) (hsy : 0 ≤ sy) (hsy' : sy ≤ 18) :
    Claim w mean mg mb 4 98 [.ref d1, .ref d2] news (fun _ h₀ L m s Q => RetT h₀ L m news s Q (dec (x * 10 ^ (40 - sx).toNat - y * 10 ^ (40 - sy).toNat) 40).1 (dec (x * 10 ^ (40 - sx).toNat - y * 10 ^ (40 - sy).toNat) 40).2) := by
  dsimp only [Claim]
  intro dp un gd cn cs a ccd cl outer A₀ base h₀ L m s Q E B F X N T hk hd hu hret
  have N2 : News h₀ L s.heap ((d1, tupO x tx sx tsx ca) :: (d2, tupO y ty sy tsy cb) :: news) := fun p hp => by
    rcases List.mem_cons.mp hp with rfl | hp
    · exact N _ e1
    · rcases List.mem_cons.mp hp with rfl | hp
      · exact N _ e2
      · exact N _ hp
  clear N
  refine wpAny_call ?_
  k_dflt cell_enter
  w_strict (k_steps; all_goals (refine' retT_end hret ?kf ?kn ?kl ?ke; (case kn => first | assumption | exact news_drop1 (by assumption) | exact news_drop1 (news_drop1 (by assumption)) | exact news_drop1 (news_drop1 (news_drop1 (by assumption)))); (case kf => assumption); (case kl => first | assumption | (simp only [AllLt] at *; simp_all; done)); (case ke => exact minus_val (Int.le_trans hsx max_lo1) max_lo1 max_lo2 (max_hi (by omega) (by omega)))))
set_option maxRecDepth 100000 in
set_option maxHeartbeats 8000000 in
theorem compare_call (w : World) (mean : ExcName → Option Value) (mg mb : Str → Option Value) (news : List (Addr × Obj)) (d1 d2 : Addr) (x y sx sy : Int) (tx ty tsx tsy : Tok) (ca cb : Nat) (e1 : (d1, tupO x tx sx tsx ca) ∈ news) (e2 : (d2, tupO y ty sy tsy cb) ∈ news) (hx : intBits x ≤ 800) (hy : intBits y ≤ 800) (hsx : 0 ≤ sx) (hsx' : sx ≤ 18) (hsy : 0 ≤ sy) (hsy' : sy ≤ 18) (v : Int) (hv : v = if y * 10 ^ (40 - sy).toNat < x * 10 ^ (40 - sx).toNat then 1 else if x * 10 ^ (40 - sx).toNat < y * 10 ^ (40 - sy).toNat then -1 else 0) :
    Claim w mean mg mb 4 119 [.ref d1, .ref d2] news (fun _ h₀ L m s Q => RetI h₀ L m news s Q v) := by
  dsimp only [Claim]
  intro dp un gd cn cs a ccd cl outer A₀ base h₀ L m s Q E B F X N T hk hd hu hret
  have N2 : News h₀ L s.heap ((d1, tupO x tx sx tsx ca) :: (d2, tupO y ty sy tsy cb) :: news) := fun p hp => by
    rcases List.mem_cons.mp hp with rfl | hp
    · exact N _ e1
    · rcases List.mem_cons.mp hp with rfl | hp
      · exact N _ e2
      · exact N _ hp
  clear N
  refine wpAny_call ?_
  k_dflt cell_enter
  w_strict (k_steps; all_goals (refine' retI_end hret ?kf ?kn ?ke; (case kn => first | assumption | exact (news_tl (by assumption)) | exact (news_tl (news_tl (by assumption))) | exact (news_tl (news_tl (news_tl (by assumption)))) | exact (news_tl (news_tl (news_tl (news_tl (by assumption))))) | exact (news_tl (news_tl (news_tl (news_tl (news_tl (by assumption)))))) | exact (news_tl (news_tl (news_tl (news_tl (news_tl (news_tl (by assumption)))))))); (case kf => assumption); (case ke => (rw [hv]; first | exact cmp_val0 (by assumption) max_lo1 max_lo2 (max_hi (by omega) (by omega)) | exact cmp_valm (by assumption) max_lo1 max_lo2 (max_hi (by omega) (by omega)) | exact cmp_valp (by assumption) (by assumption) max_lo1 max_lo2 (max_hi (by omega) (by omega))))))
end Mine
end

section
open PySem PySem.W PyProof.Rows
open PySem.Builtin.Int (intBits)
namespace Mine
theorem fillIt7 : (PySem.Challenge.rw_pc0122_01, hd.heap_39) = (PySem.Challenge.rw_pc0122_01, hd.heap_39) := by
  k_fill
  rfl
theorem endW {h₀ h' : Heap} {L I : Addr} {it : Obj} {rest : (Str → Option Value) → List (Addr × Obj) → Prop} {s₁ : Shared} {tk : Nat} {m' : Str → Option Value} {all news₀ : List (Addr × Obj)} (hlt : ∀ p ∈ news₀, p.1 < I) (F : Fr h₀ L h' m') (N : News h₀ L h' all) (hI : (I, it) ∈ all)
    (hs : ∀ p ∈ news₀, p ∈ all) (r : rest m' news₀) : UnrEndW h₀ L s₁ [(I, it)] rest { s₁ with heap := h', toks := tk } :=
  ⟨h', tk, m', news₀, rfl, F, fun p hp => by
    rcases List.mem_append.mp hp with hp | hp
    · rw [List.mem_singleton.mp hp]; exact N _ hI
    · exact N _ (hs p hp), fun p hp q hq => by rw [List.mem_singleton.mp hq]; exact Nat.ne_of_lt (hlt p hp), r⟩
theorem compare_call3 (w : World) (mean : ExcName → Option Value) (mg mb : Str → Option Value) (news : List (Addr × Obj)) (d1 d2 : Addr) (x y sx sy : Int) (tx ty tsx tsy : Tok) (ca cb : Nat) (e1 : (d1, tupO x tx sx tsx ca) ∈ news) (e2 : (d2, tupO y ty sy tsy cb) ∈ news) (hx : intBits x ≤ 800) (hy : intBits y ≤ 800) (hsx : 0 ≤ sx) (hsx' : sx ≤ 18) (hsy : 0 ≤ sy) (hsy' : sy ≤ 18) :
    Claim w mean mg mb 4 119 [.ref d1, .ref d2] news (fun _ h₀ L m s Q => (y * 10 ^ (40 - sy).toNat < x * 10 ^ (40 - sx).toNat → RetI h₀ L m news s Q 1) ∧ (x * 10 ^ (40 - sx).toNat < y * 10 ^ (40 - sy).toNat → RetI h₀ L m news s Q (-1)) ∧ (x * 10 ^ (40 - sx).toNat = y * 10 ^ (40 - sy).toNat → RetI h₀ L m news s Q 0)) := by
  intro dp un gd cn cs a ccd cl outer A₀ base h₀ L m s Q E B F X N T hk hd hu hret
  obtain ⟨r1, r2, r3⟩ := hret
  rcases Int.lt_trichotomy (x * 10 ^ (40 - sx).toNat) (y * 10 ^ (40 - sy).toNat) with h | h | h
  · exact compare_call w mean mg mb news d1 d2 x y sx sy tx ty tsx tsy ca cb e1 e2 hx hy hsx hsx' hsy hsy' _ (by rw [if_neg (by omega), if_pos h]) dp un gd cn cs a ccd cl outer A₀ base h₀ L m s Q E B F X N T hk hd hu (r2 h)
  · exact compare_call w mean mg mb news d1 d2 x y sx sy tx ty tsx tsy ca cb e1 e2 hx hy hsx hsx' hsy hsy' _ (by rw [if_neg (by omega), if_neg (by omega)]) dp un gd cn cs a ccd cl outer A₀ base h₀ L m s Q E B F X N T hk hd hu (r3 h)
  · exact compare_call w mean mg mb news d1 d2 x y sx sy tx ty tsx tsy ca cb e1 e2 hx hy hsx hsx' hsy hsy' _ (by rw [if_pos h]) dp un gd cn cs a ccd cl outer A₀ base h₀ L m s Q E B F X N T hk hd hu (r1 h)
local macro_rules | `(tactic| bits_by_make) => `(tactic| first
  | (with_reducible assumption)
  | ((with_reducible refine bits_pow10 _ ?_); omega)
  | ((with_reducible apply bits_tdiv); bits_by_make))
local macro_rules | `(tactic| k_room) => `(tactic| ktr_room)
local macro_rules | `(tactic| units_room) => `(tactic| ktr_units)
local macro_rules | `(tactic| walk_at "binaryOp Pow int int") => `(tactic| (k_here; (with_reducible refine pow_int_small ?pw1 ?pw2 ?pw3 ?_); (case pw1 | pw2 => first | decide | omega); (case pw3 => decide)))
local macro_rules | `(tactic| cell_enter) => `(tactic| (refine' code_defSX ?k1 ?k2 ?k3 ?k4 ?k5 ?XB ?TB ?D ?T0 ?kA ?kF ?kK ?k6 ?k7 ?k8 ?k9 ?kB ?_ ?c2 ?c3 ?c4 ?c5; (case kA | kF => exact rfl); (case kK => assumption); (case k1 | k2 | k3 | k4 | k5 => k_asm); (case XB | TB | D | T0 => assumption); (case k6 | k7 => k_is); (case k8 => ktr_room); (case k9 => first | exact BindsTo.of_eq rfl | exact binds_K (by k_in) rfl (by k_is) rfl rfl rfl); (case c5 => decide); (case kB => exact locs rfl); (case c2 | c3 | c4 => exact rfl); k_whole; intro g' L' h' FG' F' N' B' X' T' D'; (try dsimp only); (try k_lift B'); (try k_fold)))
local macro_rules | `(tactic| walk_at "call ref") => `(tactic| (k_here; (with_reducible show wpAny _ _ (call (Value.ref 140) _) _ _ _); k_dflt ((refine' plain_call _ _ _ _ _ _ _ _ _ ?zbb ?zbp ?zbq _ _ _ _ _ _ _ _ _ _ _ _ _ _ _ _ _ ?zbk1 ?zbk2 ?zbk3 ?zbk4 ?zbk5 ?zbkK ?zbkd ?zbku ?_); (case zbk1 | zbk2 | zbk3 | zbk4 | zbk5 => k_asm); (case zbkK => first | exact rfl | assumption); (case zbkd => ktr_room); (case zbku => ktr_units); (case zbb => exact Nat.le_trans (by bits_by_make) (by decide)); (case zbp | zbq => first | decide | omega)); intro D' t1' t2' c' h' tk' F' N' l1; (try dsimp only); (try (simp only [AllLt, and_true] at l1)); (try k_sweep)))
local macro_rules | `(tactic| walk_at "call ref") => `(tactic| (k_here; (with_reducible show wpAny _ _ (call (Value.ref 154) _) _ _ _); k_dflt ((refine' far_call _ _ _ _ _ _ _ _ _ _ _ ?zce ?zcb ?zcp ?zcq _ _ _ _ _ _ _ _ _ _ _ _ _ _ _ _ _ ?zck1 ?zck2 ?zck3 ?zck4 ?zck5 ?zckK ?zckd ?zcku ?_); (case zck1 | zck2 | zck3 | zck4 | zck5 => k_asm); (case zckK => first | exact rfl | assumption); (case zckd => ktr_room); (case zcku => ktr_units); (case zce => first | assumption | k_mem); (case zcb => exact Nat.le_trans (by bits_by_make) (by decide)); (case zcp | zcq => first | assumption | omega)); intro t1' h' tk' F' N'; (try dsimp only); (try k_sweep)))
local macro_rules | `(tactic| walk_at "call ref") => `(tactic| (k_here; (with_reducible show wpAny _ _ (call (Value.ref 112) _) _ _ _); k_dflt ((refine' negated_call _ _ _ _ _ _ _ _ _ _ _ ?zde ?zdb ?zdp ?zdq ?zdc _ _ _ _ _ _ _ _ _ _ _ _ _ _ _ _ _ ?zdk1 ?zdk2 ?zdk3 ?zdk4 ?zdk5 ?zdkK ?zdkd ?zdku ?_); (case zdk1 | zdk2 | zdk3 | zdk4 | zdk5 => k_asm); (case zdkK => first | exact rfl | assumption); (case zdkd => ktr_room); (case zdku => ktr_units); (case zde => first | assumption | k_mem); (case zdb => exact Nat.le_trans (by bits_by_make) (by decide)); (case zdp | zdq => first | assumption | omega); (case zdc => assumption)); intro D' t1' t2' c' h' tk' F' N' l1; (try dsimp only); (try (simp only [AllLt, and_true] at l1)); (try k_sweep)))
local macro_rules | `(tactic| walk_at "call ref") => `(tactic| (k_here; (with_reducible show wpAny _ _ (call (Value.ref 91) _) _ _ _); k_dflt ((refine' plus_call _ _ _ _ _ _ _ _ _ _ _ _ _ _ _ _ _ ?zee ?zef ?zeb ?zeg ?zep ?zeq ?zer ?zes _ _ _ _ _ _ _ _ _ _ _ _ _ _ _ _ _ ?zek1 ?zek2 ?zek3 ?zek4 ?zek5 ?zekK ?zekd ?zeku ?_); (case zek1 | zek2 | zek3 | zek4 | zek5 => k_asm); (case zekK => first | exact rfl | assumption); (case zekd => ktr_room); (case zeku => ktr_units); (case zee | zef => first | assumption | k_mem); (case zeb | zeg => exact Nat.le_trans (by bits_by_make) (by decide)); (case zep | zeq | zer | zes => first | assumption | omega)); intro D' t1' t2' c' h' tk' F' N' l1; (try dsimp only); (try (simp only [AllLt, and_true] at l1)); (try k_sweep)))
local macro_rules | `(tactic| walk_at "call ref") => `(tactic| (k_here; (with_reducible show wpAny _ _ (call (Value.ref 98) _) _ _ _); k_dflt ((refine' minus_call _ _ _ _ _ _ _ _ _ _ _ _ _ _ _ _ _ ?zfe ?zff ?zfb ?zfg ?zfp ?zfq ?zfr ?zfs _ _ _ _ _ _ _ _ _ _ _ _ _ _ _ _ _ ?zfk1 ?zfk2 ?zfk3 ?zfk4 ?zfk5 ?zfkK ?zfkd ?zfku ?_); (case zfk1 | zfk2 | zfk3 | zfk4 | zfk5 => k_asm); (case zfkK => first | exact rfl | assumption); (case zfkd => ktr_room); (case zfku => ktr_units); (case zfe | zff => first | assumption | k_mem); (case zfb | zfg => exact Nat.le_trans (by bits_by_make) (by decide)); (case zfp | zfq | zfr | zfs => first | assumption | omega)); intro D' t1' t2' c' h' tk' F' N' l1; (try dsimp only); (try (simp only [AllLt, and_true] at l1)); (try k_sweep)))
local macro_rules | `(tactic| walk_at "call ref") => `(tactic| (k_here; (with_reducible show wpAny _ _ (call (Value.ref 119) _) _ _ _); k_dflt ((refine' compare_call3 _ _ _ _ _ _ _ _ _ _ _ _ _ _ _ _ _ ?zge ?zgf ?zgb ?zgg ?zgp ?zgq ?zgr ?zgs _ _ _ _ _ _ _ _ _ _ _ _ _ _ _ _ _ ?zgk1 ?zgk2 ?zgk3 ?zgk4 ?zgk5 ?zgkK ?zgkd ?zgku ⟨?_, ?_, ?_⟩); (case zgk1 | zgk2 | zgk3 | zgk4 | zgk5 => k_asm); (case zgkK => first | exact rfl | assumption); (case zgkd => ktr_room); (case zgku => ktr_units); (case zge | zgf => first | assumption | k_mem); (case zgb | zgg => exact Nat.le_trans (by bits_by_make) (by decide)); (case zgp | zgq | zgr | zgs => first | assumption | omega)); all_goals (first | (intro hc' t1' h' tk' F' N'; first | (exfalso; omega) | ((try dsimp only); (try k_sweep))))))
local macro_rules | `(tactic| walk_at "call ref") => `(tactic| (k_here; (with_reducible show wpAny _ _ (call (Value.ref 161) _) _ _ _); k_dflt ((refine' prod_call _ _ _ _ _ _ _ _ _ _ _ _ _ _ _ _ _ ?zhe ?zhf ?zhb ?zhg ?zhp ?zhq ?zhr ?zhs _ _ _ _ _ _ _ _ _ _ _ _ _ _ _ _ _ _ ?zhk1 ?zhk2 ?zhk3 ?zhk4 ?zhk5 ?zhkK ?zhkd ?zhku ?zhXB ?zhTB ?zhD ?zhT0 ?_); (case zhk1 | zhk2 | zhk3 | zhk4 | zhk5 => k_asm); (case zhkK => first | exact rfl | assumption); (case zhkd => ktr_room); (case zhku => ktr_units); (case zhXB | zhTB => assumption); (case zhD => first | assumption | exact ktsDicts_nil); (case zhT0 => first | assumption | exact KtsTurn.refl); (case zhe | zhf => first | assumption | k_mem); (case zhb | zhg => exact Nat.le_trans (by bits_by_make) (by decide)); (case zhp | zhq | zhr | zhs => first | assumption | omega)); intro g9 h9 tk9 kT kF kN kB kX₀ kP kD; (have kX := kFor kF kX₀); (try k_lift kB); (try dsimp only); (try k_sweep)))
local macro_rules | `(tactic| k_subL) => `(tactic| first | exact trivial | (refine And.intro (by k_mem) ?_; k_subL))
local macro_rules | `(tactic| walk_at "pyIter ref") => `(tactic| (k_here; (with_reducible show wpAny _ _ (pyIter (Value.ref _)) (fun it s₂ => TurnsAt _ _ _ _ _ _ _ _ _ it s₂) _ _); (rename Fr _ _ _ _ => lF'); (rename News _ _ _ _ => lN'); (with_unfolding_all refine iter_listTurns (by rfl) lF' lN' (by k_mem) (by rfl) (by rfl) ?_); clear lF'; intro i' l1; (have l3 := l1); (try k_lt l1)))
local macro_rules | `(tactic| walk_at "UnrEndW") => `(tactic| (refine' endW ?wl ?wf ?wn ?wi ?ws ⟨?wk, ?_⟩; (case wl | wf | wn => assumption); (case wi => k_mem); (case ws => repeat (first | exact sub_refl | apply sub_tl)); (case wk => k_subL)))
local macro_rules | `(tactic| walk_at "execs cons") => `(tactic| (k_here; (with_reducible show wpAny _ _ (execs (Stmt.If _ _ _ _ :: _ :: _) _) _ _ _); k_dflt (refine' execs_cut ?zuF ?zuN ?_ (fun h9 tk9 F9 N9 => ?_); (case zuF | zuN => k_asm)); (all_goals (try dsimp only)); (all_goals (try k_sweep))))
local macro_rules | `(tactic| walk_at "Mid") => `(tactic| (k_dflt (refine' Mid.intro ?zvF ?zvN ?zvS; (case zvF | zvN => k_asm); (case zvS => repeat (first | exact sub_refl | apply sub_tl)))))
set_option maxRecDepth 100000 in
set_option maxHeartbeats 8000000 in
theorem right_call (w : World) (mean : ExcName → Option Value) (mg mb : Str → Option Value) (news : List (Addr × Obj)) (d1 d2 : Addr) (x y sx sy : Int) (tx ty tsx tsy : Tok) (ca cb : Nat) (e1 : (d1, tupO x tx sx tsx ca) ∈ news) (e2 : (d2, tupO y ty sy tsy cb) ∈ news) (hx : intBits x ≤ 800) (hy : intBits y ≤ 800) (hsx : 0 ≤ sx) (hsx' : sx ≤ 18) (hsy : 0 ≤ sy) (hsy' : sy ≤ 18) (hcx : Canon x sx) (hcy : Canon y sy) :
    ClaimS w mean mg mb 20 168 [.ref d1, .ref d2] news true := by
  dsimp only [ClaimS]
  intro dp un gd cn cs a ccd cl outer A₀ base g₀ h₀ L m s Q E B F X N T hk hd hu XB TB D T0 hret
  have N2 : News h₀ L s.heap ((d1, tupO x tx sx tsx ca) :: (d2, tupO y ty sy tsy cb) :: news) := fun p hp => by
    rcases List.mem_cons.mp hp with rfl | hp
    · exact N _ e1
    · rcases List.mem_cons.mp hp with rfl | hp
      · exact N _ e2
      · exact N _ hp
  clear N
  have n1 := neg_bits hcy (by omega) hy
  have n2 := neg_lo (y := y) (s := sy)
  have n3 := neg_hi hcy hsy'
  refine wpAny_call ?_
  k_dflt cell_enter
  w_strict (k_steps
            all_goals (refine' retS_end hret ?ef ?en ?et ?eb ?ex ?ep ?ed ?ee; (case ef => assumption); (case en => first | assumption | exact (news_tl (by assumption)) | exact (news_tl (news_tl (by assumption))) | exact (news_tl (news_tl (news_tl (by assumption)))) | exact (news_tl (news_tl (news_tl (news_tl (by assumption))))) | exact (news_tl (news_tl (news_tl (news_tl (news_tl (by assumption)))))) | exact (news_tl (news_tl (news_tl (news_tl (news_tl (news_tl (by assumption))))))) | exact (news_tl (news_tl (news_tl (news_tl (news_tl (news_tl (news_tl (by assumption)))))))) | exact (news_tl (news_tl (news_tl (news_tl (news_tl (news_tl (news_tl (news_tl (by assumption))))))))) | exact (news_tl (news_tl (news_tl (news_tl (news_tl (news_tl (news_tl (news_tl (news_tl (by assumption)))))))))) | exact (news_tl (news_tl (news_tl (news_tl (news_tl (news_tl (news_tl (news_tl (news_tl (news_tl (by assumption))))))))))) | exact (news_tl (news_tl (news_tl (news_tl (news_tl (news_tl (news_tl (news_tl (news_tl (news_tl (news_tl (by assumption)))))))))))) | exact (news_tl (news_tl (news_tl (news_tl (news_tl (news_tl (news_tl (news_tl (news_tl (news_tl (news_tl (news_tl (by assumption))))))))))))) | exact (news_tl (news_tl (news_tl (news_tl (news_tl (news_tl (news_tl (news_tl (news_tl (news_tl (news_tl (news_tl (news_tl (by assumption)))))))))))))) | exact (news_tl (news_tl (news_tl (news_tl (news_tl (news_tl (news_tl (news_tl (news_tl (news_tl (news_tl (news_tl (news_tl (news_tl (by assumption))))))))))))))) | exact (news_tl (news_tl (news_tl (news_tl (news_tl (news_tl (news_tl (news_tl (news_tl (news_tl (news_tl (news_tl (news_tl (news_tl (news_tl (by assumption))))))))))))))))); (case et => assumption); (case eb => assumption); (case ex => assumption); (case ep => assumption); (case ed => assumption); (case ee => rfl)))
end Mine
end

section
open PySem PySem.W PyProof.Rows
open PySem.Builtin.Int (intBits)
namespace Mine
theorem fillIt8 : (PySem.Challenge.rw_pc0122_01, hd.heap_39) = (PySem.Challenge.rw_pc0122_01, hd.heap_39) := by
  k_fill
  rfl
local macro_rules | `(tactic| bits_by_make) => `(tactic| first
  | (with_reducible assumption)
  | ((with_reducible refine bits_pow10 _ ?_); omega)
  | ((with_reducible apply bits_tdiv); bits_by_make))
local macro_rules | `(tactic| k_room) => `(tactic| ktr_room)
local macro_rules | `(tactic| units_room) => `(tactic| ktr_units)
local macro_rules | `(tactic| walk_at "binaryOp Pow int int") => `(tactic| (k_here; (with_reducible refine pow_int_small ?pw1 ?pw2 ?pw3 ?_); (case pw1 | pw2 => first | decide | omega); (case pw3 => decide)))
local macro_rules | `(tactic| walk_at "binaryOp FloorDiv int int") => `(tactic| (k_here; (with_reducible refine' pc_floordiv ?pne ?pbs ?pn ?_); (case pbs => bits_by_make); (case pne => omega); (case pn => decide)))
local macro_rules | `(tactic| cell_enter) => `(tactic| (refine' code_def ?k1 ?k2 ?k3 ?k4 ?k5 ?kA ?kF ?kK ?k6 ?k7 ?k8 ?k9 ?kB ?_ ?c2 ?c3 ?c4 ?c5; (case kA | kF => exact rfl); (case kK => assumption); (case k1 | k2 | k3 | k4 | k5 => k_asm); (case k6 | k7 => k_is); (case k8 => ktr_room); (case k9 => first | exact BindsTo.of_eq rfl | exact binds_K (by k_in) rfl (by k_is) rfl rfl rfl); (case c5 => decide); (case kB => exact locs rfl); (case c2 | c3 | c4 => exact rfl); k_whole; intro g' L' h' FG' F' N' B' X' T'; (try dsimp only); (try k_lift B'); (try k_fold)))
set_option maxRecDepth 100000 in
set_option maxHeartbeats 8000000 in
theorem fits_call (w : World) (mean : ExcName → Option Value) (mg mb : Str → Option Value) (news : List (Addr × Obj)) (u k : Int) (tu tk : Tok) (h1 : 0 ≤ k) (h2 : k ≤ 160) (hv : (if u < 0 then -u else u) < 10 ^ k.toNat) :
    Claim w mean mg mb 4 126 [.int u tu, .int k tk] news (fun _ h₀ L m s Q => RetB h₀ L m news s Q true) := by
  dsimp only [Claim]
  intro dp un gd cn cs a ccd cl outer A₀ base h₀ L m s Q E B F X N T hk hd hu hret
  refine wpAny_call ?_
  k_dflt cell_enter
  w_strict (k_steps
            all_goals (refine' retB_end hret ?kf ?kn ?ke; (case kn => assumption); (case kf => assumption); (case ke => exact decide_eq_true hv)))
local macro_rules | `(tactic| walk_at "call ref") => `(tactic| (k_here; (with_reducible show wpAny _ _ (call (Value.ref 62) _) _ _ _); k_dflt ((refine' cutq_call _ _ _ _ _ _ _ _ _ ?qb ?q1 _ _ _ _ _ _ _ _ _ _ _ _ _ _ _ _ _ ?k1 ?k2 ?k3 ?k4 ?k5 ?kK ?kd ?ku ?_); (case k1 | k2 | k3 | k4 | k5 => k_asm); (case kK => first | exact rfl | assumption); (case kd => ktr_room); (case ku => ktr_units); (case qb => first | exact pow10_pos _ | decide +kernel); (case q1 => bits_by_make)); intro t1' h' tk' F' N'; (try dsimp only)))
local macro_rules | `(tactic| walk_at "call ref") => `(tactic| (k_here; (with_reducible show wpAny _ _ (call (Value.ref 70) _) _ _ _); k_dflt ((refine' decimal_call _ _ _ _ _ _ _ _ _ ?zab ?zap ?zaq _ _ _ _ _ _ _ _ _ _ _ _ _ _ _ _ _ ?zak1 ?zak2 ?zak3 ?zak4 ?zak5 ?zakK ?zakd ?zaku ?_); (case zak1 | zak2 | zak3 | zak4 | zak5 => k_asm); (case zakK => first | exact rfl | assumption); (case zakd => ktr_room); (case zaku => ktr_units); (case zab => exact Nat.le_trans (by bits_by_make) (by decide)); (case zap | zaq => first | decide | omega)); intro D' t1' t2' c' h' tk' F' N' l1; (try dsimp only); (try (simp only [AllLt, and_true] at l1)); (try k_sweep)))
local macro_rules | `(tactic| walk_at "call ref") => `(tactic| (k_here; (with_reducible show wpAny _ _ (call (Value.ref 126) _) _ _ _); k_dflt ((refine' fits_call _ _ _ _ _ _ _ _ _ ?zka ?zkb ?zkc _ _ _ _ _ _ _ _ _ _ _ _ _ _ _ _ _ ?zkk1 ?zkk2 ?zkk3 ?zkk4 ?zkk5 ?zkkK ?zkkd ?zkku ?_); (case zkk1 | zkk2 | zkk3 | zkk4 | zkk5 => k_asm); (case zkkK => first | exact rfl | assumption); (case zkkd => ktr_room); (case zkku => ktr_units); (case zka | zkb => decide); (case zkc => first | assumption | decide +kernel)); intro h' tk' F' N'; (try dsimp only); (try k_sweep)))
set_option maxRecDepth 100000 in
set_option maxHeartbeats 8000000 in
theorem times_lo (w : World) (mean : ExcName → Option Value) (mg mb : Str → Option Value) (news : List (Addr × Obj)) (d1 d2 : Addr) (x y sx sy : Int) (tx ty tsx tsy : Tok) (ca cb : Nat) (e1 : (d1, tupO x tx sx tsx ca) ∈ news) (e2 : (d2, tupO y ty sy tsy cb) ∈ news) (hx : intBits x ≤ 800) (hy : intBits y ≤ 800) (hsx : 0 ≤ sx) (hsx' : sx ≤ 40) (hsy : 0 ≤ sy) (hsy' : sy ≤ 40)
    (hs : sx + sy ≤ 30) (hv : (if (x * y) < 0 then -(x * y) else (x * y)) < 10 ^ (120 : Int).toNat) :
    Claim w mean mg mb 8 105 [.ref d1, .ref d2] news (fun _ h₀ L m s Q => RetT h₀ L m news s Q (dec (x * y) (sx + sy)).1 (dec (x * y) (sx + sy)).2) := by
  dsimp only [Claim]
  intro dp un gd cn cs a ccd cl outer A₀ base h₀ L m s Q E B F X N T hk hd hu hret
  have N2 : News h₀ L s.heap ((d1, tupO x tx sx tsx ca) :: (d2, tupO y ty sy tsy cb) :: news) := fun p hp => by
    rcases List.mem_cons.mp hp with rfl | hp
    · exact N _ e1
    · rcases List.mem_cons.mp hp with rfl | hp
      · exact N _ e2
      · exact N _ hp
  clear N
  refine wpAny_call ?_
  k_dflt cell_enter
  w_strict (k_steps
            all_goals (refine' retT_end hret ?kf ?kn ?kl ?ke; (case kn => first | assumption | exact news_drop1 (by assumption) | exact news_drop1 (news_drop1 (by assumption)) | exact news_drop1 (news_drop1 (news_drop1 (by assumption)))); (case kf => assumption); (case kl => first | assumption | (simp only [AllLt] at *; simp_all; done)); (case ke => rfl)))
set_option maxRecDepth 100000 in
set_option maxHeartbeats 8000000 in
theorem times_hi (w : World) (mean : ExcName → Option Value) (mg mb : Str → Option Value) (news : List (Addr × Obj)) (d1 d2 : Addr) (x y sx sy : Int) (tx ty tsx tsy : Tok) (ca cb : Nat) (e1 : (d1, tupO x tx sx tsx ca) ∈ news) (e2 : (d2, tupO y ty sy tsy cb) ∈ news) (hx : intBits x ≤ 800) (hy : intBits y ≤ 800) (hsx : 0 ≤ sx) (hsx' : sx ≤ 40) (hsy : 0 ≤ sy) (hsy' : sy ≤ 40)
    (hs : 30 < sx + sy) (hv : (if ((x * y).tdiv (10 ^ (sx + sy - 30).toNat)) < 0 then -((x * y).tdiv (10 ^ (sx + sy - 30).toNat)) else ((x * y).tdiv (10 ^ (sx + sy - 30).toNat))) < 10 ^ (120 : Int).toNat) :
    Claim w mean mg mb 8 105 [.ref d1, .ref d2] news (fun _ h₀ L m s Q => RetT h₀ L m news s Q (dec ((x * y).tdiv (10 ^ (sx + sy - 30).toNat)) 30).1 (dec ((x * y).tdiv (10 ^ (sx + sy - 30).toNat)) 30).2) := by
  dsimp only [Claim]
  intro dp un gd cn cs a ccd cl outer A₀ base h₀ L m s Q E B F X N T hk hd hu hret
  have N2 : News h₀ L s.heap ((d1, tupO x tx sx tsx ca) :: (d2, tupO y ty sy tsy cb) :: news) := fun p hp => by
    rcases List.mem_cons.mp hp with rfl | hp
    · exact N _ e1
    · rcases List.mem_cons.mp hp with rfl | hp
      · exact N _ e2
      · exact N _ hp
  clear N
  refine wpAny_call ?_
  k_dflt cell_enter
  w_strict (k_steps
            all_goals (refine' retT_end hret ?kf ?kn ?kl ?ke; (case kn => first | assumption | exact news_drop1 (by assumption) | exact news_drop1 (news_drop1 (by assumption)) | exact news_drop1 (news_drop1 (news_drop1 (by assumption)))); (case kf => assumption); (case kl => first | assumption | (simp only [AllLt] at *; simp_all; done)); (case ke => rfl)))
local macro_rules | `(tactic| walk_at "call ref") => `(tactic| (k_here; (with_reducible show wpAny _ _ (call (Value.ref 105) _) _ _ _); k_dflt ((refine' times_lo _ _ _ _ _ _ _ _ _ _ _ _ _ _ _ _ _ ?zxe ?zxf ?zxb ?zxg ?zxp ?zxq ?zxr ?zxs ?zxh ?zxv _ _ _ _ _ _ _ _ _ _ _ _ _ _ _ _ _ ?zxk1 ?zxk2 ?zxk3 ?zxk4 ?zxk5 ?zxkK ?zxkd ?zxku ?_); (case zxk1 | zxk2 | zxk3 | zxk4 | zxk5 => k_asm); (case zxkK => first | exact rfl | assumption); (case zxkd => ktr_room); (case zxku => ktr_units); (case zxe | zxf => k_mem); (case zxh => decide); (case zxb | zxg => exact Nat.le_trans (by bits_by_make) (by decide)); (case zxp | zxq | zxr | zxs => decide); (case zxv => decide +kernel)); intro D' t1' t2' c' h' tk' F' N' l1; (try dsimp only); (try (simp only [AllLt, and_true] at l1)); (try k_sweep)))
local macro_rules | `(tactic| walk_at "call ref") => `(tactic| (k_here; (with_reducible show wpAny _ _ (call (Value.ref 105) _) _ _ _); k_dflt ((refine' times_hi _ _ _ _ _ _ _ _ _ _ _ _ _ _ _ _ _ ?zye ?zyf ?zyb ?zyg ?zyp ?zyq ?zyr ?zys ?zyh ?zyv _ _ _ _ _ _ _ _ _ _ _ _ _ _ _ _ _ ?zyk1 ?zyk2 ?zyk3 ?zyk4 ?zyk5 ?zykK ?zykd ?zyku ?_); (case zyk1 | zyk2 | zyk3 | zyk4 | zyk5 => k_asm); (case zykK => first | exact rfl | assumption); (case zykd => ktr_room); (case zyku => ktr_units); (case zye | zyf => k_mem); (case zyh => decide); (case zyb | zyg => exact Nat.le_trans (by bits_by_make) (by decide)); (case zyp | zyq | zyr | zys => decide); (case zyv => decide +kernel)); intro D' t1' t2' c' h' tk' F' N' l1; (try dsimp only); (try (simp only [AllLt, and_true] at l1)); (try k_sweep)))
local macro_rules | `(tactic| walk_at "execs cons") => `(tactic| (k_here; (with_reducible show wpAny _ _ (execs (Stmt.If _ _ _ _ :: _ :: _) _) _ _ _); k_dflt (refine' execs_cut ?zuF ?zuN ?_ (fun h9 tk9 F9 N9 => ?_); (case zuF | zuN => k_asm)); (all_goals (try dsimp only)); (all_goals (try k_sweep))))
local macro_rules | `(tactic| walk_at "Mid") => `(tactic| (k_dflt (refine' Mid.intro ?zvF ?zvN ?zvS; (case zvF | zvN => k_asm); (case zvS => repeat (first | exact sub_refl | apply sub_tl)))))
set_option maxRecDepth 100000 in
set_option maxHeartbeats 8000000 in
theorem table_call (w : World) (mean : ExcName → Option Value) (mg mb : Str → Option Value) (news : List (Addr × Obj)) :
    Claim w mean mg mb 12 175 [] news (fun _ h₀ L m s Q => RetB h₀ L m news s Q true) := by
  dsimp only [Claim]
  intro dp un gd cn cs a ccd cl outer A₀ base h₀ L m s Q E B F X N T hk hd hu hret
  refine wpAny_call ?_
  k_dflt cell_enter
  w_strict (k_steps
            all_goals ((rename News _ _ _ _ => nZ); refine' retB_end hret ?kf (news_sub nZ ?kn) ?ke; (case kn => repeat (first | exact sub_refl | apply sub_tl)); (case kf => assumption); (case ke => decide +kernel)))
end Mine
end

section
open PySem PySem.W PyProof.Rows
open PySem.Builtin.Int (intBits)
namespace Mine
theorem pc_gt {l : List (Addr × Obj)} {D a : Addr} {o : Obj} (h : ∀ p ∈ l, p.1 < D) (m : (a, o) ∈ l) : D ≠ a := Nat.ne_of_gt (h _ m)
theorem right_top (w : World) (mean : ExcName → Option Value) (mg mb : Str → Option Value) (news : List (Addr × Obj)) (d1 d2 : Addr) (x y sx sy : Int) (tx ty tsx tsy : Tok) (ca cb : Nat) (e1 : (d1, tupO x tx sx tsx ca) ∈ news) (e2 : (d2, tupO y ty sy tsy cb) ∈ news) (hx : intBits x ≤ 800) (hy : intBits y ≤ 800) (hsx : 0 ≤ sx) (hsx' : sx ≤ 18) (hsy : 0 ≤ sy) (hsy' : sy ≤ 18) (hcx : Canon x sx) (hcy : Canon y sy)
    (dp un : Nat) (gd : Option (List Code)) (cn : Str) (cs : Scope) (a : Addr) (ccd : Value) (cl : List (Str × Addr)) (A₀ : Around) (h₀ : Heap) (L : Addr) (m : Str → Option Value) (s : Shared) (Q E : Value → Shared → Prop)
    (B : Below A₀ h₀ [] h₀) (F : Fr h₀ L s.heap m) (X : (hd.heap_39 w.params).In h₀) (N : News h₀ L s.heap news) (T : Top hd.view_39 loose0 mean mg mb h₀) (hk : cs.kind = .function)
    (hdp : dp + 20 < recursionLimit) (hu : un + 8 * 20 < cLine) (hret : RetB h₀ L m news s Q true) : wpAny (model P0 w) (ktrTop dp un gd cn cs L a ccd cl []) (call (.ref 168) [.ref d1, .ref d2]) Q E s := by
  refine right_call w mean mg mb news d1 d2 x y sx sy tx ty tsx tsy ca cb e1 e2 hx hy hsx hsx' hsy hsy' hcx hcy dp un gd cn cs a ccd cl [] A₀ h₀ h₀ h₀ L m s Q E B F X N T hk hdp hu X T ktsDicts_nil KtsTurn.refl ?_
  intro h₀' h' tk' kT kF kN _ _ _ _
  refine hret h' tk' ⟨kF.ns, fun b o e => kF.keep b o (kT.other b o e (by simp)), F.above⟩ fun p hp => ⟨(kN p hp).1, (kN p hp).2.1, ?_⟩
  cases q : h₀.get? p.1 with
  | none => rfl
  | some o =>
    have := (kN p hp).2.2
    rw [kT.other _ _ q (by simp)] at this
    cases this
local macro_rules | `(tactic| bits_by_make) => `(tactic| first
  | (with_reducible assumption)
  | ((with_reducible refine bits_pow10 _ ?_); omega)
  | ((with_reducible apply bits_tdiv); bits_by_make))
local macro_rules | `(tactic| walk_at "binaryOp Pow int int") => `(tactic| (k_here; (with_reducible refine pow_int_small ?pw1 ?pw2 ?pw3 ?_); (case pw1 | pw2 => first | decide | omega); (case pw3 => decide)))
local macro_rules | `(tactic| walk_at "call ref") => `(tactic| (k_here; (with_reducible show wpAny _ _ (call (Value.ref 70) _) _ _ _); k_dflt ((refine' decimal_call _ _ _ _ _ _ _ _ _ ?zab ?zap ?zaq _ _ _ _ _ _ _ _ _ _ _ _ _ _ _ _ _ ?zak1 ?zak2 ?zak3 ?zak4 ?zak5 ?zakK ?zakd ?zaku ?_); (case zak1 | zak2 | zak3 | zak4 | zak5 => k_asm); (case zakK => first | exact rfl | assumption); (case zakd => ktr_room); (case zaku => ktr_units); (case zab => exact Nat.le_trans (by bits_by_make) (by decide)); (case zap | zaq => first | decide | omega)); intro D' t1' t2' c' h' tk' F' N' l1; (try dsimp only); (have lz := kst_ltOf l1); clear l1; (try k_sweep)))
local macro_rules | `(tactic| walk_at "call ref") => `(tactic| (k_here; (with_reducible show wpAny _ _ (call (Value.ref 140) _) _ _ _); k_dflt ((refine' plain_call _ _ _ _ _ _ _ _ _ ?zbb ?zbp ?zbq _ _ _ _ _ _ _ _ _ _ _ _ _ _ _ _ _ ?zbk1 ?zbk2 ?zbk3 ?zbk4 ?zbk5 ?zbkK ?zbkd ?zbku ?_); (case zbk1 | zbk2 | zbk3 | zbk4 | zbk5 => k_asm); (case zbkK => first | exact rfl | assumption); (case zbkd => ktr_room); (case zbku => ktr_units); (case zbb => exact Nat.le_trans (by bits_by_make) (by decide)); (case zbp | zbq => first | decide | omega)); intro D' t1' t2' c' h' tk' F' N' l1; (try dsimp only); (have lz := kst_ltOf l1); clear l1; (try k_sweep)))
local macro_rules | `(tactic| walk_at "call ref") => `(tactic| (k_here; (with_reducible show wpAny _ _ (call (Value.ref 133) _) _ _ _); k_dflt ((refine' draw_call _ _ _ _ _ _ _ _ _ _ ?zmi ?zmn ?zmp ?zmq _ _ _ _ _ _ _ _ _ _ _ _ _ _ _ _ _ ?zmk1 ?zmk2 ?zmk3 ?zmk4 ?zmk5 ?zmkK ?zmkd ?zmku ⟨?zml, ?_⟩); (case zmk1 | zmk2 | zmk3 | zmk4 | zmk5 => k_asm); (case zmkK => first | exact rfl | assumption); (case zmkd => ktr_room); (case zmku => ktr_units); (case zml => k_asm); (case zmi => l_ints); (case zmn => l_fit); (case zmp | zmq => first | decide | omega)); intro u' sc' ub' ul' uh' D' t1' t2' c' h' tk' F' N' l1; (try dsimp only); (have lz := kst_ltOf l1); clear l1; (try k_sweep)))
local macro_rules | `(tactic| walk_at "call ref") => `(tactic| (k_here; (with_reducible show wpAny _ _ (call (Value.ref 175) _) _ _ _); k_dflt ((refine' table_call _ _ _ _ _ _ _ _ _ _ _ _ _ _ _ _ _ _ _ _ _ _ ?znk1 ?znk2 ?znk3 ?znk4 ?znk5 ?znkK ?znkd ?znku ?_); (case znk1 | znk2 | znk3 | znk4 | znk5 => k_asm); (case znkK => first | exact rfl | assumption); (case znkd => ktr_room); (case znku => ktr_units)); intro h' tk' F' N'; (try dsimp only); (try k_sweep)))
local macro_rules | `(tactic| lcg_off) => `(tactic| exact And.intro ⟨pc_gt (by assumption) (by k_mem), pc_gt (by assumption) (by k_mem), pc_gt (by assumption) (by k_mem)⟩ (by assumption))
local macro_rules | `(tactic| walk_at "CompRest") => `(tactic| (with_unfolding_all (refine LCg.CompRest.succ ?_; intro v' I' oI' C' oC' D' m' h' tk' E' hv' hC' hx' F' N' off' ne'; (first | lcg_open hv' | (obtain ⟨t9', hv9'⟩ := hv'; subst hv9')))))
local macro_rules | `(tactic| walk_at "CompRestP") => `(tactic| (with_unfolding_all (refine LCp.CompRestP.succ ?_; intro v' hv'; lcg_open hv'; refine ⟨_, _, _, _, _, rfl, by k_mem, rfl, rfl, ?_⟩; intro I' oI' C' oC' D' m' h' tk' E' hC' hx' hy' F' N' off' ne')))
local macro_rules | `(tactic| walk_at "exec Assign cons ListComp") => `(tactic| (k_here; lcf_look; k_dflt (refine LCg.Assign_ListComp_U (F₀ := by k_asm) (by rfl) (by with_unfolding_all rfl) (by with_unfolding_all rfl) (by decide) (by rfl) (by decide) (by rfl) (by rfl) (by rfl) ?_); k_dflt lcg_toSrc))
local macro_rules | `(tactic| walk_at "CompSrc") => `(tactic| (k_here; k_dflt (refine LCg.CompSrc.range (by rfl) (by k_asm) (by k_asm) (by assumption) (by first | decide | rfl) (by first | rfl | decide) (by first | size_fits | exact Nat.le_of_ble_eq_true rfl) ?_; intro g'; lcg_lit)))
local macro_rules | `(tactic| walk_at "call ref") => `(tactic| (k_here; (with_reducible show wpAny _ _ (call (Value.ref 168) _) _ _ _); k_dflt ((refine' right_top _ _ _ _ _ _ _ _ _ _ _ _ _ _ _ _ _ ?zre ?zrf ?zrb ?zrc ?zrp ?zrq ?zrr ?zrs ?zrt ?zru _ _ _ _ _ _ _ _ _ _ _ _ _ _ _ ?zrk1 ?zrk2 ?zrk3 ?zrk4 ?zrk5 ?zrkK ?zrkd ?zrku ?_); (case zrk1 | zrk2 | zrk3 | zrk4 | zrk5 => k_asm); (case zrkK => first | exact rfl | assumption); (case zrkd => ktr_room); (case zrku => ktr_units); (case zre | zrf => k_mem); (case zrb | zrc => exact dec_bits (by assumption) (by assumption)); (case zrp => exact dec_lo _ _); (case zrq => exact dec_hi (by assumption)); (case zrr => exact dec_lo _ _); (case zrs => exact dec_hi (by assumption)); (case zrt | zru => exact dec_canon)); intro h' tk' F' N'; (try dsimp only); (try k_sweep)))
set_option maxRecDepth 100000 in
set_option maxHeartbeats 8000000 in
theorem law_holds : PySem.Challenge.rw_pc0122_01.Holds := hd (by
  k_go0
  all_goals try k_fold
  w_strict (k_steps; (all_goals (try k_data)); all_goals w_report))
end Mine
end

theorem PySem.Challenge.cw_pc0122_01_holds : PySem.Challenge.rw_pc0122_01.Holds :=
  Mine.law_holds
