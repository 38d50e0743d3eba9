import PyProof.Rows.All
import Wide.All
import OpenK.AllK
import Wide.FinOn
import Lean
import PySem.Challenge.RW_pb0220_01
open PySem PySem.W PyProof.Rows PySem.Calls PySem.Spec
set_option Elab.async false
set_option maxRecDepth 100000
namespace Mine
set_option maxHeartbeats 8000000 in
open_top hd for PySem.Challenge.rw_pb0220_01

/-- the normal form: noughts at the end are struck while there is a scale -/
def decN : Nat → Int → Int × Int
  | 0, u => (u, 0)
  | s + 1, u => if u.fmod 10 = 0 then decN s (u.fdiv 10) else (u, ((s + 1 : Nat) : Int))
def dec (u s : Int) : Int × Int := decN s.toNat u

theorem dec_zero (u : Int) : dec u 0 = (u, 0) := rfl
theorem dec_step {u s : Int} (h : 0 < s) (hu : u.fmod 10 = 0) : dec u s = dec (u.fdiv 10) (s - 1) := by
  unfold dec
  obtain ⟨k, rfl⟩ : ∃ k : Nat, s = ((k + 1 : Nat) : Int) := ⟨s.toNat - 1, by omega⟩
  have e1 : ((k + 1 : Nat) : Int).toNat = k + 1 := by omega
  have e2 : (((k + 1 : Nat) : Int) - 1).toNat = k := by omega
  rw [e1, e2, decN, if_pos hu]
theorem dec_stop {u s : Int} (h : 0 ≤ s) (hu : s = 0 ∨ u.fmod 10 ≠ 0) : dec u s = (u, s) := by
  unfold dec
  rcases Int.lt_or_eq_of_le h with h | h
  · obtain ⟨k, rfl⟩ : ∃ k : Nat, s = ((k + 1 : Nat) : Int) := ⟨s.toNat - 1, by omega⟩
    have e1 : ((k + 1 : Nat) : Int).toNat = k + 1 := by omega
    rw [e1, decN, if_neg (by omega)]
  · subst h; rfl
theorem dec_ten (u : Int) {s : Int} (h : 0 ≤ s) : dec (u * 10) (s + 1) = dec u s := by
  have h1 : (u * 10).fmod 10 = 0 := by rw [Int.fmod_eq_emod_of_nonneg _ (by omega)]; omega
  rw [dec_step (by omega) h1]
  have h2 : (u * 10).fdiv 10 = u := by rw [Int.fdiv_eq_ediv_of_nonneg _ (by omega)]; omega
  rw [h2]
  congr 1
  omega
theorem dec_tens (u : Int) {s : Int} (h : 0 ≤ s) : ∀ k : Nat, dec (u * 10 ^ k) (s + k) = dec u s
  | 0 => by simp
  | k + 1 => by
    have e : u * 10 ^ (k + 1) = u * 10 ^ k * 10 := by rw [Int.pow_succ, ← Int.mul_assoc]
    have e2 : s + ((k + 1 : Nat) : Int) = (s + k) + 1 := by omega
    rw [e, e2, dec_ten _ (by omega), dec_tens u h k]
theorem decN_spec : ∀ (s : Nat) (u : Int), ∃ k : Nat, k ≤ s ∧ u = (decN s u).1 * 10 ^ k ∧ (decN s u).2 = ((s - k : Nat) : Int)
  | 0, u => ⟨0, Nat.le_refl _, by simp [decN], by simp [decN]⟩
  | s + 1, u => by
    unfold decN
    by_cases h : u.fmod 10 = 0
    · rw [if_pos h]
      obtain ⟨k, hk, h1, h2⟩ := decN_spec s (u.fdiv 10)
      refine ⟨k + 1, by omega, ?_, by rw [h2]; omega⟩
      rw [Int.pow_succ, ← Int.mul_assoc, ← h1]
      rw [Int.fmod_eq_emod_of_nonneg _ (by omega)] at h
      rw [Int.fdiv_eq_ediv_of_nonneg _ (by omega)]
      omega
    · rw [if_neg h]
      exact ⟨0, by omega, by simp, by simp⟩
theorem dec_spec (u : Int) {s : Int} (h : 0 ≤ s) : ∃ k : Nat, (k : Int) ≤ s ∧ u = (dec u s).1 * 10 ^ k ∧ s = (dec u s).2 + k := by
  obtain ⟨k, h1, h2, h3⟩ := decN_spec s.toNat u
  exact ⟨k, by omega, h2, by unfold dec; rw [h3]; omega⟩
theorem dec_scale (u : Int) {s : Int} (h : 0 ≤ s) : 0 ≤ (dec u s).2 ∧ (dec u s).2 ≤ s := by
  obtain ⟨k, h1, _, h3⟩ := dec_spec u h
  omega
theorem pow_pos10 : ∀ k : Nat, 0 < (10 : Int) ^ k := fun k => Int.pow_pos (by omega)
theorem dec_abs (u : Int) {s : Int} (h : 0 ≤ s) : (dec u s).1.natAbs ≤ u.natAbs := by
  obtain ⟨k, _, h2, _⟩ := dec_spec u h
  have h4 : u.natAbs = (dec u s).1.natAbs * ((10 : Int) ^ k).natAbs := by
    conv => lhs; rw [h2]
    exact Int.natAbs_mul ..
  have h5 := pow_pos10 k
  rw [h4]
  exact Nat.le_mul_of_pos_right _ (by omega)
theorem dec_times (u v : Int) {s t : Int} (hs : 0 ≤ s) (ht : 0 ≤ t) : dec ((dec u s).1 * v) ((dec u s).2 + t) = dec (u * v) (s + t) := by
  obtain ⟨k, h1, h2, h3⟩ := dec_spec u hs
  have hn := (dec_scale u hs).1
  have e1 : u * v = (dec u s).1 * v * 10 ^ k := by
    conv => lhs; rw [h2]
    rw [Int.mul_right_comm]
  have e2 : s + t = (dec u s).2 + t + k := by omega
  rw [e1, e2, dec_tens _ (by omega)]
theorem dec_times2 (u v : Int) {s t : Int} (hs : 0 ≤ s) (ht : 0 ≤ t) : dec ((dec u s).1 * (dec v t).1) ((dec u s).2 + (dec v t).2) = dec (u * v) (s + t) := by
  rw [dec_times u _ hs (dec_scale v ht).1, Int.mul_comm u, Int.add_comm s, dec_times v u ht hs, Int.mul_comm v, Int.add_comm t]
theorem dec_dec (u : Int) {s : Int} (hs : 0 ≤ s) : dec (dec u s).1 (dec u s).2 = dec u s := by
  have := dec_times u 1 hs (Int.le_refl 0)
  simpa using this
/-- the loop of a power: k turns -/
theorem dec_pow_succ (u : Int) {s : Int} (hs : 0 ≤ s) (k : Nat) : dec ((dec (u ^ k) (s * k)).1 * u) ((dec (u ^ k) (s * k)).2 + s) = dec (u ^ (k + 1)) (s * ((k + 1 : Nat) : Int)) := by
  rw [dec_times _ u (Int.mul_nonneg hs (by omega)) hs, Int.pow_succ]
  congr 1
  rw [Int.natCast_add, Int.mul_add]; simp
theorem dec_pow_dec (u : Int) {s : Int} (hs : 0 ≤ s) : ∀ k : Nat, dec ((dec u s).1 ^ k) ((dec u s).2 * k) = dec (u ^ k) (s * k)
  | 0 => by simp
  | k + 1 => by
    have h0 := (dec_scale u hs).1
    rw [← dec_pow_succ _ h0, dec_pow_dec u hs k, ← dec_pow_succ u hs]
    have h1 := dec_times2 (u ^ k) u (s := s * k) (t := s) (Int.mul_nonneg hs (by omega)) hs
    rw [h1, dec_times _ u (Int.mul_nonneg hs (by omega)) hs]
/-! ## what the walk asks of numbers -/
theorem fits_of {x : Int} (h : x.natAbs < 10 ^ 120) : (if x < 0 then -x else x) < 10 ^ Int.toNat 120 := by
  have e : Int.toNat 120 = 120 := rfl
  rw [e]
  split <;> omega
theorem mulOk_500 {a b : Int} (ha : a.natAbs < 2 ^ 500) (hb : b.natAbs < 2 ^ 500) : IntMulOk a b := by
  refine IntMulOk.of_le (m := 500) (n := 500) (intBits_le_iff.mpr ha) (intBits_le_iff.mpr hb) (by decide)
theorem noPylong_500 {x y : Int} (h : y.natAbs < 2 ^ 500) (hy : y ≠ 0) : Builtin.divisionGoesByPylong x y = false := by
  refine PyProof.noPylong_of_log2 (Nat.lt_trans ((Nat.log2_lt (by omega)).mpr h) (by decide))
theorem mul_p0 (v : Int) : v * 10 ^ Int.toNat 0 = v := by
  have e : Int.toNat 0 = 0 := rfl
  rw [e, Int.pow_zero, Int.mul_one]
theorem abs_ne {v : Int} (h : v ≠ 0) : (if v * 10 ^ Int.toNat 0 < 0 then -(v * 10 ^ Int.toNat 0) else v * 10 ^ Int.toNat 0) ≠ 0 := by
  rw [mul_p0]
  split <;> omega
theorem abs_bound {v : Int} (h : v.natAbs < 2 ^ 500) : (if v * 10 ^ Int.toNat 0 < 0 then -(v * 10 ^ Int.toNat 0) else v * 10 ^ Int.toNat 0).natAbs < 2 ^ 500 := by
  rw [mul_p0]
  split <;> omega
theorem top_p : 1 * 10 ^ Int.toNat (30 + 0) = (10 ^ 30 : Int) := by decide
/-- one divided by a whole number, to thirty places -/
def quo (v : Int) : Int × Int := dec (if v < 0 then -((10 ^ 30 : Int).fdiv (-v)) else (10 ^ 30 : Int).fdiv v) 30
theorem quo_n {t b v : Int} (ht : t = 10 ^ 30) (hb : b = v) (h : (decide (t < 0) != decide (b < 0)) = true) : dec (-((if t < 0 then -t else t).fdiv (if b < 0 then -b else b))) 30 = quo v := by
  subst hb ht
  have h1 : b < 0 := by
    by_cases q : b < 0
    · exact q
    · simp [q] at h
  unfold quo
  simp [h1]
theorem quo_p {t b v : Int} (ht : t = 10 ^ 30) (hb : b = v) (h : (decide (t < 0) != decide (b < 0)) = false) : dec ((if t < 0 then -t else t).fdiv (if b < 0 then -b else b)) 30 = quo v := by
  subst hb ht
  have h1 : ¬ b < 0 := by
    intro q
    simp [q] at h
  unfold quo
  simp [h1]

/-! ## a call that hands back a new pair of ints -/
abbrev tupO (x y : Int) (t1 t2 : Tok) (n : Nat) : Obj := { cls := .type "tuple", data := .seq #[.int x t1, .int y t2] n }
def Ret2 (h₀ : Heap) (L : Addr) (m : Str → Option Value) (news : List (Addr × Obj)) (s : Shared) (Q : Value → Shared → Prop) (p : Int × Int) : Prop :=
  ∀ (D : Addr) (t1 t2 : Tok) (c : Nat) (h : Heap) (tk : Nat), Fr h₀ L h m → News h₀ L h ((D, tupO p.1 p.2 t1 t2 c) :: news) → AllLt D news → Q (.ref D) { s with heap := h, toks := tk }
theorem Ret2.use {h₀ : Heap} {L : Addr} {m : Str → Option Value} {news : List (Addr × Obj)} {s : Shared} {Q : Value → Shared → Prop} {p : Int × Int} {x y : Int} {D : Addr} {t1 t2 : Tok} {c : Nat} {h : Heap} {tk : Nat}
    (hret : Ret2 h₀ L m news s Q p) (F : Fr h₀ L h m) (N : News h₀ L h ((D, tupO x y t1 t2 c) :: news)) (lt : AllLt D news) (e : p = (x, y)) : Q (.ref D) { s with heap := h, toks := tk } := by
  subst e
  exact hret D t1 t2 c h tk F N lt
theorem Ret2.same {h₀ : Heap} {L : Addr} {m : Str → Option Value} {news : List (Addr × Obj)} {s : Shared} {Q : Value → Shared → Prop} {p q : Int × Int} {D : Addr} {t1 t2 : Tok} {c : Nat} {h : Heap} {tk : Nat}
    (hret : Ret2 h₀ L m news s Q p) (F : Fr h₀ L h m) (N : News h₀ L h ((D, tupO q.1 q.2 t1 t2 c) :: news)) (lt : AllLt D news) (e : p = q) : Q (.ref D) { s with heap := h, toks := tk } := by
  subst e
  exact hret D t1 t2 c h tk F N lt
def Call2 (w : World) (mean : ExcName → Option Value) (mg mb : Str → Option Value) (f : Addr) (Rel : List (Addr × Obj) → List Value → Prop) (k : Nat) (p : Int × Int) : Prop :=
  ∀ (dp un : Nat) (gd : Option (List Code)) (cn : Str) (cs : Scope) (a : Addr) (ccd : Value) (cl : List (Str × Addr)) (outer : List Env) (A₀ : Around) (base h₀ : Heap) (L : Addr) (m : Str → Option Value) (news : List (Addr × Obj)) (s : Shared) (vs : List Value)
    (Q E : Value → Shared → Prop),
    Below A₀ base outer h₀ → Fr h₀ L s.heap m → (hd.heap_39 w.params).In h₀ → News h₀ L s.heap news →
    Top hd.view_39 (looseW hd.view_39 [Str.ofString "LedgerError", Str.ofString "decimal", Str.ofString "quotient"]) mean mg mb h₀ → cs.kind = .function → Rel news vs →
    dp + k < recursionLimit → un + 8 * k < cLine → Ret2 h₀ L m news s Q p →
    wpAny (model PySem.Challenge.rw_pb0220_01.row.prog w) (ktrTop dp un gd cn cs L a ccd cl outer) (call (.ref f) vs) Q E s
theorem Call2.use {w : World} {mean : ExcName → Option Value} {mg mb : Str → Option Value} {f : Addr} {Rel : List (Addr × Obj) → List Value → Prop} {k : Nat} {p : Int × Int} (C : Call2 w mean mg mb f Rel k p)
    {dp un : Nat} {gd : Option (List Code)} {cn : Str} {cs : Scope} {a : Addr} {ccd : Value} {cl : List (Str × Addr)} {outer : List Env} {A₀ : Around} {base h₀ : Heap} {L : Addr} {m : Str → Option Value} {news : List (Addr × Obj)} {s : Shared} {vs : List Value}
    {Q E : Value → Shared → Prop} (B : Below A₀ base outer h₀) (F : Fr h₀ L s.heap m) (X : (hd.heap_39 w.params).In h₀) (N : News h₀ L s.heap news)
    (T : Top hd.view_39 (looseW hd.view_39 [Str.ofString "LedgerError", Str.ofString "decimal", Str.ofString "quotient"]) mean mg mb h₀) (hk : cs.kind = .function) (R : Rel news vs)
    (hd : dp + k < recursionLimit) (hu : un + 8 * k < cLine)
    (ret : ∀ (D : Addr) (t1 t2 : Tok) (c : Nat) (h : Heap) (tk : Nat), Fr h₀ L h m → News h₀ L h ((D, tupO p.1 p.2 t1 t2 c) :: news) → AllLt D news → Q (.ref D) { s with heap := h, toks := tk }) :
    wpAny (model PySem.Challenge.rw_pb0220_01.row.prog w) (ktrTop dp un gd cn cs L a ccd cl outer) (call (.ref f) vs) Q E s :=
  C _ _ _ _ _ _ _ _ _ _ _ _ _ _ _ _ _ _ _ B F X N T hk R hd hu ret
local macro_rules | `(tactic| ktr_enter) => `(tactic| (refine' code_def ?k1 ?k2 ?k3 ?k4 ?k5 ?kA ?kF ?kK ?k6 ?k7 ?k8 ?k9 ?kB ?_ ?c2 ?c3 ?c4 ?c5; (case kA => exact rfl); (case kF => exact rfl); (case kK => assumption); (case k1 => k_asm); (case k2 => k_asm); (case k3 => k_asm); (case k4 => k_asm); (case k5 => k_asm); (case k6 => k_is); (case k7 => k_is); (case k8 => ktr_room); (case k9 => first | exact BindsTo.of_eq rfl | exact binds_K (by k_in) rfl (by k_is) rfl rfl rfl); (case c5 => decide); (case kB => exact locs rfl); (case c2 => exact rfl); (case c3 => exact rfl); (case c4 => exact rfl); k_whole; intro g' L' h' FG' F' N' B' X' T'; (try dsimp only); (try k_lift B'); (try k_fold)))
local macro_rules | `(tactic| k_room) => `(tactic| ktr_room)
local macro_rules | `(tactic| ktr_rel) => `(tactic| first | assumption | omega | decide)
theorem dec_state {u s s0 : Int} {p : Int × Int} (h0 : 0 < s) (hm : u.fmod 10 = 0) (h1 : s ≤ s0) (h2 : dec u s = p) : 0 ≤ s - 1 ∧ s - 1 ≤ s0 ∧ dec (u.fdiv 10) (s - 1) = p :=
  ⟨by omega, by omega, by rw [← dec_step h0 hm]; exact h2⟩
theorem dec_end {u s : Int} {p : Int × Int} (h : 0 ≤ s) (e : dec u s = p) (hm : ¬ (0 < s ∧ u.fmod 10 = 0)) : p = (u, s) := by
  rw [← e]
  refine dec_stop h ?_
  rcases Int.lt_or_eq_of_le h with h | h
  · exact .inr fun q => hm ⟨h, q⟩
  · exact .inl h.symm
set_option maxHeartbeats 20000000 in
theorem dec_rule {w : World} {mean : ExcName → Option Value} {mg mb : Str → Option Value} {u s : Int} (hs : 0 ≤ s) : Call2 w mean mg mb 70 (fun _ vs => ∃ t1 t2, vs = [.int u t1, .int s t2]) 1 (dec u s) := by
  (k_with_none; w_top off)
  unfold Call2
  k_fill
  intro dp un gd cn cs a ccd cl outer A₀ base h₀ L m news s vs Q E B F X N T hk hR hd hu hret
  obtain ⟨t1, t2, rfl⟩ := hR
  refine wpAny_call ?_
  k_dflt ktr_enter
  k_with "state" => exact dec_state (by omega) (by assumption) (by assumption) (by assumption)
  k_with "exec While BoolOp cons nil" => k_while_given ["units!", "scale!"] (fun u0 s0 _ u s => 0 ≤ s ∧ s ≤ s0 ∧ dec u s = dec u0 s0) (fun u0 s0 _ u s => s.toNat) "units" "scale"
  k_steps
  all_goals exact hret.use (by assumption) (by assumption) (by ktn_lt) (dec_end (by assumption) (by assumption) (by omega))
theorem dec0 (u : Int) : dec u 0 = (u, 0) := rfl
set_option maxHeartbeats 20000000 in
theorem dec1_rule {w : World} {mean : ExcName → Option Value} {mg mb : Str → Option Value} {u : Int} : Call2 w mean mg mb 70 (fun _ vs => ∃ t1, vs = [.int u t1]) 1 (u, 0) := by
  (k_with_none; w_top off)
  unfold Call2
  k_fill
  intro dp un gd cn cs a ccd cl outer A₀ base h₀ L m news s vs Q E B F X N T hk hR hd hu hret
  obtain ⟨t1, rfl⟩ := hR
  refine wpAny_call ?_
  k_dflt ktr_enter
  k_with "state" => exact dec_state (by omega) (by assumption) (by assumption) (by assumption)
  k_with "exec While BoolOp cons nil" => k_while_given ["units!", "scale!"] (fun u0 s0 _ u s => 0 ≤ s ∧ s ≤ s0 ∧ dec u s = dec u0 s0) (fun u0 s0 _ u s => s.toNat) "units" "scale"
  k_steps
  all_goals exact hret.use (by assumption) (by assumption) (by ktn_lt) (dec_end (by assumption) (by assumption) (by omega))
local macro_rules | `(tactic| walk_at "call ref") => `(tactic| (k_here; k_dflt ((show wpAny _ _ (call (Value.ref 70) [Value.int _ _, Value.int _ _]) _ _ _); (refine' Call2.use (dec_rule ?ok) ?k1 ?k2 ?k3 ?k4 ?k5 ?kK ⟨_, _, rfl⟩ ?kd ?ku ?_; (case k1 => k_asm); (case k2 => k_asm); (case k3 => k_asm); (case k4 => k_asm); (case k5 => k_asm); (case kK => first | exact rfl | assumption); (case ok => first | assumption | omega); (case kd => ktr_room); (case ku => ktr_units); intro D' t1' t2' c' h' tk' F' N' kcuLt; (try dsimp only); (try simp only [AllLt, and_true] at kcuLt); (try k_sweep); (try k_fold)))))
set_option maxHeartbeats 20000000 in
theorem times_rule {w : World} {mean : ExcName → Option Value} {mg mb : Str → Option Value} {u s v t : Int} (ok1 : u.natAbs < 2 ^ 500) (ok2 : v.natAbs < 2 ^ 500) (ok3 : (u * v).natAbs < 10 ^ 120) (ok4 : 0 ≤ s) (ok5 : 0 ≤ t) (ok6 : s + t ≤ 30) :
    Call2 w mean mg mb 84 (fun news vs => ∃ a b t1 t2 t3 t4 n1 n2, vs = [.ref a, .ref b] ∧ (a, tupO u s t1 t2 n1) ∈ news ∧ (b, tupO v t t3 t4 n2) ∈ news) 4 (dec (u * v) (s + t)) := by
  (k_with_none; w_top off)
  unfold Call2
  k_fill
  intro dp un gd cn cs a ccd cl outer A₀ base h₀ L m news s vs Q E B F X N T hk hR hd hu hret
  obtain ⟨_, _, _, _, _, _, _, _, rfl, _, _⟩ := hR
  have ok7 := fits_of ok3
  have ok8 := mulOk_500 ok1 ok2
  refine wpAny_call ?_
  k_dflt ktr_enter
  k_steps
  all_goals exact hret.same (by assumption) (by assumption) (by assumption) rfl
local macro_rules | `(tactic| walk_at "call ref") => `(tactic| (k_here; k_dflt ((show wpAny _ _ (call (Value.ref 84) [Value.ref _, Value.ref _]) _ _ _); (refine' Call2.use (times_rule ?o1 ?o2 ?o3 ?o4 ?o5 ?o6) ?k1 ?k2 ?k3 ?k4 ?k5 ?kK ⟨_, _, _, _, _, _, _, _, rfl, ?m1, ?m2⟩ ?kd ?ku ?_; (case k1 => k_asm); (case k2 => k_asm); (case k3 => k_asm); (case k4 => k_asm); (case k5 => k_asm); (case m1 => k_mem); (case m2 => k_mem); (case kK => first | exact rfl | assumption); (case o1 => ktr_rel); (case o2 => ktr_rel); (case o3 => ktr_rel); (case o4 => ktr_rel); (case o5 => ktr_rel); (case o6 => ktr_rel); (case kd => ktr_room); (case ku => ktr_units); intro D' t1' t2' c' h' tk' F' N' kcuLt; (try dsimp only); (try simp only [AllLt, and_true] at kcuLt); (try k_sweep); (try k_fold)))))
set_option maxHeartbeats 20000000 in
theorem quo_rule {w : World} {mean : ExcName → Option Value} {mg mb : Str → Option Value} {v : Int} (ok1 : v ≠ 0) (ok2 : v.natAbs < 2 ^ 500) :
    Call2 w mean mg mb 92 (fun news vs => ∃ a b t1 t2 t3 t4 n1 n2, vs = [.ref a, .ref b] ∧ (a, tupO 1 0 t1 t2 n1) ∈ news ∧ (b, tupO v 0 t3 t4 n2) ∈ news) 4 (quo v) := by
  (k_with_none; w_top off)
  unfold Call2
  k_fill
  intro dp un gd cn cs a ccd cl outer A₀ base h₀ L m news s vs Q E B F X N T hk hR hd hu hret
  obtain ⟨_, _, _, _, _, _, _, _, rfl, _, _⟩ := hR
  have ok3 := beq_false_of_ne ok1
  have ok4 := mulOk_500 (b := 10 ^ Int.toNat 0) ok2 (by decide)
  k_with "binaryOp FloorDiv int int" => (with_reducible refine floordiv_int ?fa ?_ (Or.inl (noPylong_500 ?fb ?fa)); (case fa => exact abs_ne (by assumption)); (case fb => exact abs_bound (by assumption)))
  refine wpAny_call ?_
  k_dflt ktr_enter
  k_steps
  all_goals first
    | exact hret.same (by assumption) (by assumption) (by assumption) (quo_n top_p (mul_p0 _) (by assumption)).symm
    | exact hret.same (by assumption) (by assumption) (by assumption) (quo_p top_p (mul_p0 _) (by assumption)).symm
local macro_rules | `(tactic| walk_at "call ref") => `(tactic| (k_here; k_dflt ((show wpAny _ _ (call (Value.ref 92) [Value.ref _, Value.ref _]) _ _ _); (refine' Call2.use (quo_rule ?o1 ?o2) ?k1 ?k2 ?k3 ?k4 ?k5 ?kK ⟨_, _, _, _, _, _, _, _, rfl, ?m1, ?m2⟩ ?kd ?ku ?_; (case k1 => k_asm); (case k2 => k_asm); (case k3 => k_asm); (case k4 => k_asm); (case k5 => k_asm); (case m1 => k_mem); (case m2 => k_mem); (case kK => first | exact rfl | assumption); (case o1 => ktr_rel); (case o2 => ktr_rel); (case kd => ktr_room); (case ku => ktr_units); intro D' t1' t2' c' h' tk' F' N' kcuLt; (try dsimp only); (try simp only [AllLt, and_true] at kcuLt); (try k_sweep); (try k_fold)))))
/-! ## a loop over a range whose turn changes one name that holds a pair of ints -/
def PairEnd (h₀ : Heap) (L : Addr) (x y : Str) (m₀ : Str → Option Value) (rest : List (Addr × Obj)) (p : Int × Int) (s s₂ : Shared) : Prop :=
  ∃ (D : Addr) (t1 t2 : Tok) (c : Nat) (h : Heap) (tk : Nat) (m : Str → Option Value), s₂ = { s with heap := h, toks := tk } ∧ Fr h₀ L h m ∧ m y = some (.ref D) ∧ (∀ z, z ≠ x → z ≠ y → m z = m₀ z) ∧
    News h₀ L h ((D, tupO p.1 p.2 t1 t2 c) :: rest) ∧ ∀ q ∈ rest, q.1 < D
def PairPost (h₀ : Heap) (L : Addr) (x y : Str) (m₀ : Str → Option Value) (rest : List (Addr × Obj)) (p : Int × Int) (s : Shared) (f : Flow) (s₂ : Shared) : Prop :=
  match f with
  | .next => PairEnd h₀ L x y m₀ rest p s s₂
  | _ => False
section
variable {prog : Program} {w : World} {A : Around} {E : Value → Shared → Prop} {s : Shared} {env : Env} {h₀ : Heap} {x : Str} {body : List Stmt} {Q : Flow → Shared → Prop}
theorem pair_fr {L : Addr} {h : Heap} {x y : Str} {m m₀ : Str → Option Value} {D : Addr} {v : Value} (hy : m y = some (.ref D)) (hm : ∀ z, z ≠ x → z ≠ y → m z = m₀ z) (F : Fr h₀ L h (fun z => if z = x then some v else m z)) :
    Fr h₀ L h (fun z => if z = x then some v else if z = y then some (.ref D) else m₀ z) := by
  have e : (fun z => if z = x then some v else if z = y then some (Value.ref D) else m₀ z) = fun z => if z = x then some v else m z := by
    funext z
    by_cases h1 : z = x
    · rw [if_pos h1, if_pos h1]
    · rw [if_neg h1, if_neg h1]
      by_cases h2 : z = y
      · rw [if_pos h2, h2, hy]
      · rw [if_neg h2, hm z h1 h2]
  rw [e]
  exact F
theorem pair_fr' {L : Addr} {h : Heap} {x y : Str} {m m₀ : Str → Option Value} {D : Addr} (hyx : y ≠ x) (hy : m y = some (.ref D)) (hm : ∀ z, z ≠ x → z ≠ y → m z = m₀ z) (F : Fr h₀ L h m) :
    Fr h₀ L h (fun z => if z = x then m x else if z = y then some (.ref D) else m₀ z) := by
  have e : (fun z => if z = x then m x else if z = y then some (Value.ref D) else m₀ z) = m := by
    funext z
    by_cases h1 : z = x
    · rw [if_pos h1, h1]
    · rw [if_neg h1]
      by_cases h2 : z = y
      · rw [if_pos h2, h2, hy]
      · rw [if_neg h2, hm z h1 h2]
  rw [e]
  exact F
set_option maxHeartbeats 20000000 in
theorem pair_range {r : Addr} {a₀ b₀ : Int} {t₀ u₀ v₀ : Tok} {m₀ : Str → Option Value} {news cst : List (Addr × Obj)} {D₀ : Addr} {t1 t2 : Tok} {c : Nat} {x0 y0 : Int} (y : Str) (g : Nat → Int × Int) (hg : g 0 = (x0, y0))
    (hh : A.handled = none) (hr : IsRange s.heap r a₀ b₀ 1 t₀ u₀ v₀) (hsmall : Builtin.Range.small a₀ b₀ 1 = true) (F : Fr h₀ env.locals s.heap m₀) (N : News h₀ env.locals s.heap news)
    (hD : (D₀, tupO x0 y0 t1 t2 c) ∈ news) (hcst : ∀ p ∈ cst, p ∈ news) (hlt : ∀ p ∈ cst, p.1 < D₀) (hyx : y ≠ x) (hy : m₀ y = some (.ref D₀))
    (turn : ∀ (i : Nat) (k : Int) t D t1 t2 c h tk own, i < (b₀ - a₀).toNat → Fr h₀ env.locals h (fun z => if z = x then some (.int k t) else if z = y then some (.ref D) else m₀ z) →
      News h₀ env.locals h ((D, tupO (g i).1 (g i).2 t1 t2 c) :: (cst ++ own)) → (∀ p ∈ own, p.1 ≠ D) →
      wpAny (model prog w) A (execs body env) (PairPost h₀ env.locals x y m₀ (cst ++ own) (g (i + 1)) { s with heap := h, toks := tk }) E { s with heap := h, toks := tk })
    (done : ∀ D t1 t2 c (u : Str → Option Value) h tk, Fr h₀ env.locals h (fun z => if z = x then u x else if z = y then some (.ref D) else m₀ z) →
      News h₀ env.locals h ((D, tupO (g (b₀ - a₀).toNat).1 (g (b₀ - a₀).toNat).2 t1 t2 c) :: cst) → (∀ q ∈ cst, q.1 < D) → Q .next { s with heap := h, toks := tk }) :
    wpAny (model prog w) A (pyIter (.ref r)) (fun it s₂ => LoopAtV prog w A h₀ env x body Q E it s₂) E s := by
  replace hD : (D₀, tupO (g 0).1 (g 0).2 t1 t2 c) ∈ news := by rw [hg]; exact hD
  refine wpAny_pyIter_range hr hsmall ?_
  have hsz := rangeSize_nat a₀ b₀
  generalize hn' : (b₀ - a₀).toNat = n at *
  have W : Walks prog w A s.heap.objs.size [s.heap.objs.size] [s.heap.objs.size] n (fun i v => i < n ∧ ∃ t, v = .int (a₀ + i * 1) t)
      (fun i h => IsRangeIter h s.heap.objs.size (a₀ + (i : Nat) * 1) ((n : Int) - (i : Nat)) 1) := (Walks.range hh _ a₀ 1 n).bound
  have hN : ∀ p ∈ (D₀, tupO (g 0).1 (g 0).2 t1 t2 c) :: cst, p ∈ news := fun p hp => by
    rcases List.mem_cons.mp hp with rfl | hp
    · exact hD
    · exact hcst p hp
  refine kdr_loop (fun i m nx => ∃ D t1 t2 c, nx = (D, tupO (g i).1 (g i).2 t1 t2 c) :: cst ∧ m y = some (.ref D) ∧ (∀ z, z ≠ x → z ≠ y → m z = m₀ z) ∧ ∀ q ∈ cst, q.1 < D) (news := (D₀, tupO (g 0).1 (g 0).2 t1 t2 c) :: cst)
    W (fun _ h => h) (fun _ h => h) ?_ ?_ ?_ ?_ (by show IsRangeIter _ _ _ _ _; rw [hsz]; simpa using Heap.get?_push_size _ rfl) (F.push _) (fun p hp => ⟨Heap.get?_push_of_some _ (N p (hN p hp)).1, (N p (hN p hp)).2⟩)
    ⟨D₀, t1, t2, c, rfl, hy, (fun _ _ _ => rfl), hlt⟩ ?_ ?_
  · intro i h hi b hb
    rw [List.mem_singleton.mp hb]
    exact ⟨_, hi⟩
  · intro hm
    exact absurd F.ns.lt ((List.mem_singleton.mp hm) ▸ Nat.lt_irrefl _)
  · intro b hb
    rw [List.mem_singleton.mp hb]
    exact next_is_new F
  · intro p hp hI
    exact absurd (Heap.lt_size (N p (hN p hp)).1) ((List.mem_singleton.mp hI) ▸ Nat.lt_irrefl _)
  · rintro i v m₁ nx h tk own hi ⟨_, t, rfl⟩ hoff ⟨D, u1, u2, c', rfl, h1, h2, _⟩ F₁ N₁
    have hoD : ∀ p ∈ own, p.1 ≠ D := fun p hp => hoff p hp D (List.mem_cons.mpr (.inl rfl))
    refine wpAny_mono (turn i _ t D u1 u2 c' h tk own hi (pair_fr h1 h2 F₁) N₁ hoD) (fun f s₂ p => ?_) fun _ _ e => e
    cases f with
    | next =>
      obtain ⟨D', w1, w2, c2, h', tk', m', rfl, F', k1, k2, N', lt⟩ := p
      refine ⟨h', tk', m', _, (D', tupO (g (i + 1)).1 (g (i + 1)).2 w1 w2 c2) :: cst, rfl, F', N', fun q hq => ?_, fun q hq => ?_, fun q hq b hb => ?_, D', w1, w2, c2, rfl, k1, k2, fun q hq => lt q (List.mem_append.mpr (.inl hq))⟩
      · rcases List.mem_cons.mp hq with rfl | hq
        · exact .head _
        · exact .tail _ (List.mem_append.mpr (.inl hq))
      · exact .tail _ (List.mem_append.mpr (.inr hq))
      · rcases List.mem_cons.mp hb with rfl | hb
        · exact Nat.ne_of_lt (lt q (List.mem_append.mpr (.inr hq)))
        · exact hoff q hq b (List.mem_cons.mpr (.inr hb))
    | cont => exact p.elim
    | brk => exact p.elim
    | ret v => exact p.elim
  · rintro m₁ nx h tk ⟨D, u1, u2, c', rfl, h1, h2, h3⟩ F₁ N₁
    exact done D u1 u2 c' m₁ h tk (pair_fr' hyx h1 h2 F₁) N₁ h3
end
theorem pair_end {h₀ h : Heap} {L D : Addr} {x y : Str} {m m₀ : Str → Option Value} {rest nx : List (Addr × Obj)} {p : Int × Int} {s : Shared} {tk : Nat} {x1 x2 : Int} {t1 t2 : Tok} {c : Nat}
    (F : Fr h₀ L h m) (hy : m y = some (.ref D)) (hm : ∀ z, z ≠ x → z ≠ y → m z = m₀ z) (N : News h₀ L h ((D, tupO x1 x2 t1 t2 c) :: nx)) (hn : ∀ q ∈ rest, q ∈ nx) (lt : AllLt D rest) (e : p = (x1, x2)) :
    PairPost h₀ L x y m₀ rest p s .next { s with heap := h, toks := tk } := by
  subst e
  refine ⟨D, t1, t2, c, h, tk, m, rfl, F, hy, hm, fun q hq => ?_, ktn_ltOf lt⟩
  rcases List.mem_cons.mp hq with rfl | hq
  · exact N _ (.head _)
  · exact N _ (.tail _ (hn q hq))
theorem le_pow_self' {a k : Nat} (hk : 0 < k) : a ≤ a ^ k := by
  rcases Nat.eq_zero_or_pos a with rfl | h
  · exact Nat.zero_le _
  · calc a = a ^ 1 := (Nat.pow_one a).symm
      _ ≤ a ^ k := Nat.pow_le_pow_right h hk
theorem pow_le' {a i k : Nat} (h : i < k) : a ^ (i + 1) ≤ a ^ k := by
  rcases Nat.eq_zero_or_pos a with rfl | ha
  · rw [Nat.zero_pow (by omega)]; exact Nat.zero_le _
  · exact Nat.pow_le_pow_right ha h
theorem pow_le1 {a i k : Nat} (h : i < k) : a ^ i ≤ max 1 (a ^ k) := by
  rcases Nat.eq_zero_or_pos a with rfl | ha
  · rcases Nat.eq_zero_or_pos i with rfl | hi
    · simp; omega
    · rw [Nat.zero_pow hi]; exact Nat.zero_le _
  · exact Nat.le_trans (Nat.pow_le_pow_right ha (Nat.le_of_lt h)) (Nat.le_max_right _ _)
theorem ten_two : (10 : Nat) ^ 120 < 2 ^ 500 := by decide +kernel
structure LoopOk (u s : Int) (k : Nat) : Prop where
  s0 : 0 ≤ s
  sk : s * k ≤ 30
  uk : u.natAbs ^ k < 10 ^ 120
section
variable {u s : Int} {k i : Nat}
theorem LoopOk.si (o : LoopOk u s k) (i : Nat) : 0 ≤ s * (i : Int) := Int.mul_nonneg o.s0 (by omega)
theorem LoopOk.abs (o : LoopOk u s k) (i : Nat) : (dec (u ^ i) (s * i)).1.natAbs ≤ u.natAbs ^ i := by
  have := dec_abs (u ^ i) (o.si i)
  rwa [Int.natAbs_pow] at this
theorem LoopOk.o1 (o : LoopOk u s k) (hi : i < k) : (dec (u ^ i) (s * i)).1.natAbs < 2 ^ 500 := by
  have h1 := o.abs i
  have h2 := pow_le1 (a := u.natAbs) hi
  have h3 := o.uk
  have h4 := ten_two
  have h5 : max 1 (u.natAbs ^ k) ≤ 10 ^ 120 := Nat.max_le.mpr ⟨Nat.one_le_pow _ _ (by decide), Nat.le_of_lt h3⟩
  exact Nat.lt_of_le_of_lt (Nat.le_trans h1 (Nat.le_trans h2 h5)) h4
theorem LoopOk.o2 (o : LoopOk u s k) (hi : i < k) : u.natAbs < 2 ^ 500 :=
  Nat.lt_trans (Nat.lt_of_le_of_lt (le_pow_self' (by omega)) o.uk) ten_two
theorem LoopOk.o3 (o : LoopOk u s k) (hi : i < k) : ((dec (u ^ i) (s * i)).1 * u).natAbs < 10 ^ 120 := by
  rw [Int.natAbs_mul]
  refine Nat.lt_of_le_of_lt (Nat.mul_le_mul_right _ (o.abs i)) ?_
  rw [← Nat.pow_succ]
  exact Nat.lt_of_le_of_lt (pow_le' hi) o.uk
theorem LoopOk.o4 (o : LoopOk u s k) (i : Nat) : 0 ≤ (dec (u ^ i) (s * i)).2 := (dec_scale _ (o.si i)).1
theorem LoopOk.o6 (o : LoopOk u s k) (hi : i < k) : (dec (u ^ i) (s * i)).2 + s ≤ 30 := by
  have h1 := (dec_scale (u ^ i) (o.si i)).2
  have h2 : s * ((i : Int) + 1) ≤ s * k := Int.mul_le_mul_of_nonneg_left (by omega) o.s0
  rw [Int.mul_add, Int.mul_one] at h2
  have := o.sk
  omega
end
theorem abs_toNat {n : Int} (h : 0 ≤ n) : ((if n < 0 then -n else n) - 0).toNat = n.toNat := by
  split <;> omega
theorem abs_toNeg {n : Int} (h : n < 0) : ((if n < 0 then -n else n) - 0).toNat = (-n).toNat := by
  split <;> omega
theorem abs_small {n : Int} (h : -99 ≤ n) (h' : n ≤ 99) : Builtin.Range.small 0 (if n < 0 then -n else n) 1 = true :=
  small_one (by decide) (by decide) (by split <;> omega) (by split <;> omega)
theorem turn_fr {h₀ h : Heap} {L D : Addr} {x y : Str} {m₀ : Str → Option Value} {v : Value} {D₀ : Addr} {w : Value} (z : Str) (h1 : z ≠ x) (h2 : z ≠ y) :
    (if z = y then some w else if z = x then some v else if z = y then some (Value.ref D₀) else m₀ z) = m₀ z := by
  rw [if_neg h2, if_neg h1, if_neg h2]
def Here (P : Prop) : Prop := P
theorem Here.go {P : Prop} (h : Here P) : P := h
theorem pow_end {u s n : Int} (h : 0 ≤ n) : dec (u ^ n.toNat) (s * n) = dec (u ^ ((if n < 0 then -n else n) - 0).toNat) (s * ((((if n < 0 then -n else n) - 0).toNat : Nat) : Int)) := by
  rw [abs_toNat h, Int.toNat_of_nonneg h]
theorem pow0 (u s : Int) : dec (u ^ 0) (s * ((0 : Nat) : Int)) = (1, 0) := by
  rw [Int.pow_zero, show ((0 : Nat) : Int) = 0 from rfl, Int.mul_zero]; rfl
section
local macro_rules | `(tactic| k_mem) => `(tactic| first | exact List.Mem.tail _ (by assumption) | exact List.Mem.tail _ (List.Mem.tail _ (by assumption)) | exact List.Mem.tail _ (List.mem_append_left _ (by assumption)) | exact List.Mem.tail _ (List.Mem.tail _ (List.mem_append_left _ (by assumption))))
local macro_rules | `(tactic| walk_at "pyIter ref") => `(tactic| k_extra "my loop")
set_option maxHeartbeats 20000000 in
theorem power_posA {w : World} {mean : ExcName → Option Value} {mg mb : Str → Option Value} {u s n : Int} (ok0 : 0 ≤ n) (ok1 : n ≤ 99) (ok2 : u ≠ 0) (ok : LoopOk u s n.toNat) :
    Call2 w mean mg mb 99 (fun news vs => ∃ a b t1 t2 t3 t4 n1 n2, vs = [.ref a, .ref b] ∧ (a, tupO u s t1 t2 n1) ∈ news ∧ (b, tupO n 0 t3 t4 n2) ∈ news) 6 (dec (u ^ n.toNat) (s * n)) := by
  (k_with_none; w_top off)
  unfold Call2
  k_fill
  intro dp un gd cn cs a ccd cl outer A₀ base h₀ L m news st vs Q E B F X N T hk hR hd hu hret
  obtain ⟨_, _, _, _, _, _, _, _, rfl, ha, hb⟩ := hR
  refine wpAny_call ?_
  k_dflt ktr_enter
  k_with "my loop" => refine Here.go ?_
  k_steps
  all_goals first | exact absurd (by assumption) ok2 | skip
  all_goals
    unfold Here
    (rename Fr _ _ _ _ => lF')
    (rename News _ _ _ _ => lN')
    (rename IsRange _ _ _ _ _ _ _ _ => rgX)
    refine' pair_range (cst := news) (Str.ofString "found") (fun i => dec (u ^ i) (s * i)) (pow0 u s) rfl rgX (abs_small (by omega) (by omega)) lF' lN' (List.Mem.head _) (fun p hp => List.Mem.tail _ hp) (by assumption) (by decide) rfl ?turn ?done
    all_goals clear lF' lN' rgX
    case turn =>
      intro i kk tt D9 t19 t29 c9 h9 tk9 own9 hi9 F9 N9 ho9
      rw [abs_toNat ok0] at hi9
      have q1 := ok.o1 hi9
      have q2 := ok.o2 hi9
      have q3 := ok.o3 hi9
      have q4 := ok.o4 i
      have q5 := ok.s0
      have q6 := ok.o6 hi9
      try dsimp only at N9
      try dsimp only [envOf] at F9 N9
      (with_reducible show wpAny _ _ _ _ _ _)
      k_fold
      k_steps
      all_goals exact pair_end (by assumption) rfl (by intro z h1 h2; simp only [if_neg h1, if_neg h2]) (by assumption) (fun q hq => by first | exact hq | exact List.mem_cons_of_mem _ hq) (by first | ktn_lt | exact And.right ‹_ ∧ AllLt _ _›) (dec_pow_succ u ok.s0 i).symm
    case done =>
      intro D9 t19 t29 c9 u9 h9 tk9 F9 N9 lt9
      try dsimp only at F9 N9
      (with_reducible show wpAny _ _ _ _ _ _)
      try k_fold
      k_steps
      all_goals exact hret.same (by assumption) (by assumption) (allLt_of (by assumption)) (pow_end ok0)
set_option maxHeartbeats 20000000 in
theorem power_posB {w : World} {mean : ExcName → Option Value} {mg mb : Str → Option Value} {s n : Int} (ok0 : 0 ≤ n) (ok1 : n ≤ 99) (ok2 : 1 ≤ n) (ok : LoopOk 0 s n.toNat) :
    Call2 w mean mg mb 99 (fun news vs => ∃ a b t1 t2 t3 t4 n1 n2, vs = [.ref a, .ref b] ∧ (a, tupO 0 s t1 t2 n1) ∈ news ∧ (b, tupO n 0 t3 t4 n2) ∈ news) 6 (dec (0 ^ n.toNat) (s * n)) := by
  (k_with_none; w_top off)
  unfold Call2
  k_fill
  intro dp un gd cn cs a ccd cl outer A₀ base h₀ L m news st vs Q E B F X N T hk hR hd hu hret
  obtain ⟨_, _, _, _, _, _, _, _, rfl, ha, hb⟩ := hR
  refine wpAny_call ?_
  k_dflt ktr_enter
  k_with "my loop" => refine Here.go ?_
  k_steps
  all_goals
    unfold Here
    (rename Fr _ _ _ _ => lF')
    (rename News _ _ _ _ => lN')
    (rename IsRange _ _ _ _ _ _ _ _ => rgX)
    refine' pair_range (cst := news) (Str.ofString "found") (fun i => dec (0 ^ i) (s * i)) (pow0 0 s) rfl rgX (abs_small (by omega) (by omega)) lF' lN' (List.Mem.head _) (fun p hp => List.Mem.tail _ hp) (by assumption) (by decide) rfl ?turn ?done
    all_goals clear lF' lN' rgX
    case turn =>
      intro i kk tt D9 t19 t29 c9 h9 tk9 own9 hi9 F9 N9 ho9
      rw [abs_toNat ok0] at hi9
      have q1 := ok.o1 hi9
      have q2 := ok.o2 hi9
      have q3 := ok.o3 hi9
      have q4 := ok.o4 i
      have q5 := ok.s0
      have q6 := ok.o6 hi9
      try dsimp only at N9
      try dsimp only [envOf] at F9 N9
      (with_reducible show wpAny _ _ _ _ _ _)
      k_fold
      k_steps
      all_goals exact pair_end (by assumption) rfl (by intro z h1 h2; simp only [if_neg h1, if_neg h2]) (by assumption) (fun q hq => by first | exact hq | exact List.mem_cons_of_mem _ hq) (by first | ktn_lt | exact And.right ‹_ ∧ AllLt _ _›) (dec_pow_succ 0 ok.s0 i).symm
    case done =>
      intro D9 t19 t29 c9 u9 h9 tk9 F9 N9 lt9
      try dsimp only at F9 N9
      (with_reducible show wpAny _ _ _ _ _ _)
      try k_fold
      k_steps
      all_goals exact hret.same (by assumption) (by assumption) (allLt_of (by assumption)) (pow_end ok0)
end
theorem power_pos {w : World} {mean : ExcName → Option Value} {mg mb : Str → Option Value} {u s n : Int} (ok0 : 0 ≤ n) (ok1 : n ≤ 99) (ok2 : u ≠ 0 ∨ 1 ≤ n) (ok : LoopOk u s n.toNat) :
    Call2 w mean mg mb 99 (fun news vs => ∃ a b t1 t2 t3 t4 n1 n2, vs = [.ref a, .ref b] ∧ (a, tupO u s t1 t2 n1) ∈ news ∧ (b, tupO n 0 t3 t4 n2) ∈ news) 6 (dec (u ^ n.toNat) (s * n)) := by
  by_cases h : u = 0
  · subst h
    exact power_posB ok0 ok1 (by omega) ok
  · exact power_posA ok0 ok1 h ok
theorem news_drop {h₀ h : Heap} {L : Addr} {p q r : Addr × Obj} {news : List (Addr × Obj)} (N : News h₀ L h (p :: q :: r :: news)) : News h₀ L h (p :: news) := fun x hx => by
  rcases List.mem_cons.mp hx with rfl | hx
  · exact N _ (.head _)
  · exact N _ (.tail _ (.tail _ (.tail _ hx)))
theorem lt_drop {d : Nat} {p q : Prop} {news : List (Addr × Obj)} (h : p ∧ q ∧ AllLt d news) : AllLt d news := h.2.2
theorem dec_k0 (u : Int) (k : Nat) : dec (u ^ k) (0 * (k : Int)) = (u ^ k, 0) := by
  rw [Int.zero_mul]; rfl
theorem tup_k0 (u : Int) (k : Nat) (t1 t2 : Tok) (c : Nat) : tupO (dec (u ^ k) (0 * (k : Int))).1 (dec (u ^ k) (0 * (k : Int))).2 t1 t2 c = tupO (u ^ k) 0 t1 t2 c := by
  rw [dec_k0]
theorem pow_ne {u : Int} (h : u ≠ 0) (k : Nat) : u ^ k ≠ 0 := by
  induction k with
  | zero => rw [Int.pow_zero]; decide
  | succ k ih => rw [Int.pow_succ]; exact Int.mul_ne_zero ih h
theorem pow_abs500 {u : Int} {k : Nat} (h : u.natAbs ^ k < 10 ^ 120) : (u ^ k).natAbs < 2 ^ 500 := by
  rw [Int.natAbs_pow]; exact Nat.lt_trans h ten_two
section
local macro_rules | `(tactic| k_mem) => `(tactic| first | exact List.Mem.tail _ (by assumption) | exact List.Mem.tail _ (List.Mem.tail _ (by assumption)) | exact List.Mem.tail _ (List.mem_append_left _ (by assumption)) | exact List.Mem.tail _ (List.Mem.tail _ (List.mem_append_left _ (by assumption))))
local macro_rules | `(tactic| walk_at "pyIter ref") => `(tactic| k_extra "my loop")
set_option maxHeartbeats 20000000 in
theorem power_neg {w : World} {mean : ExcName → Option Value} {mg mb : Str → Option Value} {u n : Int} (ok0 : n < 0) (ok1 : -99 ≤ n) (ok2 : u ≠ 0) (ok : LoopOk u 0 (-n).toNat) :
    Call2 w mean mg mb 99 (fun news vs => ∃ a b t1 t2 t3 t4 n1 n2, vs = [.ref a, .ref b] ∧ (a, tupO u 0 t1 t2 n1) ∈ news ∧ (b, tupO n 0 t3 t4 n2) ∈ news) 6 (quo (u ^ (-n).toNat)) := by
  (k_with_none; w_top off)
  unfold Call2
  k_fill
  intro dp un gd cn cs a ccd cl outer A₀ base h₀ L m news st vs Q E B F X N T hk hR hd hu hret
  obtain ⟨_, _, _, _, _, _, _, _, rfl, ha, hb⟩ := hR
  have okA : (if n < 0 then -n else n) ≤ 99 := by split <;> omega
  refine wpAny_call ?_
  k_dflt ktr_enter
  k_with "my loop" => refine Here.go ?_
  k_steps
  all_goals first | exact absurd (by assumption) ok2 | skip
  all_goals
    unfold Here
    (rename Fr _ _ _ _ => lF')
    (rename News _ _ _ _ => lN')
    (rename IsRange _ _ _ _ _ _ _ _ => rgX)
    refine' pair_range (cst := news) (Str.ofString "found") (fun i => dec (u ^ i) (0 * i)) (pow0 u 0) rfl rgX (abs_small (by omega) (by omega)) lF' lN' (List.Mem.head _) (fun p hp => List.Mem.tail _ hp) (by assumption) (by decide) rfl ?turn ?done
    all_goals clear lF' lN' rgX
    case turn =>
      intro i kk tt D9 t19 t29 c9 h9 tk9 own9 hi9 F9 N9 ho9
      rw [abs_toNeg ok0] at hi9
      have q1 := ok.o1 hi9
      have q2 := ok.o2 hi9
      have q3 := ok.o3 hi9
      have q4 := ok.o4 i
      have q5 := ok.s0
      have q6 := ok.o6 hi9
      try dsimp only at N9
      try dsimp only [envOf] at F9 N9
      (with_reducible show wpAny _ _ _ _ _ _)
      k_fold
      k_steps
      all_goals exact pair_end (by assumption) rfl (by intro z h1 h2; simp only [if_neg h1, if_neg h2]) (by assumption) (fun q hq => by first | exact hq | exact List.mem_cons_of_mem _ hq) (by first | ktn_lt | exact And.right ‹_ ∧ AllLt _ _›) (dec_pow_succ u ok.s0 i).symm
    case done =>
      intro D9 t19 t29 c9 u9 h9 tk9 F9 N9 lt9
      try dsimp only at F9 N9
      rw [tup_k0, abs_toNeg ok0] at N9
      have r1 := pow_ne ok2 (-n).toNat
      have r2 := pow_abs500 ok.uk
      (with_reducible show wpAny _ _ _ _ _ _)
      try k_fold
      k_steps
      all_goals exact hret.same (by assumption) (news_drop (by assumption)) (lt_drop (by assumption)) rfl
end
/-! ## an own exception class whose `__init__` is its base's own -/
abbrev excO (C : Addr) (dd : Option Addr) (t : Addr) : Obj := { cls := .ref C, dict := dd, data := .fields #[.ref t, .none, .none, .none, .bool false, .none] }
/-- an address that no entry of the list bears -/
def Off (x : Addr) (l : List (Addr × Obj)) : Prop := ∀ p ∈ l, p.1 ≠ x
abbrev tupL (vs : List Value) : Obj := { cls := .type "tuple", data := .seq vs.toArray }
section
variable {prog : Program} {w : World} {A : Around} {R : Result → Shared → Prop} {h : Heap} {g : Array GenState} {d : Drawn} {t : Nat} {os : OsState}
variable {nm q : Str} {C N : Addr} {bs bm : List Value} {hdct : Bool} {sn : List Str} {sub : List Value} {ab : Bool} {col : Option Bool} {dd : Option Addr} {k0 k1 k2 k3 k5 : Option Value}
theorem exc_new (hE : bm.contains (.type "Exception") = true) (hA : bm.contains (.type "AttributeError") = false) (hN : bm.contains (.type "NameError") = false) {rest : List Value}
    (hC : h.get? C = some (excClassObj nm q C N bs bm hdct sn sub ab col dd k0 k1 k2 k3 k5 "Exception.__new__"))
    (hq : R (.ok (.ret (.ref (h.objs.size + 1)))) ⟨(h.push (tupL rest)).push (excO C none h.objs.size), g, d, t, os⟩) (hrest : rest.length ≤ sizeLine) :
    codeAny (model prog w) A (.builtin "Exception.__new__" ⟨.ref C :: rest, []⟩) R ⟨h, g, d, t, os⟩ := by
  have Fn := PySem.F.excBase_Exception
  have hends := Fn.ends
  have cE : (Value.ref C :: bm).contains (.type "Exception") = true := by rw [List.contains_cons, hE, Bool.or_true]
  have cA : (Value.ref C :: bm).contains (.type "AttributeError") = false := by rw [List.contains_cons, hA]; rfl
  have cN : (Value.ref C :: bm).contains (.type "NameError") = false := by rw [List.contains_cons, hN]; rfl
  refine codeAny_builtinAt Fn.entry ?_
  unfold Builtin.«BaseException.__new__»
  refine PySem.wpAt_bind ?_
  show PySem.wpAt _ _ _ (stack >>= _) _ _ _
  refine PySem.wpAt_bind (PySem.wpAt_stack fun p below => PySem.wpAt_of_wpAny ?_)
  wp_walk
  refine PySem.wpAt_of_wpAny ?_
  rw [Fn.owner]
  repeat (first | with_reducible refine wpAny_madeHere_exc Fn.canon hC ?_ | with_reducible refine wpAny_loadPart_at hC ?_ | (with_reducible refine wpAny_isSubtype_exc hC ?_; first | rw [cE] | rw [cA] | rw [cN]) | wp_step)
  show R _ _
  rw [Heap.size_push]
  exact hq
end
section
variable {prog : Program} {w : World} {A : Around} {E : Value → Shared → Prop} {s : Shared} {K : Frag} {h₀ : Heap} {L : Addr} {m : Str → Option Value} {news : List (Addr × Obj)}
variable {nm q : Str} {C N fI : Addr} {bs bm : List Value} {hdct : Bool} {sn : List Str} {sub : List Value} {ab : Bool} {col : Option Bool} {dd : Option Addr} {k0 k1 k2 k3 k5 : Option Value}
theorem exc_make {R : Result → Shared → Prop} {rest : List Value} (hE : bm.contains (.type "Exception") = true) (hA : bm.contains (.type "AttributeError") = false) (hN : bm.contains (.type "NameError") = false)
    (F : Fr h₀ L s.heap m) (X₀ : K.In h₀) (NW : News h₀ L s.heap news) (hK : K.lookup C = some (excClassObj nm q C N bs bm hdct sn sub ab col dd k0 k1 k2 k3 k5 "Exception.__new__"))
    (hi : findIn K (.ref C) "__init__" = some (some (.ref fI))) (hf : isFn K (.ref fI) = true) (hrest : rest.length ≤ sizeLine)
    (hq : ∀ e tt h', Fr h₀ L h' m → News h₀ L h' ((e, excO C none tt) :: (tt, tupL rest) :: news) → Off e ((tt, tupL rest) :: news) →
      codeAny (model prog w) (A.under (.builtin "type.__call__" ⟨.ref C :: rest, []⟩)) (.call (.ref fI) ⟨.ref e :: rest, []⟩) (InitBack e R) { s with heap := h' }) :
    codeAny (model prog w) A (.call (.ref C) ⟨rest, []⟩) R s := by
  obtain ⟨hh, g, d, t, os⟩ := s
  have X := X₀.keeps F.keep
  have hC : hh.get? C = _ := X _ _ hK
  have Fn := PySem.F.excBase_Exception
  have f1 := tc_lookup
  have f2 := tc_bind (.ref C)
  have hT : (⟨hh, g, d, t, os⟩ : Shared).TypeIs (.ref C) "type" := ⟨_, hC, rfl⟩
  refine codeAny_of_tree ?_
  show wpAny _ _ (callAny (.ref C) _) _ _ _
  repeat (any_goals (first | assumption | with_reducible refine wpAny_loadPart_at hC ?_ | wp_step))
  refine ⟨rfl, ?_⟩
  refine codeAny_call_builtin_at (Code.quiet_builtin _ (by decide +kernel)) entry_typeCall (wpAny_check_type_call_sub hC ?_)
  repeat (first | with_reducible refine wpAny_loadPart_at hC ?_ | with_reducible refine wpAny_madeBy_exc hC ?_ | wp_step)
  refine codeAny_call_builtin_code (Code.quiet_builtin _ Fn.quiet) (wpAny_check_new_subU Fn hE .base hC ?_)
  refine exc_new hE hA hN hC ?_ hrest
  show wpAny _ _ _ _ _ _
  have k : ∀ b o, hh.get? b = some o → ((hh.push (tupL rest)).push (excO C none hh.objs.size)).get? b = some o := fun b o e => Heap.get?_push_of_some _ (Heap.get?_push_of_some _ e)
  have hC₁ := k _ _ hC
  have X₁ : K.In ((hh.push (tupL rest)).push (excO C none hh.objs.size)) := X.keeps k
  have hget : ((hh.push (tupL rest)).push (excO C none hh.objs.size)).get? (hh.objs.size + 1) = some (excO C none hh.objs.size) := by heap_get
  have hcC : (Value.ref C :: bm).contains (.ref C) = true := by simp
  unfold isInstance
  repeat (first | with_reducible refine wpAny_loadPart_at hget ?_ | wp_step)
  show wpAny _ _ (isSubtype (.ref C) (.ref C)) _ _ _
  refine wpAny_isSubtype_exc hC₁ ?_
  rw [hcC]
  repeat (first | with_reducible refine wpAny_loadPart_at hget ?_ | wp_step)
  show wpAny _ _ (typeLookup (.ref C) _) _ _ _
  refine (looks_findIn X₁ hi).here ?_
  refine wpAny_holding (wpAny_bind ((bind_fn X₁ _ (beq_iff_eq.mp hf)).here ?_))
  have N₁ := (NW.push F (tupL rest)).push (F.push _) (excO C none hh.objs.size)
  rw [Heap.size_push] at N₁
  refine wpAny_bind (wpAny_call (codeAny_mono (hq _ hh.objs.size _ ((F.push _).push _) N₁ (fun p hp => by
    rcases List.mem_cons.mp hp with rfl | hp
    · exact Nat.ne_of_lt (Nat.lt_succ_self _)
    · exact Nat.ne_of_lt (Nat.lt_succ_of_lt (Heap.lt_size (NW p hp).1)))) fun r s' z => ?_))
  rcases r with e | (v | _ | _ | _) <;> first | exact z | exact z.elim | skip
  obtain ⟨rfl, z⟩ := z
  wp_walk
  exact z
end
/-! ## `Exception.__init__`, and a name stored on an object of an own exception class -/
section
variable {prog : Program} {w : World} {A : Around} {E : Value → Shared → Prop} {s : Shared} {K : Frag} {h₀ : Heap} {L x C D : Addr} {m : Str → Option Value} {news pre post : List (Addr × Obj)}
variable {name : Str} {v : Value} {dd : Option Addr} {tt : Addr} {cd : ClassData}
theorem check_init {M : Model} {nm q : Str} {N : Addr} {bs bm : List Value} {hdct : Bool} {sn : List Str} {sub : List Value} {ab : Bool} {col : Option Bool} {k0 k1 k2 k3 k5 : Option Value} {hh : Heap} {g : Array GenState} {d : Drawn} {t : Nat} {os : OsState}
    {Q : Unit → Shared → Prop} (hE : bm.contains (.type "Exception") = true) (hC : hh.get? C = some (excClassObj nm q C N bs bm hdct sn sub ab col none k0 k1 k2 k3 k5 "Exception.__new__"))
    (hx : hh.get? x = some (excO C dd tt)) (hq : Q () ⟨hh, g, d, t, os⟩) : wpAny M A (checkBuiltinCall "Exception.__init__" ⟨[.ref x, v], []⟩) Q E ⟨hh, g, d, t, os⟩ := by
  have Fn := PySem.F.excBase_Exception
  have cE : (Value.ref C :: bm).contains (.type "Exception") = true := by rw [List.contains_cons, hE, Bool.or_true]
  have short := Fn.noStar
  simp only [checkBuiltinCall, Fn.initKind, Fn.initSplit, Fn.initRow]
  repeat (first | with_reducible refine wpAny_loadPart_at hx ?_ | with_reducible refine wpAny_loadPart_at hC ?_ | (with_reducible refine wpAny_isSubtype_exc hC ?_; rw [cE]) | wp_step)
  exact hq
theorem exc_init {Q : Value → Shared → Prop} (F : Fr h₀ L s.heap m) (X₀ : K.In h₀) (N : News h₀ L s.heap ((x, excO C none tt) :: post)) (hp : Off x post) {nm q : Str} {Nn : Addr} {bs bm : List Value} {hdct : Bool} {sn : List Str} {sub : List Value} {ab : Bool} {col : Option Bool} {k0 k1 k2 k3 k5 : Option Value}
    (hE : bm.contains (.type "Exception") = true) (hK : K.lookup C = some (excClassObj nm q C Nn bs bm hdct sn sub ab col none k0 k1 k2 k3 k5 "Exception.__new__"))
    (h : ∀ t' h', Fr h₀ L h' m → News h₀ L h' ((x, excO C none t') :: (t', tupL [v]) :: post) → Off x ((t', tupL [v]) :: post) → Off t' post → Q .none { s with heap := h' }) :
    wpAny (model prog w) A (call (.builtin "Exception.__init__") [.ref x, v]) Q E s := by
  obtain ⟨hh, g, d, t, os⟩ := s
  have X := X₀.keeps F.keep
  have Fn := PySem.F.excBase_Exception
  have hx : hh.get? x = some (excO C none tt) := (N _ (.head _)).1
  refine wpAny_call (codeAny_call_builtin Fn.init.plain Fn.initEntry (check_init hE (X _ _ hK) hx ?_))
  have NP := N.push F (tupL [v])
  have N₁ : News h₀ L (hh.push (tupL [v])) ([] ++ (x, excO C none tt) :: (hh.objs.size, tupL [v]) :: post) := fun p hq => by
    rcases List.mem_cons.mp hq with rfl | hq
    · exact NP _ (List.Mem.tail _ (List.Mem.head _))
    · rcases List.mem_cons.mp hq with rfl | hq
      · exact NP _ (List.Mem.head _)
      · exact NP _ (List.Mem.tail _ (List.Mem.tail _ hq))
  have lx : x < hh.objs.size := Heap.lt_size hx
  obtain ⟨U1, U2⟩ := news_upd (d := x) (o' := excO C none hh.objs.size) (f := Obj.mapFields (·.setIfInBounds 0 (.ref hh.objs.size))) (F.push (tupL [v])) N₁ (fun _ h => nomatch h)
    (fun p hq => by
      rcases List.mem_cons.mp hq with rfl | hq
      · exact Nat.ne_of_gt lx
      · exact hp p hq) rfl rfl
  have hx₁ : (hh.push (tupL [v])).get? x = some (excO C none tt) := Heap.get?_push_of_some _ hx
  wp_walk
  exact h hh.objs.size _ U1 U2 (fun p hq => by
    rcases List.mem_cons.mp hq with rfl | hq
    · exact Nat.ne_of_gt lx
    · exact hp p hq) fun p hq => Nat.ne_of_lt (Heap.lt_size (N p (.tail _ hq)).1)
theorem put_in {Q : PySem.Fin → Shared → Prop} {es es' : List DictEntry} {n n' : Nat} {tk : Tok} (F : Fr h₀ L s.heap m) (N : News h₀ L s.heap (pre ++ (D, dictOf es n) :: post)) (h1 : ∀ p ∈ pre, p.1 ≠ D) (h2 : ∀ p ∈ post, p.1 ≠ D)
    (hl : (getL name es).isSome = true) (e : (putL name (PyData.keyHash w.params name) (.str name s.toks) v es, putN name es n) = (es', n')) (hz : es'.length ≤ 1000)
    (h : ∀ h', Fr h₀ L h' m → News h₀ L h' (pre ++ (D, dictOf es' n') :: post) → Q (.done (.ret .none)) { s with heap := h', toks := s.toks + 1 }) :
    wpAny (model prog w) A (Builtin.ObjectAttr.storeInDict D (.str name tk) name v) Q E s := by
  obtain ⟨e1, e2⟩ := Prod.mk.inj e
  obtain ⟨U1, U2⟩ := news_upd (f := Obj.putName name (PyData.keyHash w.params name) (.str name s.toks) v) F N h1 h2 (by rw [putName_dict, e1, e2]) rfl
  have G := (N (D, dictOf es n) (by simp)).1
  have G' := (U2 (D, dictOf es' n') (by simp)).1
  unfold Builtin.ObjectAttr.storeInDict Builtin.ObjectAttr.newKeyGuard
  refine wpAny_bind (wpAny_pure (wpAny_bind ?_))
  unfold nsSet
  refine wpAny_bind (wpAny_bind (wpAny_askSetting (wpAny_pure (wpAny_bind (wpAny_mkText (wpAny_bind (wpAny_loadPart G ?_)))))))
  dsimp only
  have c : (!es.toArray.any (·.key.isStr name) && es.toArray.any (·.refKey)) = false := by
    rw [← Array.any_toList, ← Array.any_toList]
    unfold getL at hl
    split at hl
    · rename_i en he
      rw [List.any_eq_true.mpr ⟨en, List.mem_of_find?_eq_some he, List.find?_some he⟩]; rfl
    · split at hl
      · cases hl
      · rename_i z; rw [Bool.not_eq_true] at z; rw [z, Bool.and_false]
  rw [aRefKeyMayBeTheName_at, c]
  refine wpAny_updatePart G ?_
  refine wpAny_bind (wpAny_lookBehind G' (pastItsLine_dict (by rw [List.size_toArray, sizeLine_eq]; omega)) ?_)
  exact wpAny_pure (h _ U1 U2)
theorem look_at {α : Type} {M : Model} {A : Around} {t : Sem α} {r : α} {Q : α → Shared → Prop} {E : Value → Shared → Prop} {s : Shared} {h : Heap} (x : Looks M h t r) (q : Q r s) (e : h = s.heap := by rfl) : wpAny M A t Q E s := by
  subst e; exact x.here q
theorem set_open (F : Fr h₀ L s.heap m) (X₀ : K.In h₀) {B : Addr} (hx : s.heap.get? x = some (excO C dd tt)) (hs : findIn K (.ref C) "__setattr__" = some (some (.builtin "object.__setattr__")))
    (hcd : clsIn K C = some cd) (hmro : cd.mro = [.ref C, .ref B, .type "Exception", .type "BaseException", .type "object"]) (hn : findIn K (.ref C) name = some none) {Q : Unit → Shared → Prop}
    (h : ∀ b, wpAny (model prog w) A.in1 (Builtin.ObjectAttr.storeInOwnDict (.ref x) (.ref C) (.str name s.toks) name v b) (fun fin s' => match fin with | .done (.ret _) => Q () s' | _ => False) (fun e s' => E e s') { s with toks := s.toks + 1 }) :
    wpAny (model prog w) A (setAttr (.ref x) name v) Q E s := by
  have X := X₀.keeps F.keep
  have ty : Looks (model prog w) s.heap (typeOf (.ref x)) (.ref C) := (Looks.ld hx).andThen .now
  have SF := PySem.F.store_Exception
  refine wpAny_bind (wpAny_mkText (wpAny_bind (wpAny_bind (wpAny_bind (ty _ _ _ _ (fun _ _ e => e) (looks_findIn X hs _ _ _ _ (fun _ _ e => e) (wpAny_holding ?_)))))))
  rw [PySem.F.store_object.slot.bind]
  refine wpAny_bind (wpAny_pure (wpAny_bind (wpAny_call ?_)))
  have sub : Looks (model prog w) s.heap (isInstance (.ref x) (.type "object")) true := ty.andThen (looks_mroIn X (by unfold mroIn; rw [hcd, Option.bind_some, hmro]; rfl))
  refine codeAny_call_builtin SF.slot.plain SF.entry (@check_slot (model prog w) _ _ { s with toks := s.toks + 1 } "object.__setattr__" "object" "__setattr__" (.ref x) [.str name s.toks, v] [] _ SF.kind SF.split sub (SF.args (.ref x) (.str name s.toks) v) ?_)
  have hm : Looks (model prog w) s.heap (mroOf (.ref C)) cd.mro := (looks_clsIn X hcd).andThen .now
  show wpAny _ _ (Builtin.«object.__setattr__» ⟨[.ref x, .str name s.toks, v], []⟩) _ _ _
  rw [osa_eq, refuse_eq]
  refine wpAny_bind (wpAny_bind (look_at ty (wpAny_bind (look_at hm ?_))))
  rw [hmro, refuseLoop_ref, refuseLoop_ref, SF.passes]
  refine wpAny_pure (wpAny_bind (look_at ty (wpAny_bind (look_at (looks_findIn X hn) (wpAny_bind (wpAny_pure ?_))))))
  refine wpAny_mono (h _) (fun fin s' z => ?_) fun _ _ z => z
  rcases fin with (_ | _ | _ | _) | _ <;> first | exact z | exact z.elim | skip
  all_goals exact wpAny_pure (wpAny_pure z)
theorem set_more {es : List DictEntry} {n : Nat} (F : Fr h₀ L s.heap m) (X₀ : K.In h₀) (N : News h₀ L s.heap ((x, excO C (some D) tt) :: (D, dictOf es n) :: post)) (hxD : x ≠ D) (hp : Off D post)
    (hs : findIn K (.ref C) "__setattr__" = some (some (.builtin "object.__setattr__"))) (hcd : clsIn K C = some cd) {B : Addr} (hmro : cd.mro = [.ref C, .ref B, .type "Exception", .type "BaseException", .type "object"])
    (hd : cd.hasDict = true) (hn : findIn K (.ref C) name = some none) (hl : (getL name es).isSome = true) (hz : (putL name (PyData.keyHash w.params name) (.str name (s.toks + 1)) v es).length ≤ 1000) {Q : Unit → Shared → Prop}
    (h : ∀ h' tk' es' n', Fr h₀ L h' m → News h₀ L h' ((x, excO C (some D) tt) :: (D, dictOf es' n') :: post) → Q () { s with heap := h', toks := tk' }) :
    wpAny (model prog w) A (setAttr (.ref x) name v) Q E s := by
  have X := X₀.keeps F.keep
  have hx := (N _ (.head _)).1
  refine set_open F X₀ hx hs hcd hmro hn fun b => ?_
  refine wpAny_bind (wpAny_pure (wpAny_bind (wpAny_bind (wpAny_loadPart hx (wpAny_bind (look_at (looks_clsIn X hcd) ?_))))))
  rw [hd]
  refine wpAny_pure (a := some D) ?_
  exact put_in (tk := s.toks) (s := { s with toks := s.toks + 1 }) (pre := [(x, excO C (some D) tt)]) F N (fun p hq => by rw [List.mem_singleton.mp hq]; exact hxD) hp hl rfl hz fun h' F' N' => h h' _ _ _ F' N'
theorem set_first (F : Fr h₀ L s.heap m) (X₀ : K.In h₀) (N : News h₀ L s.heap ((x, excO C none tt) :: post)) (hp : Off x post)
    (hs : findIn K (.ref C) "__setattr__" = some (some (.builtin "object.__setattr__"))) (hcd : clsIn K C = some cd) {B : Addr} (hmro : cd.mro = [.ref C, .ref B, .type "Exception", .type "BaseException", .type "object"])
    (hd : cd.hasDict = true) (hn : findIn K (.ref C) name = some none) {Q : Unit → Shared → Prop}
    (h : ∀ D h' tk' t, Fr h₀ L h' m → News h₀ L h' ((x, excO C (some D) tt) :: (D, dictOf [⟨PyData.keyHash w.params name, .str name t, v⟩] 1) :: post) → x ≠ D → Off D post → Q () { s with heap := h', toks := tk' }) :
    wpAny (model prog w) A (setAttr (.ref x) name v) Q E s := by
  have X := X₀.keeps F.keep
  have hx := (N _ (.head _)).1
  have lx : x < s.heap.objs.size := Heap.lt_size hx
  have lp : ∀ p ∈ post, p.1 < s.heap.objs.size := fun p hq => Heap.lt_size (N p (.tail _ hq)).1
  have N₁ : News h₀ L (s.heap.push (dictOf [] 0)) ([] ++ (x, excO C none tt) :: (s.heap.objs.size, dictOf [] 0) :: post) := fun p hq => by
    have NP := N.push F (dictOf [] 0)
    rcases List.mem_cons.mp hq with rfl | hq
    · exact NP _ (List.Mem.tail _ (List.Mem.head _))
    · rcases List.mem_cons.mp hq with rfl | hq
      · exact NP _ (List.Mem.head _)
      · exact NP _ (List.Mem.tail _ (List.Mem.tail _ hq))
  obtain ⟨U1, U2⟩ := news_upd (d := x) (o' := excO C (some s.heap.objs.size) tt) (f := fun o => { o with dict := some s.heap.objs.size }) (F.push (dictOf [] 0)) N₁ (fun _ h => nomatch h)
    (fun p hq => by
      rcases List.mem_cons.mp hq with rfl | hq
      · exact Nat.ne_of_gt lx
      · exact hp p hq) rfl rfl
  refine set_open F X₀ hx hs hcd hmro hn fun b => ?_
  refine wpAny_bind (wpAny_pure (wpAny_bind (wpAny_bind (wpAny_loadPart hx (wpAny_bind (look_at (looks_clsIn X hcd) ?_))))))
  rw [hd]
  refine wpAny_bind (wpAny_alloc' ?_)
  refine wpAny_bind (wpAny_update' (Heap.get?_push_of_some _ hx) ?_)
  refine wpAny_pure (a := some s.heap.objs.size) ?_
  exact put_in (tk := s.toks) (s := { s with heap := _, toks := s.toks + 1 }) (pre := [(x, excO C (some s.heap.objs.size) tt)]) U1 U2 (fun p hq => by rw [List.mem_singleton.mp hq]; exact Nat.ne_of_lt lx) (fun p hq => Nat.ne_of_lt (lp p hq)) rfl rfl (Nat.le_of_ble_eq_true rfl) fun h' F' N' => h _ h' _ _ F' N' (Nat.ne_of_lt lx) (fun p hq => Nat.ne_of_lt (lp p hq))
end
/-! ## raising such an object, and leaving a frame with it in flight -/
section
variable {M : Model} {A : Around} {E : Value → Shared → Prop} {s : Shared} {env : Env}
variable {nm q : Str} {C N x : Addr} {bs bm : List Value} {hdct : Bool} {sn : List Str} {sub : List Value} {ab : Bool} {col : Option Bool} {cdd dd : Option Addr} {k0 k1 k2 k3 k5 : Option Value} {newId : String} {tt : Addr}
def Raised0 (E : Value → Shared → Prop) (v : Value) (s₁ : Shared) : Prop :=
  ∃ x C dd tt nm q N bs bm hdct sn sub ab col cdd k0 k1 k2 k3 k5 newId, v = .ref x ∧ s₁.heap.get? x = some (excO C dd tt) ∧ s₁.heap.get? C = some (excClassObj nm q C N bs bm hdct sn sub ab col cdd k0 k1 k2 k3 k5 newId) ∧
    bm.contains (.type "BaseException") = true ∧ E (.ref x) s₁
theorem raise_it {e : Expr} {pos : Pos} {Q : Flow → Shared → Prop} (hh : A.handled = none) (h : wpAny M A (eval e env) (Raised0 E) E s) : wpAny M A (exec (.Raise (some e) none pos) env) Q E s := by
  show wpAny M A (do standAt pos; raiseStmt env (some (do let v ← eval e env; standAt pos; pure v)) none) Q E s
  refine wpAny_bind (wpAny_standAt ?_)
  unfold raiseStmt
  refine wpAny_bind (wpAny_bind (wpAny_mono h (fun v s₁ h₁ => wpAny_bind (wpAny_standAt (wpAny_pure ?_))) fun _ _ z => z))
  obtain ⟨x, C, dd, tt, nm, q, N, bs, bm, hdct, sn, sub, ab, col, cdd, k0, k1, k2, k3, k5, newId, rfl, hx, hC, hb, hE⟩ := h₁
  have cB : (Value.ref C :: bm).contains (.type "BaseException") = true := by rw [List.contains_cons, hb, Bool.or_true]
  obtain ⟨hp, g, d, tk, os⟩ := s₁
  repeat (first | with_reducible refine wpAny_loadPart_at hx ?_ | with_reducible refine wpAny_loadPart_at hC ?_ | (with_reducible refine wpAny_isSubtype_exc hC ?_; rw [cB]) | wp_step)
  exact wpAny_raiseNew_none hh hE
theorem raised0_of {K : Frag} {h₀ : Heap} {L : Addr} {m : Str → Option Value} {news : List (Addr × Obj)} (F : Fr h₀ L s.heap m) (X₀ : K.In h₀) (NW : News h₀ L s.heap news) (hm : (x, excO C dd tt) ∈ news)
    (hK : K.lookup C = some (excClassObj nm q C N bs bm hdct sn sub ab col cdd k0 k1 k2 k3 k5 newId)) (hb : bm.contains (.type "BaseException") = true) (hE : E (.ref x) s) : Raised0 E (.ref x) s :=
  ⟨x, C, dd, tt, nm, q, N, bs, bm, hdct, sn, sub, ab, col, cdd, k0, k1, k2, k3, k5, newId, rfl, (NW _ hm).1, X₀.keeps F.keep _ _ hK, hb, hE⟩
end
section
variable {M : Model} {A : Around} {E : Value → Shared → Prop} {s' : Shared} {base g : Heap} {outer : List Env} {L a e t C : Addr} {m : Str → Option Value} {name : Str} {scope : Scope} {cd : Value} {Q : Unit → Shared → Prop} {news rest : List (Addr × Obj)} {dd : Option Addr} {vs : List Value}
theorem leave_own (K : Below A base outer g) (F : Fr g L s'.heap m) (N : News g L s'.heap news) (he : (e, excO C dd t) ∈ news) (ht : (t, tupL vs) ∈ news) (hr : ∀ p ∈ rest, p ∈ news) (re : Off e rest) (rt : Off t rest)
    (hQ : ∀ h', RaisedS base g outer e (.ref C) t vs rest h' → RaisedK base outer e (.ref C) t vs rest h' → g.UpToSlots h' → Q () { s' with heap := h' }) (hk : scope.kind = .function := by rfl) :
    wpAny M (A.deeper (envOf name scope L a cd)) (leaving (envOf name scope L a cd) (.ref e)) Q E s' := by
  have K' := K.push (name := name) (a := a) (cd := cd) F hk
  let fs : List Addr := e :: t :: (envOf name scope L a cd :: outer).filterMap (·.frame)
  have inF : ∀ b, b ∈ fs → b = e ∨ b = t ∨ b ∈ (envOf name scope L a cd :: outer).filterMap (·.frame) := fun b hb => by
    rcases List.mem_cons.mp hb with z | hb
    · exact .inl z
    · rcases List.mem_cons.mp hb with z | hb
      · exact .inr (.inl z)
      · exact .inr (.inr hb)
  have hin : ∀ env ∈ (envOf name scope L a cd :: outer), ∀ b, env.frame = some b → b ∈ fs := fun env h1 b h2 => .tail _ (.tail _ (List.mem_filterMap.mpr ⟨env, h1, h2⟩))
  have ge := (N _ he).2.2
  have gt := (N _ ht).2.2
  have st : base.StaysIn (hideAll s'.heap fs) := fun b o q => hideAll_get _ (K'.stays b o q) fun hm => by
    rcases inF b hm with rfl | rfl | hm
    · rw [fresh_of_stays K.stays ge] at q; cases q
    · rw [fresh_of_stays K.stays gt] at q; cases q
    · rw [(K'.frames.mem hm).1] at q; cases q
  have sg : ∀ b o, g.get? b = some o → b ∉ outer.filterMap (·.frame) → (hideAll s'.heap fs).get? b = some o := fun b o q nm => hideAll_get _ (F.keep b o q) fun hm => by
    rcases inF b hm with rfl | rfl | hm
    · rw [ge] at q; cases q
    · rw [gt] at q; cases q
    · rcases kts_mem hm with z | z
      · rw [z, kts_self F] at q; cases q
      · exact nm z
  have hl : ∀ q ∈ rest, (hideAll s'.heap fs).get? q.1 = some q.2 ∧ g.get? q.1 = none ∧ base.get? q.1 = none := fun q hq => by
    have hn := hr q hq
    have ne := re q hq
    have nt := rt q hq
    refine ⟨hideAll_get _ (N q hn).1 fun hm => ?_, (N q hn).2.2, fresh_of_stays K.stays (N q hn).2.2⟩
    rcases inF _ hm with z | z | hm
    · exact ne z
    · exact nt z
    · rcases kts_mem hm with z | z
      · exact (N q hn).2.1 z
      · obtain ⟨o, ho, _⟩ := (K.frames.mem z).2
        rw [(N q hn).2.2] at ho; cases ho
  refine wpAny_leaving_firstW (a0 := .ref t) K'.stack (funFrames_hide K'.frames hin) rfl (N _ he).1 (fun b o q => of_hideAll _ q) (hideAll_none _ (.head _)) rfl rfl rfl fun h' hL => ?_
  obtain ⟨k1, ⟨_, _, k2⟩, k3, k4⟩ := hL
  have R : RaisedS base g outer e (.ref C) t vs rest h' := ⟨⟨_, st, sg, hl, ⟨k1, hideAll_none _ (.head _), k2, k3⟩, hideAll_none _ (.tail _ (.head _))⟩, Heap.TupAt.of_slots ⟨_, _, (N _ ht).1, rfl, rfl⟩ k4⟩
  exact hQ h' R R.toK ((Heap.UpToSlots.of_keeps F.keep).trans k4)
end
theorem one_fits (v : Value) : [v].length ≤ sizeLine := by rw [PySem.sizeLine_eq]; exact Nat.le_of_ble_eq_true rfl
theorem meta_exc : typeOf (.type "Exception") = pure (.type "type") := by kernel_rfl
theorem Off.tail {x : Addr} {p : Addr × Obj} {l : List (Addr × Obj)} (h : Off x (p :: l)) : Off x l := fun q hq => h q (.tail _ hq)
local macro_rules | `(tactic| walk_at "exec Raise some none") => `(tactic| (k_here; refine raise_it rfl ?_))
local macro_rules | `(tactic| walk_at "call ref") => `(tactic| (k_here; k_dflt ((show wpAny _ _ (call (Value.ref 53) [_]) _ _ _); (refine wpAny_call ?_); (refine' exc_make ?hE ?hA ?hN ?F ?X ?N ?hK ?hi ?hf ?hr ?_; (case F => k_asm); (case X => k_asm); (case N => k_asm); (case hK => k_is); (case hi => k_is); (case hf => k_is); (case hE => rfl); (case hA => rfl); (case hN => rfl); (case hr => exact one_fits _); k_whole); intro x' t' h' F' N' o1; (try k_sweep); k_enter)))
local macro_rules | `(tactic| walk_at "call builtin:Exception.__init__") => `(tactic| (k_here; k_dflt (refine' exc_init ?F ?X ?N ?hp ?hE ?hK ?_; (case F => k_asm); (case X => k_asm); (case N => k_asm); (case hp => assumption); (case hK => k_is); (case hE => rfl); k_whole); intro t' h' F' N' o1 o2; (try k_sweep)))
local macro_rules | `(tactic| walk_at "setAttr ref") => `(tactic| (k_here; k_dflt (first
  | (refine' set_first ?F ?X ?N ?hp ?hs ?hcd ?hm ?hd ?hn ?_; (case F => k_asm); (case X => k_asm); (case N => k_asm); (case hp => assumption); (case hs => k_is); (case hcd => k_is); (case hm => exact rfl); (case hd => exact rfl); (case hn => k_is); k_whole; intro D' h' tk' t' F' N' o1 o2; (try k_sweep))
  | (refine' set_more ?F ?X ?N ?hx ?hp ?hs ?hcd ?hm ?hd ?hn ?hl ?hz ?_; (case F => k_asm); (case X => k_asm); (case N => k_asm); (case hx => assumption); (case hp => assumption); (case hs => k_is); (case hcd => k_is); (case hm => exact rfl); (case hd => exact rfl); (case hn => k_is); (case hl => exact rfl); (case hz => exact Nat.le_of_ble_eq_true rfl); k_whole; intro h' tk' es' n' F' N'; (try k_sweep)))))
local macro_rules | `(tactic| walk_at "Raised0") => `(tactic| (k_here; k_dflt (refine' raised0_of ?F ?X ?N ?hm ?hK ?hb ?_; (case F => k_asm); (case X => k_asm); (case N => k_asm); (case hm => k_mem); (case hK => k_is); (case hb => rfl); k_whole)))
local macro_rules | `(tactic| walk_at "getMethod type:Exception") => `(tactic| (k_here; refine' method_type ?F ?X ?m (by decide +kernel) ?e ?h ?_; (case F => k_asm); (case X => k_asm); (case m => exact meta_exc); (case e => k_dflt k_is); (case h => k_handed)))
local macro_rules | `(tactic| walk_at "leaving ref") => `(tactic| (k_here; (with_reducible rename KtsDicts _ _ => kdX); k_dflt (refine' leave_own ?K ?F ?N ?he ?ht ?hr ?re ?rt ?_; (case K => k_asm); (case F => k_asm); (case N => k_asm); (case he => exact List.Mem.head _); (case ht => exact List.Mem.tail _ (List.Mem.tail _ (List.Mem.head _))); (case re => exact Off.tail (Off.tail (by assumption))); (case rt => exact Off.tail (by assumption)); (case hr => exact fun p hp => List.Mem.tail _ (List.Mem.tail _ (List.Mem.tail _ (List.Mem.tail _ hp)))); k_whole); intro h' S' R' U'; (try dsimp only at S' R' U' ⊢)))
def CallR (w : World) (mean : ExcName → Option Value) (mg mb : Str → Option Value) (f : Addr) (Rel : List (Addr × Obj) → List Value → Prop) (k : Nat) (r : Bool) : Prop :=
  ∀ (dp un : Nat) (gd : Option (List Code)) (cn : Str) (cs : Scope) (a : Addr) (ccd : Value) (A₀ : Around) (h₀ : Heap) (L : Addr) (m : Str → Option Value) (news : List (Addr × Obj)) (s : Shared) (vs : List Value)
    (Q E : Value → Shared → Prop),
    Below A₀ h₀ [] h₀ → Fr h₀ L s.heap m → (hd.heap_39 w.params).In h₀ → News h₀ L s.heap news →
    Top hd.view_39 (looseW hd.view_39 [Str.ofString "LedgerError", Str.ofString "decimal", Str.ofString "quotient"]) mean mg mb h₀ → cs.kind = .function → Rel news vs →
    dp + k < recursionLimit → un + 8 * k < cLine → (∀ h tk, Fr h₀ L h m → News h₀ L h news → Q (.bool r) { s with heap := h, toks := tk }) →
    wpAny (model PySem.Challenge.rw_pb0220_01.row.prog w) (ktrTop dp un gd cn cs L a ccd [] []) (call (.ref f) vs) Q E s
theorem news_tail {h₀ h : Heap} {L : Addr} {q : Addr × Obj} {news : List (Addr × Obj)} (N : News h₀ L h (q :: news)) : News h₀ L h news := fun p hp => N p (.tail _ hp)
section
local macro_rules | `(tactic| k_mem) => `(tactic| first | exact List.Mem.tail _ (by assumption) | exact List.Mem.tail _ (List.Mem.tail _ (by assumption)))
set_option maxHeartbeats 20000000 in
theorem refuses {w : World} {mean : ExcName → Option Value} {mg mb : Str → Option Value} {u s n : Int} (ok : 99 < if n < 0 then -n else n) :
    CallR w mean mg mb 113 (fun news vs => ∃ a t1 t2 t3 n1, vs = [.ref a, .int n t3] ∧ (a, tupO u s t1 t2 n1) ∈ news) 12 true := by
  (k_with_none; w_top off)
  unfold CallR
  k_fill
  intro dp un gd cn cs a ccd A₀ h₀ L m news st vs Q E B F X N T hk hR hd hu hret
  obtain ⟨_, _, _, _, _, rfl, ha⟩ := hR
  refine wpAny_call ?_
  k_dflt (refine' code_defS0 ?k1 ?k2 ?k3 ?k4 ?k5 ?kA ?k6 ?k7 ?k8 ?k9 ?kB ?_ ?cK ?c2 ?c3 ?c4 ?c5; (case kA => exact rfl); (case k2 => k_asm); (case k1 => k_asm); (case k3 => k_asm); (case k4 => k_asm); (case k5 => k_asm); (case k6 => k_is); (case k7 => k_is); (case k8 => ktr_room); (case k9 => first | exact BindsTo.of_eq rfl | exact binds_K (by k_in) rfl (by k_is) rfl rfl rfl); (case kB => exact locs rfl); (case cK => assumption); (case c2 => exact rfl); (case c3 => exact rfl); (case c4 => exact rfl); (case c5 => decide); k_whole; intro g' L' h' FG' F' N' B' X' T' D'; (try dsimp only); (try k_lift B'); (try k_fold))
  k_steps
  all_goals exact hret _ _ (by assumption) (news_tail (by assumption))
set_option maxHeartbeats 20000000 in
theorem refuses0 {w : World} {mean : ExcName → Option Value} {mg mb : Str → Option Value} {s n : Int} (ok1 : n < 1) (ok2 : -99 ≤ n) :
    CallR w mean mg mb 113 (fun news vs => ∃ a t1 t2 t3 n1, vs = [.ref a, .int n t3] ∧ (a, tupO 0 s t1 t2 n1) ∈ news) 12 true := by
  (k_with_none; w_top off)
  unfold CallR
  k_fill
  intro dp un gd cn cs a ccd A₀ h₀ L m news st vs Q E B F X N T hk hR hd hu hret
  obtain ⟨_, _, _, _, _, rfl, ha⟩ := hR
  have okA : ¬ 99 < (if n < 0 then -n else n) := by split <;> omega
  refine wpAny_call ?_
  k_dflt (refine' code_defS0 ?k1 ?k2 ?k3 ?k4 ?k5 ?kA ?k6 ?k7 ?k8 ?k9 ?kB ?_ ?cK ?c2 ?c3 ?c4 ?c5; (case kA => exact rfl); (case k2 => k_asm); (case k1 => k_asm); (case k3 => k_asm); (case k4 => k_asm); (case k5 => k_asm); (case k6 => k_is); (case k7 => k_is); (case k8 => ktr_room); (case k9 => first | exact BindsTo.of_eq rfl | exact binds_K (by k_in) rfl (by k_is) rfl rfl rfl); (case kB => exact locs rfl); (case cK => assumption); (case c2 => exact rfl); (case c3 => exact rfl); (case c4 => exact rfl); (case c5 => decide); k_whole; intro g' L' h' FG' F' N' B' X' T' D'; (try dsimp only); (try k_lift B'); (try k_fold))
  k_steps
  all_goals exact hret _ _ (by assumption) (news_tail (by assumption))
end
/-- a whole number's power -/
def pw (b n : Int) : Int := b ^ n.toNat
def Pok (b n : Int) : Prop := b.natAbs ^ n.toNat < 10 ^ 120
def Tok2 (u v : Int) : Prop := u.natAbs < 2 ^ 500 ∧ v.natAbs < 2 ^ 500 ∧ (u * v).natAbs < 10 ^ 120
theorem loop_w {b n : Int} (h : Pok b n) : LoopOk b 0 n.toNat := ⟨Int.le_refl 0, by rw [Int.zero_mul]; decide, h⟩
theorem dec_w (b n : Int) : dec (b ^ n.toNat) (0 * n) = (pw b n, 0) := by rw [Int.zero_mul]; rfl
theorem power_w {w : World} {mean : ExcName → Option Value} {mg mb : Str → Option Value} {u n : Int} (ok0 : 0 ≤ n) (ok1 : n ≤ 99) (ok2 : u ≠ 0 ∨ 1 ≤ n) (ok : Pok u n) :
    Call2 w mean mg mb 99 (fun news vs => ∃ a b t1 t2 t3 t4 n1 n2, vs = [.ref a, .ref b] ∧ (a, tupO u 0 t1 t2 n1) ∈ news ∧ (b, tupO n 0 t3 t4 n2) ∈ news) 6 (pw u n, 0) := by
  have := power_pos (w := w) (mean := mean) (mg := mg) (mb := mb) ok0 ok1 ok2 (loop_w ok)
  rwa [dec_w] at this
theorem power_wn {w : World} {mean : ExcName → Option Value} {mg mb : Str → Option Value} {u n : Int} (ok0 : n < 0) (ok1 : -99 ≤ n) (ok2 : u ≠ 0) (ok : Pok u (-n)) :
    Call2 w mean mg mb 99 (fun news vs => ∃ a b t1 t2 t3 t4 n1 n2, vs = [.ref a, .ref b] ∧ (a, tupO u 0 t1 t2 n1) ∈ news ∧ (b, tupO n 0 t3 t4 n2) ∈ news) 6 (quo (pw u (-n))) :=
  power_neg ok0 ok1 ok2 (loop_w ok)
theorem times_w {w : World} {mean : ExcName → Option Value} {mg mb : Str → Option Value} {u v : Int} (ok : Tok2 u v) :
    Call2 w mean mg mb 84 (fun news vs => ∃ a b t1 t2 t3 t4 n1 n2, vs = [.ref a, .ref b] ∧ (a, tupO u 0 t1 t2 n1) ∈ news ∧ (b, tupO v 0 t3 t4 n2) ∈ news) 4 (u * v, 0) :=
  times_rule ok.1 ok.2.1 ok.2.2 (Int.le_refl 0) (Int.le_refl 0) (by decide)
/-- a decimal's power -/
def dpw (u s n : Int) : Int × Int := dec (u ^ n.toNat) (s * n)
theorem power_d {w : World} {mean : ExcName → Option Value} {mg mb : Str → Option Value} {u s n : Int} (ok0 : 0 ≤ n) (ok1 : n ≤ 99) (ok2 : u ≠ 0 ∨ 1 ≤ n) (ok : LoopOk u s n.toNat) :
    Call2 w mean mg mb 99 (fun news vs => ∃ a b t1 t2 t3 t4 n1 n2, vs = [.ref a, .ref b] ∧ (a, tupO u s t1 t2 n1) ∈ news ∧ (b, tupO n 0 t3 t4 n2) ∈ news) 6 (dpw u s n) :=
  power_pos ok0 ok1 ok2 ok
/-- what a product of two decimals asks -/
def Dok (u s v t : Int) : Prop := u.natAbs < 2 ^ 500 ∧ v.natAbs < 2 ^ 500 ∧ (u * v).natAbs < 10 ^ 120 ∧ 0 ≤ s ∧ 0 ≤ t ∧ s + t ≤ 30
def dtm (u s v t : Int) : Int × Int := dec (u * v) (s + t)
theorem times_d {w : World} {mean : ExcName → Option Value} {mg mb : Str → Option Value} {u s v t : Int} (ok : Dok u s v t) :
    Call2 w mean mg mb 84 (fun news vs => ∃ a b t1 t2 t3 t4 n1 n2, vs = [.ref a, .ref b] ∧ (a, tupO u s t1 t2 n1) ∈ news ∧ (b, tupO v t t3 t4 n2) ∈ news) 4 (dtm u s v t) :=
  times_rule ok.1 ok.2.1 ok.2.2.1 ok.2.2.2.1 ok.2.2.2.2.1 ok.2.2.2.2.2
local macro_rules | `(tactic| walk_at "call ref") => `(tactic| (k_here; k_dflt ((show wpAny _ _ (call (Value.ref 84) [Value.ref _, Value.ref _]) _ _ _); first
  | (refine' Call2.use (times_w ?o1) ?k1 ?k2 ?k3 ?k4 ?k5 ?kK ⟨_, _, _, _, _, _, _, _, rfl, ?m1, ?m2⟩ ?kd ?ku ?_; (case k1 => k_asm); (case k2 => k_asm); (case k3 => k_asm); (case k4 => k_asm); (case k5 => k_asm); (case m1 => k_mem); (case m2 => k_mem); (case kK => first | exact rfl | assumption); (case o1 => ktr_rel); (case kd => ktr_room); (case ku => ktr_units); intro D' t1' t2' c' h' tk' F' N' kcuLt; (try dsimp only at N'); (try dsimp only); (try simp only [AllLt, and_true] at kcuLt); (try k_sweep); (try k_fold))
  | (refine' Call2.use (times_d ?o1) ?k1 ?k2 ?k3 ?k4 ?k5 ?kK ⟨_, _, _, _, _, _, _, _, rfl, ?m1, ?m2⟩ ?kd ?ku ?_; (case k1 => k_asm); (case k2 => k_asm); (case k3 => k_asm); (case k4 => k_asm); (case k5 => k_asm); (case m1 => k_mem); (case m2 => k_mem); (case kK => first | exact rfl | assumption); (case o1 => ktr_rel); (case kd => ktr_room); (case ku => ktr_units); intro D' t1' t2' c' h' tk' F' N' kcuLt; (try dsimp only at N'); (try dsimp only); (try simp only [AllLt, and_true] at kcuLt); (try k_sweep); (try k_fold)))))
local macro_rules | `(tactic| walk_at "call ref") => `(tactic| (k_here; k_dflt ((show wpAny _ _ (call (Value.ref 99) [Value.ref _, Value.ref _]) _ _ _); first
  | (refine' Call2.use (power_w ?o1 ?o2 ?o3 ?o4) ?k1 ?k2 ?k3 ?k4 ?k5 ?kK ⟨_, _, _, _, _, _, _, _, rfl, ?m1, ?m2⟩ ?kd ?ku ?_; (case k1 => k_asm); (case k2 => k_asm); (case k3 => k_asm); (case k4 => k_asm); (case k5 => k_asm); (case m1 => k_mem); (case m2 => k_mem); (case kK => first | exact rfl | assumption); (case o1 => ktr_rel); (case o2 => ktr_rel); (case o3 => ktr_rel); (case o4 => ktr_rel); (case kd => ktr_room); (case ku => ktr_units); intro D' t1' t2' c' h' tk' F' N' kcuLt; (try dsimp only at N'); (try dsimp only); (try simp only [AllLt, and_true] at kcuLt); (try k_sweep); (try k_fold))
  | (refine' Call2.use (power_wn ?o1 ?o2 ?o3 ?o4) ?k1 ?k2 ?k3 ?k4 ?k5 ?kK ⟨_, _, _, _, _, _, _, _, rfl, ?m1, ?m2⟩ ?kd ?ku ?_; (case k1 => k_asm); (case k2 => k_asm); (case k3 => k_asm); (case k4 => k_asm); (case k5 => k_asm); (case m1 => k_mem); (case m2 => k_mem); (case kK => first | exact rfl | assumption); (case o1 => ktr_rel); (case o2 => ktr_rel); (case o3 => ktr_rel); (case o4 => ktr_rel); (case kd => ktr_room); (case ku => ktr_units); intro D' t1' t2' c' h' tk' F' N' kcuLt; (try dsimp only at N'); (try dsimp only); (try simp only [AllLt, and_true] at kcuLt); (try k_sweep); (try k_fold))
  | (refine' Call2.use (power_d ?o1 ?o2 ?o3 ?o4) ?k1 ?k2 ?k3 ?k4 ?k5 ?kK ⟨_, _, _, _, _, _, _, _, rfl, ?m1, ?m2⟩ ?kd ?ku ?_; (case k1 => k_asm); (case k2 => k_asm); (case k3 => k_asm); (case k4 => k_asm); (case k5 => k_asm); (case m1 => k_mem); (case m2 => k_mem); (case kK => first | exact rfl | assumption); (case o1 => ktr_rel); (case o2 => ktr_rel); (case o3 => ktr_rel); (case o4 => ktr_rel); (case kd => ktr_room); (case ku => ktr_units); intro D' t1' t2' c' h' tk' F' N' kcuLt; (try dsimp only at N'); (try dsimp only); (try simp only [AllLt, and_true] at kcuLt); (try k_sweep); (try k_fold)))))
local macro_rules | `(tactic| walk_at "call ref") => `(tactic| (k_here; k_dflt ((show wpAny _ _ (call (Value.ref 70) [Value.int _ _]) _ _ _); (refine' Call2.use dec1_rule ?k1 ?k2 ?k3 ?k4 ?k5 ?kK ⟨_, rfl⟩ ?kd ?ku ?_; (case k1 => k_asm); (case k2 => k_asm); (case k3 => k_asm); (case k4 => k_asm); (case k5 => k_asm); (case kK => first | exact rfl | assumption); (case kd => ktr_room); (case ku => ktr_units); intro D' t1' t2' c' h' tk' F' N' kcuLt; (try dsimp only at N'); (try dsimp only); (try simp only [AllLt, and_true] at kcuLt); (try k_sweep); (try k_fold)))))
section
local macro_rules | `(tactic| k_mem) => `(tactic| first | exact List.Mem.tail _ (by assumption) | exact List.Mem.tail _ (List.Mem.tail _ (by assumption)))
set_option maxHeartbeats 20000000 in
theorem accepts {w : World} {mean : ExcName → Option Value} {mg mb : Str → Option Value} {u n : Int} (ok0 : 0 ≤ n) (ok1 : n ≤ 99) (ok2 : u ≠ 0 ∨ 1 ≤ n) (ok : Pok u n) :
    CallR w mean mg mb 113 (fun news vs => ∃ a t1 t2 t3 n1, vs = [.ref a, .int n t3] ∧ (a, tupO u 0 t1 t2 n1) ∈ news) 12 false := by
  (k_with_none; w_top off)
  unfold CallR
  k_fill
  intro dp un gd cn cs a ccd A₀ h₀ L m news st vs Q E B F X N T hk hR hd hu hret
  obtain ⟨_, _, _, _, _, rfl, ha⟩ := hR
  refine wpAny_call ?_
  k_dflt (refine' code_defS0 ?k1 ?k2 ?k3 ?k4 ?k5 ?kA ?k6 ?k7 ?k8 ?k9 ?kB ?_ ?cK ?c2 ?c3 ?c4 ?c5; (case kA => exact rfl); (case k2 => k_asm); (case k1 => k_asm); (case k3 => k_asm); (case k4 => k_asm); (case k5 => k_asm); (case k6 => k_is); (case k7 => k_is); (case k8 => ktr_room); (case k9 => first | exact BindsTo.of_eq rfl | exact binds_K (by k_in) rfl (by k_is) rfl rfl rfl); (case kB => exact locs rfl); (case cK => assumption); (case c2 => exact rfl); (case c3 => exact rfl); (case c4 => exact rfl); (case c5 => decide); k_whole; intro g' L' h' FG' F' N' B' X' T' D'; (try dsimp only); (try k_lift B'); (try k_fold))
  k_steps
  all_goals exact hret _ _ (by assumption) (news_tail (news_tail (by assumption)))
set_option maxHeartbeats 20000000 in
theorem acceptsN {w : World} {mean : ExcName → Option Value} {mg mb : Str → Option Value} {u n : Int} (ok0 : n < 0) (ok1 : -99 ≤ n) (ok2 : u ≠ 0) (ok : Pok u (-n)) :
    CallR w mean mg mb 113 (fun news vs => ∃ a t1 t2 t3 n1, vs = [.ref a, .int n t3] ∧ (a, tupO u 0 t1 t2 n1) ∈ news) 12 false := by
  (k_with_none; w_top off)
  unfold CallR
  k_fill
  intro dp un gd cn cs a ccd A₀ h₀ L m news st vs Q E B F X N T hk hR hd hu hret
  obtain ⟨_, _, _, _, _, rfl, ha⟩ := hR
  refine wpAny_call ?_
  k_dflt (refine' code_defS0 ?k1 ?k2 ?k3 ?k4 ?k5 ?kA ?k6 ?k7 ?k8 ?k9 ?kB ?_ ?cK ?c2 ?c3 ?c4 ?c5; (case kA => exact rfl); (case k2 => k_asm); (case k1 => k_asm); (case k3 => k_asm); (case k4 => k_asm); (case k5 => k_asm); (case k6 => k_is); (case k7 => k_is); (case k8 => ktr_room); (case k9 => first | exact BindsTo.of_eq rfl | exact binds_K (by k_in) rfl (by k_is) rfl rfl rfl); (case kB => exact locs rfl); (case cK => assumption); (case c2 => exact rfl); (case c3 => exact rfl); (case c4 => exact rfl); (case c5 => decide); k_whole; intro g' L' h' FG' F' N' B' X' T' D'; (try dsimp only); (try k_lift B'); (try k_fold))
  k_steps
  all_goals exact hret _ _ (by assumption) (news_tail (news_tail (by assumption)))
end
theorem CallR.use {w : World} {mean : ExcName → Option Value} {mg mb : Str → Option Value} {f : Addr} {Rel : List (Addr × Obj) → List Value → Prop} {k : Nat} {r : Bool} (C : CallR w mean mg mb f Rel k r)
    {dp un : Nat} {gd : Option (List Code)} {cn : Str} {cs : Scope} {a : Addr} {ccd : Value} {A₀ : Around} {h₀ : Heap} {L : Addr} {m : Str → Option Value} {news : List (Addr × Obj)} {s : Shared} {vs : List Value}
    {Q E : Value → Shared → Prop} (B : Below A₀ h₀ [] h₀) (F : Fr h₀ L s.heap m) (X : (hd.heap_39 w.params).In h₀) (N : News h₀ L s.heap news)
    (T : Top hd.view_39 (looseW hd.view_39 [Str.ofString "LedgerError", Str.ofString "decimal", Str.ofString "quotient"]) mean mg mb h₀) (hk : cs.kind = .function) (R : Rel news vs)
    (hd : dp + k < recursionLimit) (hu : un + 8 * k < cLine) (ret : ∀ h tk, Fr h₀ L h m → News h₀ L h news → Q (.bool r) { s with heap := h, toks := tk }) :
    wpAny (model PySem.Challenge.rw_pb0220_01.row.prog w) (ktrTop dp un gd cn cs L a ccd [] []) (call (.ref f) vs) Q E s :=
  C _ _ _ _ _ _ _ _ _ _ _ _ _ _ _ _ B F X N T hk R hd hu ret
local macro_rules | `(tactic| walk_at "call ref") => `(tactic| (k_here; k_dflt ((show wpAny _ _ (call (Value.ref 113) [Value.ref _, Value.int _ _]) _ _ _); first
  | (refine' CallR.use (refuses ?o1) ?k1 ?k2 ?k3 ?k4 ?k5 ?kK ⟨_, _, _, _, _, rfl, ?m1⟩ ?kd ?ku ?_; (case k1 => k_asm); (case k2 => k_asm); (case k3 => k_asm); (case k4 => k_asm); (case k5 => k_asm); (case m1 => k_mem); (case kK => first | exact rfl | assumption); (case o1 => ktr_rel); (case kd => ktr_room); (case ku => ktr_units); intro h' tk' F' N'; (try dsimp only); (try k_sweep); (try k_fold))
  | (refine' CallR.use (refuses0 ?o1 ?o2) ?k1 ?k2 ?k3 ?k4 ?k5 ?kK ⟨_, _, _, _, _, rfl, ?m1⟩ ?kd ?ku ?_; (case k1 => k_asm); (case k2 => k_asm); (case k3 => k_asm); (case k4 => k_asm); (case k5 => k_asm); (case m1 => k_mem); (case kK => first | exact rfl | assumption); (case o1 => ktr_rel); (case o2 => ktr_rel); (case kd => ktr_room); (case ku => ktr_units); intro h' tk' F' N'; (try dsimp only); (try k_sweep); (try k_fold))
  | (refine' CallR.use (accepts ?o1 ?o2 ?o3 ?o4) ?k1 ?k2 ?k3 ?k4 ?k5 ?kK ⟨_, _, _, _, _, rfl, ?m1⟩ ?kd ?ku ?_; (case k1 => k_asm); (case k2 => k_asm); (case k3 => k_asm); (case k4 => k_asm); (case k5 => k_asm); (case m1 => k_mem); (case kK => first | exact rfl | assumption); (case o1 => ktr_rel); (case o2 => ktr_rel); (case o3 => ktr_rel); (case o4 => ktr_rel); (case kd => ktr_room); (case ku => ktr_units); intro h' tk' F' N'; (try dsimp only); (try k_sweep); (try k_fold))
  | (refine' CallR.use (acceptsN ?o1 ?o2 ?o3 ?o4) ?k1 ?k2 ?k3 ?k4 ?k5 ?kK ⟨_, _, _, _, _, rfl, ?m1⟩ ?kd ?ku ?_; (case k1 => k_asm); (case k2 => k_asm); (case k3 => k_asm); (case k4 => k_asm); (case k5 => k_asm); (case m1 => k_mem); (case kK => first | exact rfl | assumption); (case o1 => ktr_rel); (case o2 => ktr_rel); (case o3 => ktr_rel); (case o4 => ktr_rel); (case kd => ktr_room); (case ku => ktr_units); intro h' tk' F' N'; (try dsimp only); (try k_sweep); (try k_fold)))))
/-! ## a statement of the law's body by itself -/
def CutPost (h₀ : Heap) (L : Addr) (m : Str → Option Value) (news : List (Addr × Obj)) (s : Shared) (f : Flow) (s₂ : Shared) : Prop :=
  f = .next ∧ ∃ h tk, s₂ = { s with heap := h, toks := tk } ∧ Fr h₀ L h m ∧ News h₀ L h news
theorem cut_end {h₀ h : Heap} {L : Addr} {m : Str → Option Value} {news nx : List (Addr × Obj)} {s : Shared} {tk : Nat} (F : Fr h₀ L h m) (N : News h₀ L h nx) (hs : ∀ p ∈ news, p ∈ nx) :
    CutPost h₀ L m news s .next { s with heap := h, toks := tk } := ⟨rfl, h, tk, rfl, F, fun p hp => N p (hs p hp)⟩
theorem cut_stmt {M : Model} {A : Around} {E : Value → Shared → Prop} {s : Shared} {Q : Flow → Shared → Prop} {st : Stmt} {rest : List Stmt} {env : Env} {h₀ : Heap} {L : Addr} {m : Str → Option Value} {news : List (Addr × Obj)}
    (h1 : wpAny M A (exec st env) (CutPost h₀ L m news s) E s)
    (h2 : ∀ h tk, Fr h₀ L h m → News h₀ L h news → wpAny M A (execs rest env) Q E { s with heap := h, toks := tk }) : wpAny M A (execs (st :: rest) env) Q E s := by
  refine wpAny_execs_cons (wpAny_mono h1 (fun f s₂ p => ?_) fun _ _ e => e)
  obtain ⟨rfl, h, tk, rfl, F, N⟩ := p
  exact h2 h tk F N
/-! ## the plain law -/
theorem pow_le_of {u U k K : Nat} (hu : u ≤ U) (hU : 1 ≤ U) (hk : k ≤ K) : u ^ k ≤ U ^ K :=
  Nat.le_trans (Nat.pow_le_pow_left hu k) (Nat.pow_le_pow_right hU hk)
theorem n24 : (9999 : Nat) ^ 24 < 10 ^ 120 := by decide +kernel
theorem n12 : (9999 : Nat) ^ 12 < 2 ^ 500 := by decide +kernel
theorem n12d : (99 : Nat) ^ 12 < 10 ^ 120 := by decide +kernel
theorem n12e : (9999 : Nat) ^ 12 * 99 ^ 12 < 10 ^ 120 := by decide +kernel
theorem n12f : (9999 * 99 : Nat) ^ 12 < 10 ^ 120 := by decide +kernel
theorem n12g : (99 : Nat) ^ 12 < 2 ^ 500 := by decide +kernel
theorem pw_abs (b n : Int) : (pw b n).natAbs = b.natAbs ^ n.toNat := Int.natAbs_pow ..
theorem pok_of {b n : Int} (hb : b.natAbs ≤ 9999) (hn : n ≤ 24) : Pok b n := Nat.lt_of_le_of_lt (pow_le_of (K := 24) hb (by decide) (by omega)) n24
theorem pw_le {b n : Int} {K : Nat} (hb : b.natAbs ≤ 9999) (hn : n ≤ K) : (pw b n).natAbs ≤ 9999 ^ K := by
  rw [pw_abs]; exact pow_le_of hb (by decide) (by omega)
theorem pw_500 {b n : Int} (hb : b.natAbs ≤ 9999) (hn : n ≤ 12) : (pw b n).natAbs < 2 ^ 500 := Nat.lt_of_le_of_lt (pw_le (K := 12) hb hn) n12
theorem pw_add {b m n : Int} (hm : 0 ≤ m) (hn : 0 ≤ n) : pw b m * pw b n = pw b (m + n) := by
  unfold pw; rw [Int.toNat_add hm hn, Int.pow_add]
theorem pw_mul {b m n : Int} (hm : 0 ≤ m) (hn : 0 ≤ n) : pw (pw b m) n = pw b (m * n) := by
  unfold pw; rw [Int.toNat_mul hm hn, Int.pow_mul]
theorem pw_zero (b : Int) : pw b 0 = 1 := by unfold pw; exact Int.pow_zero b
theorem pw_one (b : Int) : pw b 1 = b := by unfold pw; exact Int.pow_one b
theorem tok_pp {b m n : Int} (hb : b.natAbs ≤ 9999) (hm : 0 ≤ m) (hn : 0 ≤ n) (hm' : m ≤ 12) (hn' : n ≤ 12) : Tok2 (pw b m) (pw b n) :=
  ⟨pw_500 hb hm', pw_500 hb hn', by rw [pw_add hm hn, pw_abs]; exact pok_of hb (by omega)⟩
theorem tok_p1 {b m : Int} (hb : b.natAbs ≤ 9999) (hm : 0 ≤ m) (hm' : m ≤ 12) : Tok2 (pw b m) 1 := by
  have := tok_pp hb hm (Int.le_refl 0) hm' (by decide); rwa [pw_zero] at this
theorem tok_1p {b m : Int} (hb : b.natAbs ≤ 9999) (hm : 0 ≤ m) (hm' : m ≤ 12) : Tok2 1 (pw b m) := by
  have := tok_pp hb (Int.le_refl 0) hm (by decide) hm'; rwa [pw_zero] at this
theorem tok_11 : Tok2 1 1 := by unfold Tok2; decide
theorem pok_pp {b m n : Int} (hb : b.natAbs ≤ 9999) (hm : 0 ≤ m) (hn : 0 ≤ n) (h : m * n < 25) : Pok (pw b m) n := by
  have := pok_of (n := m * n) hb (by omega)
  unfold Pok at this ⊢
  rw [pw_abs, ← Nat.pow_mul, ← Int.toNat_mul hm hn]
  exact this
/-- the tenth: what is known of it -/
structure Tenth (t1 t2 : Int) : Prop where
  abs : t1.natAbs ≤ 99
  lo : 0 ≤ t2
  hi : t2 ≤ 1
  nf : dec t1 t2 = (t1, t2)
theorem tenth_of {t : Int} (h1 : -99 ≤ t) (h2 : t ≤ 99) : Tenth (dec t 1).1 (dec t 1).2 :=
  ⟨by have := dec_abs t (s := 1) (by decide); omega, (dec_scale t (by decide)).1, (dec_scale t (by decide)).2, dec_dec t (by decide)⟩
section
variable {b f t1 t2 : Int}
theorem dok_bt (hb : b.natAbs ≤ 9999) (T : Tenth t1 t2) : Dok b 0 t1 t2 := by
  have h : (b * t1).natAbs ≤ 9999 * 99 := by rw [Int.natAbs_mul]; exact Nat.mul_le_mul hb T.abs
  have e1 : (9999 * 99 : Nat) < 2 ^ 500 := by decide +kernel
  have e2 : (9999 * 99 : Nat) < 10 ^ 120 := by decide +kernel
  refine ⟨?_, ?_, Nat.lt_of_le_of_lt h e2, Int.le_refl 0, T.lo, by have := T.hi; omega⟩
  · exact Nat.lt_of_le_of_lt hb (by decide +kernel)
  · exact Nat.lt_of_le_of_lt T.abs (by decide +kernel)
theorem dtm_abs (hb : b.natAbs ≤ 9999) (T : Tenth t1 t2) : (dtm b 0 t1 t2).1.natAbs ≤ 9999 * 99 := by
  refine Nat.le_trans (dec_abs _ (by have := T.lo; omega)) ?_
  rw [Int.natAbs_mul]; exact Nat.mul_le_mul hb T.abs
theorem dtm_sc (T : Tenth t1 t2) : 0 ≤ (dtm b 0 t1 t2).2 ∧ (dtm b 0 t1 t2).2 ≤ 1 := by
  have := dec_scale (b * t1) (s := 0 + t2) (by have := T.lo; omega)
  have := T.hi
  unfold dtm; omega
theorem mul_le30 {s : Int} (h0 : 0 ≤ s) (h1 : s ≤ 1) (f0 : 0 ≤ f) (f1 : f ≤ 12) : s * (f.toNat : Int) ≤ 30 := by
  have : s = 0 ∨ s = 1 := by omega
  rcases this with rfl | rfl <;> omega
theorem loop_bt (hb : b.natAbs ≤ 9999) (T : Tenth t1 t2) (f0 : 0 ≤ f) (f1 : f ≤ 12) : LoopOk (dtm b 0 t1 t2).1 (dtm b 0 t1 t2).2 f.toNat :=
  ⟨(dtm_sc T).1, mul_le30 (dtm_sc T).1 (dtm_sc T).2 f0 f1, Nat.lt_of_le_of_lt (pow_le_of (K := 12) (dtm_abs hb T) (by decide) (by omega)) n12f⟩
theorem loop_t (T : Tenth t1 t2) (f0 : 0 ≤ f) (f1 : f ≤ 12) : LoopOk t1 t2 f.toNat :=
  ⟨T.lo, mul_le30 T.lo T.hi f0 f1, Nat.lt_of_le_of_lt (pow_le_of (K := 12) T.abs (by decide) (by omega)) n12d⟩
theorem dpw_abs (T : Tenth t1 t2) (f0 : 0 ≤ f) (f1 : f ≤ 12) : (dpw t1 t2 f).1.natAbs ≤ 99 ^ 12 := by
  refine Nat.le_trans (dec_abs _ (Int.mul_nonneg T.lo f0)) ?_
  rw [Int.natAbs_pow]; exact pow_le_of T.abs (by decide) (by omega)
theorem dpw_sc (T : Tenth t1 t2) (f0 : 0 ≤ f) (f1 : f ≤ 12) : 0 ≤ (dpw t1 t2 f).2 ∧ (dpw t1 t2 f).2 ≤ 12 := by
  have h := dec_scale (t1 ^ f.toNat) (s := t2 * f) (Int.mul_nonneg T.lo f0)
  have : t2 = 0 ∨ t2 = 1 := by have := T.lo; have := T.hi; omega
  unfold dpw
  refine ⟨h.1, Int.le_trans h.2 ?_⟩
  rcases this with rfl | rfl <;> omega
theorem dok_pd (hb : b.natAbs ≤ 9999) (T : Tenth t1 t2) (f0 : 0 ≤ f) (f1 : f ≤ 12) : Dok (pw b f) 0 (dpw t1 t2 f).1 (dpw t1 t2 f).2 := by
  have h1 := pw_le (K := 12) hb f1
  have h2 := dpw_abs T f0 f1
  have h3 := dpw_sc T f0 f1
  refine ⟨Nat.lt_of_le_of_lt h1 n12, Nat.lt_of_le_of_lt h2 n12g, ?_, Int.le_refl 0, h3.1, by omega⟩
  rw [Int.natAbs_mul]
  exact Nat.lt_of_le_of_lt (Nat.mul_le_mul h1 h2) n12e
/-- a product's power is the product of the powers -/
theorem pow_prod (T : Tenth t1 t2) (f0 : 0 ≤ f) : dpw (dtm b 0 t1 t2).1 (dtm b 0 t1 t2).2 f = dtm (pw b f) 0 (dpw t1 t2 f).1 (dpw t1 t2 f).2 := by
  obtain ⟨k, rfl⟩ : ∃ k : Nat, f = (k : Int) := ⟨f.toNat, by omega⟩
  unfold dpw dtm pw
  have e : ((k : Int)).toNat = k := by omega
  rw [e, Int.zero_add, dec_pow_dec _ T.lo, Int.zero_add]
  have h := dec_times (t1 ^ k) (b ^ k) (s := t2 * k) (t := 0) (Int.mul_nonneg T.lo (by omega)) (Int.le_refl 0)
  rw [Int.add_zero, Int.add_zero] at h
  rw [Int.mul_comm (b ^ k), h, Int.mul_pow, Int.mul_comm (b ^ k)]
theorem dpw_one (T : Tenth t1 t2) : dpw t1 t2 1 = (t1, t2) := by
  unfold dpw
  rw [show Int.toNat 1 = 1 from rfl, Int.pow_one, Int.mul_one]
  exact T.nf
end
theorem g_pok1 : Pok 1 99 := by unfold Pok; decide +kernel
theorem g_pok2 : Pok (-1) 99 := by unfold Pok; decide +kernel
theorem g_pok3 : Pok 1 (-(-99)) := by unfold Pok; decide +kernel
theorem g_pok4 : Pok (-1) (-(-99)) := by unfold Pok; decide +kernel
theorem g_pok5 : Pok 2 10 := by unfold Pok; decide +kernel
theorem g_loop : LoopOk 5 1 (Int.toNat 3) := ⟨by decide, by decide, by decide +kernel⟩
theorem g_pw1 : pw 1 99 = 1 := by decide +kernel
theorem g_pw2 : pw (-1) 99 = -1 := by decide +kernel
theorem g_pw5 : pw 2 10 = 1024 := by decide +kernel
theorem g_quo1 : quo (pw 1 (-(-99))) = (1, 0) := by decide +kernel
theorem g_quo2 : quo (pw (-1) (-(-99))) = (-1, 0) := by decide +kernel
theorem g_ne1 : pw 1 (-(-99)) ≠ 0 := by decide +kernel
theorem g_ne2 : pw (-1) (-(-99)) ≠ 0 := by decide +kernel
theorem g_dpw : dpw 5 1 3 = (125, 3) := by decide +kernel
structure Wrap (P : Prop) : Prop where
  get : P
section
local macro_rules | `(tactic| walk_at "execs cons") => `(tactic| ((with_reducible show wpAny _ _ (execs (Stmt.If _ _ _ _ :: _) _) _ _ _); k_extra "stop"))
local macro_rules | `(tactic| kmk_nums) => `(tactic| ((refine' kmk_from ?gi ?gx); (case gi => l_ints); (case gx => exact Int.natCast_nonneg _)))
set_option maxHeartbeats 20000000 in
noncomputable def cut1 : { P : Prop // Wrap P → PySem.Challenge.rw_pb0220_01.Holds } := by
  refine ⟨?P, fun hCUT => hd ?_⟩
  rotate_left
  · (k_with_none; w_top off)
    k_go0
    (all_goals try k_fold)
    k_with "stop" => refine Here.go ?_
    k_steps
    all_goals first | decide | skip
    unfold Here
    repeat (rename_i x9; revert x9)
    exact hCUT.get
end
theorem news_pick {h₀ h : Heap} {L : Addr} {p q r : Addr × Obj} {l : List (Addr × Obj)} (N : News h₀ L h (p :: q :: r :: l)) : News h₀ L h [p, r] := fun x hx => by
  rcases List.mem_cons.mp hx with rfl | hx
  · exact N _ (.head _)
  · rcases List.mem_cons.mp hx with rfl | hx
    · exact N _ (.tail _ (.tail _ (.head _)))
    · nomatch hx
theorem cut_at {M : Model} {A : Around} {E : Value → Shared → Prop} {s : Shared} {Q : Flow → Shared → Prop} {st : Stmt} {rest : List Stmt} {env : Env} {h₀ : Heap} {L : Addr} {m : Str → Option Value} {news : List (Addr × Obj)}
    (F : Fr h₀ L s.heap m) (N : News h₀ L s.heap news) (h1 : wpAny M A (exec st env) (CutPost h₀ L m news s) E s)
    (h2 : ∀ h tk, Fr h₀ L h m → News h₀ L h news → wpAny M A (execs rest env) Q E { s with heap := h, toks := tk }) : wpAny M A (execs (st :: rest) env) Q E s := cut_stmt h1 h2
theorem pw_addL {b m n : Int} (hm : 0 ≤ m) (hn : 0 ≤ n) (h : ¬ 0 < n) : pw b m * 1 = pw b (m + n) := by
  have : n = 0 := by omega
  rw [← pw_add hm hn, this, pw_zero]
theorem pw_addR {b m n : Int} (hm : 0 ≤ m) (hn : 0 ≤ n) (h : ¬ 0 < m) : 1 * pw b n = pw b (m + n) := by
  have : m = 0 := by omega
  rw [← pw_add hm hn, this, pw_zero]
theorem pair_same {p q : Int × Int} (e : p = q) : ¬ ((p.1 == q.1 && p.2 == q.2) = false) := by subst e; simp
section
local macro_rules | `(tactic| walk_at "execs cons") => `(tactic| ((with_reducible show wpAny _ _ (execs (Stmt.If _ _ _ _ :: _) _) _ _ _); k_extra "stop"))
local macro_rules | `(tactic| walk_at "CutPost") => `(tactic| (k_here; k_dflt (refine' cut_end ?F ?N ?S; (case F => k_asm); (case N => k_asm); (case S => (intro p hp; repeat (first | exact hp | apply List.Mem.tail))))))
set_option maxHeartbeats 20000000 in
theorem rest : cut1.1 := by
  (k_with_none; w_top off)
  unfold cut1
  dsimp only
  k_fill
  intros
  rename List Int => ns
  rename Fr _ _ _ _ => F8
  rename News _ _ _ _ => N8
  k_sweep
  generalize (List.take 4 ns ++ List.drop ((List.take 4 ns).length : Int).toNat [7, 5, 3, 25]).getD (Int.toNat 0) 0 = z0 at *
  generalize (List.take 4 ns ++ List.drop ((List.take 4 ns).length : Int).toNat [7, 5, 3, 25]).getD (Int.toNat 1) 0 = z1 at *
  generalize (List.take 4 ns ++ List.drop ((List.take 4 ns).length : Int).toNat [7, 5, 3, 25]).getD (Int.toNat 2) 0 = z2 at *
  generalize (List.take 4 ns ++ List.drop ((List.take 4 ns).length : Int).toNat [7, 5, 3, 25]).getD (Int.toNat 3) 0 = z3 at *
  have b1 := fmod_lo z0 (n := 19999) (by decide)
  have b2 := fmod_hi z0 (n := 19999) (by decide)
  have f1 := fmod_lo z1 (n := 13) (by decide)
  have f2 := fmod_hi z1 (n := 13) (by decide)
  have c1 := fmod_lo z2 (n := 13) (by decide)
  have c2 := fmod_hi z2 (n := 13) (by decide)
  have d1 := fmod_lo z3 (n := 199) (by decide)
  have d2 := fmod_hi z3 (n := 199) (by decide)
  have hb : (z0.fmod 19999 - 9999).natAbs ≤ 9999 := by omega
  have T9 := tenth_of (t := z3.fmod 199 - 99) (by omega) (by omega)
  clear b1 b2 d1 d2
  generalize z0.fmod 19999 - 9999 = b at *
  generalize z1.fmod 13 = f at *
  generalize z2.fmod 13 = c at *
  generalize (dec (z3.fmod 199 - 99) 1).1 = t1 at *
  generalize (dec (z3.fmod 199 - 99) 1).2 = t2 at *
  have f2 : f ≤ 12 := by omega
  have c2 : c ≤ 12 := by omega
  have N7 := news_pick N8
  clear N8
  repeat (rename IntsAre _ _ => q9; clear q9)
  refine cut_at F8 N7 ?_ ?_
  · have p1 := pok_of (n := f) hb (by omega)
    have p2 := pok_of (n := c) hb (by omega)
    have p3 := pok_of (n := f + c) hb (by omega)
    have k1 := tok_pp hb f1 c1 f2 c2
    have k2 := tok_p1 hb f1 f2
    have k3 := tok_1p hb c1 c2
    have k4 := tok_11
    (with_reducible show wpAny _ _ _ _ _ _)
    k_fold
    k_steps
    all_goals exfalso
    all_goals first
      | exact absurd (pw_add f1 c1) (by assumption)
      | exact absurd (pw_addL f1 c1 (by assumption)) (by assumption)
      | exact absurd (pw_addR f1 c1 (by assumption)) (by assumption)
  intro h7 tk7 F7 N6
  clear F8 N7
  (with_reducible show wpAny _ _ _ _ _ _)
  refine cut_at F7 N6 ?_ ?_
  · have m0 := Int.mul_nonneg f1 c1
    by_cases hp : 0 < f ∧ 0 < c ∧ f * c < 25
    · have m1 := Int.mul_pos hp.1 hp.2.1
      obtain ⟨hp1, hp2, hp3⟩ := hp
      have p1 := pok_of (n := f) hb (by omega)
      have p2 := pok_pp hb f1 c1 hp3
      have p3 := pok_of (n := f * c) hb (by omega)
      (with_reducible show wpAny _ _ _ _ _ _)
      k_fold
      k_steps
      all_goals exfalso
      all_goals exact absurd (pw_mul f1 c1) (by assumption)
    · (with_reducible show wpAny _ _ _ _ _ _)
      k_fold
      k_steps
      all_goals exact absurd ⟨by assumption, by assumption, by assumption⟩ hp
  intro h5 tk5 F5 N5
  clear F7 N6
  (with_reducible show wpAny _ _ _ _ _ _)
  refine cut_at F5 N5 ?_ ?_
  · by_cases hp : 0 < f
    · have p1 := pok_of (n := f) hb (by omega)
      have k1 := dok_bt hb T9
      have k2 := loop_bt hb T9 f1 f2
      have k3 := loop_t T9 f1 f2
      have k4 := dok_pd hb T9 f1 f2
      have e0 := pow_prod (b := b) T9 f1
      (with_reducible show wpAny _ _ _ _ _ _)
      k_fold
      k_steps
      all_goals exfalso
      all_goals exact absurd (by assumption) (pair_same e0)
    · (with_reducible show wpAny _ _ _ _ _ _)
      k_fold
      k_steps
  intro h3 tk3 F3 N3
  clear F5 N5
  (with_reducible show wpAny _ _ _ _ _ _)
  refine cut_at F3 N3 ?_ ?_
  · have p1 := pok_of (n := 1) hb (by omega)
    have k3 := loop_t T9 (f := 1) (by decide) (by decide)
    (with_reducible show wpAny _ _ _ _ _ _)
    k_fold
    k_steps
    all_goals exfalso
    all_goals first
      | exact absurd (pw_one b) (by assumption)
      | exact absurd (by assumption) (pair_same (dpw_one T9))
  intro h4 tk4 F4 N4
  clear F3 N3
  (with_reducible show wpAny _ _ _ _ _ _)
  refine cut_at F4 N4 ?_ ?_
  · by_cases hp : b ≠ 0
    · have p1 := pok_of (n := 0) hb (by omega)
      have p2 := pok_of (n := f + 1) hb (by omega)
      have p3 := pok_of (n := -(-f - 1)) hb (by omega)
      have n1 : pw b (f + 1) ≠ 0 := pow_ne hp _
      have n2 : (pw b (f + 1)).natAbs < 2 ^ 500 := Nat.lt_of_le_of_lt (pw_le (K := 13) hb (by omega)) (by decide +kernel)
      have e0 : quo (pw b (-(-f - 1))) = quo (pw b (f + 1)) := by rw [show -(-f - 1) = f + 1 by omega]
      (with_reducible show wpAny _ _ _ _ _ _)
      k_fold
      k_steps
      all_goals exfalso
      all_goals first
        | exact absurd (pw_zero b) (by assumption)
        | exact absurd (by assumption) (pair_same e0)
    · (with_reducible show wpAny _ _ _ _ _ _)
      k_fold
      k_steps
      all_goals exact absurd (by assumption) hp
  intro h2 tk2 F2 N2
  clear F4 N4
  (with_reducible show wpAny _ _ _ _ _ _)
  have p1 := g_pok1
  have p2 := g_pok2
  have p3 := g_pok3
  have p4 := g_pok4
  have p5 := g_pok5
  have p6 := g_loop
  (with_reducible show wpAny _ _ _ _ _ _)
  k_fold
  k_steps
end
end Mine
theorem PySem.Challenge.cw_pb0220_01_holds : PySem.Challenge.rw_pb0220_01.Holds :=
  Mine.cut1.2 ⟨Mine.rest⟩
