import PyProof.Rows.All
import Wide.All
import OpenK.AllK
import Wide.FinOn
import PySem.Challenge.RW_nu0118_01
set_option Elab.async false
set_option rowWalk.seconds 0
set_option maxRecDepth 100000
set_option maxHeartbeats 8000000
set_option linter.unusedSimpArgs false
set_option linter.unusedVariables false
open PySem PySem.W PyProof.Rows
open_top hd for PySem.Challenge.rw_nu0118_01
namespace Mine
abbrev Led := List (Addr × Obj)
/-- the walk's contract of a def: what is asked of the ledger, what comes back -/
abbrev Claim (k : Nat) (f : Addr) (pre : Prop) (vs : List Value) (news : Led) (Post : Value → Led → Prop) : Prop :=
  ∀ (w : World) (mean : ExcName → Option Value) (mg mb : Str → Option Value)
    (dp un : Nat) (gd : Option (List Code)) (cn : Str) (cs : Scope) (a : Addr) (ccd : Value) (cl : List (Str × Addr)) (outer : List Env) (A₀ : Around) (base h₀ : Heap) (L : Addr) (m : Str → Option Value) (s : Shared) (Q E : Value → Shared → Prop),
    Below A₀ base outer h₀ → Fr h₀ L s.heap m → (hd.heap_39 w.params).In h₀ → News h₀ L s.heap news → Top hd.view_39 (looseW hd.view_39 []) mean mg mb h₀ → cs.kind = .function →
    pre → dp + k < recursionLimit → un + 8 * k + 300 < cLine →
    (∀ (v : Value) (news' : Led) (h' : Heap) (tk' : Nat), Post v news' → Fr h₀ L h' m → News h₀ L h' news' → Q v { s with heap := h', toks := tk' }) →
    wpAny (model PySem.Challenge.rw_nu0118_01.row.prog w) (ktrTop dp un gd cn cs L a ccd cl outer) (call (.ref f) vs) Q E s
/-- a pure def: any ledger, one answer -/
abbrev Pure (k : Nat) (f : Addr) (pre : Prop) (vs : List Value) (R : Tok → Value) : Prop :=
  ∀ (w : World) (mean : ExcName → Option Value) (mg mb : Str → Option Value) (news : Led)
    (dp un : Nat) (gd : Option (List Code)) (cn : Str) (cs : Scope) (a : Addr) (ccd : Value) (cl : List (Str × Addr)) (outer : List Env) (A₀ : Around) (base h₀ : Heap) (L : Addr) (m : Str → Option Value) (s : Shared) (Q E : Value → Shared → Prop),
    Below A₀ base outer h₀ → Fr h₀ L s.heap m → (hd.heap_39 w.params).In h₀ → News h₀ L s.heap news → Top hd.view_39 (looseW hd.view_39 []) mean mg mb h₀ → cs.kind = .function →
    pre → dp + k < recursionLimit → un + 8 * k + 300 < cLine →
    (∀ (t : Tok) (h' : Heap) (tk' : Nat), Fr h₀ L h' m → News h₀ L h' news → Q (R t) { s with heap := h', toks := tk' }) →
    wpAny (model PySem.Challenge.rw_nu0118_01.row.prog w) (ktrTop dp un gd cn cs L a ccd cl outer) (call (.ref f) vs) Q E s
theorem pure_use {w : World} {mean : ExcName → Option Value} {mg mb : Str → Option Value} {k : Nat} {f : Addr} {pre : Prop} {vs : List Value} {R : Tok → Value}
    {dp un : Nat} {gd : Option (List Code)} {cn : Str} {cs : Scope} {a : Addr} {ccd : Value} {cl : List (Str × Addr)} {outer : List Env} {A₀ : Around} {base h₀ : Heap} {L : Addr} {m : Str → Option Value} {s : Shared} {Q E : Value → Shared → Prop} {news : Led}
    (C : Pure k f pre vs R) (B : Below A₀ base outer h₀) (F : Fr h₀ L s.heap m) (X : (hd.heap_39 w.params).In h₀) (N : News h₀ L s.heap news) (T : Top hd.view_39 (looseW hd.view_39 []) mean mg mb h₀) (hk : cs.kind = .function)
    (hp : pre) (hd : dp + k < recursionLimit) (hu : un + 8 * k + 300 < cLine)
    (ret : ∀ (t : Tok) (h' : Heap) (tk' : Nat), Fr h₀ L h' m → News h₀ L h' news → Q (R t) { s with heap := h', toks := tk' }) :
    wpAny (model PySem.Challenge.rw_nu0118_01.row.prog w) (ktrTop dp un gd cn cs L a ccd cl outer) (call (.ref f) vs) Q E s :=
  C w mean mg mb news dp un gd cn cs a ccd cl outer A₀ base h₀ L m s Q E B F X N T hk hp hd hu ret
theorem fm {x r : Int} (h : 0 < r) : x.fmod r = x % r := Int.fmod_eq_emod_of_nonneg x (Int.le_of_lt h)
theorem room_up {dp un : Nat} {gd : Option (List Code)} {cn : Str} {cs : Scope} {L a : Addr} {ccd : Value} {cl : List (Str × Addr)} {outer : List Env} {k k' : Nat} (h : dp + k < recursionLimit) (e : k' + 1 ≤ k) :
    (ktrTop dp un gd cn cs L a ccd cl outer).depth + 1 + k' < recursionLimit := by
  show dp + 1 + k' < recursionLimit
  omega
theorem units_up {u un k k' : Nat} (h : un + 8 * k + 300 < cLine) (e : u = un + 3) (e' : k' + 1 ≤ k) : u + 8 * k' + 300 < cLine := by
  subst e
  exact Nat.lt_of_le_of_lt (by omega) h
theorem plus_ok (a : Int) (n : Int) (r : Int) (ta : Tok) (tn : Tok) (tr : Tok) : Pure 2 21 (0 < r) [.int a ta, .int n tn, .int r tr] (fun t => .int ((a + n) % r) t) := by
  dsimp only [Pure]
  k_fill
  intro w mean mg mb news dp un gd cn cs ad ccd cl outer A₀ base h₀ L m s Q E B F X N T hk hpre hd hu hret
  refine wpAny_call ?_
  k_dflt cell_enter
  k_steps
  all_goals (refine cb_retI hret ?e1 ?e2 ?e3; (case e2 => assumption); (case e3 => assumption); (case e1 => first | exact fm (by omega) | (split <;> omega)))
local macro_rules | `(tactic| walk_at "call ref") => `(tactic| (k_here; k_dflt (
  (refine' pure_use (plus_ok _ _ _ _ _ _) ?k1 ?k2 ?k3 ?k4 ?k5 ?kK ?kp ?kd ?ku ?_);
  (case k1 => k_asm); (case k2 => k_asm); (case k3 => k_asm); (case k4 => k_asm); (case k5 => k_asm); (case kK => first | exact rfl | assumption);
  (case kp => first | assumption | omega | (refine ⟨?_, ?_⟩ <;> omega)); (case kd => first | exact room_up (by assumption) (by decide) | exact Nat.le_of_ble_eq_true rfl | ktr_room); (case ku => first | exact units_up (by assumption) rfl (by decide) | exact Nat.le_of_ble_eq_true rfl | ktr_units); intro t9 h9 tk9 F9 N9; (try dsimp only); (try k_fold))))
theorem distance_ok (a : Int) (b : Int) (r : Int) (ta : Tok) (tb : Tok) (tr : Tok) : Pure 2 28 (0 < r) [.int a ta, .int b tb, .int r tr] (fun t => .int ((b - a) % r) t) := by
  dsimp only [Pure]
  k_fill
  intro w mean mg mb news dp un gd cn cs ad ccd cl outer A₀ base h₀ L m s Q E B F X N T hk hpre hd hu hret
  refine wpAny_call ?_
  k_dflt cell_enter
  k_steps
  all_goals (refine cb_retI hret ?e1 ?e2 ?e3; (case e2 => assumption); (case e3 => assumption); (case e1 => first | exact fm (by omega) | (split <;> omega)))
local macro_rules | `(tactic| walk_at "call ref") => `(tactic| (k_here; k_dflt (
  (refine' pure_use (distance_ok _ _ _ _ _ _) ?k1 ?k2 ?k3 ?k4 ?k5 ?kK ?kp ?kd ?ku ?_);
  (case k1 => k_asm); (case k2 => k_asm); (case k3 => k_asm); (case k4 => k_asm); (case k5 => k_asm); (case kK => first | exact rfl | assumption);
  (case kp => first | assumption | omega | (refine ⟨?_, ?_⟩ <;> omega)); (case kd => first | exact room_up (by assumption) (by decide) | exact Nat.le_of_ble_eq_true rfl | ktr_room); (case ku => first | exact units_up (by assumption) rfl (by decide) | exact Nat.le_of_ble_eq_true rfl | ktr_units); intro t9 h9 tk9 F9 N9; (try dsimp only); (try k_fold))))
theorem before_ok (a : Int) (b : Int) (r : Int) (ta : Tok) (tb : Tok) (tr : Tok) : Pure 3 35 (0 < r) [.int a ta, .int b tb, .int r tr] (fun _ => .bool (decide (0 < (b - a) % r ∧ 2 * ((b - a) % r) < r))) := by
  dsimp only [Pure]
  k_fill
  intro w mean mg mb news dp un gd cn cs ad ccd cl outer A₀ base h₀ L m s Q E B F X N T hk hpre hd hu hret
  refine wpAny_call ?_
  k_dflt cell_enter
  k_steps
  all_goals (refine cb_retB hret ?e1 ?e2 ?e3; (case e2 => assumption); (case e3 => assumption); (case e1 => first | rfl | ((try simp only [decide_eq_true_eq, decide_eq_false_iff_not] at *); refine Bool.eq_iff_iff.mpr ?_; simp only [beq_iff_eq, decide_eq_true_eq, decide_eq_false_iff_not, Bool.false_eq_true, true_iff, false_iff]; omega)))
local macro_rules | `(tactic| walk_at "call ref") => `(tactic| (k_here; k_dflt (
  (refine' pure_use (before_ok _ _ _ _ _ _) ?k1 ?k2 ?k3 ?k4 ?k5 ?kK ?kp ?kd ?ku ?_);
  (case k1 => k_asm); (case k2 => k_asm); (case k3 => k_asm); (case k4 => k_asm); (case k5 => k_asm); (case kK => first | exact rfl | assumption);
  (case kp => first | assumption | omega | (refine ⟨?_, ?_⟩ <;> omega)); (case kd => first | exact room_up (by assumption) (by decide) | exact Nat.le_of_ble_eq_true rfl | ktr_room); (case ku => first | exact units_up (by assumption) rfl (by decide) | exact Nat.le_of_ble_eq_true rfl | ktr_units); intro t9 h9 tk9 F9 N9; (try dsimp only); (try k_fold))))
theorem atmost_ok (a : Int) (b : Int) (r : Int) (ta : Tok) (tb : Tok) (tr : Tok) : Pure 4 42 (0 < r) [.int a ta, .int b tb, .int r tr] (fun _ => .bool (decide (a = b ∨ (0 < (b - a) % r ∧ 2 * ((b - a) % r) < r)))) := by
  dsimp only [Pure]
  k_fill
  intro w mean mg mb news dp un gd cn cs ad ccd cl outer A₀ base h₀ L m s Q E B F X N T hk hpre hd hu hret
  refine wpAny_call ?_
  k_dflt cell_enter
  k_steps
  all_goals (refine cb_retB hret ?e1 ?e2 ?e3; (case e2 => assumption); (case e3 => assumption); (case e1 => first | rfl | ((try simp only [decide_eq_true_eq, decide_eq_false_iff_not] at *); refine Bool.eq_iff_iff.mpr ?_; simp only [beq_iff_eq, decide_eq_true_eq, decide_eq_false_iff_not, Bool.false_eq_true, true_iff, false_iff]; omega)))
local macro_rules | `(tactic| walk_at "call ref") => `(tactic| (k_here; k_dflt (
  (refine' pure_use (atmost_ok _ _ _ _ _ _) ?k1 ?k2 ?k3 ?k4 ?k5 ?kK ?kp ?kd ?ku ?_);
  (case k1 => k_asm); (case k2 => k_asm); (case k3 => k_asm); (case k4 => k_asm); (case k5 => k_asm); (case kK => first | exact rfl | assumption);
  (case kp => first | assumption | omega | (refine ⟨?_, ?_⟩ <;> omega)); (case kd => first | exact room_up (by assumption) (by decide) | exact Nat.le_of_ble_eq_true rfl | ktr_room); (case ku => first | exact units_up (by assumption) rfl (by decide) | exact Nat.le_of_ble_eq_true rfl | ktr_units); intro t9 h9 tk9 F9 N9; (try dsimp only); (try k_fold))))
theorem within_ok (x : Int) (low : Int) (size : Int) (r : Int) (tx : Tok) (tlow : Tok) (tsize : Tok) (tr : Tok) : Pure 3 49 (0 < r) [.int x tx, .int low tlow, .int size tsize, .int r tr] (fun _ => .bool (decide ((x - low) % r < size))) := by
  dsimp only [Pure]
  k_fill
  intro w mean mg mb news dp un gd cn cs ad ccd cl outer A₀ base h₀ L m s Q E B F X N T hk hpre hd hu hret
  refine wpAny_call ?_
  k_dflt cell_enter
  k_steps
  all_goals (refine cb_retB hret ?e1 ?e2 ?e3; (case e2 => assumption); (case e3 => assumption); (case e1 => first | rfl | ((try simp only [decide_eq_true_eq, decide_eq_false_iff_not] at *); refine Bool.eq_iff_iff.mpr ?_; simp only [beq_iff_eq, decide_eq_true_eq, decide_eq_false_iff_not, Bool.false_eq_true, true_iff, false_iff]; omega)))
local macro_rules | `(tactic| walk_at "call ref") => `(tactic| (k_here; k_dflt (
  (refine' pure_use (within_ok _ _ _ _ _ _ _ _) ?k1 ?k2 ?k3 ?k4 ?k5 ?kK ?kp ?kd ?ku ?_);
  (case k1 => k_asm); (case k2 => k_asm); (case k3 => k_asm); (case k4 => k_asm); (case k5 => k_asm); (case kK => first | exact rfl | assumption);
  (case kp => first | assumption | omega | (refine ⟨?_, ?_⟩ <;> omega)); (case kd => first | exact room_up (by assumption) (by decide) | exact Nat.le_of_ble_eq_true rfl | ktr_room); (case ku => first | exact units_up (by assumption) rfl (by decide) | exact Nat.le_of_ble_eq_true rfl | ktr_units); intro t9 h9 tk9 F9 N9; (try dsimp only); (try k_fold))))
theorem latest_ok (a : Int) (b : Int) (r : Int) (ta : Tok) (tb : Tok) (tr : Tok) : Pure 4 56 (0 < r) [.int a ta, .int b tb, .int r tr] (fun t => .int (if 0 < (b - a) % r ∧ 2 * ((b - a) % r) < r then b else a) t) := by
  dsimp only [Pure]
  k_fill
  intro w mean mg mb news dp un gd cn cs ad ccd cl outer A₀ base h₀ L m s Q E B F X N T hk hpre hd hu hret
  refine wpAny_call ?_
  k_dflt cell_enter
  k_steps
  all_goals (refine cb_retI hret ?e1 ?e2 ?e3; (case e2 => assumption); (case e3 => assumption); (case e1 => first | exact fm (by omega) | (split <;> omega)))
local macro_rules | `(tactic| walk_at "call ref") => `(tactic| (k_here; k_dflt (
  (refine' pure_use (latest_ok _ _ _ _ _ _) ?k1 ?k2 ?k3 ?k4 ?k5 ?kK ?kp ?kd ?ku ?_);
  (case k1 => k_asm); (case k2 => k_asm); (case k3 => k_asm); (case k4 => k_asm); (case k5 => k_asm); (case kK => first | exact rfl | assumption);
  (case kp => first | assumption | omega | (refine ⟨?_, ?_⟩ <;> omega)); (case kd => first | exact room_up (by assumption) (by decide) | exact Nat.le_of_ble_eq_true rfl | ktr_room); (case ku => first | exact units_up (by assumption) rfl (by decide) | exact Nat.le_of_ble_eq_true rfl | ktr_units); intro t9 h9 tk9 F9 N9; (try dsimp only); (try k_fold))))
theorem acceptable_ok (q : Int) (len : Int) (e : Int) (win : Int) (r : Int) (tq : Tok) (tlen : Tok) (te : Tok) (twin : Tok) (tr : Tok) : Pure 4 63 (0 < r) [.int q tq, .int len tlen, .int e te, .int win twin, .int r tr] (fun _ => .bool (decide ((len = 0 ∧ win = 0 ∧ q = e) ∨ (len = 0 ∧ win ≠ 0 ∧ (q - e) % r < win) ∨ (len ≠ 0 ∧ win ≠ 0 ∧ ((q - e) % r < win ∨ (e - q) % r < len))))) := by
  dsimp only [Pure]
  k_fill
  intro w mean mg mb news dp un gd cn cs ad ccd cl outer A₀ base h₀ L m s Q E B F X N T hk hpre hd hu hret
  refine wpAny_call ?_
  k_dflt cell_enter
  k_steps
  all_goals (refine cb_retB hret ?e1 ?e2 ?e3; (case e2 => assumption); (case e3 => assumption); (case e1 => first | rfl | ((try simp only [decide_eq_true_eq, decide_eq_false_iff_not] at *); refine Bool.eq_iff_iff.mpr ?_; simp only [beq_iff_eq, decide_eq_true_eq, decide_eq_false_iff_not, Bool.false_eq_true, true_iff, false_iff]; omega)))
local macro_rules | `(tactic| walk_at "call ref") => `(tactic| (k_here; k_dflt (
  (refine' pure_use (acceptable_ok _ _ _ _ _ _ _ _ _ _) ?k1 ?k2 ?k3 ?k4 ?k5 ?kK ?kp ?kd ?ku ?_);
  (case k1 => k_asm); (case k2 => k_asm); (case k3 => k_asm); (case k4 => k_asm); (case k5 => k_asm); (case kK => first | exact rfl | assumption);
  (case kp => first | assumption | omega | (refine ⟨?_, ?_⟩ <;> omega)); (case kd => first | exact room_up (by assumption) (by decide) | exact Nat.le_of_ble_eq_true rfl | ktr_room); (case ku => first | exact units_up (by assumption) rfl (by decide) | exact Nat.le_of_ble_eq_true rfl | ktr_units); intro t9 h9 tk9 F9 N9; (try dsimp only); (try k_fold))))
theorem newack_ok (ack : Int) (una : Int) (fol : Int) (r : Int) (tack : Tok) (tuna : Tok) (tfol : Tok) (tr : Tok) : Pure 3 77 (0 < r) [.int ack tack, .int una tuna, .int fol tfol, .int r tr] (fun _ => .bool (decide (0 < (ack - una) % r ∧ (ack - una) % r ≤ (fol - una) % r))) := by
  dsimp only [Pure]
  k_fill
  intro w mean mg mb news dp un gd cn cs ad ccd cl outer A₀ base h₀ L m s Q E B F X N T hk hpre hd hu hret
  refine wpAny_call ?_
  k_dflt cell_enter
  k_steps
  all_goals (refine cb_retB hret ?e1 ?e2 ?e3; (case e2 => assumption); (case e3 => assumption); (case e1 => first | rfl | ((try simp only [decide_eq_true_eq, decide_eq_false_iff_not] at *); refine Bool.eq_iff_iff.mpr ?_; simp only [beq_iff_eq, decide_eq_true_eq, decide_eq_false_iff_not, Bool.false_eq_true, true_iff, false_iff]; omega)))
local macro_rules | `(tactic| walk_at "call ref") => `(tactic| (k_here; k_dflt (
  (refine' pure_use (newack_ok _ _ _ _ _ _ _ _) ?k1 ?k2 ?k3 ?k4 ?k5 ?kK ?kp ?kd ?ku ?_);
  (case k1 => k_asm); (case k2 => k_asm); (case k3 => k_asm); (case k4 => k_asm); (case k5 => k_asm); (case kK => first | exact rfl | assumption);
  (case kp => first | assumption | omega | (refine ⟨?_, ?_⟩ <;> omega)); (case kd => first | exact room_up (by assumption) (by decide) | exact Nat.le_of_ble_eq_true rfl | ktr_room); (case ku => first | exact units_up (by assumption) rfl (by decide) | exact Nat.le_of_ble_eq_true rfl | ktr_units); intro t9 h9 tk9 F9 N9; (try dsimp only); (try k_fold))))
theorem oldack_ok (ack : Int) (una : Int) (r : Int) (tack : Tok) (tuna : Tok) (tr : Tok) : Pure 5 84 (0 < r) [.int ack tack, .int una tuna, .int r tr] (fun _ => .bool (decide (ack = una ∨ (0 < (una - ack) % r ∧ 2 * ((una - ack) % r) < r)))) := by
  dsimp only [Pure]
  k_fill
  intro w mean mg mb news dp un gd cn cs ad ccd cl outer A₀ base h₀ L m s Q E B F X N T hk hpre hd hu hret
  refine wpAny_call ?_
  k_dflt cell_enter
  k_steps
  all_goals (refine cb_retB hret ?e1 ?e2 ?e3; (case e2 => assumption); (case e3 => assumption); (case e1 => first | rfl | ((try simp only [decide_eq_true_eq, decide_eq_false_iff_not] at *); refine Bool.eq_iff_iff.mpr ?_; simp only [beq_iff_eq, decide_eq_true_eq, decide_eq_false_iff_not, Bool.false_eq_true, true_iff, false_iff]; omega)))
local macro_rules | `(tactic| walk_at "call ref") => `(tactic| (k_here; k_dflt (
  (refine' pure_use (oldack_ok _ _ _ _ _ _) ?k1 ?k2 ?k3 ?k4 ?k5 ?kK ?kp ?kd ?ku ?_);
  (case k1 => k_asm); (case k2 => k_asm); (case k3 => k_asm); (case k4 => k_asm); (case k5 => k_asm); (case kK => first | exact rfl | assumption);
  (case kp => first | assumption | omega | (refine ⟨?_, ?_⟩ <;> omega)); (case kd => first | exact room_up (by assumption) (by decide) | exact Nat.le_of_ble_eq_true rfl | ktr_room); (case ku => first | exact units_up (by assumption) rfl (by decide) | exact Nat.le_of_ble_eq_true rfl | ktr_units); intro t9 h9 tk9 F9 N9; (try dsimp only); (try k_fold))))
section
theorem foldl_filter (p : Int → Prop) [DecidablePred p] : ∀ (ks acc : List Int), ks.foldl (fun l k => if p k then l ++ [k] else l) acc = acc ++ ks.filter (fun k => decide (p k))
  | [], acc => by simp
  | k :: r, acc => by
    rw [List.foldl_cons, foldl_filter p r]
    by_cases h : p k <;> simp [h]
theorem isin_law {x low size r : Int} (hr : 0 < r) (hx0 : 0 ≤ x) (hx1 : x < r) (hs : 0 ≤ size) :
    (!decide ((rangeKs 0 (size - 0).toNat).foldl (fun l k => if (low + k).fmod r = x then l ++ [k] else l) [] = [])) = decide ((x - low) % r < size) := by
  rw [foldl_filter]
  refine Bool.eq_iff_iff.mpr ?_
  simp only [List.nil_append, Bool.not_eq_true', decide_eq_false_iff_not, decide_eq_true_eq, List.filter_eq_nil_iff, Classical.not_forall, Classical.not_not]
  have hn := Int.emod_nonneg (x - low) (Int.ne_of_gt hr)
  have hl := Int.emod_lt_of_pos (x - low) hr
  constructor
  · rintro ⟨k, hk, e⟩
    obtain ⟨h0, h1⟩ := mem_rangeKs hk
    rw [Int.fmod_eq_emod_of_nonneg _ (Int.le_of_lt hr)] at e
    subst e
    rw [Int.sub_emod, Int.emod_emod_of_dvd _ (Int.dvd_refl r), ← Int.sub_emod, show low + k - low = k by omega]
    have hm : 0 ≤ r * (k / r) := Int.mul_nonneg (Int.le_of_lt hr) (Int.ediv_nonneg h0 (Int.le_of_lt hr))
    have he := Int.emod_add_mul_ediv k r
    omega
  · intro h
    refine ⟨(x - low) % r, ?_, ?_⟩
    · simp only [rangeKs, List.mem_map, List.mem_range]
      refine ⟨((x - low) % r).toNat, ?_, ?_⟩ <;> omega
    · rw [Int.fmod_eq_emod_of_nonneg _ (Int.le_of_lt hr), Int.add_emod, Int.emod_emod_of_dvd _ (Int.dvd_refl r), ← Int.add_emod]
      rw [show low + (x - low) = x by omega]
      exact Int.emod_eq_of_lt hx0 hx1
theorem fm' {x r : Int} (h : 0 < r) : x.fmod r = x % r := Int.fmod_eq_emod_of_nonneg x (Int.le_of_lt h)
theorem far1 (a d r : Int) : ((a + d) % r - a) % r = d % r := by
  rw [Int.sub_emod, Int.emod_emod_of_dvd _ (Int.dvd_refl r), ← Int.sub_emod, show a + d - a = d by omega]
theorem far2 (a d r : Int) : (a - (a + d) % r) % r = (-d) % r := by
  rw [Int.sub_emod, Int.emod_emod_of_dvd _ (Int.dvd_refl r), ← Int.sub_emod, show a - (a + d) = -d by omega]
theorem up {d r : Int} (h0 : d < 0) (h1 : -r ≤ d) : d % r = d + r := by
  rw [← Int.add_emod_right]
  exact Int.emod_eq_of_lt (by omega) (by omega)
theorem num_facts {a st r b : Int} (ha0 : 0 ≤ a) (ha1 : a < r) (hs0 : 0 ≤ st) (hs1 : st < r) (hb : (a + st) % r = b) :
    0 ≤ b ∧ b < r ∧ (b + (0 - st)) % r = a ∧ (b - a) % r = st ∧ ((st = 0 ∧ b = a ∧ (a - b) % r = 0) ∨ (0 < st ∧ b ≠ a ∧ (a - b) % r = r - st)) := by
  have hr : 0 < r := Int.lt_of_le_of_lt ha0 ha1
  subst hb
  have e1 : ((a + st) % r - a) % r = st := by rw [far1]; exact Int.emod_eq_of_lt hs0 hs1
  refine ⟨Int.emod_nonneg _ (Int.ne_of_gt hr), Int.emod_lt_of_pos _ hr, ?_, e1, ?_⟩
  · rw [Int.emod_add_emod, show a + st + (0 - st) = a by clear e1; omega]; exact Int.emod_eq_of_lt ha0 ha1
  · rw [far2]
    by_cases h : st = 0
    · subst h
      exact .inl ⟨rfl, by rw [Int.add_zero]; exact Int.emod_eq_of_lt ha0 ha1, Int.zero_emod r⟩
    · have hp : 0 < st := by clear e1; omega
      refine .inr ⟨hp, fun hc => ?_, ?_⟩
      · rw [hc, Int.sub_self, Int.zero_emod] at e1
        exact h e1.symm
      · rw [up (d := -st) (by clear e1; omega) (by clear e1; omega), Int.add_comm, ← Int.sub_eq_add_neg]
theorem ack_facts {u st fl r b f : Int} (hu0 : 0 ≤ u) (hu1 : u < r) (h0 : 0 ≤ fl) (h1 : fl ≤ 6) (hs0 : -fl - 2 ≤ st) (hs1 : st ≤ fl + 2) (hr : 32 ≤ r) (hb : (u + st) % r = b) (hf : (u + fl) % r = f) :
    (f - u) % r = fl ∧ ((0 ≤ st ∧ (b - u) % r = st) ∨ (st < 0 ∧ (b - u) % r = r + st)) ∧ ((st = 0 ∧ b = u ∧ (u - b) % r = 0) ∨ (st < 0 ∧ b ≠ u ∧ (u - b) % r = - st) ∨ (0 < st ∧ b ≠ u ∧ (u - b) % r = r - st)) := by
  subst hb hf
  have lo : -8 ≤ st := by clear hu0 hu1; omega
  have hi : st ≤ 8 := by clear hu0 hu1 hs0; omega
  clear hs0 hs1
  rw [far1, far1, far2]
  have ne : st % r ≠ 0 → (u + st) % r ≠ u := fun hn hc => by
    have e := far1 u st r
    rw [hc, Int.sub_self, Int.zero_emod] at e
    exact hn e.symm
  refine ⟨Int.emod_eq_of_lt h0 (by clear ne; omega), ?_⟩
  clear h0 h1
  by_cases hn : st < 0
  · have e := up (r := r) hn (by clear ne; omega)
    refine ⟨.inr ⟨hn, by rw [e, Int.add_comm]⟩, .inr (.inl ⟨hn, ne (by rw [e]; clear ne; omega), Int.emod_eq_of_lt (by clear ne; omega) (by clear ne; omega)⟩)⟩
  · have e : st % r = st := Int.emod_eq_of_lt (by clear ne; omega) (by clear ne; omega)
    refine ⟨.inl ⟨by clear ne; omega, e⟩, ?_⟩
    by_cases hz : st = 0
    · subst hz
      exact .inl ⟨rfl, by rw [Int.add_zero]; exact Int.emod_eq_of_lt hu0 hu1, Int.zero_emod r⟩
    · refine .inr (.inr ⟨by clear ne; omega, ne (by rw [e]; exact hz), ?_⟩)
      rw [up (d := -st) (by clear ne; omega) (by clear ne; omega), Int.add_comm, ← Int.sub_eq_add_neg]
theorem beq_dec (a b : Int) : (a == b) = decide (a = b) := by
  refine Bool.eq_iff_iff.mpr ?_
  rw [beq_iff_eq, decide_eq_true_eq]
section
variable {h₀ h : Heap} {L : Addr} {q1 q2 q3 q4 q5 q6 : Addr × Obj} {l : List (Addr × Obj)}
theorem drop1 (N : News h₀ L h (q1 :: l)) : News h₀ L h l := fun p hp => N p (.tail _ hp)
theorem drop2 (N : News h₀ L h (q1 :: q2 :: l)) : News h₀ L h l := drop1 (drop1 N)
theorem drop3 (N : News h₀ L h (q1 :: q2 :: q3 :: l)) : News h₀ L h l := drop1 (drop2 N)
theorem drop4 (N : News h₀ L h (q1 :: q2 :: q3 :: q4 :: l)) : News h₀ L h l := drop1 (drop3 N)
theorem drop5 (N : News h₀ L h (q1 :: q2 :: q3 :: q4 :: q5 :: l)) : News h₀ L h l := drop1 (drop4 N)
end
theorem fmod_in (x : Int) {r : Int} (h : 0 < r) : 0 ≤ x.fmod r ∧ x.fmod r < r := by
  rw [fm' h]; exact ⟨Int.emod_nonneg _ (Int.ne_of_gt h), Int.emod_lt_of_pos _ h⟩
theorem mem_ring {q r k : Int} {ks : List Int} (hr : 0 < r) (h : k ∈ ks.map (fun i => (q + i).fmod r)) : 0 ≤ k ∧ k < r := by
  obtain ⟨i, _, rfl⟩ := List.mem_map.mp h
  exact fmod_in _ hr
theorem allLt_ne {d a : Nat} : ∀ {l : List (Addr × Obj)}, AllLt d l → d ≤ a → ∀ p ∈ l, p.1 ≠ a
  | [], _, _, p, hp => nomatch hp
  | q :: r, h, e, p, hp => by
    rcases List.mem_cons.mp hp with rfl | hp
    · exact Nat.ne_of_lt (Nat.lt_of_lt_of_le h.1 e)
    · exact allLt_ne h.2 e p hp
theorem mem_ne {d a : Nat} {l : List (Addr × Obj)} (h : ∀ p ∈ l, @LT.lt Nat _ p.1 d) (e : d ≤ a) : ∀ p ∈ l, p.1 ≠ a := fun p hp => Nat.ne_of_lt (Nat.lt_of_lt_of_le (h p hp) e)
end
local macro_rules | `(tactic| ke_room) => `(tactic| ktr_units)
section
section
open PyProof.Rows.LCg
variable {h₀ : Heap} {L I C D : Addr} {m : Str → Option Value} {s₁ : Shared} {oI oC oD : Obj} {S : List (Addr × Obj) → Prop} {y : Value} {h' : Heap} {tk : Nat} {all news : List (Addr × Obj)} {l r : List Int}
theorem end_el (F : Fr h₀ L h' m) (N : News h₀ L h' all) (sub : ∀ p ∈ (I, oI) :: (C, oC) :: (D, oD) :: news, p ∈ all) (off : Off3 I C D news) (hS : S news) (q : KCiEl news l r y news) :
    CompEnd h₀ L m s₁ I oI C oC D oD S (fun y news' => KCiEl news l r y news') y { s₁ with heap := h', toks := tk } := CompEnd.intro F N news sub off hS q
theorem end_no (F : Fr h₀ L h' m) (N : News h₀ L h' all) (sub : ∀ p ∈ (I, oI) :: (C, oC) :: (D, oD) :: news, p ∈ all) (off : Off3 I C D news) (hS : S news) (q : KCiNo news l r news) :
    CompEnd h₀ L m s₁ I oI C oC D oD S (fun _ news' => KCiNo news l r news') y { s₁ with heap := h', toks := tk } := CompEnd.intro F N news sub off hS q
end
local macro_rules | `(tactic| walk_at "CompEnd") => `(tactic| (k_here; first
  | (refine end_el (by assumption) (by assumption) (by kcf_all) (by first | assumption | (simp only [LCg.Off3, and_true]; done) | (simp only [LCg.Off3, and_true]; assumption)) (by first | lcg_src | assumption | trivial) ?_)
  | (refine end_no (by assumption) (by assumption) (by kcf_all) (by first | assumption | (simp only [LCg.Off3, and_true]; done) | (simp only [LCg.Off3, and_true]; assumption)) (by first | lcg_src | assumption | trivial) ?_)))
theorem isin_ok (x low size r : Int) (tx tl tz tr : Tok) : Pure 2 117 (0 < r ∧ 0 ≤ x ∧ x < r ∧ 0 ≤ size ∧ size ≤ 64) [.int x tx, .int low tl, .int size tz, .int r tr] (fun _ => .bool (decide ((x - low) % r < size))) := by
  dsimp only [Pure]
  k_fill
  intro w mean mg mb news dp un gd cn cs ad ccd cl outer A₀ base h₀ L m s Q E B F X N T hk hpre hd hu hret
  obtain ⟨hr, hx0, hx1, hs0, hs1⟩ := hpre
  refine wpAny_call ?_
  k_dflt (refine' code_defC ?k1 ?k2 ?k3 ?k4 ?k5 ?kA ?kF ?kK ?k6 ?k7 ?k8 ?k9 ?kB ?kD ?_ ?c2 ?c3 ?c4; (case kA => exact rfl); (case kF => exact rfl); (case kK => assumption); (case k1 => k_asm); (case k2 => k_asm); (case k3 => k_asm); (case k4 => k_asm); (case k5 => k_asm); (case k6 => k_is); (case k7 => k_is); (case k8 => first | ktr_room | exact room_up (by assumption) (by decide)); (case k9 => exact BindsTo.of_eq rfl); (case kB => exact rfl); (case kD => decide +kernel); (case c2 => exact rfl); (case c3 => exact rfl); (case c4 => exact rfl); k_whole; intro g' L' h' tk' cells' FG' F' N' Y' B' X' T' l1; (try k_lt l1); k_cells Y'; (try simp only [List.cons_append, List.nil_append] at N'); (try dsimp only); (try k_lift B'); (try k_fold))
  k_steps
  all_goals (refine cb_retB hret ?e1 ?e2 ?e3; (case e2 => assumption); (case e3 => exact cb_drop (by assumption) (by kcj_all)); (case e1 => exact isin_law hr hx0 hx1 hs0))
end
section
theorem updF_upd {d : Addr} {o : Obj} {l : Led} {g : Obj → Led} (U : UpdF d o l g) : l = g o ∧ (∀ o', (d, o') ∈ g o') ∧ ∀ o₁ o₂, Upd d o₁ o₂ (g o₁) (g o₂) := by
  obtain ⟨pre, post, rfl, hg, a, b⟩ := U.split
  refine ⟨(hg o).symm, fun o' => ?_, fun o₁ o₂ => ?_⟩
  · rw [hg]; exact List.mem_append.mpr (.inr (.head _))
  · rw [hg, hg]
    clear U hg
    induction pre with
    | nil => exact .head b
    | cons p r ih => exact .tail (a p (.head _)) (ih fun q hq => a q (.tail _ hq))
/-- the ledger as a function of one object -/
structure Held (S : Addr) (f : Obj → Led) : Prop where
  mem : ∀ o, (S, o) ∈ f o
  upd : ∀ o₁ o₂, Upd S o₁ o₂ (f o₁) (f o₂)
abbrev src (a b : Int) (ta tb : Tok) (n : Nat) : Obj := listOf #[.int a ta, .int b tb] n
abbrev Take (k : Nat) (f : Addr) (S : Addr) (top a b : Int) (tt ta tb : Tok) (n : Nat) (g : Obj → Led) (pre : Prop) : Prop :=
  ∀ (w : World) (mean : ExcName → Option Value) (mg mb : Str → Option Value)
    (dp un : Nat) (gd : Option (List Code)) (cn : Str) (cs : Scope) (ad : Addr) (ccd : Value) (cl : List (Str × Addr)) (outer : List Env) (A₀ : Around) (base h₀ : Heap) (L : Addr) (m : Str → Option Value) (s : Shared) (Q E : Value → Shared → Prop),
    Below A₀ base outer h₀ → Fr h₀ L s.heap m → (hd.heap_39 w.params).In h₀ → News h₀ L s.heap (g (src a b ta tb n)) → Top hd.view_39 (looseW hd.view_39 []) mean mg mb h₀ → cs.kind = .function →
    pre → dp + k < recursionLimit → un + 8 * k + 300 < cLine → Held S g →
    (∀ (d a' b' : Int) (t ta' tb' : Tok) (n' : Nat) (h' : Heap) (tk' : Nat), 0 ≤ d → d < top → 0 ≤ a' → 0 ≤ b' → b' < 2147483647 → Fr h₀ L h' m → News h₀ L h' (g (src a' b' ta' tb' n')) → Q (.int d t) { s with heap := h', toks := tk' }) →
    wpAny (model PySem.Challenge.rw_nu0118_01.row.prog w) (ktrTop dp un gd cn cs L ad ccd cl outer) (call (.ref f) [.ref S, .int top tt]) Q E s
section
variable {prog : Program} {w : World} {A : Around} {E : Value → Shared → Prop} {s : Shared} {h₀ : Heap} {L S : Addr} {m : Str → Option Value} {l : Led} {a b : Int} {ta tb : Tok} {n : Nat}
theorem src_at {value slice : PySem.Expr} {vs : List Value} {k : Int} {u : Tok} {v : Value} {Q : Value → Shared → Prop} (N : News h₀ L s.heap l) (hm : (S, listOf vs.toArray n) ∈ l) (h0 : 0 ≤ k) (h1 : k < 2 ^ 63) (hx : vs[k.toNat]? = some v) (h : Q v s)
    (hs : subscripted slice false (.ref S) (.int k u) = operate [.ref S, .int k u] (getItem (.ref S) (.int k u)) := by with_unfolding_all rfl) :
    wpAny (model prog w) A (subscriptTail value slice (.ref S) (.int k u)) Q E s :=
  have hl : s.heap.IsList S vs.toArray := PySem.IsL.isList (n := n) (N _ hm).1
  tail_any hl.typeIs slot_list_getitem.lookup (wpAny_getItem_list hl h0 h1 (by simpa using hx) h) hs
theorem src_set {g : Obj → Led} {k : Int} {u : Tok} {v : Value} {vs vs' : List Value} {Q : Unit → Shared → Prop} (F : Fr h₀ L s.heap m) (N : News h₀ L s.heap (g (listOf vs.toArray n))) (H : Held S g) (h0 : 0 ≤ k) (h1 : k < vs.length) (hfit : k < 2 ^ 63) (he : vs.set k.toNat v = vs')
    (h : ∀ h', Fr h₀ L h' m → News h₀ L h' (g (listOf vs'.toArray n)) → Q () { s with heap := h' }) :
    wpAny (model prog w) A (setItem (.ref S) (.int k u) v) Q E s := by
  subst he
  obtain ⟨pre, post, e1, e2, a, b⟩ := (H.upd (listOf vs.toArray n) (listOf (vs.set k.toNat v).toArray n)).split
  rw [e2] at h
  rw [e1] at N
  have z := N (S, listOf vs.toArray n) (List.mem_append.mpr (.inr (.head _)))
  refine ki_setAt z.1 h0 hfit (by simpa using h1) (h _ (F.change (Heap.SameBut.update ..) z.2.1 z.2.2) (ki_turn _ N a b ?_ ?_))
  · show vs.toArray.setIfInBounds k.toNat v = (vs.set k.toNat v).toArray
    apply Array.toList_inj.mp
    simp
  · simp
end
local macro_rules | `(tactic| walk_at "subscriptTail") => `(tactic| (k_here; (with_reducible show wpAny _ _ (subscriptTail _ _ (Value.ref _) (Value.int _ _)) _ _ _); k_dflt (refine' src_at ?k1 ?k2 ?k3 ?k4 ?k5 ?_ ?k7; (case k1 => k_asm); (case k2 => (rename Held _ _ => hz; exact hz.mem _)); (case k3 => decide); (case k4 => decide); (case k5 => rfl); (case k7 => with_unfolding_all rfl); k_whole)))
local macro_rules | `(tactic| walk_at "setItem ref int") => `(tactic| (k_here; k_dflt (refine' src_set ?k1 ?k2 ?k3 ?k4 ?k5 ?k6 ?k7 ?_; (case k1 => k_asm); (case k2 => k_asm); (case k3 => assumption); (case k4 => decide); (case k5 => decide); (case k6 => decide); (case k7 => rfl); k_whole); intro h' F' N'; (try k_sweep)))
theorem fdiv_in {x r : Int} (h : 0 ≤ x) (hr : 0 < r) : 0 ≤ x.fdiv r := by
  rw [Int.fdiv_eq_ediv_of_nonneg _ (Int.le_of_lt hr)]; exact Int.ediv_nonneg h (Int.le_of_lt hr)
local macro_rules | `(tactic| k_mem) => `(tactic| (rename Held _ _ => hz; exact hz.mem _))
local macro_rules | `(tactic| k_upd) => `(tactic| (rename Held _ _ => hz; exact hz.upd _ _))
theorem top_py {b : Int} (h0 : 0 < b) (h1 : b ≤ 4294967296) (a : Int) : Builtin.divisionGoesByPylong a b = false := PyProof.noPylong_of_log2 (by
  have : b.natAbs ≠ 0 := by omega
  have h : Nat.log2 b.natAbs < 33 := (Nat.log2_lt this).mpr (by omega)
  omega)
local macro_rules | `(tactic| walk_at "binaryOp FloorDiv int int") => `(tactic| (k_here; (with_reducible refine floordiv_int (by omega) ?_ (Or.inl (top_py (by assumption) (by assumption) _)))))
theorem take_ok (S : Addr) (top a b : Int) (tt ta tb : Tok) (n : Nat) (g : Obj → Led) : Take 2 98 S top a b tt ta tb n g (0 < top ∧ top ≤ 4294967296 ∧ 0 ≤ a ∧ 0 ≤ b ∧ b < 2147483647) := by
  dsimp only [Take]
  k_fill
  intro w mean mg mb dp un gd cn cs ad ccd cl outer A₀ base h₀ L m s Q E B F X N T hk hpre hd hu H hret
  obtain ⟨ht0, ht1, ha, hb0, hb1⟩ := hpre
  refine wpAny_call ?_
  k_dflt cell_enter
  k_steps
  all_goals (
    refine' hret _ _ _ _ _ _ _ _ _ ?p1 ?p2 ?p3 ?p4 ?p5 ?pF ?pN
    (case pF => assumption)
    (case pN => assumption)
    (case p1 => exact (fmod_in _ ht0).1)
    (case p2 => exact (fmod_in _ ht0).2)
    (case p3 => first | exact ha | exact fdiv_in ha ht0)
    (case p4 => first | exact hb0 | exact (fmod_in _ (by decide)).1)
    (case p5 => first | exact hb1 | exact (fmod_in _ (by decide)).2))
end
section
theorem take_use {w : World} {mean : ExcName → Option Value} {mg mb : Str → Option Value} {k : Nat} {f S : Addr} {top a b : Int} {tt ta tb : Tok} {n : Nat} {g : Obj → Led} {pre : Prop}
    {dp un : Nat} {gd : Option (List Code)} {cn : Str} {cs : Scope} {ad : Addr} {ccd : Value} {cl : List (Str × Addr)} {outer : List Env} {A₀ : Around} {base h₀ : Heap} {L : Addr} {m : Str → Option Value} {s : Shared} {Q E : Value → Shared → Prop}
    (C : Take k f S top a b tt ta tb n g pre) (B : Below A₀ base outer h₀) (F : Fr h₀ L s.heap m) (X : (hd.heap_39 w.params).In h₀) (N : News h₀ L s.heap (g (src a b ta tb n))) (T : Top hd.view_39 (looseW hd.view_39 []) mean mg mb h₀) (hk : cs.kind = .function)
    (hp : pre) (hd : dp + k < recursionLimit) (hu : un + 8 * k + 300 < cLine) (H : Held S g)
    (ret : ∀ (d a' b' : Int) (t ta' tb' : Tok) (n' : Nat) (h' : Heap) (tk' : Nat), 0 ≤ d → d < top → 0 ≤ a' → 0 ≤ b' → b' < 2147483647 → Fr h₀ L h' m → News h₀ L h' (g (src a' b' ta' tb' n')) → Q (.int d t) { s with heap := h', toks := tk' }) :
    wpAny (model PySem.Challenge.rw_nu0118_01.row.prog w) (ktrTop dp un gd cn cs L ad ccd cl outer) (call (.ref f) [.ref S, .int top tt]) Q E s :=
  C w mean mg mb dp un gd cn cs ad ccd cl outer A₀ base h₀ L m s Q E B F X N T hk hp hd hu H ret
abbrev One (k : Nat) (f : Addr) (S D : Addr) (xs : List Int) (vs : List Value) (nn : Nat) (a b : Int) (ta tb : Tok) (n : Nat) (g : Obj → Led) (pre : Prop) : Prop :=
  ∀ (w : World) (mean : ExcName → Option Value) (mg mb : Str → Option Value)
    (dp un : Nat) (gd : Option (List Code)) (cn : Str) (cs : Scope) (ad : Addr) (ccd : Value) (cl : List (Str × Addr)) (outer : List Env) (A₀ : Around) (base h₀ : Heap) (L : Addr) (m : Str → Option Value) (s : Shared) (Q E : Value → Shared → Prop),
    Below A₀ base outer h₀ → Fr h₀ L s.heap m → (hd.heap_39 w.params).In h₀ → News h₀ L s.heap (g (src a b ta tb n)) → Top hd.view_39 (looseW hd.view_39 []) mean mg mb h₀ → cs.kind = .function →
    pre → dp + k < recursionLimit → un + 8 * k + 300 < cLine → Held S g → IntsAre vs xs → (∀ o, (D, listOf vs.toArray nn) ∈ g o) →
    (∀ (x a' b' : Int) (t ta' tb' : Tok) (n' : Nat) (h' : Heap) (tk' : Nat), x ∈ xs → 0 ≤ a' → 0 ≤ b' → b' < 2147483647 → Fr h₀ L h' m → News h₀ L h' (g (src a' b' ta' tb' n')) → Q (.int x t) { s with heap := h', toks := tk' }) →
    wpAny (model PySem.Challenge.rw_nu0118_01.row.prog w) (ktrTop dp un gd cn cs L ad ccd cl outer) (call (.ref f) [.ref S, .ref D]) Q E s
structure Has (D : Addr) (o : Obj) (g : Obj → Led) : Prop where
  mem : ∀ o', (D, o) ∈ g o'
local macro_rules | `(tactic| k_mem) => `(tactic| (rename Held _ _ => hz; exact hz.mem _))
local macro_rules | `(tactic| k_mem) => `(tactic| (rename Has _ _ _ => hz; exact hz.mem _))
local macro_rules | `(tactic| walk_at "call ref") => `(tactic| (k_here; k_dflt (
  (refine' take_use (take_ok _ _ _ _ _ _ _ _ _) ?k1 ?k2 ?k3 ?k4 ?k5 ?kK ?kp ?kd ?ku ?kH ?_);
  (case k1 => k_asm); (case k2 => k_asm); (case k3 => k_asm); (case k4 => k_asm); (case k5 => k_asm); (case kK => first | exact rfl | assumption); (case kH => assumption);
  (case kp => refine ⟨?_, ?_, ?_, ?_, ?_⟩ <;> omega); (case kd => first | exact room_up (by assumption) (by decide) | exact Nat.le_of_ble_eq_true rfl | ktr_room); (case ku => first | exact units_up (by assumption) rfl (by decide) | exact Nat.le_of_ble_eq_true rfl | ktr_units); intro d9 a9 b9 t9 ta9 tb9 n9 h9 tk9 p1 p2 p3 p4 p5 F9 N9; (try dsimp only); (try k_fold))))
theorem getD_in {xs : List Int} {d : Int} (h0 : 0 ≤ d) (h1 : d < xs.length) : xs.getD d.toNat 0 ∈ xs := by
  have h : d.toNat < xs.length := by omega
  rw [List.getD_eq_getElem?_getD, List.getElem?_eq_getElem h]
  exact List.getElem_mem h
theorem has_len {prog : Program} {w : World} {A : Around} {E : Value → Shared → Prop} {s : Shared} {h₀ : Heap} {L D : Addr} {l : Led} {vs : List Value} {ns : List Int} {n : Nat} {Q : Value → Shared → Prop}
    (N : News h₀ L s.heap l) (hm : (D, listOf vs.toArray n) ∈ l) (hi : IntsAre vs ns) (hfit : ns.length < 2 ^ 62) (h : Q (.int ns.length (s.toks + 1)) { s with toks := s.toks + 1 + 1 }) :
    wpAny (model prog w) A (call (.builtin "len") [.ref D]) Q E s := len_ints_fit (PySem.IsL.isList (n := n) (N _ hm).1) hi hfit h
local macro_rules | `(tactic| walk_at "call builtin:len") => `(tactic| (k_here; (with_reducible show wpAny _ _ (call (Value.builtin "len") [Value.ref _]) _ _ _); k_dflt (refine' has_len ?k1 ?k2 ?k3 ?k4 ?_; (case k1 => k_asm); (case k2 => (rename Has _ _ _ => hz; exact hz.mem _)); (case k3 => with_reducible assumption); (case k4 => omega); k_whole)))
local macro_rules | `(tactic| walk_at "subscriptTail") => `(tactic| (k_here; (with_reducible show wpAny _ _ (subscriptTail _ _ (Value.ref _) (Value.int _ _)) _ _ _); k_dflt (refine' ksa_sub ?k1 ?k2 ?k3 ?k4 ?k5 ?k6 ?_ ?k7; (case k1 => k_asm); (case k2 => (rename Has _ _ _ => hz; exact hz.mem _)); (case k3 => with_reducible assumption); (case k4 => omega); (case k5 => omega); (case k6 => omega); (case k7 => with_unfolding_all rfl); k_whole); intro _))
theorem one_ok (S D : Addr) (xs : List Int) (vs : List Value) (nn : Nat) (a b : Int) (ta tb : Tok) (n : Nat) (g : Obj → Led) : One 3 105 S D xs vs nn a b ta tb n g (0 < xs.length ∧ xs.length ≤ 64 ∧ 0 ≤ a ∧ 0 ≤ b ∧ b < 2147483647) := by
  dsimp only [One]
  k_fill
  intro w mean mg mb dp un gd cn cs ad ccd cl outer A₀ base h₀ L m s Q E B F X N T hk hpre hd hu H hI hM hret
  obtain ⟨ht0, ht1, ha, hb0, hb1⟩ := hpre
  have hM' : Has D (listOf vs.toArray nn) g := ⟨hM⟩
  have hlen := hI.length
  refine wpAny_call ?_
  k_dflt cell_enter
  k_steps
  all_goals (
    refine' hret _ _ _ _ _ _ _ _ _ ?p1 ?p3 ?p4 ?p5 ?pF ?pN
    (case pF => assumption)
    (case pN => assumption)
    (case p1 => exact getD_in (by assumption) (by assumption))
    (case p3 => assumption)
    (case p4 => assumption)
    (case p5 => assumption))
end
section
abbrev Pool (k : Nat) (f : Addr) (l : Addr) (vs : List Value) (ns : List Int) (i : Int) (ti : Tok) (news : Led) (pre : Prop) : Prop :=
  ∀ (w : World) (mean : ExcName → Option Value) (mg mb : Str → Option Value)
    (dp un : Nat) (gd : Option (List Code)) (cn : Str) (cs : Scope) (ad : Addr) (ccd : Value) (cl : List (Str × Addr)) (outer : List Env) (A₀ : Around) (base h₀ : Heap) (L : Addr) (m : Str → Option Value) (s : Shared) (Q E : Value → Shared → Prop),
    Below A₀ base outer h₀ → Fr h₀ L s.heap m → (hd.heap_39 w.params).In h₀ → News h₀ L s.heap news → Top hd.view_39 (looseW hd.view_39 []) mean mg mb h₀ → cs.kind = .function →
    base.IsList l vs.toArray → IntsAre vs ns → ns.length < 2 ^ 62 → pre → dp + k < recursionLimit → un + 8 * k + 300 < cLine →
    (∀ (S : Addr) (a' b' : Int) (ta' tb' : Tok) (n' : Nat) (h' : Heap) (tk' : Nat), 0 ≤ a' → 0 ≤ b' → b' < 2147483647 → AllLt S news → Fr h₀ L h' m → News h₀ L h' ((S, src a' b' ta' tb' n') :: news) → Q (.ref S) { s with heap := h', toks := tk' }) →
    wpAny (model PySem.Challenge.rw_nu0118_01.row.prog w) (ktrTop dp un gd cn cs L ad ccd cl outer) (call (.ref f) [.ref l, .int i ti]) Q E s
theorem pool_ok (l : Addr) (vs : List Value) (ns : List Int) (i : Int) (ti : Tok) (news : Led) : Pool 2 91 l vs ns i ti news (0 ≤ i ∧ i ≤ 1) := by
  dsimp only [Pool]
  k_fill
  intro w mean mg mb dp un gd cn cs ad ccd cl outer A₀ base h₀ L m s Q E B F X N T hk hl hI hfit hpre hd hu hret
  obtain ⟨hi0, hi1⟩ := hpre
  refine wpAny_call ?_
  k_dflt cell_enter
  k_steps
  all_goals (
    refine' hret _ _ _ _ _ _ _ _ ?p3 ?p4 ?p5 ?pL ?pF ?pN
    (case pF => assumption)
    (case pN => assumption)
    (case pL => first | assumption | exact allLt_of (by assumption) | skip)
    (case p3 => clear hret; refine Int.mul_nonneg ?_ ?_ <;> (split <;> omega))
    (case p4 => exact (fmod_in _ (by decide)).1)
    (case p5 => exact (fmod_in _ (by decide)).2))
end
local macro_rules | `(tactic| walk_at "call ref") => `(tactic| (k_here; k_dflt (
  (refine' pure_use (isin_ok _ _ _ _ _ _ _ _) ?k1 ?k2 ?k3 ?k4 ?k5 ?kK ?kp ?kd ?ku ?_);
  (case k1 => k_asm); (case k2 => k_asm); (case k3 => k_asm); (case k4 => k_asm); (case k5 => k_asm); (case kK => first | exact rfl | assumption);
  (case kp => first | assumption | omega | (refine ⟨?_, ?_, ?_, ?_, ?_⟩ <;> first | omega | exact (fmod_in _ (by omega)).1 | exact (fmod_in _ (by omega)).2)); (case kd => first | exact room_up (by assumption) (by decide) | exact Nat.le_of_ble_eq_true rfl | ktr_room); (case ku => first | exact units_up (by assumption) rfl (by decide) | exact Nat.le_of_ble_eq_true rfl | ktr_units); intro t9 h9 tk9 F9 N9; (try dsimp only); (try k_fold))))
local macro_rules | `(tactic| walk_at "eval Call") => `(tactic| (k_here; (with_reducible show wpAny _ _ (eval (Expr.Call (Expr.Name _ _) _ [] _) _) _ _ _); k_dflt (refine Call_ ?_)))
section
theorem numbers_ok (a st r : Int) (ta ts tr : Tok) : Pure 6 112 (0 ≤ a ∧ a < r ∧ 0 ≤ st ∧ st < r ∧ 32 ≤ r ∧ r % 2 = 0) [.int a ta, .int st ts, .int r tr] (fun _ => .bool true) := by
  dsimp only [Pure]
  k_fill
  intro w mean mg mb news dp un gd cn cs ad ccd cl outer A₀ base h₀ L m s Q E B F X N T hk hpre hd hu hret
  obtain ⟨ha0, ha1, hs0, hs1, hr, he⟩ := hpre
  have hr0 : 0 < r := by omega
  refine wpAny_call ?_
  k_dflt cell_enter
  k_steps
  all_goals (
    row_timed "A1" (refine cb_retB hret ?e1 ?e2 ?e3)
    row_timed "A2" (case e2 => first | with_reducible assumption | assumption)
    row_timed "A3" (case e3 => first | with_reducible assumption | exact drop1 (by with_reducible assumption) | exact drop2 (by with_reducible assumption) | assumption | exact drop1 (by assumption) | exact drop2 (by assumption))
    (case e1 =>
      row_timed "A4" (clear hret hd hu hk; (repeat (with_reducible rename Fr _ _ _ _ => hz; clear hz)); (repeat (with_reducible rename News _ _ _ _ => hz; clear hz)); (repeat (with_reducible rename Below _ _ _ _ => hz; clear hz)); (repeat (with_reducible rename Top _ _ _ _ _ _ => hz; clear hz)); (repeat (with_reducible rename Frag.In _ _ => hz; clear hz)))
      row_timed "A5" ((repeat (with_reducible rename (_ != _) = false => hz; clear hz)); (repeat (with_reducible rename (_ != _) = true => hz; rw [bne_iff_ne] at hz)))
      row_timed "A6" (simp only [fm hr0] at *)
      obtain ⟨q1, q2, q3, q4, q5⟩ := num_facts ha0 ha1 hs0 hs1 rfl
      row_timed "A7" (simp only [q4, q3] at *; generalize (a + st) % r = b at *; generalize (a - b) % r = g at *)
      clear he
      row_timed "A8" (simp only [beq_dec, ne_eq, decide_eq_decide, decide_eq_true_eq, not_true_eq_false, Bool.false_eq_true] at *)
      row_timed "A9" (try omega)))
end
section
theorem acks_ok (u fl st r : Int) (tu tf ts tr : Tok) : Pure 6 129 (0 ≤ u ∧ u < r ∧ 0 ≤ fl ∧ fl ≤ 6 ∧ -fl - 2 ≤ st ∧ st ≤ fl + 2 ∧ 32 ≤ r) [.int u tu, .int fl tf, .int st ts, .int r tr] (fun _ => .bool true) := by
  dsimp only [Pure]
  k_fill
  intro w mean mg mb news dp un gd cn cs ad ccd cl outer A₀ base h₀ L m s Q E B F X N T hk hpre hd hu hret
  obtain ⟨ha0, ha1, hf0, hf1, hs0, hs1, hr⟩ := hpre
  have hr0 : 0 < r := by omega
  refine wpAny_call ?_
  k_dflt cell_enter
  k_steps
  all_goals (
    refine cb_retB hret ?e1 ?e2 ?e3
    (case e2 => first | with_reducible assumption | assumption)
    (case e3 => first | with_reducible assumption | exact drop1 (by with_reducible assumption) | exact drop2 (by with_reducible assumption) | assumption | exact drop1 (by assumption) | exact drop2 (by assumption))
    (case e1 =>
      clear hret hd hu hk
      (repeat (with_reducible rename Fr _ _ _ _ => hz; clear hz))
      (repeat (with_reducible rename News _ _ _ _ => hz; clear hz))
      (repeat (with_reducible rename Below _ _ _ _ => hz; clear hz))
      (repeat (with_reducible rename Top _ _ _ _ _ _ => hz; clear hz))
      (repeat (with_reducible rename Frag.In _ _ => hz; clear hz))
      (repeat (with_reducible rename (_ != _) = false => hz; clear hz))
      (repeat (with_reducible rename (_ != _) = true => hz; rw [bne_iff_ne] at hz))
      simp only [fm hr0] at *
      obtain ⟨q1, q2, q3⟩ := ack_facts ha0 ha1 hf0 hf1 hs0 hs1 hr rfl rfl
      simp only [q1] at *
      generalize (u + st) % r = b at *
      generalize (u - b) % r = g at *
      generalize (b - u) % r = k at *
      simp only [beq_dec, beq_iff_eq, ne_eq, decide_eq_decide, decide_eq_true_eq, not_true_eq_false, Bool.false_eq_true] at *
      try omega))
end
section
/-- the bytes from lo on, up to hi -/
def cut (b : Array UInt8) (lo hi : Nat) : Array UInt8 := ((b.toList.drop lo).take (hi - lo)).toArray
theorem cut_size (b : Array UInt8) (lo hi : Nat) : (cut b lo hi).size = min (hi - lo) (b.size - lo) := by simp [cut]
theorem clip_pos {n : Nat} {x : Int} (h0 : 0 ≤ x) : clipAt n x = min x.toNat n := by
  obtain ⟨k, rfl⟩ := Int.eq_ofNat_of_zero_le h0
  rw [clipAt_nat]; rfl
theorem take_drop_min {α : Type} (l : List α) (i j : Nat) : (l.drop (min i l.length)).take (min j l.length - min i l.length) = (l.drop i).take (j - i) := by
  by_cases h : i ≤ l.length
  · rw [Nat.min_eq_left h]
    by_cases h2 : j ≤ l.length
    · rw [Nat.min_eq_left h2]
    · rw [Nat.min_eq_right (by omega)]
      rw [List.take_of_length_le (by rw [List.length_drop]; omega), List.take_of_length_le (by rw [List.length_drop]; omega)]
  · have hm : min i l.length = l.length := Nat.min_eq_right (by omega)
    rw [hm, List.drop_of_length_le (Nat.le_refl _), List.drop_of_length_le (by omega)]
    simp
theorem picked_lo {b : Array UInt8} {i : Int} (h : 0 ≤ i) : KBy.picked b (some i) none = cut b i.toNat b.size := by
  rw [KBc.picked_eq]
  show ((b.toList.drop (clipAt b.size i)).take (b.size - clipAt b.size i)).toArray = _
  rw [clip_pos h]
  have e := take_drop_min b.toList i.toNat b.size
  rw [Array.length_toList, Nat.min_self] at e
  rw [e]; rfl
theorem picked_hi {b : Array UInt8} {j : Int} (h : 0 ≤ j) : KBy.picked b none (some j) = cut b 0 j.toNat := by
  rw [KBc.picked_eq]
  show ((b.toList.drop 0).take (clipAt b.size j - 0)).toArray = _
  rw [clip_pos h]
  have e := take_drop_min b.toList 0 j.toNat
  rw [Array.length_toList, Nat.zero_min] at e
  rw [e]; rfl
theorem picked_both {b : Array UInt8} {i j : Int} (h : 0 ≤ i) (hj : 0 ≤ j) : KBy.picked b (some i) (some j) = cut b i.toNat j.toNat := by
  rw [KBc.picked_eq]
  show ((b.toList.drop (clipAt b.size i)).take (clipAt b.size j - clipAt b.size i)).toArray = _
  rw [clip_pos h, clip_pos hj]
  have e := take_drop_min b.toList i.toNat j.toNat
  rw [Array.length_toList] at e
  rw [e]; rfl
theorem cut_cut (b : Array UInt8) (lo hi k : Nat) : cut (cut b lo hi) 0 k = cut b lo (lo + min k (hi - lo)) := by
  simp only [cut, List.drop_zero, Nat.sub_zero, List.take_take]
  rw [show lo + min k (hi - lo) - lo = min k (hi - lo) by omega]
theorem cut_sat {b : Array UInt8} {lo hi hi' : Nat} (h : b.size ≤ hi) (h' : b.size ≤ hi') : cut b lo hi = cut b lo hi' := by
  unfold cut
  rw [List.take_of_length_le (by rw [List.length_drop, Array.length_toList]; omega), List.take_of_length_le (by rw [List.length_drop, Array.length_toList]; omega)]
theorem cut_all {b : Array UInt8} {hi : Nat} (h : b.size ≤ hi) : cut b 0 hi = b := by
  unfold cut
  rw [List.drop_zero, List.take_of_length_le (by rw [Array.length_toList]; omega), Array.toArray_toList]
theorem cut_none {b : Array UInt8} {lo hi : Nat} (h : hi ≤ lo ∨ b.size ≤ lo) : cut b lo hi = #[] := by
  unfold cut
  rcases h with h | h
  · rw [show hi - lo = 0 by omega]; rfl
  · rw [List.drop_of_length_le (by rw [Array.length_toList]; exact h), List.take_nil]
/-- a step below half the ring, seen from both sides -/
theorem step_facts {e d r f : Int} (he0 : 0 ≤ e) (he1 : e < r) (hr : 32 ≤ r) (hd0 : -8 ≤ d) (hd1 : d ≤ 8) (hf : (e + d) % r = f) :
    0 ≤ f ∧ f < r ∧ ((0 ≤ d ∧ (f - e) % r = d) ∨ (d < 0 ∧ (f - e) % r = r + d)) ∧ ((d < 0 ∧ (e - f) % r = -d) ∨ (d = 0 ∧ (e - f) % r = 0) ∨ (0 < d ∧ (e - f) % r = r - d)) := by
  subst hf
  have hr0 : 0 < r := Int.lt_of_lt_of_le (by decide) hr
  rw [far1, far2]
  refine ⟨Int.emod_nonneg _ (Int.ne_of_gt hr0), Int.emod_lt_of_pos _ hr0, ?_, ?_⟩
  · by_cases h : d < 0
    · exact .inr ⟨h, by rw [up h (by clear he0 he1 hd1 hr0; omega), Int.add_comm]⟩
    · exact .inl ⟨Int.not_lt.mp h, Int.emod_eq_of_lt (Int.not_lt.mp h) (by clear he0 he1 hd0 hr0 h; omega)⟩
  · by_cases h : d < 0
    · exact .inl ⟨h, Int.emod_eq_of_lt (by clear he0 he1 hd0 hd1 hr0 hr; omega) (by clear he0 he1 hd1 hr0 h; omega)⟩
    · by_cases hz : d = 0
      · subst hz; exact .inr (.inl ⟨rfl, Int.zero_emod r⟩)
      · have hp : 0 < d := by clear he0 he1 hd0 hd1 hr0 hr; omega
        exact .inr (.inr ⟨hp, by rw [up (d := -d) (by clear he0 he1 hd0 hd1 hr0 hr h hz; omega) (by clear he0 he1 hd0 hr0 h hz hp; omega), Int.add_comm, ← Int.sub_eq_add_neg]⟩)
/-- what trimmed hands back, by the step d from the window's start -/
def Trimmed (bs : Array UInt8) (fin : Bool) (e f d win : Int) (x : Int) (y : Array UInt8) (z : Bool) : Prop :=
  (d < 0 → x = e) ∧ (0 ≤ d → x = f) ∧ y = cut bs (-d).toNat (win - d).toNat ∧ z = (fin && decide (0 ≤ (bs.size : Int) + d ∧ (bs.size : Int) + d < win))
theorem trim_lo {bs : Array UInt8} {d win : Int} (h : d < 0) (hw : 0 ≤ win) : cut (cut bs (-d).toNat bs.size) 0 win.toNat = cut bs (-d).toNat (win - d).toNat := by
  rw [cut_cut]
  by_cases h1 : (-d).toNat ≤ bs.size
  · by_cases h2 : win.toNat ≤ bs.size - (-d).toNat
    · rw [show (-d).toNat + min win.toNat (bs.size - (-d).toNat) = (win - d).toNat by omega]
    · exact cut_sat (by omega) (by omega)
  · rw [cut_none (.inr (by omega)), cut_none (.inr (by omega))]
theorem trim_lo' {bs : Array UInt8} {d win : Int} (h : d < 0) (hw : 0 ≤ win) (hs : ¬ win < (cut bs (-d).toNat bs.size).size) : cut bs (-d).toNat bs.size = cut bs (-d).toNat (win - d).toNat := by
  rw [cut_size] at hs
  by_cases h1 : (-d).toNat ≤ bs.size
  · exact cut_sat (by omega) (by omega)
  · rw [cut_none (.inr (by omega)), cut_none (.inr (by omega))]
section
variable {bs : Array UInt8} {fin : Bool} {e f d win : Int}
theorem trimA1 (h : d < 0) (hw : 0 ≤ win) (hs : win < ((cut bs (-d).toNat bs.size).size : Int)) : Trimmed bs fin e f d win e (cut (cut bs (-d).toNat bs.size) 0 win.toNat) false := by
  rw [cut_size] at hs
  refine ⟨fun _ => rfl, fun h' => by omega, trim_lo h hw, ?_⟩
  rw [decide_eq_false (by omega), Bool.and_false]
theorem trimA2 (h : d < 0) (hw : 0 ≤ win) (hs : ¬ win < ((cut bs (-d).toNat bs.size).size : Int)) (hf : fin = true) (ho : -d ≤ (bs.size : Int)) :
    Trimmed bs fin e f d win e (cut bs (-d).toNat bs.size) (decide (((cut bs (-d).toNat bs.size).size : Int) < win)) := by
  refine ⟨fun _ => rfl, fun h' => by omega, trim_lo' h hw hs, ?_⟩
  rw [hf, Bool.true_and, decide_eq_decide, cut_size]
  omega
theorem trimA3 (h : d < 0) (hw : 0 ≤ win) (hs : ¬ win < ((cut bs (-d).toNat bs.size).size : Int)) (ho : ¬ -d ≤ (bs.size : Int)) :
    Trimmed bs fin e f d win e (cut bs (-d).toNat bs.size) (decide (-d ≤ (bs.size : Int))) := by
  refine ⟨fun _ => rfl, fun h' => by omega, trim_lo' h hw hs, ?_⟩
  rw [decide_eq_false ho, decide_eq_false (by omega), Bool.and_false]
theorem trimA4 (h : d < 0) (hw : 0 ≤ win) (hs : ¬ win < ((cut bs (-d).toNat bs.size).size : Int)) (hf : fin = false) :
    Trimmed bs fin e f d win e (cut bs (-d).toNat bs.size) fin := by
  refine ⟨fun _ => rfl, fun h' => by omega, trim_lo' h hw hs, ?_⟩
  rw [hf, Bool.false_and]
theorem trimB1 (h : 0 ≤ d) (hs : (if 0 > win - d then 0 else win - d) < (bs.size : Int)) : Trimmed bs fin e f d win f (cut bs 0 (if 0 > win - d then 0 else win - d).toNat) false := by
  refine ⟨fun h' => by omega, fun _ => rfl, ?_, ?_⟩
  · rw [show (-d).toNat = 0 by omega, show (if 0 > win - d then 0 else win - d).toNat = (win - d).toNat by split <;> omega]
  · rw [decide_eq_false (by split at hs <;> omega), Bool.and_false]
theorem trimB2 (h : 0 ≤ d) (hs : ¬ (if 0 > win - d then 0 else win - d) < (bs.size : Int)) (hf : fin = true) :
    Trimmed bs fin e f d win f bs (decide ((bs.size : Int) < (if 0 > win - d then 0 else win - d))) := by
  refine ⟨fun h' => by omega, fun _ => rfl, ?_, ?_⟩
  · rw [show (-d).toNat = 0 by omega, cut_all (by split at hs <;> omega)]
  · rw [hf, Bool.true_and, decide_eq_decide]
    split <;> omega
theorem trimB3 (h : 0 ≤ d) (hs : ¬ (if 0 > win - d then 0 else win - d) < (bs.size : Int)) (hf : fin = false) : Trimmed bs fin e f d win f bs fin := by
  refine ⟨fun h' => by omega, fun _ => rfl, ?_, ?_⟩
  · rw [show (-d).toNat = 0 by omega, cut_all (by split at hs <;> omega)]
  · rw [hf, Bool.false_and]
end
theorem room_win {win : Int} (h : 0 ≤ win) : (if 0 > win then 0 else win) = win := by rw [if_neg (by omega)]
structure TrimPre (e win r d f : Int) : Prop where
  he0 : 0 ≤ e
  he1 : e < r
  hw0 : 0 ≤ win
  hr : 32 ≤ r
  hd0 : -8 ≤ d
  hd1 : d ≤ 8
  hf : (e + d) % r = f
section
variable {bs : Array UInt8} {fin : Bool} {e f d win r g : Int}
theorem TrimPre.before (P : TrimPre e win r d f) (hg : g = f) (hA : 0 < (e - g) % r ∧ 2 * ((e - g) % r) < r) : d < 0 ∧ (e - g) % r = -d := by
  subst hg
  obtain ⟨_, _, _, e5⟩ := step_facts P.he0 P.he1 P.hr P.hd0 P.hd1 P.hf
  have := P.hr; have := P.hd1
  omega
theorem TrimPre.behind (P : TrimPre e win r d f) (hg : g = f) (hA : ¬ (0 < (e - g) % r ∧ 2 * ((e - g) % r) < r)) : 0 ≤ d ∧ (g - e) % r = d := by
  subst hg
  obtain ⟨_, _, e4, e5⟩ := step_facts P.he0 P.he1 P.hr P.hd0 P.hd1 P.hf
  have := P.hr; have := P.hd0
  omega
theorem TrimPre.room (P : TrimPre e win r d f) : (if 0 > win - (e - e) % r then 0 else win - (e - e) % r) = win := by
  rw [Int.sub_self, Int.zero_emod, Int.sub_zero, room_win P.hw0]
theorem tA1 (P : TrimPre e win r d f) (hg : g = f) (hA : 0 < (e - g) % r ∧ 2 * ((e - g) % r) < r) (hs : (if 0 > win - (e - e) % r then 0 else win - (e - e) % r) < ((cut bs ((e - g) % r).toNat bs.size).size : Int)) :
    Trimmed bs fin e f d win e (cut (cut bs ((e - g) % r).toNat bs.size) 0 (if 0 > win - (e - e) % r then 0 else win - (e - e) % r).toNat) false := by
  obtain ⟨h, hX⟩ := P.before hg hA
  rw [P.room] at hs ⊢
  rw [hX] at hs ⊢
  exact trimA1 h P.hw0 hs
theorem tA2 (P : TrimPre e win r d f) (hg : g = f) (hA : 0 < (e - g) % r ∧ 2 * ((e - g) % r) < r) (hs : ¬ (if 0 > win - (e - e) % r then 0 else win - (e - e) % r) < ((cut bs ((e - g) % r).toNat bs.size).size : Int)) (hf : fin = true) (ho : (e - g) % r ≤ (bs.size : Int)) :
    Trimmed bs fin e f d win e (cut bs ((e - g) % r).toNat bs.size) (decide (((cut bs ((e - g) % r).toNat bs.size).size : Int) < (if 0 > win - (e - e) % r then 0 else win - (e - e) % r))) := by
  obtain ⟨h, hX⟩ := P.before hg hA
  rw [P.room] at hs ⊢
  rw [hX] at hs ho ⊢
  exact trimA2 h P.hw0 hs hf ho
theorem tA3 (P : TrimPre e win r d f) (hg : g = f) (hA : 0 < (e - g) % r ∧ 2 * ((e - g) % r) < r) (hs : ¬ (if 0 > win - (e - e) % r then 0 else win - (e - e) % r) < ((cut bs ((e - g) % r).toNat bs.size).size : Int)) (ho : ¬ (e - g) % r ≤ (bs.size : Int)) :
    Trimmed bs fin e f d win e (cut bs ((e - g) % r).toNat bs.size) (decide ((e - g) % r ≤ (bs.size : Int))) := by
  obtain ⟨h, hX⟩ := P.before hg hA
  rw [P.room] at hs
  rw [hX] at hs ho ⊢
  exact trimA3 h P.hw0 hs ho
theorem tA4 (P : TrimPre e win r d f) (hg : g = f) (hA : 0 < (e - g) % r ∧ 2 * ((e - g) % r) < r) (hs : ¬ (if 0 > win - (e - e) % r then 0 else win - (e - e) % r) < ((cut bs ((e - g) % r).toNat bs.size).size : Int)) (hf : fin = false) :
    Trimmed bs fin e f d win e (cut bs ((e - g) % r).toNat bs.size) fin := by
  obtain ⟨h, hX⟩ := P.before hg hA
  rw [P.room] at hs
  rw [hX] at hs ⊢
  exact trimA4 h P.hw0 hs hf
theorem tB1 (P : TrimPre e win r d f) (hg : g = f) (hA : ¬ (0 < (e - g) % r ∧ 2 * ((e - g) % r) < r)) (hs : (if 0 > win - (g - e) % r then 0 else win - (g - e) % r) < (bs.size : Int)) :
    Trimmed bs fin e f d win g (cut bs 0 (if 0 > win - (g - e) % r then 0 else win - (g - e) % r).toNat) false := by
  obtain ⟨h, hX⟩ := P.behind hg hA
  rw [hX] at hs ⊢
  subst hg
  exact trimB1 h hs
theorem tB2 (P : TrimPre e win r d f) (hg : g = f) (hA : ¬ (0 < (e - g) % r ∧ 2 * ((e - g) % r) < r)) (hs : ¬ (if 0 > win - (g - e) % r then 0 else win - (g - e) % r) < (bs.size : Int)) (hf : fin = true) :
    Trimmed bs fin e f d win g bs (decide ((bs.size : Int) < (if 0 > win - (g - e) % r then 0 else win - (g - e) % r))) := by
  obtain ⟨h, hX⟩ := P.behind hg hA
  rw [hX] at hs ⊢
  subst hg
  exact trimB2 h hs hf
theorem tB3 (P : TrimPre e win r d f) (hg : g = f) (hA : ¬ (0 < (e - g) % r ∧ 2 * ((e - g) % r) < r)) (hs : ¬ (if 0 > win - (g - e) % r then 0 else win - (g - e) % r) < (bs.size : Int)) (hf : fin = false) : Trimmed bs fin e f d win g bs fin := by
  obtain ⟨h, hX⟩ := P.behind hg hA
  rw [hX] at hs
  subst hg
  exact trimB3 h hs hf
end
end
section
section
variable {prog : Program} {w : World} {A : Around} {E : Value → Shared → Prop} {s : Shared} {value slice : PySem.Expr} {b : Array UInt8} {t ti tj : Tok} {h₀ : Heap} {L : Addr} {m : PySem.Str → Option Value} {news : Led} {i j : Int} {Q : Value → Shared → Prop}
theorem slice_lo (F : Fr h₀ L s.heap m) (N : News h₀ L s.heap news) (h0 : 0 ≤ i) (hz : b.size ≤ 16777216)
    (h : ∀ h' t' k, Fr h₀ L h' m → News h₀ L h' news → (cut b i.toNat b.size).size ≤ b.size → Q (.bytes (cut b i.toNat b.size) t') { s with heap := h', toks := k })
    (hs : subscripted slice false (.bytes b t) (.ref s.heap.objs.size) = operate [.ref s.heap.objs.size, .bytes b t] (getItem (.bytes b t) (.ref s.heap.objs.size)) := by with_unfolding_all rfl)
    (ht : ∀ r, letTemporaryGo value (.bytes b t) r = pure () := by intro _; with_unfolding_all rfl) :
    wpAny (model prog w) A (subscriptTail value slice (.bytes b t) (.ref s.heap.objs.size)) Q E { s with heap := s.heap.push { cls := .type "slice", data := .fields #[.int i ti, .none, .none] } } :=
  KBc.slice_K F N rfl (.int i ti) .none (by rw [KBw.ints_length]; exact hz) (fun h' t' k F' N' _ => by rw [picked_lo h0]; exact h h' t' k F' N' (by rw [cut_size]; omega)) hs ht
theorem slice_hi (F : Fr h₀ L s.heap m) (N : News h₀ L s.heap news) (h0 : 0 ≤ j) (hz : b.size ≤ 16777216)
    (h : ∀ h' t' k, Fr h₀ L h' m → News h₀ L h' news → (cut b 0 j.toNat).size ≤ b.size → Q (.bytes (cut b 0 j.toNat) t') { s with heap := h', toks := k })
    (hs : subscripted slice false (.bytes b t) (.ref s.heap.objs.size) = operate [.ref s.heap.objs.size, .bytes b t] (getItem (.bytes b t) (.ref s.heap.objs.size)) := by with_unfolding_all rfl)
    (ht : ∀ r, letTemporaryGo value (.bytes b t) r = pure () := by intro _; with_unfolding_all rfl) :
    wpAny (model prog w) A (subscriptTail value slice (.bytes b t) (.ref s.heap.objs.size)) Q E { s with heap := s.heap.push { cls := .type "slice", data := .fields #[.none, .int j tj, .none] } } :=
  KBc.slice_K F N rfl .none (.int j tj) (by rw [KBw.ints_length]; exact hz) (fun h' t' k F' N' _ => by rw [picked_hi h0]; exact h h' t' k F' N' (by rw [cut_size]; omega)) hs ht
theorem slice_both (F : Fr h₀ L s.heap m) (N : News h₀ L s.heap news) (h0 : 0 ≤ i) (h1 : 0 ≤ j) (hz : b.size ≤ 16777216)
    (h : ∀ h' t' k, Fr h₀ L h' m → News h₀ L h' news → (cut b i.toNat j.toNat).size ≤ b.size → Q (.bytes (cut b i.toNat j.toNat) t') { s with heap := h', toks := k })
    (hs : subscripted slice false (.bytes b t) (.ref s.heap.objs.size) = operate [.ref s.heap.objs.size, .bytes b t] (getItem (.bytes b t) (.ref s.heap.objs.size)) := by with_unfolding_all rfl)
    (ht : ∀ r, letTemporaryGo value (.bytes b t) r = pure () := by intro _; with_unfolding_all rfl) :
    wpAny (model prog w) A (subscriptTail value slice (.bytes b t) (.ref s.heap.objs.size)) Q E { s with heap := s.heap.push { cls := .type "slice", data := .fields #[.int i ti, .int j tj, .none] } } :=
  KBc.slice_K F N rfl (.int i ti) (.int j tj) (by rw [KBw.ints_length]; exact hz) (fun h' t' k F' N' _ => by rw [picked_both h0 h1]; exact h h' t' k F' N' (by rw [cut_size]; omega)) hs ht
end
theorem room_pos (x : Int) : 0 ≤ (if 0 > x then 0 else x) := by split <;> omega
local macro_rules | `(tactic| walk_at "subscriptTail") => `(tactic| (k_here; (with_reducible show wpAny _ _ (subscriptTail _ (Expr.Slice _ _ none _) (Value.bytes _ _) (Value.ref _)) _ _ _); (with_reducible rename Fr _ _ _ _ => F'); (with_reducible rename News _ _ _ _ => N'); k_dflt (first
  | (refine slice_lo (s := ⟨_, _, _, _, _⟩) F' N' (by first | exact Int.emod_nonneg _ (by omega) | exact room_pos _ | omega) (by first | omega | (rw [cut_size]; omega)) ?_)
  | (refine slice_hi (s := ⟨_, _, _, _, _⟩) F' N' (by first | exact Int.emod_nonneg _ (by omega) | exact room_pos _ | omega) (by first | omega | (rw [cut_size]; omega)) ?_)); intro _ _ _ _ _ _))
abbrev Trim (k : Nat) (f : Addr) (vs : List Value) (news : Led) (pre : Prop) (P : Int → Array UInt8 → Bool → Prop) : Prop :=
  ∀ (w : World) (mean : ExcName → Option Value) (mg mb : Str → Option Value)
    (dp un : Nat) (gd : Option (List Code)) (cn : Str) (cs : Scope) (ad : Addr) (ccd : Value) (cl : List (Str × Addr)) (outer : List Env) (A₀ : Around) (base h₀ : Heap) (L : Addr) (m : Str → Option Value) (s : Shared) (Q E : Value → Shared → Prop),
    Below A₀ base outer h₀ → Fr h₀ L s.heap m → (hd.heap_39 w.params).In h₀ → News h₀ L s.heap news → Top hd.view_39 (looseW hd.view_39 []) mean mg mb h₀ → cs.kind = .function →
    pre → dp + k < recursionLimit → un + 8 * k + 300 < cLine →
    (∀ (D : Addr) (x : Int) (y : Array UInt8) (z : Bool) (t1 t2 : Tok) (c : Nat) (h' : Heap) (tk' : Nat), P x y z → AllLt D news → Fr h₀ L h' m → News h₀ L h' ((D, ({ cls := .type "tuple", data := .seq #[.int x t1, .bytes y t2, .bool z] c } : Obj)) :: news) → Q (.ref D) { s with heap := h', toks := tk' }) →
    wpAny (model PySem.Challenge.rw_nu0118_01.row.prog w) (ktrTop dp un gd cn cs L ad ccd cl outer) (call (.ref f) vs) Q E s
theorem trim_ok (q e win r d f : Int) (bs : Array UInt8) (syn fin : Bool) (tq te tw tr tb : Tok) (news : Led) :
    Trim 4 70 [.int q tq, .bytes bs tb, .bool syn, .bool fin, .int e te, .int win tw, .int r tr] news (0 ≤ e ∧ e < r ∧ 0 ≤ win ∧ win ≤ 7 ∧ 32 ≤ r ∧ bs.size ≤ 5 ∧ -8 ≤ d ∧ d ≤ 8 ∧ (e + d) % r = f ∧ (syn = true → (q + 1) % r = f) ∧ (syn = false → q = f)) (Trimmed bs fin e f d win) := by
  dsimp only [Trim]
  k_fill
  intro w mean mg mb dp un gd cn cs ad ccd cl outer A₀ base h₀ L m s Q E B F X N T hk hpre hd hu hret
  obtain ⟨he0, he1, hw0, hw1, hr, hb, hd0, hd1, hf, hqt, hqf⟩ := hpre
  have hr0 : 0 < r := by omega
  have hP : TrimPre e win r d f := ⟨he0, he1, hw0, hr, hd0, hd1, hf⟩
  refine wpAny_call ?_
  k_dflt cell_enter
  k_steps
  all_goals (
    refine' hret _ _ _ _ _ _ _ _ _ ?pP ?pL ?pF ?pN
    (case pF => first | with_reducible assumption | assumption)
    (case pN => first | with_reducible assumption | assumption)
    (case pL => first | assumption | exact allLt_of (by assumption))
    (case pP => first
      | exact tA1 hP (hqt (by assumption)) (by assumption) (by assumption)
      | exact tA2 hP (hqt (by assumption)) (by assumption) (by assumption) (by assumption) (by assumption)
      | exact tA3 hP (hqt (by assumption)) (by assumption) (by assumption) (by assumption)
      | exact tA4 hP (hqt (by assumption)) (by assumption) (by assumption) (by assumption)
      | exact tB1 hP (hqt (by assumption)) (by assumption) (by assumption)
      | exact tB2 hP (hqt (by assumption)) (by assumption) (by assumption) (by assumption)
      | exact tB3 hP (hqt (by assumption)) (by assumption) (by assumption) (by assumption)
      | exact tA1 hP (hqf (by assumption)) (by assumption) (by assumption)
      | exact tA2 hP (hqf (by assumption)) (by assumption) (by assumption) (by assumption) (by assumption)
      | exact tA3 hP (hqf (by assumption)) (by assumption) (by assumption) (by assumption)
      | exact tA4 hP (hqf (by assumption)) (by assumption) (by assumption) (by assumption)
      | exact tB1 hP (hqf (by assumption)) (by assumption) (by assumption)
      | exact tB2 hP (hqf (by assumption)) (by assumption) (by assumption) (by assumption)
      | exact tB3 hP (hqf (by assumption)) (by assumption) (by assumption) (by assumption)))
end
section
open PySem.Sem (wp)
theorem wp_execs_append (M : Model) (Γ : Ctx) (env : Env) : ∀ (a b : List Stmt) (Q : Flow → Pos → Shared → Prop) (E : Value → Pos → Shared → Prop) (p : Pos) (s : Shared),
    wp M Γ (execs (a ++ b) env) Q E p s = wp M Γ (execs a env) (fun f p' s' => match f with | .next => wp M Γ (execs b env) Q E p' s' | f => Q f p' s') E p s
  | [], b, Q, E, p, s => by
    show _ = wp M Γ (pure Flow.next : Sem Flow) _ E p s
    rw [Sem.wp_pure']; rfl
  | st :: a, b, Q, E, p, s => by
    show wp M Γ (execs (st :: (a ++ b)) env) Q E p s = _
    rw [execs_cons, execs_cons, Sem.wp_bind', Sem.wp_bind']
    congr 1
    funext f p' s'
    cases f with
    | next => exact wp_execs_append M Γ env a b Q E p' s'
    | brk => show wp M Γ (pure _ : Sem Flow) _ _ _ _ = wp M Γ (pure _ : Sem Flow) _ _ _ _; rw [Sem.wp_pure', Sem.wp_pure']
    | cont => show wp M Γ (pure _ : Sem Flow) _ _ _ _ = wp M Γ (pure _ : Sem Flow) _ _ _ _; rw [Sem.wp_pure', Sem.wp_pure']
    | ret v => show wp M Γ (pure _ : Sem Flow) _ _ _ _ = wp M Γ (pure _ : Sem Flow) _ _ _ _; rw [Sem.wp_pure', Sem.wp_pure']
/-- the first n statements, then the rest from whatever they leave -/
theorem execs_split {M : Model} {A : Around} {env : Env} {Q : Flow → Shared → Prop} {E : Value → Shared → Prop} {s : Shared} {stmts : List Stmt} (n : Nat) (R : Shared → Prop)
    (h1 : wpAny M A (execs (stmts.take n) env) (fun f s' => match f with | .next => R s' | f => Q f s') E s)
    (h2 : ∀ s', R s' → wpAny M A (execs (stmts.drop n) env) Q E s') : wpAny M A (execs stmts env) Q E s := fun Γ p hΓ => by
  have e := wp_execs_append M Γ env (stmts.take n) (stmts.drop n) (fun f _ s' => Q f s') (fun e _ s' => E e s') p s
  rw [List.take_append_drop] at e
  rw [e]
  refine Sem.wp_mono M Γ _ (fun f p' s' h' => ?_) (fun _ _ _ h' => h') _ _ (h1 Γ p hΓ)
  cases f <;> first | exact h2 s' h' Γ p' hΓ | exact h'
/-- three names of a frame, written out -/
theorem fr_three {h₀ h : Heap} {L : Addr} {m : PySem.Str → Option Value} {a b c : PySem.Str} {x y z : Value} (F : Fr h₀ L h m) (ha : m a = some x) (hb : m b = some y) (hc : m c = some z) :
    Fr h₀ L h (fun n => if n = a then some x else if n = b then some y else if n = c then some z else m n) := by
  have e : (fun n => if n = a then some x else if n = b then some y else if n = c then some z else m n) = m := by
    funext n
    by_cases h1 : n = a
    · rw [if_pos h1, h1, ha]
    · rw [if_neg h1]
      by_cases h2 : n = b
      · rw [if_pos h2, h2, hb]
      · rw [if_neg h2]
        by_cases h3 : n = c
        · rw [if_pos h3, h3, hc]
        · rw [if_neg h3]
  rw [e]; exact F
/-- what the segment's first half leaves -/
def Mid (g : Heap) (L : Addr) (led : List (Addr × Obj)) (bs : Array UInt8) (tb : Tok) (syn fin : Bool) (s₀ s' : Shared) : Prop :=
  ∃ (h : Heap) (tk : Nat) (m : PySem.Str → Option Value), s' = { s₀ with heap := h, toks := tk } ∧ Fr g L h m ∧ News g L h led ∧ m (PySem.Str.ofString "octets") = some (.bytes bs tb) ∧ m (PySem.Str.ofString "has_syn") = some (.bool syn) ∧ m (PySem.Str.ofString "has_fin") = some (.bool fin)
theorem Mid.intro {g h : Heap} {L : Addr} {led led' : List (Addr × Obj)} {bs : Array UInt8} {tb : Tok} {syn fin : Bool} {s₀ : Shared} {tk : Nat} {m : PySem.Str → Option Value} (F : Fr g L h m) (N : News g L h led')
    (hs : ∀ p ∈ led, p ∈ led') (e1 : m (PySem.Str.ofString "octets") = some (.bytes bs tb)) (e2 : m (PySem.Str.ofString "has_syn") = some (.bool syn)) (e3 : m (PySem.Str.ofString "has_fin") = some (.bool fin)) :
    Mid g L led bs tb syn fin s₀ { s₀ with heap := h, toks := tk } := ⟨h, tk, m, rfl, F, fun p hp => N p (hs p hp), e1, e2, e3⟩
theorem tails {α : Type} {l : List α} {a : α} : ∀ p ∈ l, p ∈ a :: l := fun _ h => .tail _ h
theorem tails2 {α : Type} {l : List α} {a b : α} : ∀ p ∈ l, p ∈ a :: b :: l := fun _ h => .tail _ (.tail _ h)
theorem tails3 {α : Type} {l : List α} {a b c : α} : ∀ p ∈ l, p ∈ a :: b :: c :: l := fun _ h => .tail _ (.tail _ (.tail _ h))
end
section
theorem foldl_filter' {f : List Int → Int → List Int} {p : Int → Bool} : ∀ {ks acc : List Int}, (∀ l, ∀ k ∈ ks, f l k = if p k = true then l ++ [k] else l) → ks.foldl f acc = acc ++ ks.filter p
  | [], acc, _ => by simp
  | k :: r, acc, h => by
    rw [List.foldl_cons, foldl_filter' (fun l x hx => h l x (.tail _ hx)), h acc k (.head _)]
    by_cases e : p k = true <;> simp [e]
theorem mod_small {x r : Int} (hr : 32 ≤ r) (h0 : -20 ≤ x) (h1 : x ≤ 20) : (0 ≤ x ∧ x % r = x) ∨ (x < 0 ∧ x % r = x + r) := by
  by_cases h : x < 0
  · exact .inr ⟨h, up h (by clear h1; omega)⟩
  · exact .inl ⟨Int.not_lt.mp h, Int.emod_eq_of_lt (Int.not_lt.mp h) (by clear h0 h; omega)⟩
/-- a number a few steps on, as the window sees it -/
theorem seen {e j r q i : Int} (hr : 32 ≤ r) (hq : (e + j) % r = q) : ((q + i) % r - e) % r = (j + i) % r := by
  subst hq
  rw [Int.sub_emod, Int.emod_emod_of_dvd _ (Int.dvd_refl r), Int.add_emod, Int.emod_emod_of_dvd _ (Int.dvd_refl r), ← Int.add_emod, ← Int.sub_emod]
  rw [show e + j + i - e = j + i by omega]
theorem seen0 {e j r q : Int} (hr : 32 ≤ r) (hq : (e + j) % r = q) : (q - e) % r = j % r := by
  subst hq; exact far1 e j r
theorem seen1 {e j r q : Int} (hr : 32 ≤ r) (hq : (e + j) % r = q) : (e - q) % r = (-j) % r := by
  subst hq; exact far2 e j r
/-- one of the segment's numbers lies in the window -/
theorem due_law {e j r q win len : Int} (hr : 32 ≤ r) (hq : (e + j) % r = q) (hj0 : -7 ≤ j) (hj1 : j ≤ 7) (hw0 : 0 ≤ win) (hw1 : win ≤ 7) (hl0 : 1 ≤ len) (hl1 : len ≤ 7) :
    (∃ k ∈ (rangeKs 0 (len - 0).toNat).map (fun k => (q + k).fmod r), (k - e) % r < win) ↔ (win ≠ 0 ∧ ((q - e) % r < win ∨ (e - q) % r < len)) := by
  rw [seen0 hr hq, seen1 hr hq]
  have a1 := mod_small (x := j) hr (by omega) (by omega)
  have a2 := mod_small (x := -j) hr (by omega) (by omega)
  constructor
  · rintro ⟨k, hk, hlt⟩
    obtain ⟨i, hi, rfl⟩ := List.mem_map.mp hk
    obtain ⟨i0, i1⟩ := mem_rangeKs hi
    rw [fm' (by omega), seen hr hq] at hlt
    have a3 := mod_small (x := j + i) hr (by omega) (by omega)
    omega
  · rintro ⟨hw, h⟩
    have pick : ∀ i : Int, 0 ≤ i → i < len → (j + i) % r < win → ∃ k ∈ (rangeKs 0 (len - 0).toNat).map (fun k => (q + k).fmod r), (k - e) % r < win := by
      intro i h0 h1 h2
      refine ⟨(q + i).fmod r, List.mem_map.mpr ⟨i, ?_, rfl⟩, ?_⟩
      · simp only [rangeKs, List.mem_map, List.mem_range]
        refine ⟨i.toNat, ?_, ?_⟩ <;> omega
      · rw [fm' (by omega), seen hr hq]; exact h2
    by_cases hj : 0 ≤ j ∧ j < win
    · refine pick 0 (by omega) (by omega) ?_
      rw [Int.add_zero]; omega
    · refine pick (-j) (by omega) (by omega) ?_
      rw [show j + -j = 0 by omega, Int.zero_emod]; omega
section
variable {e j r q win len : Int}
theorem accF1 (hl : len = 0) (hw : 0 < win) (h : (decide ((len = 0 ∧ win = 0 ∧ q = e) ∨ (len = 0 ∧ win ≠ 0 ∧ (q - e) % r < win) ∨ (len ≠ 0 ∧ win ≠ 0 ∧ ((q - e) % r < win ∨ (e - q) % r < len))) != decide ((q - e) % r < win)) = true) : False := by
  rw [bne_iff_ne, ne_eq, decide_eq_decide] at h
  refine h ⟨fun x => ?_, fun x => .inr (.inl ⟨hl, Int.ne_of_gt hw, x⟩)⟩
  rcases x with x | x | x
  · exact absurd x.2.1 (Int.ne_of_gt hw)
  · exact x.2.2
  · exact absurd hl x.1
theorem accF2 (hl : len = 0) (hw : ¬ 0 < win) (hw0 : 0 ≤ win) (h : (decide ((len = 0 ∧ win = 0 ∧ q = e) ∨ (len = 0 ∧ win ≠ 0 ∧ (q - e) % r < win) ∨ (len ≠ 0 ∧ win ≠ 0 ∧ ((q - e) % r < win ∨ (e - q) % r < len))) != (q == e)) = true) : False := by
  rw [bne_iff_ne, ne_eq, beq_dec, decide_eq_decide] at h
  have hz : win = 0 := Int.le_antisymm (Int.not_lt.mp hw) hw0
  refine h ⟨fun x => ?_, fun x => .inl ⟨hl, hz, x⟩⟩
  rcases x with x | x | x
  · exact x.2.2
  · exact absurd hz x.2.1
  · exact absurd hl x.1
theorem accF3 {f : List Int → Int → List Int} (hr : 32 ≤ r) (hq : (e + j) % r = q) (hj0 : -7 ≤ j) (hj1 : j ≤ 7) (hw0 : 0 ≤ win) (hw1 : win ≤ 7) (hl : len ≠ 0) (hl0 : 0 ≤ len) (hl1 : len ≤ 7)
    (hf : ∀ l k, 0 ≤ k → k < r → f l k = if (k - e) % r < win then l ++ [k] else l)
    (h : (decide ((len = 0 ∧ win = 0 ∧ q = e) ∨ (len = 0 ∧ win ≠ 0 ∧ (q - e) % r < win) ∨ (len ≠ 0 ∧ win ≠ 0 ∧ ((q - e) % r < win ∨ (e - q) % r < len))) != !decide (((rangeKs 0 (len - 0).toNat).map (fun k => (q + k).fmod r)).foldl f [] = [])) = true) : False := by
  rw [foldl_filter' (p := fun k => decide ((k - e) % r < win)) (fun l k hk => by
    obtain ⟨a, b⟩ := mem_ring (by omega) hk
    rw [hf l k a b]
    simp only [decide_eq_true_eq])] at h
  have D := due_law hr hq hj0 hj1 hw0 hw1 (len := len) (by omega) hl1
  have e2 : (decide (([] : List Int) ++ ((rangeKs 0 (len - 0).toNat).map (fun k => (q + k).fmod r)).filter (fun k => decide ((k - e) % r < win)) = [])) = !decide (win ≠ 0 ∧ ((q - e) % r < win ∨ (e - q) % r < len)) := by
    refine Bool.eq_iff_iff.mpr ?_
    simp only [List.nil_append, decide_eq_true_eq, List.filter_eq_nil_iff, Bool.not_eq_true', decide_eq_false_iff_not, ← D]
    exact ⟨fun h ⟨k, hk, hl⟩ => h k hk hl, fun h k hk hl => h ⟨k, hk, hl⟩⟩
  rw [e2, Bool.not_not, bne_iff_ne, ne_eq, decide_eq_decide] at h
  refine h ⟨fun x => ?_, fun x => .inr (.inr ⟨hl, x⟩)⟩
  rcases x with x | x | x
  · exact absurd x.1 hl
  · exact absurd x.1 hl
  · exact x.2
end
theorem accG {e r win k : Int} {l : List Int} (a : 0 ≤ k) (b : k < r) : (if (0 ≤ k ∧ k < r) ∧ (k - e) % r < win then l ++ [k] else if (0 ≤ k ∧ k < r) ∧ ¬ (k - e) % r < win then l else l) = if (k - e) % r < win then l ++ [k] else l := by
  by_cases h : (k - e) % r < win
  · rw [if_pos ⟨⟨a, b⟩, h⟩, if_pos h]
  · rw [if_neg (fun x => h x.2), if_pos ⟨⟨a, b⟩, h⟩, if_neg h]
theorem kept_in {p : Int → Prop} [DecidablePred p] {n : Nat} : ∀ x ∈ (rangeKs 0 n).foldl (fun l k => if p k then l ++ [k] else l) [], 0 ≤ x ∧ x < (n : Int) := by
  intro x hx
  rw [foldl_filter, List.nil_append] at hx
  obtain ⟨a, b⟩ := mem_rangeKs (List.mem_filter.mp hx).1
  omega
end
section
/-- the octets that lie in the window, as the law reckons them -/
abbrev KL (F e r win : Int) (n : Nat) : List Int := (rangeKs 0 ((n : Int) - 0).toNat).foldl (fun l' k' => if ((F + k').fmod r - e) % r < win then l' ++ [k'] else l') []
theorem run_law : ∀ n : Nat, n < 6 → ∀ d' : Nat, d' < 17 → ∀ w : Nat, w < 8 → (rangeKs 0 n).filter (fun k => decide (0 ≤ (d' : Int) - 8 + k ∧ (d' : Int) - 8 + k < (w : Int))) = rangeKs (((-((d' : Int) - 8)).toNat : Nat) : Int) (min n ((w : Int) - ((d' : Int) - 8)).toNat - (-((d' : Int) - 8)).toNat) := by
  decide +kernel
section
variable {F e r win d : Int} {n : Nat}
theorem TrimPre.sees (P : TrimPre e win r d F) (hw1 : win ≤ 7) {k : Int} (h0 : 0 ≤ k) (h1 : k ≤ 5) : ((F + k).fmod r - e) % r < win ↔ (0 ≤ d + k ∧ d + k < win) := by
  have hr := P.hr
  rw [fm' (by omega), seen hr P.hf]
  have := mod_small (x := d + k) hr (by have := P.hd0; omega) (by have := P.hd1; omega)
  have := P.hd0
  omega
theorem kept_eq (P : TrimPre e win r d F) (hw1 : win ≤ 7) (hn : n ≤ 5) : KL F e r win n = rangeKs (((-d).toNat : Nat) : Int) (min n (win - d).toNat - (-d).toNat) := by
  have hw0 := P.hw0; have hd0 := P.hd0; have hd1 := P.hd1
  rw [KL, foldl_filter' (p := fun k => decide (0 ≤ d + k ∧ d + k < win)) (fun l k hk => by
    obtain ⟨a, b⟩ := mem_rangeKs hk
    simp only [P.sees hw1 (k := k) (by omega) (by omega), decide_eq_true_eq]), List.nil_append, show ((n : Int) - 0).toNat = n by omega]
  obtain ⟨w, hw⟩ := Int.eq_ofNat_of_zero_le hw0
  obtain ⟨d', hd'⟩ := Int.eq_ofNat_of_zero_le (show 0 ≤ d + 8 by omega)
  have e1 : d = (d' : Int) - 8 := by omega
  subst e1; subst hw
  exact run_law n (by omega) d' (by omega) w (by omega)
theorem rangeKs_getD {a : Int} {k i : Nat} (h : i < k) : (rangeKs a k).getD i 0 = a + (i : Int) := by
  rw [List.getD_eq_getElem?_getD]
  simp [rangeKs, h]
theorem kept_none (P : TrimPre e win r d F) (hw1 : win ≤ 7) (hn : n ≤ 5) (h : decide (KL F e r win n = []) = true) : min n (win - d).toNat ≤ (-d).toNat := by
  rw [decide_eq_true_eq, kept_eq P hw1 hn] at h
  have := congrArg List.length h
  rw [rangeKs_length] at this
  simp only [List.length_nil] at this
  omega
theorem kept_some (P : TrimPre e win r d F) (hw1 : win ≤ 7) (hn : n ≤ 5) (h : decide (KL F e r win n = []) = false) :
    (-d).toNat < min n (win - d).toNat ∧ (KL F e r win n).getD 0 0 = (((-d).toNat : Nat) : Int) ∧ (KL F e r win n).getD ((KL F e r win n).length - 1) 0 = ((min n (win - d).toNat - 1 : Nat) : Int) := by
  rw [decide_eq_false_iff_not, kept_eq P hw1 hn] at h
  rw [kept_eq P hw1 hn, rangeKs_length]
  have hlt : (-d).toNat < min n (win - d).toNat := by
    refine Nat.lt_of_not_le fun hle => h ?_
    rw [Nat.sub_eq_zero_of_le hle]; rfl
  refine ⟨hlt, ?_, ?_⟩
  · rw [rangeKs_getD (by omega)]; omega
  · rw [rangeKs_getD (by omega)]; omega
variable {bs : Array UInt8} {fin : Bool} {x : Int} {y : Array UInt8} {z : Bool}
theorem segE1 (P : TrimPre e win r d F) (hw1 : win ≤ 7) (hn : bs.size ≤ 5) (T : Trimmed bs fin e F d win x y z) (hk : decide (KL F e r win bs.size = []) = true) (h : (y.toList != (#[] : Array UInt8).toList) = true) : False := by
  have hm := kept_none P hw1 hn hk
  obtain ⟨_, _, hy, _⟩ := T
  have : y = #[] := by
    rw [hy]
    exact cut_none (by omega)
  rw [this] at h
  simp at h
theorem segE2 (P : TrimPre e win r d F) (hw1 : win ≤ 7) (hn : bs.size ≤ 5) (T : Trimmed bs fin e F d win x y z) (hk : decide (KL F e r win bs.size = []) = false)
    (h : (y.toList != (cut bs ((KL F e r win bs.size).getD 0 0).toNat ((KL F e r win bs.size).getD ((KL F e r win bs.size).length - 1) 0 + 1).toNat).toList) = true) : False := by
  obtain ⟨hlt, e0, e1⟩ := kept_some P hw1 hn hk
  rw [e0, e1] at h
  obtain ⟨_, _, hy, _⟩ := T
  have : y = cut bs ((((-d).toNat : Nat) : Int)).toNat ((((min bs.size (win - d).toNat - 1 : Nat) : Int)) + 1).toNat := by
    rw [hy]
    rw [show ((((-d).toNat : Nat) : Int)).toNat = (-d).toNat by omega]
    rw [show (((min bs.size (win - d).toNat - 1 : Nat) : Int) + 1).toNat = min bs.size (win - d).toNat by omega]
    by_cases hc : bs.size ≤ (win - d).toNat
    · exact cut_sat hc (by omega)
    · rw [Nat.min_eq_right (by omega)]
  rw [this] at h
  simp at h
theorem segE3 (P : TrimPre e win r d F) (hw1 : win ≤ 7) (hn : bs.size ≤ 5) (T : Trimmed bs fin e F d win x y z) (hf : fin = true) (h : (z != decide (((F + (bs.size : Int)).fmod r - e) % r < win)) = true) : False := by
  obtain ⟨_, _, _, hz⟩ := T
  rw [hz, hf, Bool.true_and, bne_iff_ne, ne_eq, decide_eq_decide, P.sees hw1 (by omega) (by omega), Int.add_comm d] at h
  exact h Iff.rfl
theorem segE4 (T : Trimmed bs fin e F d win x y z) (hf : fin = false) (h : (z != fin) = true) : False := by
  obtain ⟨_, _, _, hz⟩ := T
  rw [hz, hf] at h
  simp at h
theorem back_home (P : TrimPre e win r d F) {k : Int} (h : d + k = 0) : (F + k).fmod r = e := by
  have hr := P.hr
  rw [fm' (by omega), ← P.hf, Int.emod_add_emod, show e + d + k = e by omega]
  exact Int.emod_eq_of_lt P.he0 P.he1
theorem stay_home (P : TrimPre e win r d F) : (F + 0).fmod r = F := by
  have hr := P.hr
  rw [Int.add_zero, fm' (by omega), ← P.hf, Int.emod_emod_of_dvd _ (Int.dvd_refl r)]
theorem segE5 (P : TrimPre e win r d F) (hw1 : win ≤ 7) (hn : bs.size ≤ 5) (T : Trimmed bs fin e F d win x y z) (hk : decide (KL F e r win bs.size = []) = false) :
    (x == (F + (KL F e r win bs.size).getD 0 0).fmod r) = true := by
  obtain ⟨hlt, e0, _⟩ := kept_some P hw1 hn hk
  rw [e0]
  obtain ⟨h1, h2, _, _⟩ := T
  rw [beq_iff_eq]
  by_cases hd : d < 0
  · rw [h1 hd, back_home P (by omega)]
  · rw [h2 (by omega), show (((-d).toNat : Nat) : Int) = 0 by omega, stay_home P]
theorem segE6 (P : TrimPre e win r d F) (hw1 : win ≤ 7) (hn : bs.size ≤ 5) (T : Trimmed bs fin e F d win x y z) (hk : decide (KL F e r win bs.size = []) = true) (h : ((F + (bs.size : Int)).fmod r - e) % r < win) :
    (x == (F + (bs.size : Int)).fmod r) = true := by
  have hm := kept_none P hw1 hn hk
  rw [P.sees hw1 (by omega) (by omega)] at h
  obtain ⟨h1, h2, _, _⟩ := T
  rw [beq_iff_eq]
  by_cases hd : d < 0
  · rw [h1 hd, back_home P (by omega)]
  · rw [h2 (by omega), show (bs.size : Int) = 0 by omega, stay_home P]
end
end
section
local macro_rules | `(tactic| walk_at "CompEnd") => `(tactic| (k_here; first
  | (refine end_el (by assumption) (by assumption) (by kcf_all) (by first | assumption | (simp only [LCg.Off3, and_true]; done) | (simp only [LCg.Off3, and_true]; assumption)) (by first | lcg_src | assumption | trivial) ?_)
  | (refine end_no (by assumption) (by assumption) (by kcf_all) (by first | assumption | (simp only [LCg.Off3, and_true]; done) | (simp only [LCg.Off3, and_true]; assumption)) (by first | lcg_src | assumption | trivial) ?_)))
theorem trim_use {w : World} {mean : ExcName → Option Value} {mg mb : Str → Option Value} {k : Nat} {f : Addr} {vs : List Value} {pre : Prop} {P : Int → Array UInt8 → Bool → Prop}
    {dp un : Nat} {gd : Option (List Code)} {cn : Str} {cs : Scope} {ad : Addr} {ccd : Value} {cl : List (Str × Addr)} {outer : List Env} {A₀ : Around} {base h₀ : Heap} {L : Addr} {m : Str → Option Value} {s : Shared} {Q E : Value → Shared → Prop} {news : Led}
    (C : Trim k f vs news pre P) (B : Below A₀ base outer h₀) (F : Fr h₀ L s.heap m) (X : (hd.heap_39 w.params).In h₀) (N : News h₀ L s.heap news) (T : Top hd.view_39 (looseW hd.view_39 []) mean mg mb h₀) (hk : cs.kind = .function)
    (hp : pre) (hd : dp + k < recursionLimit) (hu : un + 8 * k + 300 < cLine)
    (ret : ∀ (D : Addr) (x : Int) (y : Array UInt8) (z : Bool) (t1 t2 : Tok) (c : Nat) (h' : Heap) (tk' : Nat), P x y z → AllLt D news → Fr h₀ L h' m → News h₀ L h' ((D, ({ cls := .type "tuple", data := .seq #[.int x t1, .bytes y t2, .bool z] c } : Obj)) :: news) → Q (.ref D) { s with heap := h', toks := tk' }) :
    wpAny (model PySem.Challenge.rw_nu0118_01.row.prog w) (ktrTop dp un gd cn cs L ad ccd cl outer) (call (.ref f) vs) Q E s :=
  C w mean mg mb dp un gd cn cs ad ccd cl outer A₀ base h₀ L m s Q E B F X N T hk hp hd hu ret
theorem seg_ret {h₀ h : Heap} {L : Addr} {m : Str → Option Value} {news l : Led} {s : Shared} {Q : Value → Shared → Prop} {b : Bool} {tk : Nat}
    (hret : ∀ (h' : Heap) (tk' : Nat), Fr h₀ L h' m → News h₀ L h' news → Q (.bool true) { s with heap := h', toks := tk' }) (e : b = true) (F : Fr h₀ L h m) (N : News h₀ L h l) (hs : ∀ p ∈ news, p ∈ l) :
    Q (.bool b) { s with heap := h, toks := tk } := by
  subst e
  exact hret h tk F fun p hp => N p (hs p hp)
section
variable {prog : Program} {w : World} {A : Around} {E : Value → Shared → Prop} {s : Shared} {h₀ : Heap} {L D : Addr} {l : Led} {vs : List Value} {ns : List Int} {n : Nat} {u : Tok} {value slice : PySem.Expr} {Q : Value → Shared → Prop}
theorem ne_len (h : decide (ns = []) = false) : 0 < ns.length := by
  cases ns with
  | nil => simp at h
  | cons _ _ => simp
theorem first_at {N' : Nat} (N : News h₀ L s.heap l) (hm : (D, listOf vs.toArray n) ∈ l) (hi : IntsAre vs ns) (hne : decide (ns = []) = false) (hall : ∀ x ∈ ns, 0 ≤ x ∧ x < (N' : Int)) (h : ∀ t, 0 ≤ ns.getD 0 0 → ns.getD 0 0 < (N' : Int) → Q (.int (ns.getD 0 0) t) s)
    (hs : subscripted slice false (.ref D) (.int 0 u) = operate [.ref D, .int 0 u] (getItem (.ref D) (.int 0 u)) := by with_unfolding_all rfl) :
    wpAny (model prog w) A (subscriptTail value slice (.ref D) (.int 0 u)) Q E s := by
  have hp := ne_len hne
  have hx := hall (ns.getD 0 0) (by rw [List.getD_eq_getElem?_getD, List.getElem?_eq_getElem hp]; exact List.getElem_mem hp)
  exact ksa_sub N hm hi (by decide) (by omega) (by decide) (fun t => h t hx.1 hx.2) hs
theorem last_at {N' : Nat} (N : News h₀ L s.heap l) (hm : (D, listOf vs.toArray n) ∈ l) (hi : IntsAre vs ns) (hne : decide (ns = []) = false) (hall : ∀ x ∈ ns, 0 ≤ x ∧ x < (N' : Int)) (h : ∀ t, 0 ≤ ns.getD (ns.length - 1) 0 → ns.getD (ns.length - 1) 0 < (N' : Int) → Q (.int (ns.getD (ns.length - 1) 0) t) s)
    (hs : subscripted slice false (.ref D) (.int (-1) u) = operate [.ref D, .int (-1) u] (getItem (.ref D) (.int (-1) u)) := by with_unfolding_all rfl) :
    wpAny (model prog w) A (subscriptTail value slice (.ref D) (.int (-1) u)) Q E s := by
  have hl : s.heap.IsList D vs.toArray := PySem.IsL.isList (n := n) (N _ hm).1
  have hp := ne_len hne
  have hlen := hi.length
  have hz : vs.toArray.size = ns.length := by rw [List.size_toArray]; exact hlen
  have hj : ns.length - 1 < vs.length := by omega
  have hj' : ns.length - 1 < ns.length := by omega
  have hx := hall (ns.getD (ns.length - 1) 0) (by rw [List.getD_eq_getElem?_getD, List.getElem?_eq_getElem hj']; exact List.getElem_mem hj')
  obtain ⟨k, t, e, hk⟩ := IntsAre.at hi (ns.length - 1) vs[ns.length - 1] (List.getElem?_eq_getElem hj)
  have hv : ns.getD (ns.length - 1) 0 = k := by rw [List.getD_eq_getElem?_getD, hk]; rfl
  rw [hv] at h hx
  refine tail_any hl.typeIs slot_list_getitem.lookup (wpAny_getItem_list_neg (x := .int k t) hl (by decide) (by omega) (by decide) ?_ (h t hx.1 hx.2)) hs
  rw [show ((-1 : Int) + (vs.toArray.size : Int)).toNat = ns.length - 1 by omega]
  simp only [List.getElem?_toArray]
  rw [List.getElem?_eq_getElem hj, e]
end
local macro_rules | `(tactic| walk_at "subscriptTail Name Constant ref int") => `(tactic| (k_here; k_dflt
  (refine' first_at ?k1 ?k2 ?k3 ?k4 ?k5 ?_ ?k7; (case k1 => k_asm); (case k2 => k_mem); (case k3 => with_reducible assumption); (case k4 => with_reducible assumption); (case k5 => exact kept_in); (case k7 => with_unfolding_all rfl); k_whole); intro _ kb0 kb1))
local macro_rules | `(tactic| walk_at "subscriptTail Name UnaryOp ref int") => `(tactic| (k_here; k_dflt
  (refine' last_at ?k1 ?k2 ?k3 ?k4 ?k5 ?_ ?k7; (case k1 => k_asm); (case k2 => k_mem); (case k3 => with_reducible assumption); (case k4 => with_reducible assumption); (case k5 => exact kept_in); (case k7 => with_unfolding_all rfl); k_whole); intro _ kb0 kb1))
local macro_rules | `(tactic| walk_at "subscriptTail") => `(tactic| (k_here; (with_reducible show wpAny _ _ (subscriptTail _ (Expr.Slice _ _ none _) (Value.bytes _ _) (Value.ref _)) _ _ _); (with_reducible rename Fr _ _ _ _ => F'); (with_reducible rename News _ _ _ _ => N'); k_dflt
  (refine slice_both (s := ⟨_, _, _, _, _⟩) F' N' (by first | omega | assumption) (by first | omega | assumption) (by first | omega | (rw [cut_size]; omega)) ?_); intro _ _ _ _ _ _))
abbrev Seg (k : Nat) (f : Addr) (vs : List Value) (Mk : Addr) (mo : Obj) (news : Led) (pre : Prop) : Prop :=
  ∀ (w : World) (mean : ExcName → Option Value) (mg mb : Str → Option Value)
    (dp un : Nat) (gd : Option (List Code)) (cn : Str) (cs : Scope) (ad : Addr) (ccd : Value) (cl : List (Str × Addr)) (outer : List Env) (A₀ : Around) (base h₀ : Heap) (L : Addr) (m : Str → Option Value) (s : Shared) (Q E : Value → Shared → Prop),
    Below A₀ base outer h₀ → Fr h₀ L s.heap m → (hd.heap_39 w.params).In h₀ → News h₀ L s.heap news → Top hd.view_39 (looseW hd.view_39 []) mean mg mb h₀ → cs.kind = .function →
    pre → dp + k < recursionLimit → un + 8 * k + 300 < cLine → (Mk, mo) ∈ news →
    (∀ (h' : Heap) (tk' : Nat), Fr h₀ L h' m → News h₀ L h' news → Q (.bool true) { s with heap := h', toks := tk' }) →
    wpAny (model PySem.Challenge.rw_nu0118_01.row.prog w) (ktrTop dp un gd cn cs L ad ccd cl outer) (call (.ref f) vs) Q E s
local macro_rules | `(tactic| walk_at "call ref") => `(tactic| (k_here; k_dflt (
  (refine' trim_use (trim_ok _ _ _ _ _ _ _ _ _ _ _ _ _ _ _) ?k1 ?k2 ?k3 ?k4 ?k5 ?kK ?kp ?kd ?ku ?_);
  (case kp => assumption); (case k1 => k_asm); (case k2 => k_asm); (case k3 => k_asm); (case k4 => k_asm); (case k5 => k_asm); (case kK => first | exact rfl | assumption);
  (case kd => first | exact room_up (by assumption) (by decide) | exact Nat.le_of_ble_eq_true rfl | ktr_room); (case ku => first | exact units_up (by assumption) rfl (by decide) | exact Nat.le_of_ble_eq_true rfl | ktr_units); intro D9 x9 y9 z9 t9 u9 c9 h9 tk9 P9 l9 F9 N9; (try dsimp only); (try k_fold))))
local macro_rules | `(tactic| k_mem) => `(tactic| first | with_reducible_and_instances assumption | ((show Membership.mem _ _); with_reducible assumption))
local macro_rules | `(tactic| walk_at "CompSrcT") => `(tactic| (k_here; k_dflt
  (refine LCt.CompSrcT.ledger (by rfl) (by k_asm) (by k_asm) (by k_mem) (by kcf_size) ?_; intro g'; (refine' kci_list _ (by first | assumption | l_ints) (fun k' t' I' oI' C' oC' D' m' ys' l' h' tk' E' hk' hI' hC' hx' F' N' off' ne' => ?_) ?_ ?_); (all_goals (try (simp only [LCg.Off3, and_true] at off'))); (all_goals (try ((show KPfMark → _); intro hMark'))); (all_goals (try (have hkr := mem_ring (by assumption) hk'))); kcf_last)))
local macro_rules | `(tactic| k_all) => `(tactic| (refine mem_ne (by assumption) ?_; omega))
local macro_rules | `(tactic| walk_at "exec Assign cons ListComp") => `(tactic| (k_here; lct_look; lcg_calm; k_dflt (refine LCt.Assign_ListComp_T (F₀ := by k_asm) (by rfl) (by with_unfolding_all rfl) (by with_unfolding_all rfl) (by decide) (by rfl) (by decide) (by rfl) (by rfl) (by rfl) ?_)))
local macro_rules | `(tactic| walk_at "CompSrcT") => `(tactic| (k_here; k_dflt
  (refine LCt.CompSrcT.range (by rfl) (by k_asm) (by k_asm) (by assumption) (small_one (by omega) (by omega) (by omega) (by omega)) (rangeSize_nat _ _) (by rw [PySem.sizeLine_eq]; omega) ?_; intro g'; (refine' kci_range _ (fun k' t' I' oI' C' oC' D' m' ys' l' h' tk' E' hlo' hhi' hI' hC' hx' F' N' off' ne' => ?_) ?_ ?_); (all_goals (try (simp only [LCg.Off3, and_true] at off'))); (all_goals (try ((show KPfMark → _); intro hMark'))); kcf_last)))
theorem seg_ok (q e win r j : Int) (bs : Array UInt8) (syn fin : Bool) (Mk : Addr) (c : Nat) (tq te tw tr tb : Tok) (news : Led) :
    Seg 7 122 [.int q tq, .bytes bs tb, .ref Mk, .int e te, .int win tw, .int r tr] Mk ({ cls := .type "tuple", data := .seq #[.bool syn, .bool fin] c } : Obj) news (0 ≤ e ∧ e < r ∧ 0 ≤ win ∧ win ≤ 7 ∧ 32 ≤ r ∧ bs.size ≤ 5 ∧ -7 ≤ j ∧ j ≤ 7 ∧ (e + j) % r = q) := by
  dsimp only [Seg]
  k_fill
  intro w mean mg mb dp un gd cn cs ad ccd cl outer A₀ base h₀ L m s Q E B F X N T hk hpre hd hu hM hret
  obtain ⟨he0, he1, hw0, hw1, hr, hb, hj0, hj1, hq⟩ := hpre
  have hr0 : 0 < r := by omega
  have hq0 : 0 ≤ q := by rw [← hq]; exact Int.emod_nonneg _ (by omega)
  have hq1 : q < r := by rw [← hq]; exact Int.emod_lt_of_pos _ hr0
  have hTr : 0 ≤ e ∧ e < r ∧ 0 ≤ win ∧ win ≤ 7 ∧ 32 ≤ r ∧ bs.size ≤ 5 ∧ -8 ≤ j + (if syn = true then 1 else 0) ∧ j + (if syn = true then 1 else 0) ≤ 8 ∧ (e + (j + (if syn = true then 1 else 0))) % r = (q + (if syn = true then 1 else 0)).fmod r ∧ (syn = true → (q + 1) % r = (q + (if syn = true then 1 else 0)).fmod r) ∧ (syn = false → q = (q + (if syn = true then 1 else 0)).fmod r) := by
    refine ⟨he0, he1, hw0, hw1, hr, hb, by split <;> omega, by split <;> omega, ?_, fun h => by rw [if_pos h, fm hr0], fun h => ?_⟩
    · rw [fm hr0, ← hq, Int.emod_add_emod]
      congr 1; omega
    · rw [h, fm hr0]
      show q = (q + 0) % r
      rw [Int.add_zero, Int.emod_eq_of_lt hq0 hq1]
  have hP : TrimPre e win r (j + (if syn = true then 1 else 0)) ((q + (if syn = true then 1 else 0)).fmod r) := ⟨he0, he1, hw0, hr, hTr.2.2.2.2.2.2.1, hTr.2.2.2.2.2.2.2.1, hTr.2.2.2.2.2.2.2.2.1⟩
  refine wpAny_call ?_
  k_dflt (refine' code_defC ?k1 ?k2 ?k3 ?k4 ?k5 ?kA ?kF ?kK ?k6 ?k7 ?k8 ?k9 ?kB ?kD ?_ ?c2 ?c3 ?c4; (case kA => exact rfl); (case kF => exact rfl); (case kK => assumption); (case k1 => k_asm); (case k2 => k_asm); (case k3 => k_asm); (case k4 => k_asm); (case k5 => k_asm); (case k6 => k_is); (case k7 => k_is); (case k8 => first | ktr_room | exact room_up (by assumption) (by decide)); (case k9 => exact BindsTo.of_eq rfl); (case kB => exact rfl); (case kD => decide +kernel); (case c2 => exact rfl); (case c3 => exact rfl); (case c4 => exact rfl); k_whole; intro g' L' h' tk' cells' FG' F' N' Y' B' X' T' l1; (try k_lt l1); have hY := PyProof.Rows.kc_five Y'; obtain ⟨o1, o2, o3, o4, o5, hE, d1, d2, d3, d4, d5⟩ := hY; subst hE; clear Y'; (try simp only [List.cons_append, List.nil_append] at N'); (try dsimp only); (try k_lift B'); skip)
  refine execs_split 6 (Mid g' L' ((L' + 1 + 1 + 1 + 1 + 1, o1) :: (L' + 1 + 1 + 1 + 1, o2) :: (L' + 1 + 1 + 1, o3) :: (L' + 1 + 1, o4) :: (L' + 1, o5) :: news) bs tb syn fin s) ?p1 ?p2
  case p1 =>
    dsimp only [List.take]
    k_fold
    k_steps
    all_goals first
      | (refine' Mid.intro ?kF ?kN ?kS ?k1 ?k2 ?k3
         (case kF => assumption)
         (case kN => assumption)
         (case kS => exact tails3)
         (case k1 => exact rfl)
         (case k2 => exact rfl)
         (case k3 => exact rfl))
      | exact (accF1 (by assumption) (by assumption) (by assumption)).elim
      | exact (accF2 (by assumption) (by assumption) hw0 (by assumption)).elim
      | exact (accF3 hr hq hj0 hj1 hw0 hw1 (by assumption) (by split <;> split <;> omega) (by split <;> split <;> omega) (fun l k a b => accG a b) (by assumption)).elim
  case p2 =>
    rintro _ ⟨h2, tk2, m2, rfl, F2, N2, e1, e2, e3⟩
    have F3 := fr_three F2 e1 e2 e3
    clear F2 e1 e2 e3 F' N'
    dsimp only [List.drop]
    show wpAny _ _ _ _ _ _
    k_fold
    k_steps
    all_goals (
      refine' seg_ret hret ?e1 ?e2 ?e3 ?e4
      (case e2 => first | with_reducible assumption | assumption)
      (case e3 => first | with_reducible assumption | assumption)
      (case e4 => intro p hp; repeat (first | exact hp | refine List.Mem.tail _ ?_))
      (case e1 => first
        | exact segE5 hP hw1 hb (by assumption) (by assumption)
        | exact segE6 hP hw1 hb (by assumption) (by assumption) (by assumption)
        | exact (segE1 hP hw1 hb (by assumption) (by assumption) (by assumption)).elim
        | exact (segE2 hP hw1 hb (by assumption) (by assumption) (by assumption)).elim
        | exact (segE3 hP hw1 hb (by assumption) (by assumption) (by assumption)).elim
        | exact (segE4 (by assumption) (by assumption) (by assumption)).elim
        | (rw [Bool.not_eq_true', decide_eq_false_iff_not]; assumption)
        | (rw [Bool.not_eq_true']; assumption)))
end
section
open PySem PySem.W PySem.Calls PyProof.Rows PyProof.V PySem.Spec
/-- the end of a turn that changes no name but the loop's own, and leaves the ledger standing -/
def TurnEnd (h₀ : Heap) (L : Addr) (x : PySem.Str) (m₀ : PySem.Str → Option Value) (led own : List (Addr × Obj)) (s₁ s₂ : Shared) : Prop :=
  ∃ h' tk m' news', s₂ = { s₁ with heap := h', toks := tk } ∧ Fr h₀ L h' m' ∧ News h₀ L h' news' ∧ (∀ p ∈ led ++ own, p ∈ news') ∧ ∀ z, z ≠ x → m' z = m₀ z
section
variable {prog : Program} {w : World} {A : Around} {E : Value → Shared → Prop} {s : Shared} {env : Env} {h₀ : Heap} {x : PySem.Str} {body : List Stmt} {Q : Flow → Shared → Prop}
theorem loop_list {l : Addr} {vs : List Value} {ns : List Int} {nn : Nat} {m₀ : PySem.Str → Option Value} {led : List (Addr × Obj)}
    (hh : A.handled = none) (hl : (l, PySem.W.listOf vs.toArray nn) ∈ led) (hi : IntsAre vs ns) (F : Fr h₀ env.locals s.heap m₀) (N : News h₀ env.locals s.heap led)
    (turn : ∀ n t h tk own, n ∈ ns → OwnOff own (led.map (·.1)) → Fr h₀ env.locals h (fun y => if y = x then some (.int n t) else m₀ y) → News h₀ env.locals h (led ++ own) →
      wpAny (model prog w) A (execs body env) (fun f s₂ => match f with
        | .ret v => Q (.ret v) s₂
        | .brk => Q .next s₂
        | _ => TurnEnd h₀ env.locals x m₀ led own { s with heap := h, toks := tk } s₂) E { s with heap := h, toks := tk })
    (done : ∀ v h tk, Fr h₀ env.locals h (fun y => if y = x then v else m₀ y) → News h₀ env.locals h led → Q .next { s with heap := h, toks := tk }) :
    wpAny (model prog w) A (pyIter (.ref l)) (fun it s₂ => LoopAtV prog w A h₀ env x body Q E it s₂) E s := by
  refine kst_listL (σ := Unit) (fun _ => led) (fun _ => []) (fun _ => True) [] (fun _ _ => True) () hh (fun _ => hl) hi F N trivial (fun _ h => nomatch h) trivial ?_ ?_
  · intro c pre post n t u h tk own e hn ho _ _ F' N'
    refine wpAny_mono (turn n t h tk own hn ho F' N') (fun f s₂ q => ?_) fun _ _ y => y
    have up : TurnEnd h₀ env.locals x m₀ led own { s with heap := h, toks := tk } s₂ → InvEndN h₀ env.locals (KstS (σ := Unit) (fun _ => led) (fun _ => []) (fun _ => True) x [] m₀ (fun _ _ => True) (pre ++ [n])) own (led.map (·.1)) { s with heap := h, toks := tk } s₂ := by
      rintro ⟨h', tk', m', news', rfl, F₁, N₁, hs, hm⟩
      exact kst_end () F₁ N₁ (fun p hp => hs p (List.mem_append.mpr (.inl hp))) (fun p hp => hs p (List.mem_append.mpr (.inr hp))) rfl trivial (fun _ h => nomatch h) (fun z hz _ _ => hm z hz) trivial
    cases f with
    | ret v => exact q
    | brk => exact q
    | next => exact up q
    | cont => exact up q
  · intro c u h tk _ _ F' N'
    refine done (u x) h tk ?_ N'
    have e : (fun y => if y = x then u x else m₀ y) = (fun y => if y = x then u y else kstB (fun z => if ([] : List PySem.Str).contains z = true then u z else m₀ z) [] y) := by
      funext y
      by_cases h : y = x
      · rw [if_pos h, if_pos h, h]
      · rw [if_neg h, if_neg h]; rfl
    rw [e]; exact F'
end
end
section
open PySem PySem.W PySem.Calls PyProof.Rows PyProof.V PySem.Spec
/-- the end of a turn of the law's inner loop: the source may have changed, the rest of the ledger stands -/
def TurnSrc (h₀ : Heap) (L : Addr) (x : PySem.Str) (stored : List PySem.Str) (m₀ : PySem.Str → Option Value) (g : Obj → Led) (own : Led) (s₁ s₂ : Shared) : Prop :=
  ∃ a' b' ta' tb' n', 0 ≤ a' ∧ 0 ≤ b' ∧ b' < 2147483647 ∧ ∃ h' tk m' news', s₂ = { s₁ with heap := h', toks := tk } ∧ Fr h₀ L h' m' ∧ News h₀ L h' news' ∧
    (∀ p ∈ g (src a' b' ta' tb' n'), p ∈ news') ∧ (∀ p ∈ own, p ∈ news') ∧ ∀ z, z ≠ x → stored.contains z = false → m' z = m₀ z
theorem updF_adr {d : Addr} {o : Obj} {l : Led} {g : Obj → Led} (U : UpdF d o l g) : l = g o ∧ ∀ o₁ o₂, (g o₁).map (·.1) = (g o₂).map (·.1) := by
  obtain ⟨pre, post, rfl, hg, a, b⟩ := U.split
  refine ⟨(hg o).symm, fun o₁ o₂ => ?_⟩
  rw [hg, hg]; simp
section
variable {prog : Program} {w : World} {A : Around} {E : Value → Shared → Prop} {s : Shared} {env : Env} {h₀ : Heap} {x : PySem.Str} {body : List Stmt} {Q : Flow → Shared → Prop}
abbrev Src5 := Int × Int × Tok × Tok × Nat
abbrev sobj (c : Src5) : Obj := src c.1 c.2.1 c.2.2.1 c.2.2.2.1 c.2.2.2.2
abbrev sokay (c : Src5) : Prop := 0 ≤ c.1 ∧ 0 ≤ c.2.1 ∧ c.2.1 < 2147483647
theorem loop_turns {r S : Addr} {a₀ b₀ : Int} {t₀ u₀ v₀ : Tok} {n : Nat} {m₀ : PySem.Str → Option Value} {news : Led} {g : Obj → Led} {a b : Int} {ta tb : Tok} {nn : Nat} (stored : List PySem.Str)
    (hh : A.handled = none) (hr : IsRange s.heap r a₀ b₀ 1 t₀ u₀ v₀) (hsmall : Builtin.Range.small a₀ b₀ 1 = true) (hn : Builtin.Range.rangeSize a₀ b₀ 1 = (n : Int))
    (F : Fr h₀ env.locals s.heap m₀) (N : News h₀ env.locals s.heap news) (U : UpdF S (src a b ta tb nn) news g) (ha : 0 ≤ a) (hb : 0 ≤ b) (hb' : b < 2147483647)
    (turn : ∀ k t a' b' ta' tb' n' (u : PySem.Str → Option Value) h tk own, 0 ≤ a' → 0 ≤ b' → b' < 2147483647 → OwnOff own (news.map (·.1)) →
      Fr h₀ env.locals h (fun y => if y = x then some (.int k t) else if stored.contains y then u y else m₀ y) → News h₀ env.locals h (g (src a' b' ta' tb' n') ++ own) →
      wpAny (model prog w) A (execs body env) (fun f s₂ => match f with
        | .ret v => Q (.ret v) s₂
        | .brk => Q .next s₂
        | _ => TurnSrc h₀ env.locals x stored m₀ g own { s with heap := h, toks := tk } s₂) E { s with heap := h, toks := tk })
    (done : ∀ a' b' ta' tb' n' (u : PySem.Str → Option Value) h tk, 0 ≤ a' → 0 ≤ b' → b' < 2147483647 → Fr h₀ env.locals h (fun y => if y = x then u y else if stored.contains y then u y else m₀ y) → News h₀ env.locals h (g (src a' b' ta' tb' n')) → Q .next { s with heap := h, toks := tk }) :
    wpAny (model prog w) A (pyIter (.ref r)) (fun it s₂ => LoopAtV prog w A h₀ env x body Q E it s₂) E s := by
  obtain ⟨e, hadr⟩ := updF_adr U
  subst e
  refine kst_range (σ := Src5) (fun c => g (sobj c)) (fun _ => []) sokay stored (fun _ _ => True) (a, b, ta, tb, nn) hh hr hsmall hn F N ⟨ha, hb, hb'⟩ (fun _ h => nomatch h) trivial ?_ ?_
  · intro c pre k t u h tk own e hn ho hf _ F' N'
    refine wpAny_mono (turn k t c.1 c.2.1 c.2.2.1 c.2.2.2.1 c.2.2.2.2 u h tk own hf.1 hf.2.1 hf.2.2 ho F' N') (fun f s₂ q => ?_) fun _ _ y => y
    have up : TurnSrc h₀ env.locals x stored m₀ g own { s with heap := h, toks := tk } s₂ → InvEndN h₀ env.locals (KstS (σ := Src5) (fun c => g (sobj c)) (fun _ => []) sokay x stored m₀ (fun _ _ => True) (pre ++ [k])) own ((g (src a b ta tb nn)).map (·.1)) { s with heap := h, toks := tk } s₂ := by
      rintro ⟨a', b', ta', tb', n', p1, p2, p3, h', tk', m', news', rfl, F₁, N₁, hs, hs', hm⟩
      exact kst_end (σ := Src5) (a', b', ta', tb', n') F₁ N₁ hs hs' (hadr _ _) ⟨p1, p2, p3⟩ (fun _ h => nomatch h) (fun z hz _ hc => hm z hz hc) trivial
    cases f with
    | ret v => exact q
    | brk => exact q
    | next => exact up q
    | cont => exact up q
  · intro c u h tk hf _ F' N'
    exact done c.1 c.2.1 c.2.2.1 c.2.2.2.1 c.2.2.2.2 u h tk hf.1 hf.2.1 hf.2.2 F' N'
end
/-- the end of a turn of the law's outer loop: nothing of the frame is kept -/
theorem outer_end {h₀ : Heap} {x : PySem.Str} {stored : List PySem.Str} {m₀ m' : PySem.Str → Option Value} {pre : List Int} {L : Addr} {own news' : Led} {s₁ : Shared} {h' : Heap} {tk : Nat}
    (F : Fr h₀ L h' m') (N : News h₀ L h' news') (ho : ∀ p ∈ own, p ∈ news') (hr : ∀ z, z ≠ x → stored.contains z = false → m' z = m₀ z) :
    InvEndN h₀ L (KstS (σ := Unit) (fun _ => []) (fun _ => []) (fun _ => True) x stored m₀ (fun _ _ => True) pre) own [] s₁ { s₁ with heap := h', toks := tk } :=
  kst_end (σ := Unit) () F N (fun _ h => nomatch h) ho rfl trivial (fun _ h => nomatch h) (fun z hz _ hc => hr z hz hc) trivial
end
section
open PySem PySem.W PySem.Calls PyProof.Rows PyProof.V PySem.Spec
/-- a ledger that stands as the end of another -/
inductive Suf (l : Led) : Led → Prop
  | here : Suf l l
  | there {x : Addr × Obj} {r : Led} : Suf l r → Suf l (x :: r)
theorem Suf.sub {l r : Led} (h : Suf l r) : ∀ p ∈ l, p ∈ r := by
  induction h with
  | here => exact fun _ hp => hp
  | there _ ih => exact fun p hp => .tail _ (ih p hp)
theorem forall_app {S : Addr} {a b : Led} (h1 : ∀ p ∈ a, p.1 ≠ S) (h2 : ∀ p ∈ b, p.1 ≠ S) : ∀ p ∈ a ++ b, p.1 ≠ S := fun p hp =>
  (List.mem_append.mp hp).elim (h1 p) (h2 p)
theorem TurnSrc.intro {h₀ : Heap} {L : Addr} {x : PySem.Str} {stored : List PySem.Str} {m₀ m' : PySem.Str → Option Value} {g : Obj → Led} {own news' : Led} {s₁ : Shared} {h' : Heap} {tk : Nat} {a' b' : Int} {ta' tb' : Tok} {n' : Nat}
    (F : Fr h₀ L h' m') (N : News h₀ L h' news') (hs : Suf (g (src a' b' ta' tb' n') ++ own) news') (h1 : 0 ≤ a') (h2 : 0 ≤ b') (h3 : b' < 2147483647)
    (hm : ∀ z, z ≠ x → stored.contains z = false → m' z = m₀ z) : TurnSrc h₀ L x stored m₀ g own s₁ { s₁ with heap := h', toks := tk } :=
  ⟨a', b', ta', tb', n', h1, h2, h3, h', tk, m', news', rfl, F, N, fun p hp => hs.sub p (List.mem_append.mpr (.inl hp)), fun p hp => hs.sub p (List.mem_append.mpr (.inr hp)), hm⟩
theorem TurnEnd.intro {h₀ : Heap} {L : Addr} {x : PySem.Str} {m₀ m' : PySem.Str → Option Value} {led own news' : Led} {s₁ : Shared} {h' : Heap} {tk : Nat}
    (F : Fr h₀ L h' m') (N : News h₀ L h' news') (hs : Suf (led ++ own) news') (hm : ∀ z, z ≠ x → m' z = m₀ z) : TurnEnd h₀ L x m₀ led own s₁ { s₁ with heap := h', toks := tk } :=
  ⟨h', tk, m', news', rfl, F, N, hs.sub, hm⟩
section
variable {prog : Program} {w : World} {A : Around} {E : Value → Shared → Prop} {s : Shared} {env : Env} {h₀ : Heap} {x : PySem.Str} {body : List Stmt} {Q : Flow → Shared → Prop}
theorem loop_turnsS {r S : Addr} {a₀ b₀ : Int} {t₀ u₀ v₀ : Tok} {n : Nat} {m₀ : PySem.Str → Option Value} {news : Led} {g : Obj → Led} {a b : Int} {ta tb : Tok} {nn : Nat} (stored : List PySem.Str)
    (hh : A.handled = none) (hr : IsRange s.heap r a₀ b₀ 1 t₀ u₀ v₀) (hsmall : Builtin.Range.small a₀ b₀ 1 = true) (hn : Builtin.Range.rangeSize a₀ b₀ 1 = (n : Int))
    (F : Fr h₀ env.locals s.heap m₀) (N : News h₀ env.locals s.heap news) (hS : m₀ (PySem.Str.ofString "source") = some (.ref S)) (U : UpdF S (src a b ta tb nn) news g) (ha : 0 ≤ a) (hb : 0 ≤ b) (hb' : b < 2147483647)
    (turn : ∀ k t a' b' ta' tb' n' (u : PySem.Str → Option Value) h tk own, 0 ≤ a' → 0 ≤ b' → b' < 2147483647 → (∀ p ∈ own, p.1 ≠ S) →
      Fr h₀ env.locals h (fun y => if y = x then some (.int k t) else if stored.contains y then u y else m₀ y) → News h₀ env.locals h (g (src a' b' ta' tb' n') ++ own) →
      wpAny (model prog w) A (execs body env) (fun f s₂ => match f with
        | .ret v => Q (.ret v) s₂
        | .brk => Q .next s₂
        | _ => TurnSrc h₀ env.locals x stored m₀ g own { s with heap := h, toks := tk } s₂) E { s with heap := h, toks := tk })
    (done : ∀ a' b' ta' tb' n' (u : PySem.Str → Option Value) h tk, 0 ≤ a' → 0 ≤ b' → b' < 2147483647 → Fr h₀ env.locals h (fun y => if y = x then u y else if stored.contains y then u y else m₀ y) → News h₀ env.locals h (g (src a' b' ta' tb' n')) → Q .next { s with heap := h, toks := tk }) :
    wpAny (model prog w) A (pyIter (.ref r)) (fun it s₂ => LoopAtV prog w A h₀ env x body Q E it s₂) E s := by
  refine loop_turns stored hh hr hsmall hn F N U ha hb hb' (fun k t a' b' ta' tb' n' u h tk own p1 p2 p3 ho F' N' => turn k t a' b' ta' tb' n' u h tk own p1 p2 p3 (ho.ne ?_) F' N') done
  obtain ⟨pre, post, e, -, -, -⟩ := U.split
  rw [e]; simp
end
end
section
open PySem PySem.W PySem.Calls PyProof.Rows PyProof.V PySem.Spec
def TurnPost (h₀ : Heap) (L : Addr) (x : PySem.Str) (m₀ : PySem.Str → Option Value) (led own : Led) (s₁ : Shared) (Q : Flow → Shared → Prop) (f : Flow) (s₂ : Shared) : Prop :=
  match f with
  | .ret v => Q (.ret v) s₂
  | .brk => Q .next s₂
  | _ => TurnEnd h₀ L x m₀ led own s₁ s₂
def SrcPost (h₀ : Heap) (L : Addr) (x : PySem.Str) (stored : List PySem.Str) (m₀ : PySem.Str → Option Value) (g : Obj → Led) (own : Led) (s₁ : Shared) (Q : Flow → Shared → Prop) (f : Flow) (s₂ : Shared) : Prop :=
  match f with
  | .ret v => Q (.ret v) s₂
  | .brk => Q .next s₂
  | _ => TurnSrc h₀ L x stored m₀ g own s₁ s₂
section
variable {prog : Program} {w : World} {A : Around} {E : Value → Shared → Prop} {s : Shared} {env : Env} {h₀ : Heap} {x : PySem.Str} {body : List Stmt} {Q : Flow → Shared → Prop}
theorem loop_listP {l : Addr} {vs : List Value} {ns : List Int} {nn : Nat} {m₀ : PySem.Str → Option Value} {led : Led}
    (hh : A.handled = none) (hl : (l, PySem.W.listOf vs.toArray nn) ∈ led) (hi : IntsAre vs ns) (F : Fr h₀ env.locals s.heap m₀) (N : News h₀ env.locals s.heap led)
    (turn : ∀ n t h tk own, n ∈ ns → OwnOff own (led.map (·.1)) → Fr h₀ env.locals h (fun y => if y = x then some (.int n t) else m₀ y) → News h₀ env.locals h (led ++ own) →
      wpAny (model prog w) A (execs body env) (TurnPost h₀ env.locals x m₀ led own { s with heap := h, toks := tk } Q) E { s with heap := h, toks := tk })
    (done : ∀ v h tk, Fr h₀ env.locals h (fun y => if y = x then v else m₀ y) → News h₀ env.locals h led → Q .next { s with heap := h, toks := tk }) :
    wpAny (model prog w) A (pyIter (.ref l)) (fun it s₂ => LoopAtV prog w A h₀ env x body Q E it s₂) E s :=
  loop_list hh hl hi F N turn done
theorem loop_turnsP {r S : Addr} {a₀ b₀ : Int} {t₀ u₀ v₀ : Tok} {n : Nat} {m₀ : PySem.Str → Option Value} {news : Led} {g : Obj → Led} {a b : Int} {ta tb : Tok} {nn : Nat} (stored : List PySem.Str)
    (hh : A.handled = none) (hr : IsRange s.heap r a₀ b₀ 1 t₀ u₀ v₀) (hsmall : Builtin.Range.small a₀ b₀ 1 = true) (hn : Builtin.Range.rangeSize a₀ b₀ 1 = (n : Int))
    (F : Fr h₀ env.locals s.heap m₀) (N : News h₀ env.locals s.heap news) (hS : m₀ (PySem.Str.ofString "source") = some (.ref S)) (U : UpdF S (src a b ta tb nn) news g) (ha : 0 ≤ a) (hb : 0 ≤ b) (hb' : b < 2147483647)
    (turn : ∀ k t a' b' ta' tb' n' (u : PySem.Str → Option Value) h tk own, 0 ≤ a' → 0 ≤ b' → b' < 2147483647 → (∀ p ∈ own, p.1 ≠ S) →
      Fr h₀ env.locals h (fun y => if y = x then some (.int k t) else if stored.contains y then u y else m₀ y) → News h₀ env.locals h (g (src a' b' ta' tb' n') ++ own) →
      wpAny (model prog w) A (execs body env) (SrcPost h₀ env.locals x stored m₀ g own { s with heap := h, toks := tk } Q) E { s with heap := h, toks := tk })
    (done : ∀ a' b' ta' tb' n' (u : PySem.Str → Option Value) h tk, 0 ≤ a' → 0 ≤ b' → b' < 2147483647 → Fr h₀ env.locals h (fun y => if y = x then u y else if stored.contains y then u y else m₀ y) → News h₀ env.locals h (g (src a' b' ta' tb' n')) → Q .next { s with heap := h, toks := tk }) :
    wpAny (model prog w) A (pyIter (.ref r)) (fun it s₂ => LoopAtV prog w A h₀ env x body Q E it s₂) E s :=
  loop_turnsS stored hh hr hsmall hn F N hS U ha hb hb' turn done
end
theorem seg_pre {a d r win : Int} {bs : Array UInt8} (ha : 0 ≤ a) (ha' : a < r) (hw : 0 ≤ win) (hw' : win ≤ 7) (hr : 32 ≤ r) (hb : bs.size ≤ 5) (hd : 0 ≤ d) (hd' : d < 15) :
    0 ≤ a ∧ a < r ∧ 0 ≤ win ∧ win ≤ 7 ∧ 32 ≤ r ∧ bs.size ≤ 5 ∧ -7 ≤ d - 7 ∧ d - 7 ≤ 7 ∧ (a + (d - 7)) % r = (a + d - 7).fmod r := by
  refine ⟨ha, ha', hw, hw', hr, hb, by omega, by omega, ?_⟩
  rw [Int.fmod_eq_emod_of_nonneg _ (by omega : (0 : Int) ≤ r)]
  congr 1; omega
theorem bytes_le {d : Int} {f : Int → Int} (h0 : 0 ≤ d) (h1 : d < 6) : (byteArr (List.map f (rangeKs 0 (d - 0).toNat))).size ≤ 5 := by
  rw [byteArr_size, List.length_map, rangeKs_length]; omega
end
section
local macro_rules | `(tactic| walk_at "call ref") => `(tactic| (k_here; k_dflt (
  (refine' pure_use (numbers_ok _ _ _ _ _ _) ?k1 ?k2 ?k3 ?k4 ?k5 ?kK ?kp ?kd ?ku ?_);
  (case k1 => k_asm); (case k2 => k_asm); (case k3 => k_asm); (case k4 => k_asm); (case k5 => k_asm); (case kK => first | exact rfl | assumption);
  (case kp => ((repeat' refine And.intro ?_ ?_) <;> first | assumption | decide | omega)); (case kd => first | exact room_up (by assumption) (by decide) | exact Nat.le_of_ble_eq_true rfl | ktr_room); (case ku => first | exact units_up (by assumption) rfl (by decide) | exact Nat.le_of_ble_eq_true rfl | ktr_units); intro t9 h9 tk9 F9 N9; (try dsimp only); (try k_fold))))
local macro_rules | `(tactic| walk_at "call ref") => `(tactic| (k_here; k_dflt (
  (refine' pure_use (acks_ok _ _ _ _ _ _ _ _) ?k1 ?k2 ?k3 ?k4 ?k5 ?kK ?kp ?kd ?ku ?_);
  (case k1 => k_asm); (case k2 => k_asm); (case k3 => k_asm); (case k4 => k_asm); (case k5 => k_asm); (case kK => first | exact rfl | assumption);
  (case kp => ((repeat' refine And.intro ?_ ?_) <;> first | assumption | decide | omega)); (case kd => first | exact room_up (by assumption) (by decide) | exact Nat.le_of_ble_eq_true rfl | ktr_room); (case ku => first | exact units_up (by assumption) rfl (by decide) | exact Nat.le_of_ble_eq_true rfl | ktr_units); intro t9 h9 tk9 F9 N9; (try dsimp only); (try k_fold))))
theorem one_ring {x : Int} (h : x ∈ [32, 64, 256, 65536, 2 ^ Int.toNat 32]) : 0 ≤ x ∧ 0 < x ∧ 32 ≤ x ∧ x ≤ 4294967296 ∧ x % 2 = 0 ∧ x.fdiv 2 = x / 2 := by
  rw [show (2 : Int) ^ Int.toNat 32 = 4294967296 by decide] at h
  simp only [List.mem_cons, List.not_mem_nil, or_false] at h
  have e : x.fdiv 2 = x / 2 := Int.fdiv_eq_ediv_of_nonneg _ (by decide)
  rcases h with rfl | rfl | rfl | rfl | rfl <;> exact ⟨by decide, by decide, by decide, by decide, by decide, e⟩
theorem one_a {x r d : Int} (h : x ∈ [0, 1, r - 1, r.fdiv 2, d]) (hr : 32 ≤ r) (hf : r.fdiv 2 = r / 2) (h0 : 0 ≤ d) (h1 : d < r) : 0 ≤ x ∧ x < r := by
  simp only [List.mem_cons, List.not_mem_nil, or_false] at h
  rw [hf] at h
  clear hf
  rcases h with rfl | rfl | h | h | rfl
  · exact ⟨by decide, by clear h0 h1; omega⟩
  · exact ⟨by decide, by clear h0 h1; omega⟩
  · clear h0 h1; omega
  · clear h0 h1; omega
  · exact ⟨h0, h1⟩
theorem one_win {x : Int} (h : x ∈ [0, 1, 2, 3, 5, 7]) : 0 ≤ x ∧ x ≤ 7 ∧ x ≤ 64 := by
  simp only [List.mem_cons, List.not_mem_nil, or_false] at h
  rcases h with rfl | rfl | rfl | rfl | rfl | rfl <;> decide
theorem take_useU {w : World} {mean : ExcName → Option Value} {mg mb : Str → Option Value} {k : Nat} {f S : Addr} {top a b : Int} {tt ta tb : Tok} {n : Nat} {g : Obj → Led} {pre : Prop} {news : Led}
    {dp un : Nat} {gd : Option (List Code)} {cn : Str} {cs : Scope} {ad : Addr} {ccd : Value} {cl : List (Str × Addr)} {outer : List Env} {A₀ : Around} {base h₀ : Heap} {L : Addr} {m : Str → Option Value} {s : Shared} {Q E : Value → Shared → Prop}
    (C : Take k f S top a b tt ta tb n g pre) (B : Below A₀ base outer h₀) (F : Fr h₀ L s.heap m) (X : (hd.heap_39 w.params).In h₀) (N : News h₀ L s.heap news) (T : Top hd.view_39 (looseW hd.view_39 []) mean mg mb h₀) (hk : cs.kind = .function)
    (U : UpdF S (src a b ta tb n) news g) (hp : pre) (hd : dp + k < recursionLimit) (hu : un + 8 * k + 300 < cLine)
    (ret : ∀ (d a' b' : Int) (t ta' tb' : Tok) (n' : Nat) (h' : Heap) (tk' : Nat), 0 ≤ d → d < top → 0 ≤ a' → 0 ≤ b' → b' < 2147483647 → Fr h₀ L h' m → News h₀ L h' (g (src a' b' ta' tb' n')) → Q (.int d t) { s with heap := h', toks := tk' }) :
    wpAny (model PySem.Challenge.rw_nu0118_01.row.prog w) (ktrTop dp un gd cn cs L ad ccd cl outer) (call (.ref f) [.ref S, .int top tt]) Q E s := by
  obtain ⟨e, hm, hu'⟩ := updF_upd U
  subst e
  exact take_use C B F X N T hk hp hd hu ⟨hm, hu'⟩ ret
theorem one_useU {w : World} {mean : ExcName → Option Value} {mg mb : Str → Option Value} {k : Nat} {f S D : Addr} {xs : List Int} {vs : List Value} {nn : Nat} {a b : Int} {ta tb : Tok} {n : Nat} {g : Obj → Led} {pre : Prop} {news : Led}
    {dp un : Nat} {gd : Option (List Code)} {cn : Str} {cs : Scope} {ad : Addr} {ccd : Value} {cl : List (Str × Addr)} {outer : List Env} {A₀ : Around} {base h₀ : Heap} {L : Addr} {m : Str → Option Value} {s : Shared} {Q E : Value → Shared → Prop}
    (C : One k f S D xs vs nn a b ta tb n g pre) (B : Below A₀ base outer h₀) (F : Fr h₀ L s.heap m) (X : (hd.heap_39 w.params).In h₀) (N : News h₀ L s.heap news) (T : Top hd.view_39 (looseW hd.view_39 []) mean mg mb h₀) (hk : cs.kind = .function)
    (U : UpdF S (src a b ta tb n) news g) (hM : ∀ o, (D, listOf vs.toArray nn) ∈ g o) (hI : IntsAre vs xs) (hp : pre) (hd : dp + k < recursionLimit) (hu : un + 8 * k + 300 < cLine)
    (ret : ∀ (x a' b' : Int) (t ta' tb' : Tok) (n' : Nat) (h' : Heap) (tk' : Nat), x ∈ xs → 0 ≤ a' → 0 ≤ b' → b' < 2147483647 → Fr h₀ L h' m → News h₀ L h' (g (src a' b' ta' tb' n')) → Q (.int x t) { s with heap := h', toks := tk' }) :
    wpAny (model PySem.Challenge.rw_nu0118_01.row.prog w) (ktrTop dp un gd cn cs L ad ccd cl outer) (call (.ref f) [.ref S, .ref D]) Q E s := by
  obtain ⟨e, hm, hu'⟩ := updF_upd U
  subst e
  exact C w mean mg mb dp un gd cn cs ad ccd cl outer A₀ base h₀ L m s Q E B F X N T hk hp hd hu ⟨hm, hu'⟩ hI hM ret
theorem pool_use {w : World} {mean : ExcName → Option Value} {mg mb : Str → Option Value} {k : Nat} {f l : Addr} {vs : List Value} {ns : List Int} {i : Int} {ti : Tok} {news : Led} {pre : Prop}
    {dp un : Nat} {gd : Option (List Code)} {cn : Str} {cs : Scope} {ad : Addr} {ccd : Value} {cl : List (Str × Addr)} {outer : List Env} {A₀ : Around} {base h₀ : Heap} {L : Addr} {m : Str → Option Value} {s : Shared} {Q E : Value → Shared → Prop}
    (C : Pool k f l vs ns i ti news pre) (B : Below A₀ base outer h₀) (F : Fr h₀ L s.heap m) (X : (hd.heap_39 w.params).In h₀) (N : News h₀ L s.heap news) (T : Top hd.view_39 (looseW hd.view_39 []) mean mg mb h₀) (hk : cs.kind = .function)
    (hl : base.IsList l vs.toArray) (hI : IntsAre vs ns) (hfit : ns.length < 2 ^ 62) (hp : pre) (hd : dp + k < recursionLimit) (hu : un + 8 * k + 300 < cLine)
    (ret : ∀ (S : Addr) (a' b' : Int) (ta' tb' : Tok) (n' : Nat) (h' : Heap) (tk' : Nat), 0 ≤ a' → 0 ≤ b' → b' < 2147483647 → AllLt S news → Fr h₀ L h' m → News h₀ L h' ((S, src a' b' ta' tb' n') :: news) → Q (.ref S) { s with heap := h', toks := tk' }) :
    wpAny (model PySem.Challenge.rw_nu0118_01.row.prog w) (ktrTop dp un gd cn cs L ad ccd cl outer) (call (.ref f) [.ref l, .int i ti]) Q E s :=
  C w mean mg mb dp un gd cn cs ad ccd cl outer A₀ base h₀ L m s Q E B F X N T hk hl hI hfit hp hd hu ret
theorem seg_use {w : World} {mean : ExcName → Option Value} {mg mb : Str → Option Value} {k : Nat} {f Mk : Addr} {vs : List Value} {mo : Obj} {news : Led} {pre : Prop}
    {dp un : Nat} {gd : Option (List Code)} {cn : Str} {cs : Scope} {ad : Addr} {ccd : Value} {cl : List (Str × Addr)} {outer : List Env} {A₀ : Around} {base h₀ : Heap} {L : Addr} {m : Str → Option Value} {s : Shared} {Q E : Value → Shared → Prop}
    (C : Seg k f vs Mk mo news pre) (B : Below A₀ base outer h₀) (F : Fr h₀ L s.heap m) (X : (hd.heap_39 w.params).In h₀) (N : News h₀ L s.heap news) (T : Top hd.view_39 (looseW hd.view_39 []) mean mg mb h₀) (hk : cs.kind = .function)
    (hM : (Mk, mo) ∈ news) (hp : pre) (hd : dp + k < recursionLimit) (hu : un + 8 * k + 300 < cLine)
    (ret : ∀ (h' : Heap) (tk' : Nat), Fr h₀ L h' m → News h₀ L h' news → Q (.bool true) { s with heap := h', toks := tk' }) :
    wpAny (model PySem.Challenge.rw_nu0118_01.row.prog w) (ktrTop dp un gd cn cs L ad ccd cl outer) (call (.ref f) vs) Q E s :=
  C w mean mg mb dp un gd cn cs ad ccd cl outer A₀ base h₀ L m s Q E B F X N T hk hp hd hu hM ret
local macro_rules | `(tactic| walk_at "call ref") => `(tactic| (k_here; k_dflt (
  (refine' take_useU (take_ok _ _ _ _ _ _ _ _ _) ?k1 ?k2 ?k3 ?k4 ?k5 ?kK ?kU ?kp ?kd ?ku ?_);
  (case k1 => k_asm); (case k2 => k_asm); (case k3 => k_asm); (case k4 => k_asm); (case k5 => k_asm); (case kK => first | exact rfl | assumption); (case kU => k_updF);
  (case kp => ((repeat' refine And.intro ?_ ?_) <;> first | assumption | decide | omega)); (case kd => first | exact room_up (by assumption) (by decide) | exact Nat.le_of_ble_eq_true rfl | ktr_room); (case ku => first | exact units_up (by assumption) rfl (by decide) | exact Nat.le_of_ble_eq_true rfl | ktr_units); intro d9 a9 b9 t9 ta9 tb9 n9 h9 tk9 p1 p2 p3 p4 p5 F9 N9; (try dsimp only at N9); (try dsimp only); (try k_fold))))
local macro_rules | `(tactic| walk_at "call ref") => `(tactic| (k_here; k_dflt (
  (refine' one_useU (one_ok _ _ _ _ _ _ _ _ _ _ _) ?k1 ?k2 ?k3 ?k4 ?k5 ?kK ?kU ?kM ?kI ?kp ?kd ?ku ?_);
  (case k1 => k_asm); (case k2 => k_asm); (case k3 => k_asm); (case k4 => k_asm); (case k5 => k_asm); (case kK => first | exact rfl | assumption); (case kU => k_updF); (case kM => intro o9; k_mem); (case kI => first | exact .cons _ _ (.cons _ _ (.cons _ _ (.cons _ _ (.cons _ _ .nil)))) | exact .cons _ _ (.cons _ _ (.cons _ _ (.cons _ _ (.cons _ _ (.cons _ _ .nil))))));
  (case kp => exact ⟨Nat.le_of_ble_eq_true rfl, Nat.le_of_ble_eq_true rfl, by assumption, by assumption, by assumption⟩); (case kd => first | exact room_up (by assumption) (by decide) | exact Nat.le_of_ble_eq_true rfl | ktr_room); (case ku => first | exact units_up (by assumption) rfl (by decide) | exact Nat.le_of_ble_eq_true rfl | ktr_units); intro x9 a9 b9 t9 ta9 tb9 n9 h9 tk9 p1 p3 p4 p5 F9 N9; (first | (obtain ⟨q1, q2, q3, q4, q5, q6⟩ := one_ring p1) | (obtain ⟨q1, q2⟩ := one_a p1 (by assumption) (by assumption) (by assumption) (by assumption)) | (obtain ⟨q1, q2, q3⟩ := one_win p1)); clear p1; (try dsimp only at N9); (try dsimp only); (try k_fold))))
local macro_rules | `(tactic| walk_at "call ref") => `(tactic| (k_here; k_dflt (
  (refine' pool_use (pool_ok _ _ _ _ _ _) ?k1 ?k2 ?k3 ?k4 ?k5 ?kK ?kl ?ki ?kt ?kp ?kd ?ku ?_);
  (case k1 => k_asm); (case k2 => k_asm); (case k3 => k_asm); (case k4 => k_asm); (case k5 => k_asm); (case kK => first | exact rfl | assumption); (case kl => k_asm); (case ki => l_ints); (case kt => l_fit);
  (case kp => ((repeat' refine And.intro ?_ ?_) <;> first | assumption | decide | omega)); (case kd => first | exact room_up (by assumption) (by decide) | exact Nat.le_of_ble_eq_true rfl | ktr_room); (case ku => first | exact units_up (by assumption) rfl (by decide) | exact Nat.le_of_ble_eq_true rfl | ktr_units); intro S9 a9 b9 ta9 tb9 n9 h9 tk9 p3 p4 p5 l9 F9 N9; (try simp only [AllLt, and_true] at l9); (try dsimp only); (try k_fold))))
local macro_rules | `(tactic| walk_at "call ref") => `(tactic| (k_here; k_dflt (
  (refine' seg_use (seg_ok _ _ _ _ _ _ _ _ _ _ _ _ _ _ _ _) ?k1 ?k2 ?k3 ?k4 ?k5 ?kK ?kM ?kp ?kd ?ku ?_);
  (case k1 => k_asm); (case k2 => k_asm); (case k3 => k_asm); (case k4 => k_asm); (case k5 => k_asm); (case kK => first | exact rfl | assumption); (case kM => k_mem);
  (case kp => (refine' seg_pre ?z1 ?z2 ?z3 ?z4 ?z5 ?z6 ?z7 ?z8; (case z1 => first | assumption | omega); (case z2 => first | assumption | omega); (case z3 => first | assumption | omega); (case z4 => first | assumption | omega); (case z5 => first | assumption | omega); (case z6 => (refine' bytes_le ?z1 ?z2; (case z1 => first | assumption | omega); (case z2 => omega))); (case z7 => first | assumption | omega); (case z8 => omega))); (case kd => first | exact room_up (by assumption) (by decide) | exact Nat.le_of_ble_eq_true rfl | ktr_room); (case ku => first | exact units_up (by assumption) rfl (by decide) | exact Nat.le_of_ble_eq_true rfl | ktr_units); intro h9 tk9 F9 N9; (try dsimp only); (try k_fold))))
local macro_rules | `(tactic| k_all) => `(tactic| first | (refine allLt_ne (by assumption) (Nat.le_refl _)) | (refine mem_ne (by assumption) ?_; omega))
local macro_rules | `(tactic| walk_at "pyIter ref") => `(tactic| (k_here; (rename Fr _ _ _ _ => lF'); (rename News _ _ _ _ => lN'); (rename IsRange _ _ _ _ _ _ _ _ => rgX); k_dflt (refine' kst_range (σ := Unit) (x := PySem.Str.ofString "k") (fun _ => []) (fun _ => []) (fun _ => True) [PySem.Str.ofString "source", PySem.Str.ofString "ring", PySem.Str.ofString "a", PySem.Str.ofString "half", PySem.Str.ofString "steps", PySem.Str.ofString "window", PySem.Str.ofString "turn", PySem.Str.ofString "octets", PySem.Str.ofString "marks", PySem.Str.ofString "seq", PySem.Str.ofString "flight"] (fun _ _ => True) () ?kh ?kr ?ks (rangeSize_nat _ _) lF' News.nil trivial (by intro _ hp; cases hp) trivial ?_ ?_; (case kh => rfl); (case kr => exact rgX); (case ks => exact small_one (by omega) (by omega) (by omega) (by omega))); (all_goals (try clear lF' lN')); focus (intro c9 pre9 k9 t9 u9 h9 tk9 own9 hk9 hl9 ho9 _ _ F9 N9; (try simp only [List.nil_append] at N9); (try dsimp only); (try k_fold))))
theorem six_steps {n r d : Int} (h : n ∈ [0, 1, r.fdiv 2 - 1, r.fdiv 2, r.fdiv 2 + 1, d]) (hr : 32 ≤ r) (hf : r.fdiv 2 = r / 2) (h0 : 0 ≤ d) (h1 : d < r) : 0 ≤ n ∧ n < r := by
  simp only [List.mem_cons, List.not_mem_nil, or_false] at h
  rw [hf] at h
  clear hf
  rcases h with rfl | rfl | h | h | h | rfl
  · exact ⟨by decide, by clear h0 h1; omega⟩
  · exact ⟨by decide, by clear h0 h1; omega⟩
  · clear h0 h1; omega
  · clear h0 h1; omega
  · clear h0 h1; omega
  · exact ⟨h0, h1⟩
local macro_rules | `(tactic| walk_at "pyIter ref") => `(tactic| (k_here; (rename Fr _ _ _ _ => lF'); (rename News _ _ _ _ => lN'); k_dflt (refine' loop_listP (x := PySem.Str.ofString "steps") ?kh ?kl ?ki lF' lN' ?_ ?_; (case kh => rfl); (case kl => k_mem); (case ki => exact .cons _ _ (.cons _ _ (.cons _ _ (.cons _ _ (.cons _ _ (.cons _ _ .nil))))))); (all_goals (try clear lF' lN')); (focus (intro n9 t9 h9 tk9 own9 hn9 ho9 F9 N9; obtain ⟨q1, q2⟩ := six_steps hn9 (by assumption) (by assumption) (by assumption) (by assumption); clear hn9; (try simp only [List.cons_append] at N9); (try dsimp only); (try k_fold)))))
local macro_rules | `(tactic| k_all) => `(tactic| first | exact forall_app (allLt_ne (by assumption) (Nat.le_refl _)) (by assumption) | (refine forall_app ?ka ?kb; (case ka => k_all); (case kb => k_all)) | assumption)
local macro_rules | `(tactic| walk_at "pyIter ref") => `(tactic| (k_here; (rename Fr _ _ _ _ => lF'); (rename News _ _ _ _ => lN'); (rename IsRange _ _ _ _ _ _ _ _ => rgX); k_dflt (refine' loop_turnsP (x := PySem.Str.ofString "turn") [PySem.Str.ofString "octets", PySem.Str.ofString "marks", PySem.Str.ofString "seq", PySem.Str.ofString "flight"] ?kh ?kr ?ks (rangeSize_nat _ _) lF' lN' ?kS ?kU ?ka ?kb ?kc ?_ ?_; (case kh => rfl); (case kr => exact rgX); (case ks => exact small_one (by omega) (by omega) (by omega) (by omega)); (case kS => exact rfl); (case kU => k_updF); (case ka => assumption); (case kb => assumption); (case kc => assumption)); (all_goals (try clear lF' lN')); focus (intro k9 t9 a9 b9 ta9 tb9 n9 u9 h9 tk9 own9 p1 p2 p3 ho9 F9 N9; (try simp only [List.cons_append] at N9); (try dsimp only); (try k_fold))))
local macro_rules | `(tactic| walk_at "TurnPost") => `(tactic| (dsimp only [TurnPost]))
local macro_rules | `(tactic| walk_at "SrcPost") => `(tactic| (dsimp only [SrcPost]))
local macro_rules | `(tactic| walk_at "TurnEnd") => `(tactic| (k_here; (refine' TurnEnd.intro ?kF ?kN ?kS ?kM; (case kF => assumption); (case kN => assumption); (case kS => repeat (first | exact Suf.here | refine Suf.there ?_)); (case kM => (intro z h1; simp [h1])))))
local macro_rules | `(tactic| walk_at "TurnSrc") => `(tactic| (k_here; (refine' TurnSrc.intro ?kF ?kN ?kS ?k1 ?k2 ?k3 ?kM; (case kF => assumption); (case kN => assumption); (case kS => repeat (first | exact Suf.here | refine Suf.there ?_)); (case k1 => assumption); (case k2 => assumption); (case k3 => assumption); (case kM => (intro z h1 h3; (simp only [List.contains_cons, List.contains_nil, Bool.or_false, Bool.or_eq_false_iff, beq_eq_false_iff_ne, ne_eq] at h3); (simp [h1, h3, kstB]))))))
local macro_rules | `(tactic| walk_at "InvEndN") => `(tactic| (k_here; (refine' outer_end ?kF ?kN ?kS ?kM; (case kF => assumption); (case kN => assumption); (case kS => refine Suf.sub ?_; repeat (first | exact Suf.here | refine Suf.there ?_)); (case kM => (intro z h1 h3; (simp only [List.contains_cons, List.contains_nil, Bool.or_false, Bool.or_eq_false_iff, beq_eq_false_iff_ne, ne_eq] at h3); (simp [h1, h3, kstB]))))))
local macro_rules | `(tactic| k_ne) => `(tactic| (refine neN ?_; (try dsimp only); first
  | exact Nat.ne_of_gt (And.left (by assumption))
  | exact Nat.ne_of_gt (And.left (And.right (by assumption)))
  | exact Nat.ne_of_gt (And.left (And.right (And.right (by assumption))))
  | exact Nat.ne_of_gt (And.left (And.right (And.right (And.right (by assumption)))))
  | exact Nat.ne_of_gt (And.left (And.right (And.right (And.right (And.right (by assumption))))))
  | exact Nat.ne_of_gt (And.left (And.right (And.right (And.right (And.right (And.right (by assumption)))))))
  | exact Ne.symm (And.left (And.right (And.right (And.right (by assumption)))))
  | exact Ne.symm (And.left (And.right (And.right (And.right (And.right (by assumption))))))
  | exact Ne.symm (And.left (And.right (And.right (And.right (And.right (And.right (by assumption)))))))
  | omega))
theorem T : PySem.Challenge.rw_nu0118_01.Holds := hd (by
  k_go0
  all_goals try k_fold
  k_steps
  )
end
end Mine
theorem PySem.Challenge.cw_nu0118_01_holds : PySem.Challenge.rw_nu0118_01.Holds :=
  Mine.T
