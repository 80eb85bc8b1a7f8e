import PyProof.Rows.All
import Wide.All
import OpenK.AllK
import Wide.FinOn
import Lean
import PySem.Challenge.RW_sz0001_01
open PySem PySem.W PySem.Calls PyProof.Rows
set_option Elab.async false
set_option rowWalk.seconds 0
namespace Mine
set_option maxRecDepth 100000 in
set_option maxHeartbeats 8000000 in
open_top hd for PySem.Challenge.rw_sz0001_01

/-! ## Base -/
section
theorem part_Base : True := by
  w_top off
  k_with_none
  trivial
noncomputable abbrev PR : Program := PySem.Challenge.rw_sz0001_01.row.prog
noncomputable abbrev LO : List Str := looseW hd.view_39 [Str.ofString "GREATEST"]

/-- a call of the def at f, upon such arguments and such a ledger, ends; R tells its answer and the ledger behind it -/
def Con (w : World) (f : Addr) (dep : Nat) (news : List (Addr × Obj)) (vs : List Value) (R : Value → List (Addr × Obj) → Prop) : Prop :=
  ∀ (mean : ExcName → Option Value) (mg mb : Str → Option Value) (dp un : Nat) (gd : Option (List Code)) (cn : Str) (cs : Scope) (a : Addr) (ccd : Value) (cl : List (Str × Addr)) (outer : List Env)
    (A₀ : Around) (base h₀ : Heap) (L : Addr) (m : Str → Option Value) (s : Shared) (Q E : Value → Shared → Prop),
    Below A₀ base outer h₀ → Fr h₀ L s.heap m → (hd.heap_39 w.params).In h₀ → News h₀ L s.heap news → Top hd.view_39 LO mean mg mb h₀ → cs.kind = .function →
    dp + dep < recursionLimit → un + 8 * dep < cLine →
    (∀ r news' h' tk', Fr h₀ L h' m → News h₀ L h' news' → R r news' → Q r { s with heap := h', toks := tk' }) →
    wpAny (model PR w) (ktrTop dp un gd cn cs L a ccd cl outer) (call (.ref f) vs) Q E s

theorem con_use {w : World} {f : Addr} {dep : Nat} {news : List (Addr × Obj)} {vs : List Value} {R : Value → List (Addr × Obj) → Prop} {mean : ExcName → Option Value} {mg mb : Str → Option Value} {dp un : Nat} {gd : Option (List Code)} {cn : Str} {cs : Scope} {a : Addr} {ccd : Value} {cl : List (Str × Addr)} {outer : List Env}
    {A₀ : Around} {base h₀ : Heap} {L : Addr} {m : Str → Option Value} {s : Shared} {Q E : Value → Shared → Prop} (C : Con w f dep news vs R)
    (B : Below A₀ base outer h₀) (F : Fr h₀ L s.heap m) (X : (hd.heap_39 w.params).In h₀) (N : News h₀ L s.heap news) (T : Top hd.view_39 LO mean mg mb h₀) (hk : cs.kind = .function)
    (hd : dp + dep < recursionLimit) (hu : un + 8 * dep < cLine)
    (hret : ∀ r news' h' tk', Fr h₀ L h' m → News h₀ L h' news' → R r news' → Q r { s with heap := h', toks := tk' }) :
    wpAny (model PR w) (ktrTop dp un gd cn cs L a ccd cl outer) (call (.ref f) vs) Q E s := C _ _ _ _ _ _ _ _ _ _ _ _ _ _ _ _ _ _ _ _ B F X N T hk hd hu hret

/-- the answer is an int, nothing is made that stays -/
def IsI (i : Int) (news : List (Addr × Obj)) (r : Value) (news' : List (Addr × Obj)) : Prop := (∃ t, r = .int i t) ∧ news' = news

theorem isI_of {i j : Int} {t : Tok} {news : List (Addr × Obj)} (h : i = j) : IsI j news (.int i t) news := ⟨⟨t, by rw [h]⟩, rfl⟩
/-- a pair of ints, as the heap bears it -/
abbrev tupO (x y : Int) (t u : Tok) (n : Nat) : Obj := { cls := .type "tuple", data := .seq #[.int x t, .int y u] n }
/-- the answer is a new pair, on top of the ledger -/
def IsR (p : Int × Int) (news : List (Addr × Obj)) (r : Value) (news' : List (Addr × Obj)) : Prop :=
  ∃ D t u n, r = .ref D ∧ news' = (D, tupO p.1 p.2 t u n) :: news ∧ AllLt D news
theorem news_head {h₀ h : Heap} {L D : Addr} {o : Obj} {news : List (Addr × Obj)} (_ : News h₀ L h ((D, o) :: news)) : ∃ D' : Addr, D' = D := ⟨D, rfl⟩
def Stop (P : Prop) : Prop := P
theorem stop_of {P : Prop} (h : Stop P) : P := h
theorem allLt_ne {D : Addr} {l : List (Addr × Obj)} (h : AllLt D l) : ∀ p ∈ l, p.1 ≠ D := by
  induction l with
  | nil => intro p hp; exact absurd hp (List.not_mem_nil)
  | cons q r ih =>
    intro p hp
    rcases List.mem_cons.mp hp with e | hp
    · rw [e]; exact Nat.ne_of_lt h.1
    · exact ih h.2 p hp
/-- the fraction t / b in its least form -/
def rt (t b : Int) : Int × Int := (t / (Int.gcd t b : Int), b / (Int.gcd t b : Int))
end

/-! ## D1 -/
section
theorem part_D1 : True := by
  w_top off
  k_with_none
  trivial
theorem gcd_turn {a b : Int} {g : Nat} (hb : 0 < b) (h : 0 ≤ a ∧ 0 ≤ b ∧ Int.gcd a b = g) : 0 ≤ b ∧ 0 ≤ Int.fmod a b ∧ Int.gcd b (Int.fmod a b) = g := by
  obtain ⟨h1, h2, h3⟩ := h
  have e : Int.fmod a b = a % b := Int.fmod_eq_emod_of_nonneg a h2
  rw [e]
  refine ⟨h2, Int.emod_nonneg a (by omega), ?_⟩
  rw [← h3, Int.gcd_comm b, Int.emod_def, Int.sub_eq_add_neg, ← Int.mul_neg, Int.mul_comm]
  exact Int.gcd_add_mul_right_left ..
theorem gcd_start (x y : Int) : 0 ≤ (x.natAbs : Int) ∧ 0 ≤ (y.natAbs : Int) ∧ Int.gcd x.natAbs y.natAbs = Int.gcd x y := by
  refine ⟨by omega, by omega, ?_⟩
  simp [Int.gcd]
theorem gcd_end {a b : Int} {g : Nat} (h : 0 ≤ a ∧ 0 ≤ b ∧ Int.gcd a b = g) (hb : ¬ 0 < b) : a = (g : Int) := by
  obtain ⟨h1, h2, h3⟩ := h
  have : b = 0 := by omega
  subst this
  rw [Int.gcd_zero_right] at h3
  omega
theorem gcd_less {a b : Int} (hb : 0 < b) : (Int.fmod a b).toNat < b.toNat := by
  have := Int.fmod_lt_of_pos a hb
  omega
local macro_rules | `(tactic| walk_at "exec While Compare cons nil") => `(tactic| refine stop_of ?_)
set_option maxRecDepth 100000
set_option maxHeartbeats 8000000 in
theorem con_div (w : World) (news : List (Addr × Obj)) (x y : Int) (tx ty : Tok) : Con w 60 1 news [.int x tx, .int y ty] (IsI (Int.gcd x y) news) := by
  unfold Con
  k_with_none
  intro mean mg mb dp un gd cn cs a ccd cl outer A₀ base h₀ L m s Q E B F X N T hk hd hu hret
  refine wpAny_call ?_
  k_dflt ktr_enter
  k_steps
  unfold Stop
  (rename Fr _ _ _ _ => lF')
  (rename News _ _ _ _ => lN')
  refine' ksw_while (σ := Int × Tok × Int × Tok) (fun _ => news) (fun c => [(Str.ofString "a", .int c.1 c.2.1), (Str.ofString "b", .int c.2.2.1 c.2.2.2)]) (fun _ => True) []
    (fun c => 0 ≤ c.1 ∧ 0 ≤ c.2.2.1 ∧ Int.gcd c.1 c.2.2.1 = Int.gcd x y) (fun c => c.2.2.1.toNat) (_, _, _, _) lF' lN' trivial ?kk ?kp ?_ (hE := ?hE)
  case hE => first | passes_own | with_unfolding_all passes_own
  case kk => kst_all
  case kp =>
    have e1 : (if x < 0 then -x else x) = (x.natAbs : Int) := by split <;> omega
    have e2 : (if y < 0 then -y else y) = (y.natAbs : Int) := by split <;> omega
    dsimp only
    rw [e1, e2]
    exact gcd_start x y
  rintro ⟨a', ta, b', tb⟩ u h tk _ hP F' N'
  dsimp only [kstB] at F' hP N'
  clear lF' lN'
  k_fold
  k_with "state" => exact gcd_turn (by omega) (by assumption)
  k_with "measure" => exact gcd_less (by omega)
  k_steps
  exact hret _ news _ _ (by k_asm) (by k_asm) ⟨⟨ta, by rw [gcd_end hP (by assumption)]⟩, rfl⟩
end

/-! ## D2 -/
section
theorem part_D2 : True := by
  w_top off
  k_with_none
  trivial
local macro_rules | `(tactic| walk_at "mine con") => `(tactic| (
  (case k1 => k_asm); (case k2 => k_asm); (case k3 => k_asm); (case k4 => k_asm); (case k5 => k_asm); (case k6 => first | rfl | assumption);
  (case k7 => first | omega | ktr_room); (case k8 => first | omega | ktr_units)))
local macro_rules | `(tactic| walk_at "mine backI") => `(tactic| (
  intro r9 news9 h9 tk9 F9 N9 hR9; (obtain ⟨⟨t9, e9⟩, e9'⟩ := hR9); subst e9; (rw [e9'] at N9); clear e9'; (try dsimp only); (try k_fold)))
local macro_rules | `(tactic| walk_at "call ref") => `(tactic| (k_here; k_dflt ((refine' con_use (con_div _ _ _ _ _ _) ?k1 ?k2 ?k3 ?k4 ?k5 ?k6 ?k7 ?k8 ?_); walk_at "mine con"; walk_at "mine backI")))
local macro_rules | `(tactic| walk_at "exec Raise some none") => `(tactic| (exfalso; omega))
theorem noPy {a b : Int} (h1 : 0 < b) (h2 : b < 2 ^ 200) : Builtin.divisionGoesByPylong a b = false := by
  refine PyProof.noPylong_of_log2 (Nat.lt_trans ((Nat.log2_lt (k := 200) (by omega)).mpr ?_) (by decide))
  omega
local macro_rules | `(tactic| walk_at "binaryOp FloorDiv int int") => `(tactic| (k_here; (with_reducible refine floordiv_int ?mne ?_ (Or.inl (noPy ?mlo ?mhi))); (case mne => omega); (case mlo => omega); (case mhi => omega); (try dsimp only)))
theorem mk_facts {x y : Int} (hx : -(2 ^ 200) < x ∧ x < 2 ^ 200) (hy : 0 < y ∧ y < 2 ^ 200) : ((0 : Int) < (Int.gcd x y : Int) ∧ (Int.gcd x y : Int) < 2 ^ 200) ∧ (-(2 ^ 200) < Int.fdiv x (Int.gcd x y : Int) ∧ Int.fdiv x (Int.gcd x y : Int) < 2 ^ 200)
    ∧ (0 < Int.fdiv y (Int.gcd x y : Int) ∧ Int.fdiv y (Int.gcd x y : Int) < 2 ^ 200) ∧ rt x y = (Int.fdiv x (Int.gcd x y : Int), Int.fdiv y (Int.gcd x y : Int)) := by
  have hg : 0 < Int.gcd x y := Int.gcd_pos_of_ne_zero_right _ (by omega)
  have hg' : (0 : Int) < (Int.gcd x y : Int) := by omega
  have e1 : Int.fdiv x (Int.gcd x y : Int) = x / (Int.gcd x y : Int) := Int.fdiv_eq_ediv_of_nonneg _ (by omega)
  have e2 : Int.fdiv y (Int.gcd x y : Int) = y / (Int.gcd x y : Int) := Int.fdiv_eq_ediv_of_nonneg _ (by omega)
  obtain ⟨p, hp⟩ := Int.gcd_dvd_left x y
  obtain ⟨q, hq⟩ := Int.gcd_dvd_right x y
  rw [e1, e2]
  generalize hG : (Int.gcd x y : Int) = g at *
  have h1 : x / g = p := by rw [hp]; exact Int.mul_ediv_cancel_left _ (by omega)
  have h2 : y / g = q := by rw [hq]; exact Int.mul_ediv_cancel_left _ (by omega)
  have hq0 : 0 < q := by
    rcases Int.lt_or_le 0 q with h | h
    · exact h
    · exfalso
      have := Int.mul_le_mul_of_nonneg_left h (Int.le_of_lt hg')
      rw [← hq] at this; omega
  have hq1 : q ≤ y := by
    have := Int.mul_le_mul_of_nonneg_right (show (1 : Int) ≤ g by omega) (Int.le_of_lt hq0)
    rw [← hq] at this; omega
  have hp1 : -(2 ^ 200) < p ∧ p < 2 ^ 200 := by
    rcases Int.lt_or_le p 0 with h | h
    · have := Int.mul_le_mul_of_nonneg_right (show (1 : Int) ≤ g by omega) (show 0 ≤ -p by omega)
      have e := Int.mul_neg g p
      rw [e, ← hp] at this; omega
    · have := Int.mul_le_mul_of_nonneg_right (show (1 : Int) ≤ g by omega) h
      rw [← hp] at this; omega
  rw [h1, h2]
  have hg1 : g ≤ y := by
    have := Int.mul_le_mul_of_nonneg_left (show (1 : Int) ≤ q by omega) (Int.le_of_lt hg')
    rw [← hq] at this; omega
  refine ⟨⟨hg', by omega⟩, hp1, ⟨hq0, by omega⟩, ?_⟩
  unfold rt
  rw [hG, h1, h2]
set_option maxRecDepth 100000
set_option maxHeartbeats 8000000 in
theorem con_mk (w : World) (news : List (Addr × Obj)) (x y : Int) (tx ty : Tok) (hx : -(2 ^ 200) < x ∧ x < 2 ^ 200) (hy : 0 < y ∧ y < 2 ^ 200) : Con w 67 2 news [.int x tx, .int y ty] (IsR (rt x y) news) := by
  unfold Con
  k_with_none
  intro mean mg mb dp un gd cn cs a ccd cl outer A₀ base h₀ L m s Q E B F X N T hk hd hu hret
  obtain ⟨hg, hx1, hy1, he⟩ := mk_facts hx hy
  have hg0 : (Int.gcd x y : Int) ≠ 0 := by omega
  rw [he] at hret
  clear he
  refine wpAny_call ?_
  k_dflt ktr_enter
  k_steps
  exact hret _ _ _ _ (by k_asm) (by k_asm) ⟨_, _, _, _, rfl, rfl, allLt_of (by assumption)⟩
end

/-! ## D3 -/
section
theorem part_D3 : True := by
  w_top off
  k_with_none
  trivial
local macro_rules | `(tactic| walk_at "mine pad") => `(tactic| skip)
local macro_rules | `(tactic| walk_at "mine con") => `(tactic| (
  (case k1 => k_asm); (case k2 => k_asm); (case k3 => k_asm); (case k4 => k_asm); (case k5 => k_asm); (case k6 => first | rfl | assumption);
  (case k7 => first | omega | ktr_room); (case k8 => first | omega | ktr_units)))
local macro_rules | `(tactic| walk_at "mine backI") => `(tactic| (
  intro r9 news9 h9 tk9 F9 N9 hR9; (obtain ⟨⟨t9, e9⟩, e9'⟩ := hR9); subst e9; (rw [e9'] at N9); clear e9'; (try dsimp only); (try k_fold)))

local macro_rules | `(tactic| walk_at "mine backR") => `(tactic| (
  intro r9 news9 h9 tk9 F9 N9 hR9; (obtain ⟨D9, t9, u9, n9, e9, e9', l9⟩ := hR9); subst e9; (rw [e9'] at N9); clear e9'; (try simp only [AllLt, and_true] at l9); (try dsimp only); (try k_fold)))
local macro_rules | `(tactic| walk_at "call ref") => `(tactic| (k_here; k_dflt ((refine' con_use (con_mk _ _ _ _ _ _ ?mx ?my) ?k1 ?k2 ?k3 ?k4 ?k5 ?k6 ?k7 ?k8 ?_); (case mx => omega); (case my => omega); walk_at "mine con"; walk_at "mine backR")))

local macro_rules | `(tactic| walk_at "binaryOp FloorDiv int int") => `(tactic| (k_here; (with_reducible refine floordiv_int ?mne ?_ (Or.inl (noPy ?mlo ?mhi))); (case mne => omega); (case mlo => omega); (case mhi => omega); (try dsimp only)))
/-- an int of the size that the proofs below allow -/
abbrev Sm (a : Int) : Prop := -(2 ^ 60) < a ∧ a < 2 ^ 60
theorem mul_sm {a b : Int} (ha : Sm a) (hb : Sm b) : -(2 ^ 120) < a * b ∧ a * b < 2 ^ 120 := by
  obtain ⟨a1, a2⟩ := ha
  obtain ⟨b1, b2⟩ := hb
  have h1 : a.natAbs < 2 ^ 60 := by omega
  have h2 : b.natAbs < 2 ^ 60 := by omega
  have h3 : a.natAbs * b.natAbs < 2 ^ 60 * 2 ^ 60 := Nat.mul_lt_mul_of_lt_of_le h1 (Nat.le_of_lt h2) (by decide)
  have h4 : (a * b).natAbs = a.natAbs * b.natAbs := Int.natAbs_mul a b
  have h5 : (2 ^ 60 * 2 ^ 60 : Nat) = 2 ^ 120 := by decide
  omega
set_option maxRecDepth 100000

set_option maxHeartbeats 8000000 in
theorem con_sum (w : World) (news : List (Addr × Obj)) (x y : Addr) (a b c d : Int) (ta tb tc td : Tok) (nx ny : Nat) (mx : (x, tupO a b ta tb nx) ∈ news) (my : (y, tupO c d tc td ny) ∈ news)
    (ha : Sm a) (hb : 0 < b ∧ b < 2 ^ 60) (hc : Sm c) (hd' : 0 < d ∧ d < 2 ^ 60) : Con w 74 3 news [.ref x, .ref y] (IsR (rt (a * d + c * b) (b * d)) news) := by
  unfold Con
  k_with_none
  intro mean mg mb dp un gd cn cs a' ccd cl outer A₀ base h₀ L m s Q E B F X N T hk hd hu hret
  have h1 := mul_sm ha (show Sm d by omega)
  have h2 := mul_sm hc (show Sm b by omega)
  have h3 := mul_sm (show Sm b by omega) (show Sm d by omega)
  have h4 := mul_sm ha hc
  have h5 : 0 < b * d := Int.mul_pos hb.1 hd'.1
  refine wpAny_call ?_
  k_dflt ktr_enter
  k_steps
  exact hret _ _ _ _ (by k_asm) (by k_asm) ⟨_, _, _, _, rfl, rfl, by assumption⟩

set_option maxHeartbeats 8000000 in
theorem con_diff (w : World) (news : List (Addr × Obj)) (x y : Addr) (a b c d : Int) (ta tb tc td : Tok) (nx ny : Nat) (mx : (x, tupO a b ta tb nx) ∈ news) (my : (y, tupO c d tc td ny) ∈ news)
    (ha : Sm a) (hb : 0 < b ∧ b < 2 ^ 60) (hc : Sm c) (hd' : 0 < d ∧ d < 2 ^ 60) : Con w 81 3 news [.ref x, .ref y] (IsR (rt (a * d - c * b) (b * d)) news) := by
  unfold Con
  k_with_none
  intro mean mg mb dp un gd cn cs a' ccd cl outer A₀ base h₀ L m s Q E B F X N T hk hd hu hret
  have h1 := mul_sm ha (show Sm d by omega)
  have h2 := mul_sm hc (show Sm b by omega)
  have h3 := mul_sm (show Sm b by omega) (show Sm d by omega)
  have h4 := mul_sm ha hc
  have h5 : 0 < b * d := Int.mul_pos hb.1 hd'.1
  refine wpAny_call ?_
  k_dflt ktr_enter
  k_steps
  exact hret _ _ _ _ (by k_asm) (by k_asm) ⟨_, _, _, _, rfl, rfl, by assumption⟩

set_option maxHeartbeats 8000000 in
theorem con_prod (w : World) (news : List (Addr × Obj)) (x y : Addr) (a b c d : Int) (ta tb tc td : Tok) (nx ny : Nat) (mx : (x, tupO a b ta tb nx) ∈ news) (my : (y, tupO c d tc td ny) ∈ news)
    (ha : Sm a) (hb : 0 < b ∧ b < 2 ^ 60) (hc : Sm c) (hd' : 0 < d ∧ d < 2 ^ 60) : Con w 88 3 news [.ref x, .ref y] (IsR (rt (a * c) (b * d)) news) := by
  unfold Con
  k_with_none
  intro mean mg mb dp un gd cn cs a' ccd cl outer A₀ base h₀ L m s Q E B F X N T hk hd hu hret
  have h1 := mul_sm ha (show Sm d by omega)
  have h2 := mul_sm hc (show Sm b by omega)
  have h3 := mul_sm (show Sm b by omega) (show Sm d by omega)
  have h4 := mul_sm ha hc
  have h5 : 0 < b * d := Int.mul_pos hb.1 hd'.1
  refine wpAny_call ?_
  k_dflt ktr_enter
  k_steps
  exact hret _ _ _ _ (by k_asm) (by k_asm) ⟨_, _, _, _, rfl, rfl, by assumption⟩

set_option maxHeartbeats 8000000 in
theorem con_quot (w : World) (news : List (Addr × Obj)) (y : Addr) (c d : Int) (tc td : Tok) (ny : Nat) (my : (y, tupO c d tc td ny) ∈ news)
    (hc : 0 < c ∧ c < 2 ^ 60) (hd' : Sm d) : Con w 95 3 news [.ref 139, .ref y] (IsR (rt d c) news) := by
  unfold Con
  k_with_none
  intro mean mg mb dp un gd cn cs a' ccd cl outer A₀ base h₀ L m s Q E B F X N T hk hd hu hret
  refine wpAny_call ?_
  k_dflt ktr_enter
  k_steps
  rw [Int.one_mul, Int.one_mul] at *
  exact hret _ _ _ _ (by k_asm) (by k_asm) ⟨_, _, _, _, rfl, rfl, by assumption⟩

set_option maxHeartbeats 8000000 in
theorem con_neg (w : World) (news : List (Addr × Obj)) (x : Addr) (a b : Int) (ta tb : Tok) (nx : Nat) (mx : (x, tupO a b ta tb nx) ∈ news) : Con w 102 2 news [.ref x] (IsR (-a, b) news) := by
  unfold Con
  k_with_none
  intro mean mg mb dp un gd cn cs a' ccd cl outer A₀ base h₀ L m s Q E B F X N T hk hd hu hret
  refine wpAny_call ?_
  k_dflt ktr_enter
  k_steps
  exact hret _ _ _ _ (by k_asm) (by k_asm) ⟨_, _, _, _, rfl, rfl, allLt_of (by assumption)⟩

/-- -1, 0 or 1 as l is below, equal to, above r -/
def cmp3 (l r : Int) : Int := if l < r then -1 else if l > r then 1 else 0
set_option maxHeartbeats 8000000 in
theorem con_order (w : World) (news : List (Addr × Obj)) (x y : Addr) (a b c d : Int) (ta tb tc td : Tok) (nx ny : Nat) (mx : (x, tupO a b ta tb nx) ∈ news) (my : (y, tupO c d tc td ny) ∈ news)
    (hb : Sm b) (hd' : Sm d) : Con w 109 2 news [.ref x, .ref y] (IsI (cmp3 (a * d) (c * b)) news) := by
  unfold Con
  k_with_none
  intro mean mg mb dp un gd cn cs a' ccd cl outer A₀ base h₀ L m s Q E B F X N T hk hd hu hret
  refine wpAny_call ?_
  k_dflt ktr_enter
  k_steps
  all_goals refine hret _ news _ _ (by k_asm) (by k_asm) (isI_of ?_)
  all_goals (unfold cmp3; (repeat' split) <;> omega)

set_option maxHeartbeats 8000000 in
theorem con_floor (w : World) (news : List (Addr × Obj)) (x : Addr) (a b : Int) (ta tb : Tok) (nx : Nat) (mx : (x, tupO a b ta tb nx) ∈ news) (hb : 0 < b ∧ b < 2 ^ 60) : Con w 116 2 news [.ref x] (IsI (a / b) news) := by
  unfold Con
  k_with_none
  intro mean mg mb dp un gd cn cs a' ccd cl outer A₀ base h₀ L m s Q E B F X N T hk hd hu hret
  refine wpAny_call ?_
  k_dflt ktr_enter
  k_steps
  exact hret _ _ _ _ (by k_asm) (by k_asm) (isI_of (Int.fdiv_eq_ediv_of_nonneg _ (by omega)))

set_option maxHeartbeats 8000000 in
theorem con_tz (w : World) (news : List (Addr × Obj)) (x : Addr) (a b : Int) (ta tb : Tok) (nx : Nat) (mx : (x, tupO a b ta tb nx) ∈ news) (hb : 0 < b ∧ b < 2 ^ 60) : Con w 123 2 news [.ref x] (IsI (if a < 0 then -(-a / b) else a / b) news) := by
  unfold Con
  k_with_none
  intro mean mg mb dp un gd cn cs a' ccd cl outer A₀ base h₀ L m s Q E B F X N T hk hd hu hret
  refine wpAny_call ?_
  k_dflt ktr_enter
  k_steps
  all_goals refine hret _ news _ _ (by k_asm) (by k_asm) (isI_of ?_)
  all_goals (rw [Int.fdiv_eq_ediv_of_nonneg _ (by omega)]; split <;> first | rfl | omega)

set_option maxHeartbeats 8000000 in
theorem con_round (w : World) (news : List (Addr × Obj)) (x : Addr) (a b : Int) (ta tb : Tok) (nx : Nat) (mx : (x, tupO a b ta tb nx) ∈ news) (ha : Sm a) (hb : 0 < b ∧ b < 2 ^ 60) :
    Con w 130 2 news [.ref x] (IsI (if a < 0 then -((2 * (a.natAbs : Int) + b) / (2 * b)) else (2 * (a.natAbs : Int) + b) / (2 * b)) news) := by
  unfold Con
  k_with_none
  intro mean mg mb dp un gd cn cs a' ccd cl outer A₀ base h₀ L m s Q E B F X N T hk hd hu hret
  refine wpAny_call ?_
  k_dflt ktr_enter
  k_steps
  all_goals refine hret _ news _ _ (by k_asm) (by k_asm) (isI_of ?_)
  all_goals (rw [Int.fdiv_eq_ediv_of_nonneg _ (by omega), show (if a < 0 then -a else a) = (a.natAbs : Int) by split <;> omega]; split <;> first | rfl | omega)

set_option maxHeartbeats 8000000 in
theorem con_whole (w : World) (news : List (Addr × Obj)) (x : Addr) (a b : Int) (ta tb : Tok) (nx : Nat) (mx : (x, tupO a b ta tb nx) ∈ news) :
    Con w 137 2 news [.ref x] (fun r news' => r = .bool (decide (b = 1)) ∧ news' = news) := by
  unfold Con
  k_with_none
  intro mean mg mb dp un gd cn cs a' ccd cl outer A₀ base h₀ L m s Q E B F X N T hk hd hu hret
  refine wpAny_call ?_
  k_dflt ktr_enter
  k_steps
  exact hret _ news _ _ (by k_asm) (by k_asm) ⟨by congr 1, rfl⟩
end

/-! ## D4 -/
section
theorem part_D4 : True := by
  w_top off
  k_with_none
  trivial
local macro_rules | `(tactic| walk_at "mine pad") => `(tactic| skip)
/-- Euclid's quotients -/
noncomputable def ql (t b : Int) : List Int := if 0 < b then t / b :: ql b (t % b) else []
  termination_by b.toNat
  decreasing_by have := Int.emod_lt_of_pos t ‹0 < b›; omega
theorem ql_pos {t b : Int} (h : 0 < b) : ql t b = t / b :: ql b (t % b) := by rw [ql, if_pos h]
theorem ql_nil {t b : Int} (h : ¬ 0 < b) : ql t b = [] := by rw [ql, if_neg h]

theorem quot_turn {ns R : List Int} {t b : Int} (hb : b ≠ 0) (hl : R.length < 100) (hP : 0 ≤ b ∧ b < 2 ^ 200 ∧ ns.length < 100 ∧ ns ++ ql t b = R) :
    0 ≤ Int.fmod t b ∧ Int.fmod t b < 2 ^ 200 ∧ (ns ++ [Int.fdiv t b]).length < 100 ∧ (ns ++ [Int.fdiv t b]) ++ ql b (Int.fmod t b) = R := by
  obtain ⟨h1, h2, h3, h4⟩ := hP
  have hb' : 0 < b := by omega
  have e1 : Int.fmod t b = t % b := Int.fmod_eq_emod_of_nonneg t h1
  have e2 : Int.fdiv t b = t / b := Int.fdiv_eq_ediv_of_nonneg t h1
  rw [ql_pos hb'] at h4
  rw [e1, e2]
  have h5 := Int.emod_nonneg t (show b ≠ 0 by omega)
  have h6 := Int.emod_lt_of_pos t hb'
  refine ⟨h5, by omega, ?_, by rw [List.append_assoc]; exact h4⟩
  have := congrArg List.length h4
  simp only [List.length_append, List.length_cons, List.length_nil] at this ⊢
  omega
/-- the answer is a new list of ints, on top of the ledger -/
def IsL (l : List Int) (news : List (Addr × Obj)) (r : Value) (news' : List (Addr × Obj)) : Prop :=
  ∃ D vs n, r = .ref D ∧ news' = (D, listOf vs.toArray n) :: news ∧ IntsAre vs l ∧ AllLt D news
local macro_rules | `(tactic| walk_at "binaryOp FloorDiv int int") => `(tactic| (k_here; (with_reducible refine floordiv_int ?mne ?_ (Or.inl (noPy ?mlo ?mhi))); (case mne => omega); (case mlo => omega); (case mhi => omega); (try dsimp only)))
local macro_rules | `(tactic| walk_at "exec While Compare cons nil") => `(tactic| refine stop_of ?_)
local macro_rules | `(tactic| k_all) => `(tactic| exact allLt_ne (by assumption))
set_option maxRecDepth 100000
set_option maxHeartbeats 8000000 in
theorem con_quots (w : World) (news : List (Addr × Obj)) (x y : Int) (tx ty : Tok) (hx : -(2 ^ 200) < x ∧ x < 2 ^ 200) (hy : 0 < y ∧ y < 2 ^ 200) (hl : (ql x y).length < 100) : Con w 160 2 news [.int x tx, .int y ty] (IsL (ql x y) news) := by
  unfold Con
  k_with_none
  intro mean mg mb dp un gd cn cs a' ccd cl outer A₀ base h₀ L m s Q E B F X N T hk hd hu hret
  refine wpAny_call ?_
  k_dflt ktr_enter
  k_steps
  unfold Stop
  (rename Fr _ _ _ _ => lF')
  (rename News _ _ _ _ => lN')
  obtain ⟨D9, hD9⟩ := news_head lN'
  subst hD9
  refine' ksw_while (σ := List Value × List Int × Nat × Int × Tok × Int × Tok) (fun c => (D9, listOf c.1.toArray c.2.2.1) :: news) (fun c => [(Str.ofString "found", .ref D9), (Str.ofString "top", .int c.2.2.2.1 c.2.2.2.2.1), (Str.ofString "bottom", .int c.2.2.2.2.2.1 c.2.2.2.2.2.2)])
    (fun c => IntsAre c.1 c.2.1) [] (fun c => 0 ≤ c.2.2.2.2.2.1 ∧ c.2.2.2.2.2.1 < 2 ^ 200 ∧ c.2.1.length < 100 ∧ c.2.1 ++ ql c.2.2.2.1 c.2.2.2.2.2.1 = ql x y) (fun c => c.2.2.2.2.2.1.toNat) ([], [], _, _, _, _, _) lF' lN' IntsAre.nil ?kk ?kp ?_ (hE := ?hE)
  case hE => first | passes_own | with_unfolding_all passes_own
  case kk => kst_all
  case kp => (dsimp only; exact ⟨by omega, by omega, by decide, rfl⟩)
  rintro ⟨vs, ns, nn, t, tt, b, tb⟩ u h tk hI hP F' N'
  dsimp only [kstB] at F' hP N' hI
  clear lF' lN'
  have hvl := IntsAre.length hI
  (try k_unmd)
  k_fold
  k_with "state" => exact quot_turn (by assumption) (by assumption) (by assumption)
  k_with "measure" => exact gcd_less (by omega)
  k_steps
  have e9 : ns = ql x y := by
    have := hP.2.2.2
    rw [ql_nil (by omega), List.append_nil] at this
    exact this
  rw [e9] at hI
  exact hret _ _ _ _ (by k_asm) (by k_asm) ⟨_, _, _, rfl, rfl, hI, allLt_of (by assumption)⟩
end

/-! ## D5 -/
section
theorem part_D5 : True := by
  w_top off
  k_with_none
  trivial
theorem rt_one {t b : Int} (h : Int.gcd t b = 1) : rt t b = (t, b) := by
  unfold rt; rw [h]; simp
theorem gcd_rest {t b : Int} (h : Int.gcd t b = 1) : Int.gcd (t % b) b = 1 := by
  rw [← h, Int.emod_def, Int.sub_eq_add_neg, ← Int.mul_neg, Int.mul_comm]
  exact Int.gcd_add_mul_right_left ..
theorem con_inv (w : World) (news : List (Addr × Obj)) (y : Addr) (c d : Int) (tc td : Tok) (ny : Nat) (my : (y, tupO c d tc td ny) ∈ news)
    (hc : 0 < c ∧ c < 2 ^ 60) (hd' : Sm d) (hg : Int.gcd d c = 1) : Con w 95 3 news [.ref 139, .ref y] (IsR (d, c) news) := by
  have := con_quot w news y c d tc td ny my hc hd'
  rwa [rt_one hg] at this
theorem con_frac (w : World) (news : List (Addr × Obj)) (x y : Addr) (a b c : Int) (ta tb tc td : Tok) (nx ny : Nat) (mx : (x, tupO a b ta tb nx) ∈ news) (my : (y, tupO c 1 tc td ny) ∈ news)
    (ha : Sm a) (hb : 0 < b ∧ b < 2 ^ 60) (hg : Int.gcd a b = 1) (hc : c = a / b) (hs : Sm c) : Con w 81 3 news [.ref x, .ref y] (IsR (a % b, b) news) := by
  have := con_diff w news x y a b c 1 ta tb tc td nx ny mx my ha hb hs (by decide)
  rw [Int.mul_one, Int.mul_one, hc, show a - a / b * b = a % b by rw [Int.emod_def, Int.mul_comm], rt_one (gcd_rest hg)] at this
  exact this
local macro_rules | `(tactic| walk_at "mine con") => `(tactic| (
  (case k1 => k_asm); (case k2 => k_asm); (case k3 => k_asm); (case k4 => k_asm); (case k5 => k_asm); (case k6 => first | rfl | assumption);
  (case k7 => first | omega | ktr_room); (case k8 => first | omega | ktr_units)))
local macro_rules | `(tactic| walk_at "mine backI") => `(tactic| (
  intro r9 news9 h9 tk9 F9 N9 hR9; (obtain ⟨⟨t9, e9⟩, e9'⟩ := hR9); subst e9; (rw [e9'] at N9); clear e9'; (try dsimp only); (try k_fold)))

local macro_rules | `(tactic| walk_at "mine backR") => `(tactic| (
  intro r9 news9 h9 tk9 F9 N9 hR9; (obtain ⟨D9, t9, u9, n9, e9, e9', l9⟩ := hR9); subst e9; (rw [e9'] at N9); clear e9'; (try simp only [AllLt, and_true] at l9); (try dsimp only at N9); (try dsimp only); (try k_fold)))

local macro_rules | `(tactic| walk_at "mine m") => `(tactic| ((case m1 => k_mem); (case m2 => k_mem)))
local macro_rules | `(tactic| walk_at "call ref") => `(tactic| (k_here; k_dflt ((refine' con_use (con_frac _ _ _ _ _ _ _ _ _ _ _ _ _ ?m1 ?m2 ?s1 ?s2 ?s3 ?s4 ?s5) ?k1 ?k2 ?k3 ?k4 ?k5 ?k6 ?k7 ?k8 ?_); walk_at "mine con"; walk_at "mine m"; (case s1 => k_extra "s1"); (case s2 => omega); (case s3 => k_extra "s3"); (case s4 => k_extra "s4"); (case s5 => k_extra "s5"); walk_at "mine backR")))
local macro_rules | `(tactic| walk_at "call ref") => `(tactic| (k_here; k_dflt ((refine' con_use (con_inv _ _ _ _ _ _ _ _ ?m1 ?s1 ?s2 ?s3) ?k1 ?k2 ?k3 ?k4 ?k5 ?k6 ?k7 ?k8 ?_); walk_at "mine con"; (case m1 => k_mem); (case s1 => omega); (case s2 => omega); (case s3 => assumption); walk_at "mine backR")))
local macro_rules | `(tactic| walk_at "call ref") => `(tactic| (k_here; k_dflt ((refine' con_use (con_floor _ _ _ _ _ _ _ _ ?m1 ?s1) ?k1 ?k2 ?k3 ?k4 ?k5 ?k6 ?k7 ?k8 ?_); walk_at "mine con"; (case m1 => k_mem); (case s1 => omega); walk_at "mine backI")))
local macro_rules | `(tactic| walk_at "exec While BoolOp cons nil") => `(tactic| refine stop_of ?_)
theorem lt_ne {D : Addr} {l : List (Addr × Obj)} (h : ∀ p ∈ l, p.1 < D) : ∀ p ∈ l, p.1 ≠ D := fun p hp => Nat.ne_of_lt (h p hp)
local macro_rules | `(tactic| k_all) => `(tactic| first | exact allLt_ne (by assumption) | exact lt_ne (by assumption))
local macro_rules | `(tactic| k_mem) => `(tactic| assumption)
theorem div_sm {a b : Int} (ha : Sm a) (hb : 0 < b) : Sm (a / b) := by
  obtain ⟨h1, h2⟩ := ha
  rcases Int.lt_or_le a 0 with h | h
  · have h3 : a ≤ a / b := by
      refine (Int.le_ediv_iff_mul_le hb).mpr ?_
      have h5 := Int.mul_le_mul_of_nonneg_left (show (1 : Int) ≤ b by omega) (show 0 ≤ -a by omega)
      have h6 := Int.neg_mul a b
      have h7 := Int.neg_mul a 1
      omega
    have h4 := Int.ediv_neg_of_neg_of_pos h hb
    exact ⟨by omega, by omega⟩
  · have h3 := Int.ediv_le_self b h
    have h4 := Int.ediv_nonneg h (Int.le_of_lt hb)
    exact ⟨by omega, by omega⟩
theorem div_sm' {a b : Int} (ha : Sm a) (hb : 0 ≤ b) : Sm (a / b) := by
  rcases Int.lt_or_le 0 b with h | h
  · exact div_sm ha h
  · have : b = 0 := by omega
    subst this
    rw [Int.ediv_zero]
    exact ⟨by decide, by decide⟩
theorem led3 {h₀ h : Heap} {L A B C : Addr} {o o' o'' : Obj} {news : List (Addr × Obj)} (_ : News h₀ L h ((A, o) :: (B, o') :: (C, o'') :: news)) : ∃ A' B' C' : Addr, A' = A ∧ B' = B ∧ C' = C := ⟨_, _, _, rfl, rfl, rfl⟩
theorem emod_less {a b : Int} (hb : 0 < b) : (a % b).toNat < b.toNat := by
  have := Int.emod_lt_of_pos a hb
  omega
theorem whole_turn {D R : Nat} {p q : Int} {ns Z : List Int} (hp : p ≠ 0) (hP : 0 ≤ p ∧ p < q ∧ q < 2 ^ 60 ∧ Int.gcd p q = 1 ∧ ns ++ ql q p = Z) (hl : Z.length < 20) (hR : D < R) :
    D < R ∧ 0 ≤ q % p ∧ q % p < p ∧ p < 2 ^ 60 ∧ Int.gcd (q % p) p = 1 ∧ (ns ++ [q / p]).length < 20 ∧ (ns ++ [q / p]) ++ ql p (q % p) = Z := by
  obtain ⟨h1, h2, h3, h4, h5⟩ := hP
  have hp' : 0 < p := by omega
  rw [ql_pos hp'] at h5
  refine ⟨hR, Int.emod_nonneg _ hp, Int.emod_lt_of_pos _ hp', by omega, gcd_rest (by rw [Int.gcd_comm]; exact h4), ?_, by rw [List.append_assoc]; exact h5⟩
  have := congrArg List.length h5
  simp only [List.length_append, List.length_cons, List.length_nil] at this ⊢
  omega
set_option maxRecDepth 100000
set_option maxHeartbeats 8000000 in
theorem con_wholes (w : World) (news : List (Addr × Obj)) (x : Addr) (a b : Int) (ta tb : Tok) (nx : Nat) (mx : (x, tupO a b ta tb nx) ∈ news) (ha : Sm a) (hb : 0 < b ∧ b < 2 ^ 60) (hg : Int.gcd a b = 1) (hl : (ql a b).length < 20) :
    Con w 153 4 news [.ref x] (IsL (ql a b) news) := by
  unfold Con
  intro mean mg mb dp un gd cn cs a' ccd cl outer A₀ base h₀ L m s Q E B F X N T hk hd hu hret
  have hs := div_sm ha hb.1
  k_with_none
  k_with "s1" => omega
  k_with "s3" => assumption
  k_with "s4" => first | rfl | simp
  k_with "s5" => assumption
  refine wpAny_call ?_
  k_dflt ktr_enter
  k_steps
  unfold Stop
  (rename Fr _ _ _ _ => lF')
  (rename News _ _ _ _ => lN')
  obtain ⟨R0, G0, D0, hR0, hG0, hD0⟩ := led3 lN'
  subst hR0 hG0 hD0
  refine' ksw_while (σ := List Value × List Int × Nat × Addr × Int × Tok × Int × Tok × Nat) (fun c => (c.2.2.2.1, tupO c.2.2.2.2.1 c.2.2.2.2.2.2.1 c.2.2.2.2.2.1 c.2.2.2.2.2.2.2.1 c.2.2.2.2.2.2.2.2) :: (D0, listOf c.1.toArray c.2.2.1) :: news)
    (fun c => [(Str.ofString "found", .ref D0), (Str.ofString "rest", .ref c.2.2.2.1)])
    (fun c => IntsAre c.1 c.2.1) [Str.ofString "turned"] (fun c => @LT.lt Nat _ D0 c.2.2.2.1 ∧ 0 ≤ c.2.2.2.2.1 ∧ c.2.2.2.2.1 < c.2.2.2.2.2.2.1 ∧ c.2.2.2.2.2.2.1 < 2 ^ 60 ∧ Int.gcd c.2.2.2.2.1 c.2.2.2.2.2.2.1 = 1 ∧ c.2.1.length < 20 ∧ c.2.1 ++ ql c.2.2.2.2.2.2.1 c.2.2.2.2.1 = ql a b) (fun c => c.2.2.2.2.1.toNat) (_, [a / b], _, _, _, _, _, _, _) lF' (cb_drop lN' ?kd) (IntsAre.cons _ _ IntsAre.nil) ?kk ?kp ?_ (hE := ?hE)
  case hE => first | passes_own | with_unfolding_all passes_own
  case kd => kst_in
  case kk => kst_all
  case kp => (dsimp only; exact ⟨by omega, Int.emod_nonneg _ (by omega), Int.emod_lt_of_pos _ hb.1, hb.2, gcd_rest hg, by simp, by rw [ql_pos hb.1]; rfl⟩)
  rintro ⟨vs, ns, nn, R, p, tp, q, tq, nr⟩ u h tk hI hP F' N'
  dsimp only [kstB] at F' hP N' hI
  clear lF' lN'
  have hvl := IntsAre.length hI
  obtain ⟨hDR, hp0, hpq, hq, hgp, hnl, hnq⟩ := hP
  have hgq : Int.gcd q p = 1 := by rw [Int.gcd_comm]; exact hgp
  have hs2 := div_sm' (show Sm q by omega) hp0
  (try k_unmd)
  k_fold
  k_with "state" => exact whole_turn (by assumption) ⟨hp0, hpq, hq, hgp, hnq⟩ hl (by omega)
  k_with "measure" => exact emod_less (by omega)
  k_steps
  have e9 : ns = ql a b := by
    rw [ql_nil (by omega), List.append_nil] at hnq
    exact hnq
  rw [e9] at hI
  exact hret _ ((D0, _) :: news) _ _ (by k_asm) (cb_drop (by k_asm) (fun p hp => .tail _ hp)) ⟨_, _, _, rfl, rfl, hI, allLt_of (by assumption)⟩
end

/-! ## D6 -/
section
theorem part_D6 : True := by
  w_top off
  k_with_none
  trivial
local macro_rules | `(tactic| walk_at "mine pad") => `(tactic| skip)
/-- the fraction that a list of wholes tells, put together from its end -/
def cv : List Int → Int × Int
  | [] => (1, 0)
  | a :: l => (a * (cv l).1 + (cv l).2, (cv l).1)
theorem gcd_cv (l : List Int) : Int.gcd (cv l).1 (cv l).2 = 1 := by
  induction l with
  | nil => rfl
  | cons a l ih =>
    show Int.gcd (a * (cv l).1 + (cv l).2) (cv l).1 = 1
    rw [Int.add_comm, Int.gcd_add_mul_right_left, Int.gcd_comm]
    exact ih
theorem con_sum1 (w : World) (news : List (Addr × Obj)) (x y : Addr) (a q p : Int) (ta tb tc td : Tok) (nx ny : Nat) (mx : (x, tupO a 1 ta tb nx) ∈ news) (my : (y, tupO q p tc td ny) ∈ news)
    (ha : Sm a) (hp : 0 < p ∧ p < 2 ^ 60) (hq : Sm q) (hg : Int.gcd q p = 1) : Con w 74 3 news [.ref x, .ref y] (IsR (a * p + q, p) news) := by
  have := con_sum w news x y a 1 q p ta tb tc td nx ny mx my ha (by decide) hq hp
  rw [Int.mul_one, Int.one_mul, rt_one] at this
  · exact this
  · rw [Int.add_comm, Int.gcd_add_mul_right_left]; exact hg
local macro_rules | `(tactic| walk_at "mine con") => `(tactic| (
  (case k1 => k_asm); (case k2 => k_asm); (case k3 => k_asm); (case k4 => k_asm); (case k5 => k_asm); (case k6 => first | rfl | assumption);
  (case k7 => first | omega | ktr_room); (case k8 => first | omega | ktr_units)))
local macro_rules | `(tactic| walk_at "mine backI") => `(tactic| (
  intro r9 news9 h9 tk9 F9 N9 hR9; (obtain ⟨⟨t9, e9⟩, e9'⟩ := hR9); subst e9; (rw [e9'] at N9); clear e9'; (try dsimp only); (try k_fold)))

local macro_rules | `(tactic| walk_at "mine backR") => `(tactic| (
  intro r9 news9 h9 tk9 F9 N9 hR9; (obtain ⟨D9, t9, u9, n9, e9, e9', l9⟩ := hR9); subst e9; (rw [e9'] at N9); clear e9'; (try simp only [AllLt, and_true] at l9); (try dsimp only at N9); (try dsimp only); (try k_fold)))

local macro_rules | `(tactic| k_mem) => `(tactic| assumption)
local macro_rules | `(tactic| walk_at "call ref") => `(tactic| (k_here; k_dflt ((refine' con_use (con_sum1 _ _ _ _ _ _ _ _ _ _ _ _ _ ?m1 ?m2 ?s1 ?s2 ?s3 ?s4) ?k1 ?k2 ?k3 ?k4 ?k5 ?k6 ?k7 ?k8 ?_); walk_at "mine con"; (case m1 => k_mem); (case m2 => k_mem); (case s1 => k_extra "s1"); (case s2 => omega); (case s3 => k_extra "s3"); (case s4 => k_extra "s4"); walk_at "mine backR")))
local macro_rules | `(tactic| walk_at "call ref") => `(tactic| (k_here; k_dflt ((refine' con_use (con_inv _ _ _ _ _ _ _ _ ?m1 ?s1 ?s2 ?s3) ?k1 ?k2 ?k3 ?k4 ?k5 ?k6 ?k7 ?k8 ?_); walk_at "mine con"; (case m1 => k_mem); (case s1 => omega); (case s2 => omega); (case s3 => k_extra "s4"); walk_at "mine backR")))
local macro_rules | `(tactic| is_list) => `(tactic| exact News.isList (by assumption) (by k_mem))
local macro_rules | `(tactic| walk_at "exec For Name Subscript cons nil") => `(tactic| (k_here; (rename Fr _ _ _ _ => lF'); (with_unfolding_all refine' For_invVF lF' ?k1 ?k2 ?_; (case k1 => exact rfl); (case k2 => exact rfl); k_whole)))
local macro_rules | `(tactic| walk_at "InvEndG") => `(tactic| refine stop_of ?_)
local macro_rules | `(tactic| walk_at "pyIter ref") => `(tactic| refine stop_of ?_)
local macro_rules | `(tactic| k_all) => `(tactic| first | exact allLt_ne (by assumption) | exact lt_ne (by assumption))
theorem name_eq {m : Str → Option Value} {x : Str} {v : Value} (h : m x = some v) : (fun y => if y = x then some v else m y) = m := by
  funext y
  by_cases e : y = x
  · rw [if_pos e, e, h]
  · rw [if_neg e]
theorem fr_know0 {h₀ h : Heap} {L : Addr} {m : Str → Option Value} {x : Str} {r : Value} (F : Fr h₀ L h m) (hm : m x = some r) : Fr h₀ L h (fun z => if z = x then some r else m z) := by
  rw [name_eq hm]
  exact F
theorem fr_know {h₀ h : Heap} {L : Addr} {m : Str → Option Value} {x y : Str} {v r : Value} (F : Fr h₀ L h (fun z => if z = y then some v else m z)) (hm : m x = some r) :
    Fr h₀ L h (fun z => if z = y then some v else if z = x then some r else m z) := by
  have e := name_eq hm
  show Fr h₀ L h (fun z => if z = y then some v else (fun z' => if z' = x then some r else m z') z)
  rw [e]
  exact F
theorem tog_start {h₀ h : Heap} {L V0 U0 R0 : Addr} {ws : List Value} {nsR : List Int} {k n : Nat} {o : Obj} {x y x' y' : Int} {t u : Tok} {news : List (Addr × Obj)} (hrev : IntsAre ws nsR)
    (N : News h₀ L h ((V0, listOf ws.toArray k) :: (U0, o) :: (R0, tupO x y t u n) :: news)) (hx : x = x') (hy : y = y') :
    ∃ V R rv k t u n, V = V0 ∧ R = R0 ∧ News h₀ L h ((R, tupO x' y' t u n) :: (V, listOf rv.toArray k) :: news) ∧ IntsAre rv nsR := by
  subst hx hy
  refine ⟨V0, R0, ws, k, t, u, n, rfl, rfl, fun p hp => N p ?_, hrev⟩
  rcases List.mem_cons.mp hp with e | hp
  · rw [e]; exact .tail _ (.tail _ (.head _))
  · rcases List.mem_cons.mp hp with e | hp
    · rw [e]; exact .head _
    · exact .tail _ (.tail _ (.tail _ hp))
theorem cv1 (a : Int) : cv [a] = (a, 1) := by simp [cv]
theorem drop_last {ns : List Int} (h : 0 < ns.length) : ns.drop (ns.length - 1) = [ns.getD (ns.length - 1) 0] := by
  have h1 : ns.length - 1 < ns.length := by omega
  rw [List.drop_eq_getElem_cons h1]
  simp only [List.getD, h1, List.getElem?_eq_getElem, Option.getD_some, List.drop_eq_nil_iff, List.cons.injEq, true_and]
  omega
theorem led_keep1 {p q : Addr × Obj} {news : List (Addr × Obj)} : ∀ r ∈ p :: news, r ∈ p :: q :: news := by
  intro r hr
  rcases List.mem_cons.mp hr with e | hr
  · rw [e]; exact .head _
  · exact .tail _ (.tail _ hr)
theorem own_cons {own : List (Addr × Obj)} {A : Addr} {r : List Addr} (h : ∀ p ∈ own, p.1 ≠ A) (h' : OwnOff own r) : OwnOff own (A :: r) := by
  intro p hp b hb
  rcases List.mem_cons.mp hb with e | hb
  · rw [e]; exact h p hp
  · exact h' p hp b hb
theorem allLt_lt {D : Addr} {l : List (Addr × Obj)} (h : AllLt D l) : ∀ p ∈ l, p.1 < D := by
  induction l with
  | nil => intro p hp; exact absurd hp (List.not_mem_nil)
  | cons q r ih =>
    intro p hp
    rcases List.mem_cons.mp hp with e | hp
    · rw [e]; exact h.1
    · exact ih h.2 p hp
theorem tog_end {h₀ h' : Heap} {L : Addr} {m' : Str → Option Value} {own news' news news1 : List (Addr × Obj)} {s₁ : Shared} {tk : Nat} {R R0 V : Addr} {oV o0 : Obj} {x y : Int} {t u : Tok} {n : Nat}
    (F : Fr h₀ L h' m') (N : News h₀ L h' news') (hm : m' (Str.ofString "found") = some (.ref R)) (hmem : (R, tupO x y t u n) ∈ news') (hV : (V, oV) ∈ news') (hn : ∀ p ∈ news, p ∈ news') (ho : ∀ p ∈ own, p ∈ news')
    (hlt : AllLt R news1) (hn1 : ∀ p ∈ news, p ∈ news1) (ho1 : ∀ p ∈ own, p ∈ news1) (hoff : OwnOff own (((R0, o0) :: (V, oV) :: news).map (·.1))) :
    InvEndG h₀ L (fun m' nx => (V, oV) ∈ nx ∧ ∃ R t u n, m' (Str.ofString "found") = some (.ref R) ∧ AllLt R news ∧ nx = (R, tupO x y t u n) :: (V, oV) :: news) own s₁ { s₁ with heap := h', toks := tk } := by
  refine InvEndG.intro F N ⟨.tail _ (.head _), R, t, u, n, hm, allLt_of fun p hp => allLt_lt hlt p (hn1 p hp), rfl⟩ ?_ ?_ ho
  · exact own_cons (fun p hp => Nat.ne_of_lt (allLt_lt hlt p (ho1 p hp))) fun p hp b hb => hoff p hp b (.tail _ hb)
  · intro p hp
    rcases List.mem_cons.mp hp with e | hp
    · rw [e]; exact hmem
    · rcases List.mem_cons.mp hp with e | hp
      · rw [e]; exact hV
      · exact hn p hp
theorem tog_at {ns : List Int} {i : Nat} {n : Int} (hi : (ns.take (ns.length - 1)).reverse[i]? = some n) : i + 1 < ns.length ∧ ns.getD (ns.length - 1 - (i + 1)) 0 = n ∧ ns.drop (ns.length - 1 - (i + 1)) = n :: ns.drop (ns.length - 1 - i) := by
  have hlt : i < (ns.take (ns.length - 1)).reverse.length := (List.getElem?_eq_some_iff.mp hi).1
  have hlt' : i + 1 < ns.length := by simp at hlt; omega
  rw [List.getElem?_reverse (by simpa using hlt)] at hi
  simp only [List.length_take] at hi
  rw [List.getElem?_take] at hi
  have e : min (ns.length - 1) ns.length - 1 - i = ns.length - 1 - (i + 1) := by omega
  rw [e, if_pos (by omega)] at hi
  have h1 : ns.length - 1 - (i + 1) < ns.length := by omega
  have h2 : ns[ns.length - 1 - (i + 1)] = n := by
    rw [List.getElem?_eq_getElem h1] at hi
    exact Option.some.inj hi
  refine ⟨hlt', by simp [List.getD, h1, h2], ?_⟩
  have h3 : ns.length - 1 - i = ns.length - 1 - (i + 1) + 1 := by omega
  rw [h3, List.drop_eq_getElem_cons h1, h2]
set_option maxRecDepth 100000
set_option maxHeartbeats 8000000 in
theorem con_tog (w : World) (news : List (Addr × Obj)) (W : Addr) (ws : List Value) (ns : List Int) (nw : Nat) (mw : (W, listOf ws.toArray nw) ∈ news) (hi : IntsAre ws ns) (h0 : 0 < ns.length) (h1 : ns.length < 100)
    (hc : ∀ k, k < ns.length → Sm (ns.getD k 0) ∧ Sm (cv (ns.drop k)).1 ∧ Sm (cv (ns.drop k)).2 ∧ 0 < (cv (ns.drop k)).2 ∧ (0 < k → 0 < (cv (ns.drop k)).1)) :
    Con w 167 5 news [.ref W] (IsR (cv ns) news) := by
  unfold Con
  intro mean mg mb dp un gd cn cs a' ccd cl outer A₀ base h₀ L m s Q E B F X N T hk hd hu hret
  have hwl := IntsAre.length hi
  k_with_none
  k_with "s1" => assumption
  k_with "s3" => assumption
  k_with "s4" => assumption
  refine wpAny_call ?_
  k_dflt ktr_enter
  k_steps
  unfold Stop
  (rename Fr _ _ _ _ => lF')
  (rename News _ _ _ _ => lN')
  (rename IntsAre _ (List.reverse _) => hrev)
  obtain ⟨V0, R0, rv, k0, t0, u0, n0, hV0, hR0, N0, hrv⟩ := tog_start (x' := (cv (ns.drop (ns.length - 1))).1) (y' := (cv (ns.drop (ns.length - 1))).2) hrev lN' (by rw [drop_last h0, cv1, show (-1 + (ns.length : Int)).toNat = ns.length - 1 by omega]) (by rw [drop_last h0, cv1])
  subst hV0 hR0
  clear hrev lN'
  dsimp only
  refine' kdl_iter (news := (R0, tupO (cv (ns.drop (ns.length - 1))).1 (cv (ns.drop (ns.length - 1))).2 t0 u0 n0) :: (V0, listOf rv.toArray k0) :: news) (fun i m nx => ∃ R t u n, m (Str.ofString "found") = some (.ref R) ∧ AllLt R news ∧ nx = (R, tupO (cv (ns.drop (ns.length - 1 - i))).1 (cv (ns.drop (ns.length - 1 - i))).2 t u n) :: (V0, listOf rv.toArray k0) :: news)
    (by rfl) (.tail _ (.head _)) lF' N0 ?kj ?kt ?kd
  case kj => exact ⟨R0, t0, u0, n0, by rfl, allLt_of (by assumption), rfl⟩
  case kt =>
    rintro i v m₁ nx h tk own hv hoff _ ⟨R, t, u, n, hm, hRn, rfl⟩ F1 N1
    obtain ⟨e, te, rfl, hke⟩ := IntsAre.at hrv i v hv
    obtain ⟨hlt, hget, hdrop⟩ := tog_at hke
    rw [List.cons_append, List.cons_append] at N1
    have F2 := fr_know F1 hm
    clear F1
    obtain ⟨_, s1, s2, s3, s4⟩ := hc (ns.length - 1 - i) (by omega)
    obtain ⟨s5, _⟩ := hc (ns.length - 1 - (i + 1)) (by omega)
    rw [hget] at s5
    have s6 := s4 (by omega)
    have s7 := gcd_cv (ns.drop (ns.length - 1 - i))
    rw [Int.gcd_comm] at s7
    have hcv : cv (ns.drop (ns.length - 1 - (i + 1))) = (e * (cv (ns.drop (ns.length - 1 - i))).1 + (cv (ns.drop (ns.length - 1 - i))).2, (cv (ns.drop (ns.length - 1 - i))).1) := by rw [hdrop]; rfl
    rw [hcv]
    generalize hpq : cv (ns.drop (ns.length - 1 - i)) = pq at *
    obtain ⟨p, q⟩ := pq
    dsimp only at *
    (try k_unmd)
    (try k_fold)
    k_steps
    unfold Stop
    (rename News _ _ _ _ => nE)
    (rename Fr _ _ _ _ => fE)
    refine tog_end (news1 := news ++ own) fE nE (by rfl) (by k_mem) (by k_mem) ?_ ?_ ?_ (fun p hp => List.mem_append_left _ hp) (fun p hp => List.mem_append_right _ hp) hoff
    · exact fun p hp => .tail _ (.tail _ (.tail _ (.tail _ (.tail _ (List.mem_append_left _ hp)))))
    · exact fun p hp => .tail _ (.tail _ (.tail _ (.tail _ (.tail _ (List.mem_append_right _ hp)))))
    · (rename _ ∧ _ ∧ _ ∧ _ ∧ AllLt _ _ => lE)
      exact lE.2.2.2.2
  case kd =>
    rintro m₁ nx h tk ⟨R, t, u, n, hm, hRn, rfl⟩ F1 N1
    have e9 : ns.length - 1 - rv.length = 0 := by
      have := hrv.length
      simp at this
      omega
    rw [e9, List.drop_zero] at N1
    have F2 := fr_know0 F1 hm
    clear F1
    dsimp only
    (try k_unmd)
    (try k_fold)
    k_steps
    exact hret _ _ _ _ (by k_asm) (cb_drop (by k_asm) (led_keep1)) ⟨_, _, _, _, rfl, rfl, hRn⟩
end

/-! ## D7a -/
section
theorem part_D7a : True := by
  w_top off
  k_with_none
  trivial
/-- what _law_together asks of its list -/
def TogOk (l : List Int) : Prop := 0 < l.length ∧ l.length < 100 ∧ ∀ k, k < l.length → Sm (l.getD k 0) ∧ Sm (cv (l.drop k)).1 ∧ Sm (cv (l.drop k)).2 ∧ 0 < (cv (l.drop k)).2 ∧ (0 < k → 0 < (cv (l.drop k)).1)
theorem con_tog' (w : World) (news : List (Addr × Obj)) (W : Addr) (ws : List Value) (ns : List Int) (nw : Nat) (mw : (W, listOf ws.toArray nw) ∈ news) (hi : IntsAre ws ns) (h : TogOk ns) : Con w 167 5 news [.ref W] (IsR (cv ns) news) :=
  con_tog w news W ws ns nw mw hi h.1 h.2.1 h.2.2

/-- the values are pairs that the ledger bears -/
inductive Prs (led : List (Addr × Obj)) : List Value → List (Int × Int) → Prop where
  | nil : Prs led [] []
  | cons {A : Addr} {p : Int × Int} {t u : Tok} {n : Nat} {vs : List Value} {ps : List (Int × Int)} : (A, tupO p.1 p.2 t u n) ∈ led → Prs led vs ps → Prs led (.ref A :: vs) (p :: ps)
theorem Prs.mono {led led' : List (Addr × Obj)} {vs : List Value} {ps : List (Int × Int)} (h : Prs led vs ps) (hs : ∀ p ∈ led, p ∈ led') : Prs led' vs ps := by
  induction h with
  | nil => exact .nil
  | cons m _ ih => exact .cons (hs _ m) ih
theorem Prs.snoc {led : List (Addr × Obj)} {vs : List Value} {ps : List (Int × Int)} (h : Prs led vs ps) {A : Addr} {p : Int × Int} {t u : Tok} {n : Nat} (m : (A, tupO p.1 p.2 t u n) ∈ led) : Prs led (vs ++ [.ref A]) (ps ++ [p]) := by
  induction h with
  | nil => exact .cons m .nil
  | cons m' _ ih => exact .cons m' ih
theorem Prs.length {led : List (Addr × Obj)} {vs : List Value} {ps : List (Int × Int)} (h : Prs led vs ps) : vs.length = ps.length := by
  induction h with
  | nil => rfl
  | cons _ _ ih => simp [ih]
theorem Prs.get {led : List (Addr × Obj)} {vs : List Value} {ps : List (Int × Int)} (h : Prs led vs ps) : ∀ {i : Nat} {p : Int × Int}, ps[i]? = some p → ∃ A t u n, vs[i]? = some (.ref A) ∧ (A, tupO p.1 p.2 t u n) ∈ led := by
  induction h with
  | nil => intro i p h; simp at h
  | cons m _ ih =>
    intro i p h
    cases i with
    | zero => simp at h; subst h; exact ⟨_, _, _, _, rfl, m⟩
    | succ i => simpa using ih (by simpa using h)
section
variable {prog : Program} {w : World} {A : Around} {h₀ : Heap} {L : Addr} {m : Str → Option Value} {env : Env} {elt : Expr} {x : Str} {scope : Scope} {cl : List (Str × Addr)} {s : Shared} {Fin : List Value → List (Addr × Obj) → Prop}
theorem prs_rest {n : Nat} {a : Int} {G V : Addr} {oG oV : Obj} {news : List (Addr × Obj)} (f : Nat → Int × Int) (hG : ∀ p ∈ news, p.1 ≠ G)
    (turn : ∀ i t I oI C oC D m₂ ys ldg h tk (E' : Value → Shared → Prop), i < n → LCg.NsObj oC m₂ → m₂ x = some (.int (a + (i : Int)) t) → Fr h₀ L h m → News h₀ L h ((I, oI) :: (C, oC) :: (D, LCg.lst ys) :: (G, oG) :: (V, oV) :: ldg) → LCg.Off3 I C D ((G, oG) :: (V, oV) :: ldg) → ((@Ne Nat I C) ∧ (@Ne Nat I D) ∧ (@Ne Nat C D)) → (∀ p ∈ news, p ∈ ldg) →
      wpAny (model prog w) A (eval elt (compEnvC scope cl C env)) (LCg.CompEnd h₀ L m { s with heap := h, toks := tk } I oI C oC D (LCg.lst ys) (fun _ => True) (fun y nw => ∃ ldg', nw = (G, oG) :: (V, oV) :: ldg' ∧ (∀ p ∈ ldg', p ∈ ldg ∨ p.1 ≠ G) ∧ (∀ p ∈ ldg, p ∈ ldg') ∧ ∃ A t u nn, y = .ref A ∧ (A, tupO (f i).1 (f i).2 t u nn) ∈ ldg')) E' { s with heap := h, toks := tk })
    (fin : ∀ ys ldg, (∀ p ∈ news, p ∈ ldg) → (∀ p ∈ ldg, p.1 ≠ G) → Prs ldg ys ((List.range n).map f) → Fin ys ((G, oG) :: (V, oV) :: ldg)) :
    LCg.CompRest prog w A h₀ L m env elt x scope cl s (fun _ => True) (fun i v => ∃ t, v = .int (a + (i : Int)) t) Fin n 0 [] ((G, oG) :: (V, oV) :: news) := by
  have key : ∀ (j i : Nat) (ys : List Value) (ldg : List (Addr × Obj)), i + j = n → (∀ p ∈ news, p ∈ ldg) → (∀ p ∈ ldg, p.1 ≠ G) → Prs ldg ys ((List.range i).map f) →
      LCg.CompRest prog w A h₀ L m env elt x scope cl s (fun _ => True) (fun i v => ∃ t, v = .int (a + (i : Int)) t) Fin j i ys ((G, oG) :: (V, oV) :: ldg) := by
    intro j
    induction j with
    | zero =>
      intro i ys ldg hi hs hg hy
      obtain rfl : i = n := by omega
      exact LCg.CompRest.zero (fin ys ldg hs hg hy)
    | succ j ih =>
      intro i ys ldg hi hs hg hy
      refine LCg.CompRest.succ ?_
      intro v I oI C oC D m₂ h tk E' hv hC hx F N off ne
      obtain ⟨t, rfl⟩ := hv
      refine wpAny_mono (turn i t I oI C oC D m₂ ys ldg h tk E' (by omega) hC hx F N off ne hs) (fun y s₂ hq => ?_) fun _ _ e => e
      obtain ⟨h', tk', nw, e, F', N', off', hS, ldg', rfl, hg', hl, A', t', u', nn, rfl, hm⟩ := hq
      refine ⟨h', tk', _, e, F', N', off', hS, ih (i + 1) _ _ (by omega) (fun p hp => hl p (hs p hp)) (fun p hp => (hg' p hp).elim (hg p) id) ?_⟩
      rw [List.range_succ, List.map_append]
      exact (hy.mono hl).snoc hm
  exact key n 0 [] news (by omega) (fun _ hp => hp) hG .nil
end
theorem steps_end {h₀ h' : Heap} {L I C D T U G V : Addr} {m : Str → Option Value} {s₁ : Shared} {oI oC oD oU oG oV : Obj} {x y : Int} {t u : Tok} {n tk : Nat} {ldg : List (Addr × Obj)} (F : Fr h₀ L h' m)
    (N : News h₀ L h' ((T, tupO x y t u n) :: (U, oU) :: (I, oI) :: (C, oC) :: (D, oD) :: (G, oG) :: (V, oV) :: ldg)) (off : LCg.Off3 I C D ((G, oG) :: (V, oV) :: ldg))
    (lE : @LT.lt Nat _ U T ∧ @LT.lt Nat _ I T ∧ @LT.lt Nat _ C T ∧ @LT.lt Nat _ D T ∧ @LT.lt Nat _ G T ∧ @LT.lt Nat _ V T ∧ AllLt T ldg) :
    LCg.CompEnd h₀ L m s₁ I oI C oC D oD (fun _ => True) (fun v nw => ∃ ldg', nw = (G, oG) :: (V, oV) :: ldg' ∧ (∀ p ∈ ldg', p ∈ ldg ∨ p.1 ≠ G) ∧ (∀ p ∈ ldg, p ∈ ldg') ∧ ∃ A t u nn, v = .ref A ∧ (A, tupO x y t u nn) ∈ ldg') (.ref T) { s₁ with heap := h', toks := tk } := by
  refine LCg.CompEnd.intro F N ((G, oG) :: (V, oV) :: (T, tupO x y t u n) :: ldg) ?_ ⟨off.1, off.2.1, ⟨Nat.ne_of_gt lE.2.1, Nat.ne_of_gt lE.2.2.1, Nat.ne_of_gt lE.2.2.2.1⟩, off.2.2⟩ trivial
    ⟨(T, tupO x y t u n) :: ldg, rfl, ?_, fun p hp => .tail _ hp, T, t, u, n, rfl, .head _⟩
  · intro p hp
    simp only [List.mem_cons] at hp ⊢
    rcases hp with hp | hp | hp | hp | hp | hp | hp <;> simp [hp]
  · intro p hp
    rcases List.mem_cons.mp hp with e | hp
    · rw [e]; exact .inr (Nat.ne_of_gt lE.2.2.2.2.1)
    · exact .inl hp
theorem item_ref {prog : Program} {w : World} {A : Around} {E : Value → Shared → Prop} {s : Shared} {value slice : Expr} {l : Addr} {vs : List Value} {k : Int} {u : Tok} {v : Value} {Q : Value → Shared → Prop} (hl : s.heap.IsList l vs.toArray)
    (h0 : 0 ≤ k) (hhi : k < 2 ^ 63) (hx : vs[k.toNat]? = some v) (h : Q v s)
    (hs : subscripted slice false (.ref l) (.int k u) = operate [.ref l, .int k u] (getItem (.ref l) (.int k u)) := by with_unfolding_all rfl) :
    wpAny (model prog w) A (subscriptTail value slice (.ref l) (.int k u)) Q E s :=
  tail_any hl.typeIs slot_list_getitem.lookup (wpAny_getItem_list hl h0 hhi (by simpa using hx) h) hs
theorem item_ref_last {prog : Program} {w : World} {A : Around} {E : Value → Shared → Prop} {s : Shared} {value slice : Expr} {l : Addr} {vs : List Value} {u : Tok} {v : Value} {Q : Value → Shared → Prop} (hl : s.heap.IsList l vs.toArray)
    (hx : vs[vs.length - 1]? = some v) (h : Q v s)
    (hs : subscripted slice false (.ref l) (.int (-1) u) = operate [.ref l, .int (-1) u] (getItem (.ref l) (.int (-1) u)) := by with_unfolding_all rfl) :
    wpAny (model prog w) A (subscriptTail value slice (.ref l) (.int (-1) u)) Q E s := by
  have h0 : vs.length - 1 < vs.length := (List.getElem?_eq_some_iff.mp hx).1
  have e : (-1 + (vs.length : Int)).toNat = vs.length - 1 := by omega
  exact tail_any hl.typeIs slot_list_getitem.lookup (wpAny_getItem_list_neg hl (by decide) (by simp; omega) (by decide) (by simp only [List.size_toArray, List.getElem?_toArray]; rw [e]; exact hx) h) hs
theorem fr_names {h₀ h : Heap} {L : Addr} {m : Str → Option Value} (_ : Fr h₀ L h m) : ∃ L' : Addr, L' = L := ⟨_, rfl⟩
theorem led4 {h₀ h : Heap} {L A B C E : Addr} {o o' oC oE : Obj} {l : List (Addr × Obj)} (_ : News h₀ L h ((A, o) :: (B, o') :: (C, oC) :: (E, oE) :: l)) : ∃ (A' : Addr) (oC' oE' : Obj), A' = A ∧ oC' = oC ∧ oE' = oE := ⟨_, _, _, rfl, rfl, rfl⟩
theorem len_list {prog : Program} {w : World} {A : Around} {E : Value → Shared → Prop} {s : Shared} {l : Addr} {vs : List Value} {n : Nat} {Q : Value → Shared → Prop} (hl : s.heap.IsList l vs.toArray) (hn : vs.length = n) (hfit : n < 2 ^ 62)
    (h : Q (.int (n : Nat) (s.toks + 1)) { s with toks := s.toks + 1 + 1 }) : wpAny (model prog w) A (call (.builtin "len") [.ref l]) Q E s := by
  have e : vs.toArray.size = n := by simp [hn]
  refine Calls.call_len_list hl (by omega) ?_
  rw [e]
  exact h
theorem units_ok {A : Around} {un k : Nat} (e : A.units = un) (hu : un + 8 * k < cLine) (hk : 64 ≤ 8 * k) : A.units + 64 < cLine := by rw [e]; omega
theorem reads_tup {h₀ h : Heap} {L X : Addr} {a b : Int} {t u : Tok} {n : Nat} {news : List (Addr × Obj)} (N : News h₀ L h news) (m : (X, tupO a b t u n) ∈ news) : Reads h (.ref X) (.tuple [.int a, .int b]) ([] ++ ([] ++ [])) :=
  reads_tuple_at (News.get N m) rfl rfl (.cons (.int _ _) (.cons (.int _ _) .nil))
theorem shaped_tup (a b : Int) : SeqAt.shaped (.tuple [.int a, .int b]) = true := by simp [SeqAt.shaped, PyData.canLay0, PyData.canLayAll0, PyData.depth, PyData.depthAll]
theorem ne_tup {prog : Program} {w : World} {A : Around} {E : Value → Shared → Prop} {s : Shared} {h₀ : Heap} {L X Y : Addr} {a b c d : Int} {t u t' u' : Tok} {n n' : Nat} {news : List (Addr × Obj)} {Q : Value → Shared → Prop} (N : News h₀ L s.heap news)
    (mx : (X, tupO a b t u n) ∈ news) (my : (Y, tupO c d t' u' n') ∈ news) (hu : A.units + 64 < cLine) (e1 : a = c) (e2 : b = d) (h : Q (.bool false) s) : wpAny (model prog w) A (compareOp .NotEq (.ref X) (.ref Y)) Q E s := by
  subst e1 e2
  refine ne_dataH (reads_tup N mx) (reads_tup N my) (shaped_tup _ _) (shaped_tup _ _) hu ?_
  have e : PyData.eqv (.tuple [.int a, .int b]) (.tuple [.int a, .int b]) = true := by simp [PyData.eqv, PyData.eqvAll]
  rw [e]
  exact h
theorem eq_tup {prog : Program} {w : World} {A : Around} {E : Value → Shared → Prop} {s : Shared} {h₀ : Heap} {L X Y : Addr} {a b c d : Int} {t u t' u' : Tok} {n n' : Nat} {news : List (Addr × Obj)} {Q : Value → Shared → Prop} (N : News h₀ L s.heap news)
    (mx : (X, tupO a b t u n) ∈ news) (my : (Y, tupO c d t' u' n') ∈ news) (hu : A.units + 64 < cLine) (e1 : a = c) (e2 : b = d) (h : Q (.bool true) s) : wpAny (model prog w) A (compareOp .Eq (.ref X) (.ref Y)) Q E s := by
  subst e1 e2
  refine eq_dataH (reads_tup N mx) (reads_tup N my) (shaped_tup _ _) (shaped_tup _ _) hu ?_
  have e : PyData.eqv (.tuple [.int a, .int b]) (.tuple [.int a, .int b]) = true := by simp [PyData.eqv, PyData.eqvAll]
  rw [e]
  exact h

section
variable {prog : Program} {w : World} {A : Around} {E : Value → Shared → Prop} {s : Shared} {env : Env} {h₀ : Heap} {x : Str} {body : List Stmt} {Q : Flow → Shared → Prop}
theorem rng_iter {r : Addr} {b₀ : Int} {t₀ u₀ v₀ : Tok} {n : Nat} {m₀ : Str → Option Value} {news : List (Addr × Obj)} (J : Nat → (Str → Option Value) → List (Addr × Obj) → Prop)
    (hh : A.handled = none) (hr : IsRange s.heap r 0 b₀ 1 t₀ u₀ v₀) (hsmall : Builtin.Range.small 0 b₀ 1 = true) (hsz : Builtin.Range.rangeSize 0 b₀ 1 = (n : Int)) (F : Fr h₀ env.locals s.heap m₀) (N : News h₀ env.locals s.heap news) (hj : J 0 m₀ news)
    (turn : ∀ i t m₁ nx h tk own, i < n → OwnOff own (nx.map (·.1)) → J i m₁ nx → Fr h₀ env.locals h (fun y => if y = x then some (.int (i : Int) t) else m₁ y) → News h₀ env.locals h (nx ++ own) →
      wpAny (model prog w) A (execs body env) (InvPostG h₀ env.locals (J (i + 1)) own { s with heap := h, toks := tk } Q) E { s with heap := h, toks := tk })
    (done : ∀ m₁ nx h tk, J n m₁ nx → Fr h₀ env.locals h m₁ → News h₀ env.locals h nx → Q .next { s with heap := h, toks := tk }) :
    wpAny (model prog w) A (pyIter (.ref r)) (fun it s₂ => LoopAtV prog w A h₀ env x body Q E it s₂) E s := by
  refine wpAny_pyIter_range hr hsmall ?_
  have W : Walks prog w A s.heap.objs.size [s.heap.objs.size] [s.heap.objs.size] n (fun i v => i < n ∧ ∃ t, v = .int (0 + i * 1) t)
      (fun i h => IsRangeIter h s.heap.objs.size (0 + (i : Nat) * 1) ((n : Int) - (i : Nat)) 1) := (Walks.range hh _ 0 1 n).bound
  refine kdr_loop J W (fun _ h => h) (fun _ h => h) ?_ ?_ ?_ ?_ (by show IsRangeIter _ _ _ _ _; rw [hsz]; simpa using Heap.get?_push_size _ rfl) (F.push _) (fun p hp => ⟨Heap.get?_push_of_some _ (N p hp).1, (N p hp).2⟩) hj ?_ done
  · intro i h hi b hb
    rw [List.mem_singleton.mp hb]
    exact ⟨_, hi⟩
  · intro hm
    exact absurd F.ns.lt ((List.mem_singleton.mp hm) ▸ Nat.lt_irrefl _)
  · intro b hb
    rw [List.mem_singleton.mp hb]
    exact next_is_new F
  · intro p hp hI
    exact absurd (Heap.lt_size (N p hp).1) ((List.mem_singleton.mp hI) ▸ Nat.lt_irrefl _)
  · rintro i v m₁ nx h tk own hi ⟨_, t, rfl⟩ hoff hJ F₁ N₁
    have e1 : (0 : Int) + (i : Int) * 1 = (i : Int) := by omega
    rw [e1] at F₁
    exact turn i t m₁ nx h tk own hi hoff hJ F₁ N₁
end

/-- the size of a fraction -/
def gabs (g : Int × Int) : Int × Int := if 0 ≤ g.1 then g else (-g.1, g.2)
/-- how far the fraction c is from a / b -/
def gap (a b : Int) (c : Int × Int) : Int × Int := rt (c.1 * b - a * c.2) (c.2 * b)
theorem gabs_snd (g : Int × Int) : (gabs g).2 = g.2 := by
  unfold gabs
  split <;> rfl
theorem gabs_pos {a b p q : Int} (h : 0 ≤ cmp3 ((rt (p * b - a * q) (q * b)).1 * 1) (0 * (rt (p * b - a * q) (q * b)).2)) : gabs (gap a b (p, q)) = ((rt (p * b - a * q) (q * b)).1, (rt (p * b - a * q) (q * b)).2) := by
  have e : 0 ≤ (gap a b (p, q)).1 := by
    show 0 ≤ (rt (p * b - a * q) (q * b)).1
    unfold cmp3 at h
    split at h
    · omega
    · omega
  unfold gabs
  rw [if_pos e]
  rfl
theorem gabs_neg {a b p q : Int} (h : ¬ 0 ≤ cmp3 ((rt (p * b - a * q) (q * b)).1 * 1) (0 * (rt (p * b - a * q) (q * b)).2)) : gabs (gap a b (p, q)) = (-(rt (p * b - a * q) (q * b)).1, (rt (p * b - a * q) (q * b)).2) := by
  have e : ¬ 0 ≤ (gap a b (p, q)).1 := by
    show ¬ 0 ≤ (rt (p * b - a * q) (q * b)).1
    intro h1
    apply h
    unfold cmp3
    split
    · omega
    · split <;> omega
  unfold gabs
  rw [if_neg e]
  rfl
/-- a test that comes out False on every way; the ways meet behind it -/
def SkipB (h₀ : Heap) (L : Addr) (m : Str → Option Value) (news : List (Addr × Obj)) (s : Shared) (b : Bool) (s' : Shared) : Prop := b = false ∧ ∃ h' tk, s' = { s with heap := h', toks := tk } ∧ Fr h₀ L h' m ∧ News h₀ L h' news
theorem skip_end {h₀ h' : Heap} {L : Addr} {m : Str → Option Value} {news nE : List (Addr × Obj)} {s : Shared} {b : Bool} {tk : Nat} (F : Fr h₀ L h' m) (N : News h₀ L h' nE) (hs : ∀ p ∈ news, p ∈ nE) (hb : b = false) : SkipB h₀ L m news s b { s with heap := h', toks := tk } :=
  ⟨hb, h', tk, rfl, F, fun p hp => N p (hs p hp)⟩
theorem if_skip {M : Model} {A : Around} {E : Value → Shared → Prop} {s : Shared} {env : Env} {test : Expr} {body : List Stmt} {pos : Pos} {Q : Flow → Shared → Prop} {h₀ : Heap} {L : Addr} {m : Str → Option Value} {news : List (Addr × Obj)} (_F : Fr h₀ L s.heap m) (_N : News h₀ L s.heap news)
    (h : wpAny M A (PySem.isTrue test env (eval test env)) (SkipB h₀ L m news s) E s) (k : ∀ h' tk, Fr h₀ L h' m → News h₀ L h' news → Q .next { s with heap := h', toks := tk }) : wpAny M A (exec (.If test body [] pos) env) Q E s := by
  refine wpAny_If (wpAny_mono h (fun b s₂ hb => ?_) fun _ _ x => x)
  obtain ⟨rfl, h', tk, rfl, F', N'⟩ := hb
  simp only [Bool.false_eq_true, if_false]
  exact wpAny_execs_nil (k h' tk F' N')
/-- a marker: the pair that the next conditional expression hands back -/
structure MarkG (x y : Int) : Prop where
def GapV (h₀ : Heap) (L : Addr) (m : Str → Option Value) (news : List (Addr × Obj)) (x y : Int) (s : Shared) (v : Value) (s' : Shared) : Prop :=
  ∃ T t u n h' tk, v = .ref T ∧ s' = { s with heap := h', toks := tk } ∧ Fr h₀ L h' m ∧ News h₀ L h' ((T, tupO x y t u n) :: news) ∧ AllLt T news
theorem gapv_end {h₀ h' : Heap} {L T : Addr} {m : Str → Option Value} {news nE : List (Addr × Obj)} {s : Shared} {x y x' y' : Int} {t u : Tok} {n tk : Nat} (F : Fr h₀ L h' m) (N : News h₀ L h' nE) (mT : (T, tupO x' y' t u n) ∈ nE) (hs : ∀ p ∈ news, p ∈ nE) (hT : AllLt T news)
    (e1 : x' = x) (e2 : y' = y) : GapV h₀ L m news x y s (.ref T) { s with heap := h', toks := tk } := by
  subst e1 e2
  refine ⟨T, t, u, n, h', tk, rfl, rfl, F, fun p hp => ?_, hT⟩
  rcases List.mem_cons.mp hp with e | hp
  · rw [e]; exact N _ mT
  · exact N p (hs p hp)
theorem gap_merge {M : Model} {A : Around} {E : Value → Shared → Prop} {s : Shared} {c : Sem Value} {Q : Value → Shared → Prop} {h₀ : Heap} {L : Addr} {m : Str → Option Value} {news : List (Addr × Obj)} {q : Addr × Obj} {x y : Int} (_ : MarkG x y) (_F : Fr h₀ L s.heap m) (_N : News h₀ L s.heap (q :: news))
    (h : wpAny M A c (GapV h₀ L m news x y s) E s) (k : ∀ T t u n h' tk, Fr h₀ L h' m → News h₀ L h' ((T, tupO x y t u n) :: news) → AllLt T news → Q (.ref T) { s with heap := h', toks := tk }) : wpAny M A c Q E s := by
  refine wpAny_mono h (fun v s₂ hv => ?_) fun _ _ x => x
  obtain ⟨T, t, u, n, h', tk, rfl, rfl, F', N', hT⟩ := hv
  exact k T t u n h' tk F' N' hT
section
variable {prog : Program} {w : World} {A : Around} {h₀ : Heap} {L : Addr} {m : Str → Option Value} {env : Env} {ct elt : Expr} {x : Str} {scope : Scope} {cl : List (Str × Addr)} {s : Shared} {Fin : List Value → List (Addr × Obj) → Prop}
theorem none_rest {n : Nat} {a : Int} {news : List (Addr × Obj)}
    (turn : ∀ i t I oI C oC D m₂ h tk (E' : Value → Shared → Prop), i < n → LCg.NsObj oC m₂ → m₂ x = some (.int (a + (i : Int)) t) → Fr h₀ L h m → News h₀ L h ((I, oI) :: (C, oC) :: (D, LCg.lst []) :: news) → LCg.Off3 I C D news → ((@Ne Nat I C) ∧ (@Ne Nat I D) ∧ (@Ne Nat C D)) →
      wpAny (model prog w) A (PySem.isTrue ct (compEnvC scope cl C env) (eval ct (compEnvC scope cl C env))) (SkipB h₀ L m ((I, oI) :: (C, oC) :: (D, LCg.lst []) :: news) { s with heap := h, toks := tk }) E' { s with heap := h, toks := tk })
    (fin : Fin [] news) : LCt.CompRestT prog w A h₀ L m env ct elt x scope cl s (fun _ => True) (fun i v => ∃ t, v = .int (a + (i : Int)) t) Fin n 0 [] news := by
  have key : ∀ (j i : Nat), i + j = n → LCt.CompRestT prog w A h₀ L m env ct elt x scope cl s (fun _ => True) (fun i v => ∃ t, v = .int (a + (i : Int)) t) Fin j i [] news := by
    intro j
    induction j with
    | zero => intro i _; exact LCt.CompRestT.zero fin
    | succ j ih =>
      intro i hi
      refine LCt.CompRestT.succ ?_
      intro v I oI C oC D m₂ h tk E' hv hC hx F N off ne
      obtain ⟨t, rfl⟩ := hv
      refine wpAny_mono (turn i t I oI C oC D m₂ h tk E' (by omega) hC hx F N off ne) (fun b s₂ hb => ?_) fun _ _ e => e
      obtain ⟨rfl, h', tk', rfl, F', N'⟩ := hb
      simp only [Bool.false_eq_true, if_false]
      exact ⟨h', tk', news, rfl, F', N', off, trivial, ih (i + 1) (by omega)⟩
  exact key n 0 (by omega)
end
theorem allt4 {P Q R S : Prop} {T : Addr} {l : List (Addr × Obj)} (h : P ∧ Q ∧ R ∧ S ∧ AllLt T l) : P ∧ AllLt T l := ⟨h.1, h.2.2.2.2⟩
theorem allt5 {P Q R S Z : Prop} {T : Addr} {l : List (Addr × Obj)} (h : Z ∧ P ∧ Q ∧ R ∧ S ∧ AllLt T l) : P ∧ AllLt T l := allt4 h.2
theorem allt6 {P Q R S Z Y : Prop} {T : Addr} {l : List (Addr × Obj)} (h : Z ∧ Y ∧ P ∧ Q ∧ R ∧ S ∧ AllLt T l) : P ∧ AllLt T l := allt4 h.2.2
theorem near_end {h₀ h' : Heap} {L X0 D Gl G V T : Addr} {m' : Str → Option Value} {nE own ld ldg : List (Addr × Obj)} {s₁ : Shared} {gk gk' n tk i : Nat} {x y a b p q : Int} {t u : Tok} {gv ys : List Value} {oG oV : Obj} {cs : List (Int × Int)}
    (F : Fr h₀ L h' m') (N : News h₀ L h' nE) (hx : m' (Str.ofString "x") = some (.ref X0)) (hs : m' (Str.ofString "steps") = some (.ref D)) (mG : (Gl, listOf (gv.toArray.push (.ref T)) gk') ∈ nE) (mT : (T, tupO x y t u n) ∈ nE)
    (mD : (D, LCg.lst ys) ∈ nE) (mC : (G, oG) ∈ nE) (mV : (V, oV) ∈ nE) (hl : ∀ p ∈ ld ++ own, p ∈ nE) (hT : @LT.lt Nat _ Gl T ∧ AllLt T (ld ++ own)) (hP : Prs ld gv ((cs.take i).map (fun c => gabs (gap a b c)))) (hld : ∀ p ∈ ldg, p ∈ ld) (hGl : ∀ p ∈ ld, p.1 ≠ Gl)
    (hoff : OwnOff own (((Gl, listOf gv.toArray gk) :: (D, LCg.lst ys) :: (G, oG) :: (V, oV) :: ld).map (·.1))) (hc : cs[i]? = some (p, q)) (hE : gabs (gap a b (p, q)) = (x, y)) :
    InvEndG h₀ L (fun m nx => ∃ (gv : List Value) (gk : Nat) (ld : List (Addr × Obj)), m (Str.ofString "x") = some (.ref X0) ∧ m (Str.ofString "steps") = some (.ref D) ∧
      nx = (Gl, listOf gv.toArray gk) :: (D, LCg.lst ys) :: (G, oG) :: (V, oV) :: ld ∧ (∀ p ∈ ldg, p ∈ ld) ∧ (∀ p ∈ ld, p.1 ≠ Gl) ∧ Prs ld gv ((cs.take (i + 1)).map (fun c => gabs (gap a b c)))) own s₁ { s₁ with heap := h', toks := tk } := by
  rw [List.push_toArray] at mG
  refine InvEndG.intro F N ⟨gv ++ [.ref T], gk', (T, tupO x y t u n) :: ld, hx, hs, rfl, fun r hr => .tail _ (hld r hr), ?_, ?_⟩ ?_ ?_ (fun r hr => hl r (List.mem_append_right _ hr))
  · intro r hr
    rcases List.mem_cons.mp hr with e | hr
    · rw [e]; exact Nat.ne_of_gt hT.1
    · exact hGl r hr
  · rw [List.take_add_one, hc]
    simp only [Option.toList_some, List.map_append, List.map_cons, List.map_nil]
    rw [hE]
    exact (hP.mono fun r hr => .tail _ hr).snoc (.head _)
  · intro r hr c hc'
    simp only [List.map_cons, List.mem_cons] at hc'
    rcases hc' with e | e | e | e | e | e
    · exact hoff r hr _ (by rw [e]; exact .head _)
    · exact hoff r hr _ (by rw [e]; exact .tail _ (.head _))
    · exact hoff r hr _ (by rw [e]; exact .tail _ (.tail _ (.head _)))
    · exact hoff r hr _ (by rw [e]; exact .tail _ (.tail _ (.tail _ (.head _))))
    · rw [e]; exact Nat.ne_of_lt (allLt_lt hT.2 r (List.mem_append_right _ hr))
    · exact hoff r hr _ (.tail _ (.tail _ (.tail _ (.tail _ e))))
  · intro r hr
    simp only [List.mem_cons] at hr
    rcases hr with e | e | e | e | e | e
    · rw [e]; exact mG
    · rw [e]; exact mD
    · rw [e]; exact mC
    · rw [e]; exact mV
    · rw [e]; exact mT
    · exact hl r (List.mem_append_left _ e)
end

/-! ## D7 -/
section
theorem part_D7 : True := by
  w_top off
  k_with_none
  trivial
/-- what _law_are_near asks of the fraction and of the steps towards it -/
structure NearOk (a b : Int) (cs : List (Int × Int)) : Prop where
  pos : 0 < cs.length
  top : Sm a ∧ 0 < b ∧ b < 2 ^ 60
  last : cs[cs.length - 1]? = some (a, b)
  sm : ∀ (i : Nat) (c : Int × Int), cs[i]? = some c → Sm c.1 ∧ 0 < c.2 ∧ c.2 < 2 ^ 60
  gp : ∀ (i : Nat) (c : Int × Int), cs[i]? = some c → Sm (gap a b c).1 ∧ 0 < (gap a b c).2 ∧ (gap a b c).2 < 2 ^ 60
  way : ∀ (i : Nat) (c : Int × Int), cs[i]? = some c → (i + 1 = cs.length → cmp3 (c.1 * b) (a * c.2) = 0) ∧ (i + 1 < cs.length → i % 2 = 0 → cmp3 (c.1 * b) (a * c.2) = -1) ∧ (i + 1 < cs.length → i % 2 = 1 → cmp3 (c.1 * b) (a * c.2) = 1)
  step : ∀ (i : Nat) (c c' : Int × Int), cs[i]? = some c' → cs[i + 1]? = some c → rt (c.1 * c'.2 - c'.1 * c.2) (c.2 * c'.2) = (if i % 2 = 0 then 1 else -1, c.2 * c'.2)
  less : ∀ (i : Nat) (c c' : Int × Int), cs[i]? = some c' → cs[i + 1]? = some c → cmp3 ((gabs (gap a b c)).1 * (gabs (gap a b c')).2) ((gabs (gap a b c')).1 * (gabs (gap a b c)).2) = -1

local macro_rules | `(tactic| walk_at "mine con") => `(tactic| (
  (case k1 => k_asm); (case k2 => k_asm); (case k3 => k_asm); (case k4 => k_asm); (case k5 => k_asm); (case k6 => first | rfl | assumption);
  (case k7 => first | omega | ktr_room); (case k8 => first | omega | ktr_units)))
local macro_rules | `(tactic| walk_at "mine backI") => `(tactic| (
  intro r9 news9 h9 tk9 F9 N9 hR9; (obtain ⟨⟨t9, e9⟩, e9'⟩ := hR9); subst e9; (rw [e9'] at N9); clear e9'; (try dsimp only); (try k_fold)))

local macro_rules | `(tactic| walk_at "mine backR") => `(tactic| (
  intro r9 news9 h9 tk9 F9 N9 hR9; (obtain ⟨D9, t9, u9, n9, e9, e9', l9⟩ := hR9); subst e9; (rw [e9'] at N9); clear e9'; (try simp only [AllLt, and_true] at l9); (try dsimp only at N9); (try dsimp only); (try k_fold)))

local macro_rules | `(tactic| k_mem) => `(tactic| assumption)
local macro_rules | `(tactic| is_list) => `(tactic| exact News.isList (by assumption) (by k_mem))
local macro_rules | `(tactic| k_all) => `(tactic| first | assumption | exact allLt_ne (by assumption) | exact lt_ne (by assumption))
local macro_rules | `(tactic| walk_at "mine enterC") => `(tactic|
  (refine' code_defC ?k1 ?k2 ?k3 ?k4 ?k5 ?kA ?kF ?kK ?k6 ?k7 ?k8 ?k9 ?kB ?kD ?_ ?c2 ?c3 ?c4; (case kA => exact rfl); (case kF => exact rfl); (case kK => assumption); (case k1 => k_asm); (case k2 => k_asm); (case k3 => k_asm); (case k4 => k_asm); (case k5 => k_asm); (case k6 => k_is); (case k7 => k_is); (case k8 => ktr_room); (case k9 => exact BindsTo.of_eq rfl); (case kB => exact rfl); (case kD => decide +kernel); (case c2 => exact rfl); (case c3 => exact rfl); (case c4 => exact rfl); k_whole; intro g' L' h' tk' cells' FG' F' N' Y' B' X' T' l1; (try k_lt l1); k_cells Y'; (try simp only [List.cons_append, List.nil_append] at N'); (try dsimp only); (try k_fold)))
local macro_rules | `(tactic| walk_at "subscriptTail Name UnaryOp ref int") => `(tactic| (k_here; (with_reducible show wpAny _ _ (subscriptTail _ _ (Value.ref _) (Value.int (-1) _)) _ _ _); k_dflt (refine' item_ref_last ?kl ?kx ?_; (case kl => is_list); (case kx => with_reducible assumption); k_whole)))
local macro_rules | `(tactic| walk_at "subscriptTail Name Name ref int") => `(tactic| (k_here; k_dflt (refine' item_ref ?kl ?ka ?kb ?kx ?_; (case kl => is_list); (case ka => omega); (case kb => omega); (case kx => with_reducible assumption); k_whole)))
local macro_rules | `(tactic| walk_at "subscriptTail Name BinOp ref int") => `(tactic| (k_here; k_dflt (refine' item_ref ?kl ?ka ?kb ?kx ?_; (case kl => is_list); (case ka => omega); (case kb => omega); (case kx => with_reducible assumption); k_whole)))
local macro_rules | `(tactic| walk_at "call builtin:len") => `(tactic| (k_here; (with_reducible show wpAny _ _ (call (Value.builtin _) [Value.ref _]) _ _ _); k_dflt (refine' len_list ?kl ?kn ?kf ?_; (case kl => is_list); (case kn => with_reducible assumption); (case kf => omega); k_whole)))
local macro_rules | `(tactic| walk_at "mine units") => `(tactic| first | exact units_ok rfl (by assumption) (by decide) | ktr_units)
local macro_rules | `(tactic| walk_at "compareOp NotEq ref ref") => `(tactic| (k_here; k_dflt (refine' ne_tup ?kN ?ma ?mb ?ku ?ea ?eb ?_; (case kN => k_asm); (case ma => k_mem); (case mb => k_mem); (case ku => walk_at "mine units"); (case ea => first | rfl | k_extra "ne1"); (case eb => first | rfl | k_extra "ne2"))))
local macro_rules | `(tactic| walk_at "call ref") => `(tactic| (k_here; k_dflt ((refine' con_use (con_tog' _ _ _ _ _ _ ?m1 ?s1 ?s2) ?k1 ?k2 ?k3 ?k4 ?k5 ?k6 ?k7 ?k8 ?_); walk_at "mine con"; (case m1 => k_mem); (case s1 => l_ints); (case s2 => assumption); walk_at "mine backR")))
local macro_rules | `(tactic| walk_at "call ref") => `(tactic| (k_here; k_dflt ((refine' con_use (con_order _ _ _ _ _ _ _ _ _ _ _ _ _ _ ?m1 ?m2 ?s1 ?s2) ?k1 ?k2 ?k3 ?k4 ?k5 ?k6 ?k7 ?k8 ?_); walk_at "mine con"; (case m1 => k_mem); (case m2 => k_mem); (case s1 => k_extra "sm"); (case s2 => k_extra "sm"); walk_at "mine backI")))
local macro_rules | `(tactic| walk_at "call ref") => `(tactic| (k_here; k_dflt ((refine' con_use (con_diff _ _ _ _ _ _ _ _ _ _ _ _ _ _ ?m1 ?m2 ?s1 ?s2 ?s3 ?s4) ?k1 ?k2 ?k3 ?k4 ?k5 ?k6 ?k7 ?k8 ?_); walk_at "mine con"; (case m1 => k_mem); (case m2 => k_mem); (case s1 => k_extra "sm"); (case s2 => k_extra "sm"); (case s3 => k_extra "sm"); (case s4 => k_extra "sm"); walk_at "mine backR")))
local macro_rules | `(tactic| walk_at "call ref") => `(tactic| (k_here; k_dflt ((refine' con_use (con_neg _ _ _ _ _ _ _ _ ?m1) ?k1 ?k2 ?k3 ?k4 ?k5 ?k6 ?k7 ?k8 ?_); walk_at "mine con"; (case m1 => k_mem); walk_at "mine backR")))

local macro_rules | `(tactic| walk_at "exec For Name Call cons nil") => `(tactic| (k_here; (rename Fr _ _ _ _ => lF'); (with_unfolding_all refine' For_invVF lF' ?k1 ?k2 ?_; (case k1 => exact rfl); (case k2 => exact rfl); k_whole)))
local macro_rules | `(tactic| walk_at "exec Return some") => `(tactic| ((with_reducible show wpAny _ _ (exec (Stmt.Return (some (Expr.Constant (Const.bool false) _ _)) _) _) _ _ _); exfalso; omega))
local macro_rules | `(tactic| walk_at "InvEndG") => `(tactic| refine stop_of ?_)
local macro_rules | `(tactic| walk_at "pyIter ref") => `(tactic| refine stop_of ?_)
local macro_rules | `(tactic| walk_at "CompEnd") => `(tactic| refine stop_of ?_)
local macro_rules | `(tactic| walk_at "CompSrcT") => `(tactic| refine stop_of ?_)
local macro_rules | `(tactic| walk_at "compareOp Eq ref ref") => `(tactic| (k_here; k_dflt (refine' ke_eq_ints ?ka ?kb ?kc ?kd ?ke ?_; (case ka => is_list); (case kb => is_list); (case kc => exact IntsAre.nil); (case kd => exact IntsAre.nil); (case ke => walk_at "mine units"))))
local macro_rules | `(tactic| walk_at "CompSrc") => `(tactic| refine stop_of ?_)
local macro_rules | `(tactic| walk_at "eval Name") => `(tactic| (k_here; (with_reducible show wpAny _ _ (eval (Expr.Name _ _) (compEnvC _ _ _ _)) _ _ _); k_dflt (refine' kcf_cell ?N ?hc ?hm ?hd ?_; (case hc => rfl); (case N => with_reducible assumption); (case hm => refine List.Mem.tail _ (List.Mem.tail _ (List.Mem.tail _ ?_)); with_reducible assumption); (case hd => with_reducible assumption))))
local macro_rules | `(tactic| walk_at "exec If") => `(tactic| (k_here; (with_reducible rename MarkG _ _ => mG); k_dflt (refine' if_skip ?kF ?kN ?_ ?_; (case kF => k_asm); (case kN => k_asm)); rotate_left; (intro h9 tk9 F9 N9); (try dsimp only); rotate_left))
local macro_rules | `(tactic| walk_at "SkipB") => `(tactic| refine stop_of ?_)
local macro_rules | `(tactic| walk_at "GapV") => `(tactic| refine stop_of ?_)
local macro_rules | `(tactic| walk_at "eval IfExp") => `(tactic| (k_here; (with_reducible show wpAny _ _ (eval (Expr.IfExp _ (Expr.Name _ _) _ _) _) _ _ _); (with_reducible rename MarkG _ _ => mG); k_dflt (refine' gap_merge mG ?kF ?kN ?_ ?_; (case kF => k_asm); (case kN => k_asm)); rotate_left; (intro T9 t9 u9 n9 h9 tk9 F9 N9 l9); (try simp only [AllLt, and_true] at l9); (try dsimp only); rotate_left; clear mG))
theorem near_b {x y : Int} (h : x = y) : (x != y) = false := by simp [h]
theorem menu_is (i : Nat) : [(-1 : Int), 1].getD (Int.fmod (i : Int) 2).toNat 0 = if i % 2 = 0 then -1 else 1 := by
  have e : Int.fmod (i : Int) 2 = ((i % 2 : Nat) : Int) := by rw [Int.fmod_eq_emod_of_nonneg _ (by omega)]; omega
  rw [e]
  rcases Nat.mod_two_eq_zero_or_one i with h | h <;> simp [h]
set_option maxRecDepth 100000
set_option maxHeartbeats 8000000 in
theorem con_near (w : World) (news : List (Addr × Obj)) (X0 W : Addr) (a b : Int) (ta tb : Tok) (nx : Nat) (ws : List Value) (ns : List Int) (nw : Nat) (mx : (X0, tupO a b ta tb nx) ∈ news) (mw : (W, listOf ws.toArray nw) ∈ news) (hi : IntsAre ws ns) (h0 : 0 < ns.length) (h1 : ns.length < 100)
    (hT : ∀ k, k < ns.length → TogOk (ns.take (k + 1))) (hN : NearOk a b ((List.range ns.length).map (fun (i : Nat) => cv (ns.take (1 + (i : Int)).toNat)))) : Con w 172 12 news [.ref X0, .ref W] (fun r news' => r = .bool true ∧ news' = news) := by
  unfold Con
  intro mean mg mb dp un gd cn cs0 a' ccd cl outer A₀ base h₀ L m s Q E B F X N T hk hd hu hret
  have hwl := IntsAre.length hi
  k_with_none
  refine wpAny_call ?_
  k_dflt (walk_at "mine enterC")
  (rename Fr _ _ _ (bindL _ _ _) => fB)
  have F0 : Fr _ _ _ (fun y => if y = Str.ofString "x" then some (.ref X0) else none) := fB
  clear fB
  (rename PySem.Obj.data _ = Data.cell (bindC _ _ _ _) => c2)
  have e2 : _ = Data.cell (some (.ref W)) := c2
  clear c2
  (rename PySem.Obj.data _ = Data.cell (bindC _ _ _ _) => c1)
  have e1 : _ = Data.cell none := c1
  clear c1
  (rename ∀ p ∈ news, _ => lN)
  (try k_unmd)
  k_steps
  unfold Stop
  refine LCg.CompSrc.range (by rfl) (by k_asm) (by k_asm) (by assumption) (small_one (by omega) (by omega) (by omega) (by omega)) (show _ = ((ns.length : Nat) : Int) by rw [rangeSize_nat]; omega) (by rw [PySem.sizeLine_eq]; omega) ?_
  intro g9
  dsimp only
  refine prs_rest (fun i => cv (ns.take (1 + (i : Int)).toNat)) (fun p hp => Nat.ne_of_lt (Nat.lt_of_lt_of_le (lN p hp) (Nat.le_add_right _ 2))) ?kt ?kf
  case kt =>
    intro i t I oI C oC D m₂ ys ldg h tk E' hi' hC hx F9 N9 off9 ne9 hsub
    have hmw := hsub _ mw
    (try k_unmd)
    (try k_fold)
    have hTi : TogOk (ns.take (1 + (i : Int)).toNat) := by
      rw [show (1 + (i : Int)).toNat = i + 1 by omega]
      exact hT i hi'
    k_steps
    unfold Stop
    (rename News _ _ _ _ => nE)
    (rename _ ∧ _ ∧ _ ∧ _ ∧ _ ∧ _ ∧ AllLt _ _ => lE)
    exact steps_end (by assumption) nE off9 lE
  intro ys ldg hsub hG hP
  unfold LCg.FinA
  intro D h tk F9 N9 off9
  simp only [LCg.Off1] at off9
  have hmx := hsub _ mx
  have hcn : ((List.range ns.length).map (fun (i : Nat) => cv (ns.take (1 + (i : Int)).toNat))).length = ns.length := by simp
  generalize hcs : (List.range ns.length).map (fun (i : Nat) => cv (ns.take (1 + (i : Int)).toNat)) = cs at hP hN hcn
  have hyn : ys.length = ns.length := by rw [hP.length, hcn]
  obtain ⟨Z, tz, uz, nz, hZ, mZ⟩ := hP.get hN.last
  rw [hcn, ← hyn] at hZ
  dsimp only at mZ
  dsimp only
  (try k_unmd)
  (try k_fold)
  k_steps
  unfold Stop
  (rename Fr _ _ _ _ => lF')
  (rename News _ _ _ _ => lN')
  obtain ⟨L0, hL0⟩ := fr_names lF'
  subst hL0
  obtain ⟨Gl, oG, oV, hGl0, hoG0, hoV0⟩ := led4 lN'
  subst hGl0 hoG0 hoV0
  (rename PySem.Obj.data _ = Data.cell (some (Value.ref Gl)) => eG)
  have hGl1 : ∀ p ∈ ldg, p.1 ≠ Gl := allLt_ne (by rename _ ∧ _ ∧ _ ∧ AllLt Gl _ => l9; exact l9.2.2.2)
  dsimp only
  refine rng_iter (n := ns.length) (fun i m nx => ∃ (gv : List Value) (gk : Nat) (ld : List (Addr × Obj)), m (Str.ofString "x") = some (.ref X0) ∧ m (Str.ofString "steps") = some (.ref D) ∧
      nx = (Gl, listOf gv.toArray gk) :: (D, LCg.lst ys) :: (L0 + 1 + 1, oG) :: (L0 + 1, oV) :: ld ∧ (∀ p ∈ ldg, p ∈ ld) ∧ (∀ p ∈ ld, p.1 ≠ Gl) ∧ Prs ld gv ((cs.take i).map (fun c => gabs (gap a b c))))
    (by rfl) (by assumption) (small_one (by omega) (by omega) (by omega) (by omega)) (show _ = ((ns.length : Nat) : Int) by rw [rangeSize_nat]; omega) lF' lN' ⟨[], 0, ldg, by rfl, by rfl, rfl, fun _ hp => hp, hGl1, .nil⟩ ?kt ?kd
  case kt =>
    rintro i t m₁ nx h tk own hi' hoff ⟨gv, gk, ld, hmx', hms', rfl, hld, hGl, hPg⟩ F1 N1
    have hc : cs[i]? = some cs[i] := List.getElem?_eq_getElem (by omega)
    generalize cs[i] = c at hc
    obtain ⟨A, tA, uA, nA, hA, mA⟩ := hP.get hc
    have mA' := List.mem_append_left own (hld _ mA)
    have mX' := List.mem_append_left own (hld _ hmx)
    have hA' : ys[((i : Nat) : Int).toNat]? = some (.ref A) := by simpa using hA
    have hgn : gv.length = i := by
      have := hPg.length
      simp only [List.length_map, List.length_take] at this
      omega
    have hGl2 : ∀ p ∈ ld ++ own, p.1 ≠ Gl := by
      intro p hp
      rcases List.mem_append.mp hp with hp | hp
      · exact hGl p hp
      · exact hoff p hp _ (.head _)
    obtain ⟨ha, hb⟩ := hN.top
    have hbS : Sm b := by omega
    obtain ⟨hp, hq⟩ := hN.sm i c hc
    obtain ⟨hg1, hg2⟩ := hN.gp i c hc
    have hw := hN.way i c hc
    obtain ⟨p, q⟩ := c
    dsimp only at *
    unfold gap at hg1 hg2
    dsimp only at hg1 hg2
    have hqS : Sm q := by omega
    have hg2S : Sm (rt (p * b - a * q) (q * b)).2 := by omega
    rw [List.cons_append, List.cons_append, List.cons_append, List.cons_append] at N1
    have F2 := fr_know (fr_know F1 hms') (x := Str.ofString "x") (r := .ref X0) (by rw [if_neg (by decide)]; exact hmx')
    clear F1
    k_with "sm" => first | assumption | decide
    have hw0 : (i : Int) = (ns.length : Int) - 1 → cmp3 (p * b) (a * q) = 0 := fun e => hw.1 (by omega)
    have hw1 : (i : Int) ≠ (ns.length : Int) - 1 → cmp3 (p * b) (a * q) = [-1, 1].getD (Int.fmod (i : Int) 2).toNat 0 := by
      intro e
      rw [menu_is]
      split
      · exact hw.2.1 (by omega) (by omega)
      · exact hw.2.2 (by omega) (by omega)
    clear hw
    have hc' : cs[i - 1]? = some cs[i - 1] := List.getElem?_eq_getElem (by omega)
    generalize cs[i - 1] = c' at hc'
    obtain ⟨B, tB, uB, nB, hB, mB⟩ := hP.get hc'
    have mB' := List.mem_append_left own (hld _ mB)
    have hB' : ys[((i : Int) - 1).toNat]? = some (.ref B) := by
      rw [show ((i : Int) - 1).toNat = i - 1 by omega]; exact hB
    obtain ⟨hp', hq'⟩ := hN.sm _ c' hc'
    have hst : i ≠ 0 → _ := fun hi0 => hN.step (i - 1) (p, q) c' hc' (by rw [show i - 1 + 1 = i by omega]; exact hc)
    obtain ⟨p', q'⟩ := c'
    dsimp only at *
    have hqS' : Sm q' := by omega
    have hs1 : i ≠ 0 → (rt (p * q' - p' * q) (q * q')).1 = [-1, 1].getD (Int.fmod (i : Int) 2).toNat 0 := by
      intro hi0
      rw [menu_is, hst hi0]
      dsimp only
      split <;> split <;> omega
    have hs2 : i ≠ 0 → (rt (p * q' - p' * q) (q * q')).2 = q * q' := by intro hi0; rw [hst hi0]
    clear hst
    have mk : MarkG (gabs (gap a b (p, q))).1 (gabs (gap a b (p, q))).2 := ⟨⟩
    k_with "ne1" => exact hs1 (by omega)
    k_with "ne2" => exact hs2 (by omega)
    (try k_unmd)
    (try k_fold)
    k_steps
    all_goals unfold Stop
    all_goals (try dsimp only)
    all_goals (rename News _ _ _ _ => nE)
    all_goals (rename Fr _ _ _ _ => fE)
    all_goals first
      | (refine skip_end fE nE ?hs ?hb
         case hs => kcf_all
         case hb => first | rfl | exact near_b (hw0 (by omega)) | exact near_b (hw1 (by omega)))
      | (refine' near_end fE nE (by rfl) (by rfl) ?mG ?mT ?mD ?mC ?mV ?hl ?hT (by assumption) (by assumption) (by assumption) (by assumption) (by assumption) ?hE
         case mG => k_mem
         case mT => k_mem
         case mD => k_mem
         case mC => k_mem
         case mV => k_mem
         case hl => kcf_all
         case hT => exact allt4 (by assumption)
         case hE => rfl)
      | (refine' gapv_end fE nE ?mT ?hs ?hT ?e1 ?e2
         case mT => k_mem
         case hs => kcf_all
         case hT => first | assumption | exact And.right (by assumption)
         case e1 => first | rw [gabs_pos (by assumption)] | rw [gabs_neg (by assumption)]
         case e2 => first | rw [gabs_pos (by assumption)] | rw [gabs_neg (by assumption)])
  case kd =>
    rintro m₁ nx h tk ⟨gv, gk, ld, hmx', hms', rfl, hld, hGl, hPg⟩ F1 N1
    rw [List.take_of_length_le (by omega)] at hPg
    have hgn : gv.length = ns.length := by
      have := hPg.length
      rw [List.length_map] at this
      omega
    have hcg : (L0 + 1 + 1, oG) ∈ (Gl, listOf gv.toArray gk) :: (D, LCg.lst ys) :: (L0 + 1 + 1, oG) :: (L0 + 1, oV) :: ld := .tail _ (.tail _ (.head _))
    have hmG : (Gl, listOf gv.toArray gk) ∈ (Gl, listOf gv.toArray gk) :: (D, LCg.lst ys) :: (L0 + 1 + 1, oG) :: (L0 + 1, oV) :: ld := .head _
    have F2 : Fr _ L0 h m₁ := F1
    have N2 : News _ L0 h _ := N1
    clear F1 N1
    dsimp only
    (try k_unmd)
    (try k_fold)
    k_steps
    unfold Stop
    refine LCt.CompSrcT.range (by rfl) (by k_asm) (by k_asm) (by assumption) (small_one (by omega) (by omega) (by omega) (by omega)) (show _ = ((ns.length - 1 : Nat) : Int) by rw [rangeSize_nat]; omega) (by rw [PySem.sizeLine_eq]; omega) ?_
    intro g9
    dsimp only
    refine none_rest ?ct ?cf
    case ct =>
      intro i t I oI C oC D' m₂ h tk E' hi' hC hx F9 N9 off9 ne9
      have hc : cs[i + 1]? = some cs[i + 1] := List.getElem?_eq_getElem (by omega)
      have hc' : cs[i]? = some cs[i] := List.getElem?_eq_getElem (by omega)
      generalize cs[i + 1] = c at hc
      generalize cs[i] = c' at hc'
      have hless := hN.less i c c' hc' hc
      have hga := hN.gp _ c hc
      have hgb := hN.gp _ c' hc'
      obtain ⟨A, tA, uA, nA, hA, mA⟩ := hPg.get (i := i + 1) (by rw [List.getElem?_map, hc]; rfl)
      obtain ⟨B, tB, uB, nB, hB, mB⟩ := hPg.get (i := i) (by rw [List.getElem?_map, hc']; rfl)
      have hA' : gv[(1 + (i : Int)).toNat]? = some (.ref A) := by rw [show (1 + (i : Int)).toNat = i + 1 by omega]; exact hA
      have hB' : gv[(1 + (i : Int) - 1).toNat]? = some (.ref B) := by rw [show (1 + (i : Int) - 1).toNat = i by omega]; exact hB
      have sA : Sm (gabs (gap a b c)).2 := by rw [gabs_snd]; omega
      have sB : Sm (gabs (gap a b c')).2 := by rw [gabs_snd]; omega
      dsimp only at mA mB
      generalize gabs (gap a b c) = x at *
      generalize gabs (gap a b c') = y at *
      k_with_none
      k_with "sm" => assumption
      (try k_unmd)
      (try k_fold)
      k_steps
      unfold Stop
      (rename News _ _ _ _ => nE)
      (rename Fr _ _ _ _ => fE)
      exact skip_end fE nE (fun _ hp => hp) (decide_eq_false (by omega))
    case cf =>
      intro D' h tk F9 N9 off9
      (try k_unmd)
      (try k_fold)
      k_steps
      (rename News _ _ _ _ => nE)
      (rename Fr _ _ _ _ => fE)
      exact hret _ news _ _ fE (cb_drop nE fun p hp => .tail _ (.tail _ (.tail _ (.tail _ (.tail _ (.tail _ (hld _ (hsub _ hp)))))))) ⟨by simp, rfl⟩
end

/-! ## D8 -/
section
theorem part_D8 : True := by
  w_top off
  k_with_none
  trivial
/-- the greatest part of one that is in p / q: its bottom -/
def pbot (p q : Int) : Int := (rt q p).1 / (rt q p).2 + (if (!decide ((rt q p).2 = 1)) = true then 1 else 0)
/-- what is left of p / q -/
def plft (p q : Int) : Int × Int := rt (p * pbot p q - 1 * q) (q * pbot p q)
/-- what a turn of _law_is_parted asks -/
def pok (ns : List Int) (p q : Int) : Bool :=
  decide (0 < p) && decide (p < 2 ^ 60) && decide (0 < q) && decide (q < 2 ^ 60) && decide (-(2 ^ 60) < (rt q p).1) && decide ((rt q p).1 < 2 ^ 60) && decide (0 < (rt q p).2) && decide ((rt q p).2 < 2 ^ 60) && decide (0 < pbot p q) && decide (pbot p q < 2 ^ 60)
  && decide (0 ≤ (plft p q).1) && decide ((plft p q).1 < p) && decide (0 < (plft p q).2) && decide ((plft p q).2 < 2 ^ 60) && (ns.isEmpty || decide (ns.getD (ns.length - 1) 0 < pbot p q))
/-- the greedy parts, every step looked at -/
def prun : Nat → List Int → Int → Int → Option (List Int)
  | 0, ns, p, q => if p = 0 ∧ q = 1 then some ns else none
  | k + 1, ns, p, q => if p = 0 then (if q = 1 then some ns else none) else if pok ns p q then prun k (ns ++ [pbot p q]) (plft p q).1 (plft p q).2 else none
/-- the parts added up, every step looked at -/
def psum : List Int → Int → Int → Option (Int × Int)
  | [], a, b => some (a, b)
  | d :: r, a, b => if decide (-(2 ^ 60) < a) && decide (a < 2 ^ 60) && decide (0 < b) && decide (b < 2 ^ 60) && decide (0 < d) && decide (d < 2 ^ 60) then psum r (rt (a * d + 1 * b) (b * d)).1 (rt (a * d + 1 * b) (b * d)).2 else none
theorem psum_turn {d : Int} {r : List Int} {a b : Int} {f : Int × Int} (h : psum (d :: r) a b = some f) : Sm a ∧ (0 < b ∧ b < 2 ^ 60) ∧ (0 < d ∧ d < 2 ^ 60) ∧ psum r (rt (a * d + 1 * b) (b * d)).1 (rt (a * d + 1 * b) (b * d)).2 = some f := by
  unfold psum at h
  split at h
  · rename_i h1
    simp only [Bool.and_eq_true, decide_eq_true_eq] at h1
    obtain ⟨⟨⟨⟨⟨h1, h2⟩, h3⟩, h4⟩, h5⟩, h6⟩ := h1
    exact ⟨⟨h1, h2⟩, ⟨h3, h4⟩, ⟨h5, h6⟩, h⟩
  · cases h
theorem rt_mul {a b : Int} (hb : 0 < b) : rt (a * b) (b * 1) = (a, 1) := by
  have e : (Int.gcd (a * b) (b * 1) : Int) = b := by
    rw [Int.mul_comm a b, Int.gcd_mul_left, Int.gcd_one_right]
    omega
  unfold rt
  rw [e, Int.mul_one, Int.mul_ediv_cancel _ (by omega), Int.ediv_self (by omega)]
theorem parted_start {h₀ h : Heap} {L T D Lf : Addr} {oD oL : Obj} {x y : Int} {t u : Tok} {n : Nat} {news : List (Addr × Obj)} (N : News h₀ L h ((T, tupO x y t u n) :: (Lf, oL) :: (D, oD) :: news)) :
    ∃ t u n, News h₀ L h ((T, tupO x y t u n) :: (D, oD) :: (Lf, oL) :: news) := by
  refine ⟨t, u, n, fun p hp => N p ?_⟩
  simp only [List.mem_cons] at hp ⊢
  rcases hp with e | e | e | e <;> simp [e]
theorem parted_end {h₀ h' : Heap} {L : Addr} {m' : Str → Option Value} {own nE news : List (Addr × Obj)} {s₁ : Shared} {tk nn n : Nat} {T R0 D0 Lf X0 : Addr} {o0 oL : Obj} {x y : Int} {t u : Tok} {vs : List Value} {r : List Int} {f : Int × Int}
    (F : Fr h₀ L h' m') (N : News h₀ L h' nE) (hm : m' (Str.ofString "total") = some (.ref T)) (hm2 : m' (Str.ofString "left") = some (.ref Lf)) (hm3 : m' (Str.ofString "x") = some (.ref X0)) (mT : (T, tupO x y t u n) ∈ nE) (mD : (D0, listOf vs.toArray nn) ∈ nE) (mL : (Lf, oL) ∈ nE)
    (hn : ∀ p ∈ news ++ own, p ∈ nE) (hlt : AllLt T (news ++ own)) (hoff : OwnOff own (((R0, o0) :: (D0, listOf vs.toArray nn) :: (Lf, oL) :: news).map (·.1))) (hs : psum r x y = some f) :
    InvEndG h₀ L (fun m' nx => (D0, listOf vs.toArray nn) ∈ nx ∧ ∃ T t u n x y, m' (Str.ofString "total") = some (.ref T) ∧ m' (Str.ofString "left") = some (.ref Lf) ∧ m' (Str.ofString "x") = some (.ref X0) ∧ psum r x y = some f ∧ nx = (T, tupO x y t u n) :: (D0, listOf vs.toArray nn) :: (Lf, oL) :: news) own s₁ { s₁ with heap := h', toks := tk } := by
  refine InvEndG.intro F N ⟨.tail _ (.head _), T, t, u, n, x, y, hm, hm2, hm3, hs, rfl⟩ ?_ ?_ (fun p hp => hn p (List.mem_append_right _ hp))
  · exact own_cons (fun p hp => Nat.ne_of_lt (allLt_lt hlt p (List.mem_append_right _ hp))) fun p hp b hb => hoff p hp b (.tail _ hb)
  · intro p hp
    simp only [List.mem_cons] at hp
    rcases hp with e | e | e | e
    · rw [e]; exact mT
    · rw [e]; exact mD
    · rw [e]; exact mL
    · exact hn p (List.mem_append_left _ e)
theorem prun_end {k : Nat} {ns ps : List Int} {p q : Int} (hp : p = 0) (h : prun k ns p q = some ps) : q = 1 ∧ ns = ps := by
  subst hp
  cases k with
  | zero =>
    unfold prun at h
    split at h
    · rename_i h1; exact ⟨h1.2, Option.some.inj h⟩
    · cases h
  | succ k =>
    unfold prun at h
    rw [if_pos rfl] at h
    split at h
    · rename_i h1; exact ⟨h1, Option.some.inj h⟩
    · cases h
theorem prun_turn {k : Nat} {ns ps : List Int} {p q : Int} (hp : p ≠ 0) (h : prun k ns p q = some ps) : ∃ j, k = j + 1 ∧ pok ns p q = true ∧ prun j (ns ++ [pbot p q]) (plft p q).1 (plft p q).2 = some ps := by
  cases k with
  | zero =>
    unfold prun at h
    rw [if_neg (fun e => hp e.1)] at h
    cases h
  | succ k =>
    unfold prun at h
    rw [if_neg hp] at h
    split at h
    · rename_i h1; exact ⟨k, rfl, h1, h⟩
    · cases h

local macro_rules | `(tactic| walk_at "mine con") => `(tactic| (
  (case k1 => k_asm); (case k2 => k_asm); (case k3 => k_asm); (case k4 => k_asm); (case k5 => k_asm); (case k6 => first | rfl | assumption);
  (case k7 => first | omega | ktr_room); (case k8 => first | omega | ktr_units)))
local macro_rules | `(tactic| walk_at "mine backI") => `(tactic| (
  intro r9 news9 h9 tk9 F9 N9 hR9; (obtain ⟨⟨t9, e9⟩, e9'⟩ := hR9); subst e9; (rw [e9'] at N9); clear e9'; (try dsimp only); (try k_fold)))

local macro_rules | `(tactic| walk_at "mine backR") => `(tactic| (
  intro r9 news9 h9 tk9 F9 N9 hR9; (obtain ⟨D9, t9, u9, n9, e9, e9', l9⟩ := hR9); subst e9; (rw [e9'] at N9); clear e9'; (try simp only [AllLt, and_true] at l9); (try dsimp only at N9); (try dsimp only); (try k_fold)))

local macro_rules | `(tactic| k_mem) => `(tactic| assumption)
local macro_rules | `(tactic| is_list) => `(tactic| exact News.isList (by assumption) (by k_mem))
local macro_rules | `(tactic| k_all) => `(tactic| first | assumption | exact allLt_ne (by assumption) | exact lt_ne (by assumption))
local macro_rules | `(tactic| walk_at "mine units") => `(tactic| first | exact units_ok rfl (by assumption) (by decide) | ktr_units)
local macro_rules | `(tactic| walk_at "mine backB") => `(tactic| (
  intro r9 news9 h9 tk9 F9 N9 hR9; (obtain ⟨e9, e9'⟩ := hR9); subst e9; (rw [e9'] at N9); clear e9'; (try dsimp only); (try k_fold)))
local macro_rules | `(tactic| walk_at "call ref") => `(tactic| (k_here; k_dflt ((refine' con_use (con_quot _ _ _ _ _ _ _ _ ?m1 ?s1 ?s2) ?k1 ?k2 ?k3 ?k4 ?k5 ?k6 ?k7 ?k8 ?_); walk_at "mine con"; (case m1 => k_mem); (case s1 => k_extra "sm"); (case s2 => k_extra "sm"); walk_at "mine backR")))
local macro_rules | `(tactic| walk_at "call ref") => `(tactic| (k_here; k_dflt ((refine' con_use (con_floor _ _ _ _ _ _ _ _ ?m1 ?s1) ?k1 ?k2 ?k3 ?k4 ?k5 ?k6 ?k7 ?k8 ?_); walk_at "mine con"; (case m1 => k_mem); (case s1 => k_extra "sm"); walk_at "mine backI")))
local macro_rules | `(tactic| walk_at "call ref") => `(tactic| (k_here; k_dflt ((refine' con_use (con_whole _ _ _ _ _ _ _ _ ?m1) ?k1 ?k2 ?k3 ?k4 ?k5 ?k6 ?k7 ?k8 ?_); walk_at "mine con"; (case m1 => k_mem); walk_at "mine backB")))
local macro_rules | `(tactic| walk_at "call ref") => `(tactic| (k_here; k_dflt ((refine' con_use (con_diff _ _ _ _ _ _ _ _ _ _ _ _ _ _ ?m1 ?m2 ?s1 ?s2 ?s3 ?s4) ?k1 ?k2 ?k3 ?k4 ?k5 ?k6 ?k7 ?k8 ?_); walk_at "mine con"; (case m1 => k_mem); (case m2 => k_mem); (case s1 => k_extra "sm"); (case s2 => k_extra "sm"); (case s3 => k_extra "sm"); (case s4 => k_extra "sm"); walk_at "mine backR")))
local macro_rules | `(tactic| walk_at "InvEndG") => `(tactic| refine stop_of ?_)
local macro_rules | `(tactic| walk_at "compareOp Eq ref ref") => `(tactic| (k_here; k_dflt (refine' eq_tup ?kN ?ma ?mb ?ku ?ea ?eb ?_; (case kN => k_asm); (case ma => k_mem); (case mb => k_mem); (case ku => walk_at "mine units"); (case ea => first | rfl | k_extra "ne1"); (case eb => first | rfl | k_extra "ne2"))))
local macro_rules | `(tactic| walk_at "call ref") => `(tactic| (k_here; k_dflt ((refine' con_use (con_prod _ _ _ _ _ _ _ _ _ _ _ _ _ _ ?m1 ?m2 ?s1 ?s2 ?s3 ?s4) ?k1 ?k2 ?k3 ?k4 ?k5 ?k6 ?k7 ?k8 ?_); walk_at "mine con"; (case m1 => k_mem); (case m2 => k_mem); (case s1 => k_extra "sm"); (case s2 => k_extra "sm"); (case s3 => k_extra "sm"); (case s4 => k_extra "sm"); walk_at "mine backR")))
local macro_rules | `(tactic| walk_at "call ref") => `(tactic| (k_here; k_dflt ((refine' con_use (con_sum _ _ _ _ _ _ _ _ _ _ _ _ _ _ ?m1 ?m2 ?s1 ?s2 ?s3 ?s4) ?k1 ?k2 ?k3 ?k4 ?k5 ?k6 ?k7 ?k8 ?_); walk_at "mine con"; (case m1 => k_mem); (case m2 => k_mem); (case s1 => k_extra "sm"); (case s2 => k_extra "sm"); (case s3 => k_extra "sm"); (case s4 => k_extra "sm"); walk_at "mine backR")))
local macro_rules | `(tactic| walk_at "exec For Name Name cons nil") => `(tactic| (k_here; (rename Fr _ _ _ _ => lF'); (with_unfolding_all refine' For_invVF lF' ?k1 ?k2 ?_; (case k1 => exact rfl); (case k2 => exact rfl); k_whole)))
local macro_rules | `(tactic| walk_at "exec While BoolOp cons nil") => `(tactic| refine stop_of ?_)
local macro_rules | `(tactic| walk_at "pyIter ref") => `(tactic| refine stop_of ?_)
local macro_rules | `(tactic| walk_at "SkipB") => `(tactic| refine stop_of ?_)
local macro_rules | `(tactic| walk_at "exec If") => `(tactic| (k_here; k_dflt (refine' if_skip ?kF ?kN ?_ ?_; (case kF => k_asm); (case kN => k_asm)); rotate_left; (intro h9 tk9 F9 N9); (try dsimp only); rotate_left))
theorem item_ints_last {prog : Program} {w : World} {A : Around} {E : Value → Shared → Prop} {s : Shared} {value slice : Expr} {l : Addr} {vs : List Value} {ns : List Int} {u : Tok} {Q : Value → Shared → Prop} (hl : s.heap.IsList l vs.toArray) (hi : IntsAre vs ns) (h0 : ns ≠ [])
    (h : ∀ t, Q (.int (ns.getD (ns.length - 1) 0) t) s)
    (hs : subscripted slice false (.ref l) (.int (-1) u) = operate [.ref l, .int (-1) u] (getItem (.ref l) (.int (-1) u)) := by with_unfolding_all rfl) :
    wpAny (model prog w) A (subscriptTail value slice (.ref l) (.int (-1) u)) Q E s := by
  have h1 : 0 < ns.length := List.length_pos_iff.mpr h0
  have h2 : ns[ns.length - 1]? = some (ns.getD (ns.length - 1) 0) := by
    rw [List.getD_eq_getElem?_getD, List.getElem?_eq_getElem (by omega)]; rfl
  obtain ⟨t, ht⟩ := hi.get _ _ h2
  refine item_ref_last hl (v := .int (ns.getD (ns.length - 1) 0) t) ?_ (h t) hs
  rw [hi.length]
  exact ht
local macro_rules | `(tactic| walk_at "subscriptTail Name UnaryOp ref int") => `(tactic| (k_here; (with_reducible show wpAny _ _ (subscriptTail _ _ (Value.ref _) (Value.int (-1) _)) _ _ _); k_dflt (refine' item_ints_last ?kl ?ki ?kx ?_; (case kl => is_list); (case ki => assumption); (case kx => exact of_decide_eq_false (by assumption)); k_whole); intro t9))
theorem led2 {h₀ h : Heap} {L A B : Addr} {o o' : Obj} {news : List (Addr × Obj)} (_ : News h₀ L h ((A, o) :: (B, o') :: news)) : ∃ A' B' : Addr, A' = A ∧ B' = B := ⟨_, _, rfl, rfl⟩
set_option maxRecDepth 100000
set_option maxHeartbeats 8000000 in
theorem con_parted (w : World) (news : List (Addr × Obj)) (X0 : Addr) (a b : Int) (ta tb : Tok) (nx : Nat) (mx : (X0, tupO a b ta tb nx) ∈ news) (ps : List Int) (hr : prun 12 [] a b = some ps) (hf : psum ps 0 1 = some (a, b)) (ha : Sm a) (hb : 0 < b ∧ b < 2 ^ 60) :
    Con w 179 12 news [.ref X0] (fun r news' => r = .bool true ∧ news' = news) := by
  unfold Con
  intro mean mg mb dp un gd cn cs0 a' ccd cl outer A₀ base h₀ L m s Q E B F X N T hk hd hu hret
  k_with_none
  k_with "sm" => first | assumption | decide
  refine wpAny_call ?_
  k_dflt ktr_enter
  k_steps
  unfold Stop
  (rename Fr _ _ _ _ => lF')
  (rename News _ _ _ _ => lN')
  obtain ⟨G0, D0, hG0, hD0⟩ := led2 lN'
  subst hG0 hD0
  have hXD : @Ne Nat X0 D0 := Nat.ne_of_lt ((by assumption : ∀ p ∈ news, p.1 < D0) _ mx)
  have lN2 : News _ _ _ ((X0, tupO a b ta tb nx) :: (D0, listOf #[] 0) :: news) := cb_drop lN' (by
    intro r hr
    rcases List.mem_cons.mp hr with e | hr
    · rw [e]; exact .tail _ (.tail _ mx)
    · exact .tail _ hr)
  refine' ksw_while (σ := List Value × List Int × Nat × Addr × Int × Tok × Int × Tok × Nat) (fun c => (c.2.2.2.1, tupO c.2.2.2.2.1 c.2.2.2.2.2.2.1 c.2.2.2.2.2.1 c.2.2.2.2.2.2.2.1 c.2.2.2.2.2.2.2.2) :: (D0, listOf c.1.toArray c.2.2.1) :: news)
    (fun c => [(Str.ofString "parts", .ref D0), (Str.ofString "left", .ref c.2.2.2.1)])
    (fun c => IntsAre c.1 c.2.1) [Str.ofString "turned", Str.ofString "bottom", Str.ofString "less"] (fun c => @Ne Nat c.2.2.2.1 D0 ∧ ∃ k, k + c.2.1.length = 12 ∧ prun k c.2.1 c.2.2.2.2.1 c.2.2.2.2.2.2.1 = some ps) (fun c => c.2.2.2.2.1.toNat) ([], [], 0, X0, a, ta, b, tb, nx) lF' lN2 IntsAre.nil ?kk ?kp ?_ (hE := ?hE)
  case hE => first | passes_own | with_unfolding_all passes_own
  case kk => kst_all
  case kp => exact ⟨hXD, 12, rfl, hr⟩
  rintro ⟨vs, ns, nn, Lf, p, tp, q, tq, nl⟩ u h tk hI hP F' N'
  dsimp only [kstB] at F' hP N' hI
  clear lF' lN' lN2
  have hvl := IntsAre.length hI
  obtain ⟨hLD, k, hk12, hrun⟩ := hP
  by_cases hp0 : p = 0
  · obtain ⟨hq1, hns⟩ := prun_end hp0 hrun
    subst hp0 hq1 hns
    clear hrun hk12
    (try k_unmd)
    k_fold
    k_steps
    all_goals try (exfalso; omega)
    unfold Stop
    (rename Fr _ _ _ _ => lF')
    (rename News _ _ _ _ => lN')
    obtain ⟨T0, Lf1, hT0, hLf1⟩ := led2 lN'
    subst hT0 hLf1
    (try dsimp only)
    obtain ⟨t0, u0, n0, N0⟩ := parted_start lN'
    clear lN'
    refine kdl_iter (vs := vs) (nn := nn) (news := (T0, tupO 0 1 t0 u0 n0) :: (D0, listOf vs.toArray nn) :: (Lf1, tupO 0 1 tp tq nl) :: news) (fun i m nx => ∃ T t u n x y, m (Str.ofString "total") = some (.ref T) ∧ m (Str.ofString "left") = some (.ref Lf1) ∧ m (Str.ofString "x") = some (.ref X0) ∧ psum (ns.drop i) x y = some (a, b) ∧
        nx = (T, tupO x y t u n) :: (D0, listOf vs.toArray nn) :: (Lf1, tupO 0 1 tp tq nl) :: news) (by rfl) (.tail _ (.head _)) lF' N0 ⟨T0, t0, u0, n0, 0, 1, by rfl, by rfl, by rfl, hf, rfl⟩ ?kt ?kd
    case kt =>
      rintro i v m₁ nx h tk own hv hoff _ ⟨T, t, u, n, x, y, hm1, hm2, hm3, hps, rfl⟩ F1 N1
      obtain ⟨d, td, rfl, hd1⟩ := IntsAre.at hI i v hv
      have hlt : i < ns.length := (List.getElem?_eq_some_iff.mp hd1).1
      have hdr : ns.drop i = d :: ns.drop (i + 1) := by
        rw [List.drop_eq_getElem_cons hlt]
        congr 1
        rw [List.getElem?_eq_getElem hlt] at hd1
        exact Option.some.inj hd1
      rw [hdr] at hps
      obtain ⟨q1, q2, q3, q4⟩ := psum_turn hps
      rw [List.cons_append, List.cons_append, List.cons_append] at N1
      have F2 := fr_know (fr_know (fr_know F1 hm3) (x := Str.ofString "left") (r := .ref Lf1) (by rw [if_neg (by decide)]; exact hm2)) (x := Str.ofString "total") (r := .ref T) (by rw [if_neg (by decide), if_neg (by decide)]; exact hm1)
      clear F1
      (try k_unmd)
      (try k_fold)
      k_steps
      unfold Stop
      (rename News _ _ _ _ => nE)
      (rename Fr _ _ _ _ => fE)
      refine' parted_end fE nE (by rfl) (by rfl) (by rfl) ?mT ?mD ?mL ?hn ?hlt hoff q4
      case mT => k_mem
      case mD => k_mem
      case mL => k_mem
      case hn => kcf_all
      case hlt => first | exact (by assumption : _ ∧ _ ∧ _ ∧ _ ∧ AllLt _ _).2.2.2.2 | exact (by assumption : _ ∧ _ ∧ _ ∧ AllLt _ _).2.2.2
    case kd =>
      rintro m₁ nx h tk ⟨T, t, u, n, x, y, hm1, hm2, hm3, hps, rfl⟩ F1 N1
      rw [hvl, List.drop_length] at hps
      unfold psum at hps
      obtain ⟨rfl, rfl⟩ := Prod.mk.inj (Option.some.inj hps)
      have F2 := fr_know0 (fr_know0 (fr_know0 F1 hm3) (x := Str.ofString "left") (r := .ref Lf1) (by rw [if_neg (by decide)]; exact hm2)) (x := Str.ofString "total") (r := .ref T) (by rw [if_neg (by decide), if_neg (by decide)]; exact hm1)
      clear F1
      have hxx := rt_mul (a := x) hb.1
      have hbS : Sm y := by omega
      have e1 : (rt (x * y) (y * 1)).1 = x := by rw [hxx]
      have e2 : (rt (x * y) (y * 1)).2 = 1 := by rw [hxx]
      k_with "ne1" => assumption
      k_with "ne2" => assumption
      dsimp only
      (try k_unmd)
      (try k_fold)
      k_steps
      (rename News _ _ _ _ => nE)
      (rename Fr _ _ _ _ => fE)
      refine hret _ news _ _ fE (cb_drop nE ?_) ⟨rfl, rfl⟩
      kcf_all
  · obtain ⟨j, rfl, hok, hrun'⟩ := prun_turn hp0 hrun
    unfold pok at hok
    simp only [Bool.and_eq_true, decide_eq_true_eq, Bool.or_eq_true] at hok
    obtain ⟨⟨⟨⟨⟨⟨⟨⟨⟨⟨⟨⟨⟨⟨o1, o2⟩, o3⟩, o4⟩, o5⟩, o6⟩, o7⟩, o8⟩, o9⟩, o10⟩, o11⟩, o12⟩, o13⟩, o14⟩, o15⟩ := hok
    unfold plft at o11 o12 o13 o14 hrun'
    unfold pbot at o9 o10 o11 o12 o13 o14 o15 hrun'
    have s1 : 0 < p ∧ p < 2 ^ 60 := ⟨o1, o2⟩
    have s2 : Sm q := by omega
    have s3 : 0 < (rt q p).2 ∧ (rt q p).2 < 2 ^ 60 := ⟨o7, o8⟩
    have s4 : Sm p := by omega
    have s5 : 0 < q ∧ q < 2 ^ 60 := ⟨o3, o4⟩
    have s6 := And.intro o9 o10
    (try k_unmd)
    k_fold
    k_with "state" => exact ⟨by omega, j, by (simp only [List.length_append, List.length_cons, List.length_nil]; omega), hrun'⟩
    k_with "measure" => omega
    have hl15 : ns ≠ [] → _ := fun h => o15.resolve_left (by simpa using h)
    (try k_unmd)
    k_steps
    all_goals first
      | (exfalso; omega)
      | (exfalso; have h := hl15 (of_decide_eq_false (by assumption)); omega)
      | (unfold Stop
         (try dsimp only)
         (rename News _ _ _ _ => nE)
         (rename Fr _ _ _ _ => fE)
         refine' skip_end fE nE ?hs ?hb
         case hs => kcf_all
         case hb => first | rfl | exact decide_eq_false (by omega) | exact decide_eq_false (by (have := hl15 (of_decide_eq_false (by assumption))); omega))
end

/-! ## D9 -/
section
theorem part_D9 : True := by
  w_top off
  k_with_none
  trivial
local macro_rules | `(tactic| walk_at "mine pad") => `(tactic| skip)
local macro_rules | `(tactic| k_mem) => `(tactic| assumption)
local macro_rules | `(tactic| is_list) => `(tactic| exact News.isList (by assumption) (by k_mem))
local macro_rules | `(tactic| k_all) => `(tactic| first | assumption | exact allLt_ne (by assumption) | exact lt_ne (by assumption))
local macro_rules | `(tactic| walk_at "call builtin:len") => `(tactic| (k_here; (with_reducible show wpAny _ _ (call (Value.builtin _) [Value.ref _]) _ _ _); k_dflt (refine' len_list ?kl ?kn ?kf ?_; (case kl => is_list); (case kn => with_reducible assumption); (case kf => omega); k_whole)))
theorem brew_news {h₀ h : Heap} {L Kt : Addr} {o : Obj} {own rest : List (Addr × Obj)} {g : Obj → List (Addr × Obj)} (hg : ∀ o', g o' = own ++ (Kt, o') :: rest) (N : News h₀ L h ((Kt, o) :: (own ++ rest))) : News h₀ L h (g o) := fun p hp => N p (by
  rw [hg] at hp
  rcases List.mem_append.mp hp with h | h
  · exact .tail _ (List.mem_append_left _ h)
  · rcases List.mem_cons.mp h with e | h
    · rw [e]; exact .head _
    · exact .tail _ (List.mem_append_right _ h))
set_option maxRecDepth 100000
set_option maxHeartbeats 8000000 in
theorem con_brew (w : World) (news : List (Addr × Obj)) (Kt S : Addr) (k many : Int) (tk tm : Tok) (nk ns : Nat) (sv : List Value) (sn : List Int) (g : Obj → List (Addr × Obj)) (U : UpdF Kt (listOf #[.ref S, .int k tk] nk) news g) (hS : (S, listOf sv.toArray ns) ∈ news) (hi : IntsAre sv sn) (hn : sn.length < 100)
    (hk : k = 0 ∨ k = 1 ∨ k = 2 ∨ k = 3) (hm : 0 < many) (hKS : @Ne Nat S Kt) :
    Con w 146 2 news [.ref Kt, .int many tm] (fun r news' => (∃ e t, r = .int e t ∧ 0 ≤ e ∧ e < many) ∧ ∃ t n, news' = g (listOf #[.ref S, .int (k + 1) t] n)) := by
  obtain ⟨own, rest, e0, hg, h1, h2⟩ := U.split
  have hS' : (S, listOf sv.toArray ns) ∈ own ++ rest := by
    rw [e0] at hS
    rcases List.mem_append.mp hS with h | h
    · exact List.mem_append_left _ h
    · rcases List.mem_cons.mp h with e | h
      · exact absurd (congrArg Prod.fst e) hKS
      · exact List.mem_append_right _ h
  have hne : ∀ p ∈ own ++ rest, p.1 ≠ Kt := fun p hp => (List.mem_append.mp hp).elim (h1 p) (h2 p)
  have hsv : sv.length = sn.length := hi.length
  unfold Con
  intro mean mg mb dp un gd cn cs a' ccd cl outer A₀ base h₀ L m s Q E B F X N T hkf hd hu hret
  have N1 : News h₀ L s.heap ((Kt, listOf #[.ref S, .int k tk] nk) :: (own ++ rest)) := fun p hp => N p (by
    rw [e0]
    rcases List.mem_cons.mp hp with e | hp
    · rw [e]; exact List.mem_append_right _ (.head _)
    · exact (List.mem_append.mp hp).elim (fun h => List.mem_append_left _ h) fun h => List.mem_append_right _ (.tail _ h))
  clear N
  k_with_none
  rcases hk with rfl | rfl | rfl | rfl
  all_goals (refine wpAny_call ?_; k_dflt ktr_enter; k_steps)
  all_goals (rename News _ _ _ _ => nE)
  all_goals (rename Fr _ _ _ _ => fE)
  all_goals exact hret _ _ _ _ fE (brew_news hg nE) ⟨⟨_, _, rfl, fmod_lo _ hm, fmod_hi _ hm⟩, _, _, rfl⟩
end

/-! ## M1 -/
section
theorem part_M1 : True := by
  w_top off
  k_with_none
  trivial
/-- the step i of t / b: its first i + 1 wholes put together -/
noncomputable def conv (i : Nat) (t b : Int) : Int × Int := cv ((ql t b).take (i + 1))
theorem conv_zero {t b : Int} (hb : 0 < b) : conv 0 t b = (t / b, 1) := by
  unfold conv
  rw [ql_pos hb]
  simp [cv]
theorem conv_succ {i : Nat} {t b : Int} (hb : 0 < b) : conv (i + 1) t b = (t / b * (conv i b (t % b)).1 + (conv i b (t % b)).2, (conv i b (t % b)).1) := by
  unfold conv
  rw [ql_pos hb, List.take_succ_cons]
  rfl
theorem len_pos {t b : Int} (hb : 0 < b) : (ql t b).length = (ql b (t % b)).length + 1 := by rw [ql_pos hb]; rfl
theorem len_nil {t b : Int} (hb : ¬ 0 < b) : (ql t b).length = 0 := by rw [ql_nil hb]; rfl
theorem ql_len : ∀ (k : Nat) (t b : Int), b < 2 ^ k → (ql t b).length ≤ 2 * k := by
  intro k
  induction k with
  | zero => intro t b h; rw [len_nil (by omega)]; omega
  | succ k ih =>
    intro t b h
    by_cases hb : 0 < b
    · rw [len_pos hb]
      by_cases hr : 0 < t % b
      · rw [len_pos hr]
        have h1 := Int.emod_lt_of_pos t hb
        have h2 := Int.emod_lt_of_pos b hr
        have h3 : 1 ≤ b / (t % b) := (Int.le_ediv_iff_mul_le hr).mpr (by omega)
        have h4 := Int.mul_le_mul_of_nonneg_left h3 (Int.le_of_lt hr)
        have h5 := Int.mul_ediv_add_emod b (t % b)
        have h6 : b % (t % b) < 2 ^ k := by
          have : (2 : Int) ^ (k + 1) = 2 ^ k * 2 := Int.pow_succ 2 k
          omega
        have := ih (t % b) (b % (t % b)) h6
        omega
      · rw [len_nil hr]; omega
    · rw [len_nil hb]; omega
theorem ql_mul {g : Int} (hg : 0 < g) : ∀ (k : Nat) (p q : Int), q.toNat < k → ql (g * p) (g * q) = ql p q := by
  intro k
  induction k with
  | zero => intro p q h; omega
  | succ k ih =>
    intro p q h
    by_cases hq : 0 < q
    · rw [ql_pos hq, ql_pos (Int.mul_pos hg hq), Int.mul_ediv_mul_of_pos _ _ hg, Int.mul_emod_mul_of_pos _ _ hg, ih]
      have := Int.emod_lt_of_pos p hq
      omega
    · rw [ql_nil hq, ql_nil]
      intro h1
      have := Int.mul_nonneg (Int.le_of_lt hg) (show 0 ≤ -q by omega)
      have e := Int.mul_neg g q
      omega
/-- what a / b in its least form is -/
theorem rt_facts {x y : Int} (hy : 0 < y) : ∃ g, 0 < g ∧ x = g * (rt x y).1 ∧ y = g * (rt x y).2 ∧ 0 < (rt x y).2 ∧ (rt x y).2 ≤ y ∧ (rt x y).1.natAbs ≤ x.natAbs ∧ Int.gcd (rt x y).1 (rt x y).2 = 1 := by
  have hg : 0 < Int.gcd x y := Int.gcd_pos_of_ne_zero_right _ (by omega)
  have hg' : (0 : Int) < (Int.gcd x y : Int) := by omega
  obtain ⟨p, hp⟩ := Int.gcd_dvd_left x y
  obtain ⟨q, hq⟩ := Int.gcd_dvd_right x y
  have hcop : Int.gcd p q = 1 := by
    have h1 : Int.gcd ((Int.gcd x y : Int) * p) ((Int.gcd x y : Int) * q) = Int.gcd x y := by rw [← hp, ← hq]
    rw [Int.gcd_mul_left] at h1
    have h2 : (Int.gcd x y : Int).natAbs = Int.gcd x y := by omega
    rw [h2] at h1
    exact Nat.eq_of_mul_eq_mul_left hg (by omega)
  have e : rt x y = (p, q) := by
    unfold rt
    generalize (Int.gcd x y : Int) = g at *
    rw [hp, hq, Int.mul_ediv_cancel_left _ (by omega), Int.mul_ediv_cancel_left _ (by omega)]
  rw [e]
  dsimp only
  generalize (Int.gcd x y : Int) = g at *
  have hq0 : 0 < q := by
    rcases Int.lt_or_le 0 q with h | h
    · exact h
    · exfalso
      have := Int.mul_le_mul_of_nonneg_left h (Int.le_of_lt hg')
      omega
  refine ⟨g, hg', hp, hq, hq0, ?_, ?_, hcop⟩
  · have := Int.mul_le_mul_of_nonneg_right (show (1 : Int) ≤ g by omega) (Int.le_of_lt hq0)
    omega
  · rw [hp, Int.natAbs_mul]
    exact Nat.le_mul_of_pos_left _ (by omega)
theorem cv_ql : ∀ (k : Nat) (t b : Int), b.toNat < k → 0 < b → Int.gcd t b = 1 → cv (ql t b) = (t, b) := by
  intro k
  induction k with
  | zero => intro t b h; omega
  | succ k ih =>
    intro t b h hb hg
    rw [ql_pos hb]
    have h1 := Int.emod_lt_of_pos t hb
    have h2 := Int.emod_nonneg t (show b ≠ 0 by omega)
    have h3 := Int.mul_ediv_add_emod t b
    by_cases hr : 0 < t % b
    · have := ih b (t % b) (by omega) hr (by rw [Int.gcd_comm]; exact gcd_rest hg)
      show (t / b * (cv (ql b (t % b))).1 + (cv (ql b (t % b))).2, (cv (ql b (t % b))).1) = (t, b)
      rw [this]
      dsimp only
      rw [Int.mul_comm (t / b) b, h3]
    · have e0 : t % b = 0 := by omega
      have e1 := gcd_rest hg
      rw [e0, Int.gcd_zero_left] at e1
      have e2 : b = 1 := by omega
      rw [ql_nil hr, cv1, e2, Int.ediv_one]
/-- bounds of the steps -/
theorem conv_bnd : ∀ (i : Nat) (t b : Int), 0 < b → 0 < (conv i t b).2 ∧ (conv i t b).2 ≤ b ∧ (b ≤ t → 0 < (conv i t b).1 ∧ (conv i t b).1 ≤ t) := by
  intro i
  induction i with
  | zero =>
    intro t b hb
    rw [conv_zero hb]
    refine ⟨by dsimp only; omega, by dsimp only; omega, fun h => ⟨?_, ?_⟩⟩
    · have := (Int.le_ediv_iff_mul_le (c := b) (a := 1) (b := t) hb).mpr (by omega)
      dsimp only; omega
    · exact Int.ediv_le_self b (by omega)
  | succ i ih =>
    intro t b hb
    have h1 := Int.emod_lt_of_pos t hb
    have h2 := Int.emod_nonneg t (show b ≠ 0 by omega)
    have h3 := Int.mul_ediv_add_emod t b
    by_cases hr : 0 < t % b
    · rw [conv_succ hb]
      obtain ⟨a1, a2, a3⟩ := ih b (t % b) hr
      obtain ⟨a4, a5⟩ := a3 (by omega)
      dsimp only
      refine ⟨a4, a5, fun h => ?_⟩
      have h4 : 1 ≤ t / b := (Int.le_ediv_iff_mul_le hb).mpr (by omega)
      have h5 := Int.mul_le_mul_of_nonneg_left a5 (show 0 ≤ t / b by omega)
      have h6 := Int.mul_pos (show 0 < t / b by omega) a4
      have h7 := Int.mul_comm b (t / b)
      omega
    · have e0 : conv (i + 1) t b = (t / b, 1) := by
        unfold conv
        rw [ql_pos hb, ql_nil hr]
        simp [cv]
      rw [e0]
      refine ⟨by dsimp only; omega, by dsimp only; omega, fun h => ⟨?_, ?_⟩⟩
      · have := (Int.le_ediv_iff_mul_le (c := b) (a := 1) (b := t) hb).mpr (by omega)
        dsimp only; omega
      · exact Int.ediv_le_self b (by omega)
/-- how far the step i is from t / b, over the product of the bottoms -/
noncomputable def dd (i : Nat) (t b : Int) : Int := (conv i t b).1 * b - t * (conv i t b).2
theorem dd_zero {t b : Int} (hb : 0 < b) : dd 0 t b = -(t % b) := by
  unfold dd
  rw [conv_zero hb]
  have h3 := Int.mul_ediv_add_emod t b
  have h4 := Int.mul_comm b (t / b)
  dsimp only
  omega
theorem dd_succ {i : Nat} {t b : Int} (hb : 0 < b) : dd (i + 1) t b = -(dd i b (t % b)) := by
  unfold dd
  rw [conv_succ hb]
  have h3 := Int.mul_ediv_add_emod t b
  generalize (conv i b (t % b)).1 = p
  generalize (conv i b (t % b)).2 = q
  generalize t % b = r at *
  generalize t / b = a at *
  subst h3
  grind
theorem len_iff {t b : Int} : 0 < (ql t b).length ↔ 0 < b := by
  by_cases hb : 0 < b
  · rw [len_pos hb]; omega
  · rw [len_nil hb]; omega
theorem dd_sign : ∀ (i : Nat) (t b : Int), 0 < b → i < (ql t b).length → (i + 1 = (ql t b).length → dd i t b = 0) ∧ (i + 1 < (ql t b).length → (i % 2 = 0 → dd i t b < 0) ∧ (i % 2 = 1 → 0 < dd i t b)) := by
  intro i
  induction i with
  | zero =>
    intro t b hb hi
    have h2 := Int.emod_nonneg t (show b ≠ 0 by omega)
    have h3 := len_iff (t := b) (b := t % b)
    rw [dd_zero hb, len_pos hb]
    omega
  | succ i ih =>
    intro t b hb hi
    rw [len_pos hb] at hi ⊢
    have hr := (len_iff (t := b) (b := t % b)).mp (by omega)
    have := ih b (t % b) hr (by omega)
    rw [dd_succ hb]
    omega
theorem dd_less : ∀ (i : Nat) (t b : Int), 0 < b → i + 1 < (ql t b).length → (dd (i + 1) t b).natAbs < (dd i t b).natAbs := by
  intro i
  induction i with
  | zero =>
    intro t b hb hi
    rw [len_pos hb] at hi
    have hr := (len_iff (t := b) (b := t % b)).mp (by omega)
    rw [dd_succ hb, dd_zero hr, dd_zero hb]
    have h1 := Int.emod_lt_of_pos b hr
    have h2 := Int.emod_nonneg b (show t % b ≠ 0 by omega)
    omega
  | succ i ih =>
    intro t b hb hi
    rw [len_pos hb] at hi
    have hr := (len_iff (t := b) (b := t % b)).mp (by omega)
    rw [dd_succ hb, dd_succ hb (i := i)]
    have := ih b (t % b) hr (by omega)
    omega
/-- neighbouring steps -/
theorem det_is : ∀ (i : Nat) (t b : Int), 0 < b → i + 1 < (ql t b).length → (conv (i + 1) t b).1 * (conv i t b).2 - (conv i t b).1 * (conv (i + 1) t b).2 = if i % 2 = 0 then 1 else -1 := by
  intro i
  induction i with
  | zero =>
    intro t b hb hi
    rw [len_pos hb] at hi
    have hr := (len_iff (t := b) (b := t % b)).mp (by omega)
    rw [conv_succ hb, conv_zero hr, conv_zero hb]
    simp
    grind
  | succ i ih =>
    intro t b hb hi
    rw [len_pos hb] at hi
    have hr := (len_iff (t := b) (b := t % b)).mp (by omega)
    have h := ih b (t % b) hr (by omega)
    rw [conv_succ hb (i := i + 1), conv_succ hb (i := i)]
    generalize conv (i + 1) b (t % b) = x at *
    generalize conv i b (t % b) = y at *
    generalize t / b = a
    obtain ⟨x1, x2⟩ := x
    obtain ⟨y1, y2⟩ := y
    dsimp only at *
    have e : (a * x1 + x2) * y1 - (a * y1 + y2) * x1 = -(x1 * y2 - y1 * x2) := by grind
    rw [e, h]
    split <;> split <;> omega
theorem conv_mono : ∀ (i : Nat) (t b : Int), 0 < b → i + 1 < (ql t b).length → (conv i t b).2 ≤ (conv (i + 1) t b).2 ∧ (b ≤ t → (conv i t b).1 ≤ (conv (i + 1) t b).1) := by
  intro i
  induction i with
  | zero =>
    intro t b hb hi
    rw [len_pos hb] at hi
    have hr := (len_iff (t := b) (b := t % b)).mp (by omega)
    have h1 := Int.emod_lt_of_pos t hb
    have h2 : 1 ≤ b / (t % b) := (Int.le_ediv_iff_mul_le hr).mpr (by omega)
    rw [conv_succ hb, conv_zero hr, conv_zero hb]
    dsimp only
    refine ⟨h2, fun h => ?_⟩
    have h4 : 1 ≤ t / b := (Int.le_ediv_iff_mul_le hb).mpr (by omega)
    have h5 := Int.mul_le_mul_of_nonneg_left h2 (show 0 ≤ t / b by omega)
    omega
  | succ i ih =>
    intro t b hb hi
    rw [len_pos hb] at hi
    have hr := (len_iff (t := b) (b := t % b)).mp (by omega)
    have h1 := Int.emod_lt_of_pos t hb
    obtain ⟨h2, h3⟩ := ih b (t % b) hr (by omega)
    have h3 := h3 (by omega)
    rw [conv_succ hb (i := i + 1), conv_succ hb (i := i)]
    dsimp only
    refine ⟨h3, fun h => ?_⟩
    have h4 : 1 ≤ t / b := (Int.le_ediv_iff_mul_le hb).mpr (by omega)
    have h5 := Int.mul_le_mul_of_nonneg_left h3 (show 0 ≤ t / b by omega)
    omega
theorem drop_ql : ∀ (j : Nat) (t b : Int), 0 < b → j < (ql t b).length → ∃ x y, (ql t b).drop j = ql x y ∧ 0 < y ∧ y ≤ b ∧ (j = 0 → x = t ∧ y = b) ∧ (0 < j → y < x ∧ x ≤ b) := by
  intro j
  induction j with
  | zero => intro t b hb _; exact ⟨t, b, rfl, hb, Int.le_refl _, fun _ => ⟨rfl, rfl⟩, fun h => absurd h (by omega)⟩
  | succ j ih =>
    intro t b hb hj
    rw [len_pos hb] at hj
    have hr := (len_iff (t := b) (b := t % b)).mp (by omega)
    have h1 := Int.emod_lt_of_pos t hb
    obtain ⟨x, y, e, h2, h3, h4, h5⟩ := ih b (t % b) hr (by omega)
    refine ⟨x, y, ?_, h2, by omega, fun h => absurd h (by omega), fun _ => ?_⟩
    · rw [ql_pos hb, List.drop_succ_cons, e]
    · by_cases hj0 : j = 0
      · have := h4 hj0; omega
      · have := h5 (by omega); omega
end

/-! ## D9b -/
section
theorem part_D9b : True := by
  w_top off
  k_with_none
  trivial
/-- the nearest whole -/
def rnd (a b : Int) : Int := if a < 0 then -((2 * (a.natAbs : Int) + b) / (2 * b)) else (2 * (a.natAbs : Int) + b) / (2 * b)
/-- the whole towards nought -/
def tzr (a b : Int) : Int := if a < 0 then -(-a / b) else a / b
theorem con_tz' (w : World) (news : List (Addr × Obj)) (x : Addr) (a b : Int) (ta tb : Tok) (nx : Nat) (mx : (x, tupO a b ta tb nx) ∈ news) (hb : 0 < b ∧ b < 2 ^ 60) : Con w 123 2 news [.ref x] (IsI (tzr a b) news) := con_tz w news x a b ta tb nx mx hb
theorem con_round' (w : World) (news : List (Addr × Obj)) (x : Addr) (a b : Int) (ta tb : Tok) (nx : Nat) (mx : (x, tupO a b ta tb nx) ∈ news) (ha : Sm a) (hb : 0 < b ∧ b < 2 ^ 60) : Con w 130 2 news [.ref x] (IsI (rnd a b) news) := con_round w news x a b ta tb nx mx ha hb
/-- what the law asks of the first fraction -/
structure XOk (t b : Int) : Prop where
  sp : Sm (rt t b).1
  sq : 0 < (rt t b).2 ∧ (rt t b).2 < 2 ^ 60
  cop : Int.gcd (rt t b).1 (rt t b).2 = 1
  len : (ql (rt t b).1 (rt t b).2).length < 20
  pos : 0 < (ql (rt t b).1 (rt t b).2).length
  quo : ql (rt t b).1 (rt t b).2 = ql t b
  rs : Sm (rnd (rt t b).1 (rt t b).2)
  g1 : Sm (rt ((rt t b).1 * 1 - rnd (rt t b).1 (rt t b).2 * (rt t b).2) ((rt t b).2 * 1)).2
  o1 : cmp3 ((rt ((rt t b).1 * 1 - rnd (rt t b).1 (rt t b).2 * (rt t b).2) ((rt t b).2 * 1)).1 * 2) (1 * (rt ((rt t b).1 * 1 - rnd (rt t b).1 (rt t b).2 * (rt t b).2) ((rt t b).2 * 1)).2) ≤ 0
  o2 : 0 ≤ cmp3 ((rt ((rt t b).1 * 1 - rnd (rt t b).1 (rt t b).2 * (rt t b).2) ((rt t b).2 * 1)).1 * 2) (-1 * (rt ((rt t b).1 * 1 - rnd (rt t b).1 (rt t b).2 * (rt t b).2) ((rt t b).2 * 1)).2)
  tz1 : t < 0 → (rt t b).2 ≠ 1 → tzr (rt t b).1 (rt t b).2 = (ql (rt t b).1 (rt t b).2).getD 0 0 + 1
  tz2 : ¬ t < 0 ∨ (rt t b).2 = 1 → tzr (rt t b).1 (rt t b).2 = (ql (rt t b).1 (rt t b).2).getD 0 0
  tog : ∀ k, k < (ql (rt t b).1 (rt t b).2).length → TogOk ((ql (rt t b).1 (rt t b).2).take (k + 1))
  near : NearOk (rt t b).1 (rt t b).2 ((List.range (ql (rt t b).1 (rt t b).2).length).map (fun (i : Nat) => cv ((ql (rt t b).1 (rt t b).2).take (1 + (i : Int)).toNat)))
/-- what the law asks of the second fraction -/
structure POk (t b : Int) : Prop where
  sp : Sm (rt t b).1
  sq : 0 < (rt t b).2 ∧ (rt t b).2 < 2 ^ 60
  run : ∃ ps, prun 12 [] (rt t b).1 (rt t b).2 = some ps ∧ psum ps 0 1 = some ((rt t b).1, (rt t b).2)
end

/-! ## M2 -/
section
theorem part_M2 : True := by
  w_top off
  k_with_none
  trivial
theorem mul_abs {a c : Int} {m n : Nat} (ha : a.natAbs ≤ m) (hc : c.natAbs ≤ n) : (a * c).natAbs ≤ m * n := by
  rw [Int.natAbs_mul]
  exact Nat.mul_le_mul ha hc
theorem div_abs {a b : Int} {m : Nat} (ha : a.natAbs ≤ m) (hb : 0 < b) : (a / b).natAbs ≤ m := by
  rcases Int.lt_or_le a 0 with h | h
  · have h3 : a ≤ a / b := by
      refine (Int.le_ediv_iff_mul_le hb).mpr ?_
      have h5 := Int.mul_le_mul_of_nonneg_left (show (1 : Int) ≤ b by omega) (show 0 ≤ -a by omega)
      have h6 := Int.neg_mul a b
      have h7 := Int.neg_mul a 1
      omega
    have h4 := Int.ediv_neg_of_neg_of_pos h hb
    omega
  · have h3 := Int.ediv_le_self b h
    have h4 := Int.ediv_nonneg h (Int.le_of_lt hb)
    omega
theorem conv_sm {k : Nat} {p q : Int} (hq : 0 < q ∧ q ≤ 40) (hp : p.natAbs ≤ 90) (hk : k < (ql p q).length) : (conv k p q).1.natAbs ≤ 3640 := by
  have h0 := div_abs hp hq.1
  cases k with
  | zero => rw [conv_zero hq.1]; dsimp only; omega
  | succ k =>
    rw [len_pos hq.1] at hk
    have hr := (len_iff (t := q) (b := p % q)).mp (by omega)
    have h1 := Int.emod_lt_of_pos p hq.1
    rw [conv_succ hq.1]
    obtain ⟨a1, a2, a3⟩ := conv_bnd k q (p % q) hr
    obtain ⟨a4, a5⟩ := a3 (by omega)
    have h2 := mul_abs (n := 40) h0 (show (conv k q (p % q)).1.natAbs ≤ 40 by omega)
    dsimp only
    omega
theorem tog_ok {p q : Int} (hq : 0 < q ∧ q ≤ 40) (hp : p.natAbs ≤ 90) (hl : (ql p q).length < 100) {k : Nat} (hk : k < (ql p q).length) : TogOk ((ql p q).take (k + 1)) := by
  refine ⟨by rw [List.length_take]; omega, by rw [List.length_take]; omega, fun j hj => ?_⟩
  rw [List.length_take] at hj
  obtain ⟨x, y, e, h1, h2, h3, h4⟩ := drop_ql j p q hq.1 (by omega)
  have e1 : ((ql p q).take (k + 1)).getD j 0 = x / y := by
    have h5 : (ql p q)[j]? = (ql x y)[0]? := by rw [← e, List.getElem?_drop]; rfl
    rw [List.getD_eq_getElem?_getD, List.getElem?_take, if_pos (by omega), h5, ql_pos h1]
    rfl
  have e2 : ((ql p q).take (k + 1)).drop j = (ql x y).take (k - j + 1) := by
    rw [List.drop_take, e]
    congr 1
    omega
  rw [e1, e2]
  show Sm (x / y) ∧ Sm (conv (k - j) x y).1 ∧ Sm (conv (k - j) x y).2 ∧ 0 < (conv (k - j) x y).2 ∧ (0 < j → 0 < (conv (k - j) x y).1)
  obtain ⟨b1, b2, b3⟩ := conv_bnd (k - j) x y h1
  by_cases hj0 : j = 0
  · obtain ⟨rfl, rfl⟩ := h3 hj0
    subst hj0
    have c1 := div_abs hp h1
    have c2 := conv_sm hq hp (show k - 0 < _ by omega)
    exact ⟨by omega, by omega, by omega, b1, fun h => absurd h (by omega)⟩
  · obtain ⟨d1, d2⟩ := h4 (by omega)
    obtain ⟨d3, d4⟩ := b3 (by omega)
    have c1 := div_abs (show x.natAbs ≤ 40 by omega) h1
    exact ⟨by omega, by omega, by omega, b1, fun _ => d3⟩
theorem gabs_fst (g : Int × Int) : (gabs g).1 = (g.1.natAbs : Int) := by
  unfold gabs
  split
  · omega
  · dsimp only; omega
theorem cmp_lt {x y : Int} (h : x < y) : cmp3 x y = -1 := by unfold cmp3; rw [if_pos h]
theorem cmp_eq {x y : Int} (h : x = y) : cmp3 x y = 0 := by unfold cmp3; rw [if_neg (by omega), if_neg (by omega)]
theorem cmp_gt {x y : Int} (h : y < x) : cmp3 x y = 1 := by unfold cmp3; rw [if_neg (by omega), if_pos h]
theorem gap_lt {D D' Q Q' g g' a b a' b' : Int} (hg : 0 < g) (hg' : 0 < g') (hQ : 0 < Q) (hQQ : Q' ≤ Q) (hD : 0 ≤ D) (hDD : D < D') (e1 : D = g * a) (e2 : Q = g * b) (e3 : D' = g' * a') (e4 : Q' = g' * b') : a * b' < a' * b := by
  have h1 : D * Q' ≤ D * Q := Int.mul_le_mul_of_nonneg_left hQQ hD
  have h2 : D * Q < D' * Q := Int.mul_lt_mul_of_pos_right hDD hQ
  have h3 : D * Q' = (g * g') * (a * b') := by rw [e1, e4]; grind
  have h4 : D' * Q = (g * g') * (a' * b) := by rw [e3, e2]; grind
  have h5 : (g * g') * (a * b') < (g * g') * (a' * b) := by omega
  exact Int.lt_of_mul_lt_mul_left h5 (Int.le_of_lt (Int.mul_pos hg hg'))
theorem cs_get {p q : Int} {i : Nat} {c : Int × Int} (h : ((List.range (ql p q).length).map (fun (i : Nat) => cv ((ql p q).take (1 + (i : Int)).toNat)))[i]? = some c) : i < (ql p q).length ∧ c = conv i p q := by
  rw [List.getElem?_map] at h
  by_cases hi : i < (ql p q).length
  · rw [List.getElem?_range hi] at h
    refine ⟨hi, ?_⟩
    have h1 := Option.some.inj h
    rw [← h1]
    show cv ((ql p q).take (1 + (i : Int)).toNat) = conv i p q
    rw [show (1 + (i : Int)).toNat = i + 1 by omega]
    rfl
  · rw [List.getElem?_eq_none (by simpa using hi)] at h
    cases h
theorem near_ok {p q : Int} (hq : 0 < q ∧ q ≤ 40) (hp : p.natAbs ≤ 90) (hg : Int.gcd p q = 1) : NearOk p q ((List.range (ql p q).length).map (fun (i : Nat) => cv ((ql p q).take (1 + (i : Int)).toNat))) := by
  have hn : ((List.range (ql p q).length).map (fun (i : Nat) => cv ((ql p q).take (1 + (i : Int)).toNat))).length = (ql p q).length := by simp
  have hpos : 0 < (ql p q).length := len_iff.mpr hq.1
  have bnd : ∀ i, i < (ql p q).length → (conv i p q).1.natAbs ≤ 3640 ∧ 0 < (conv i p q).2 ∧ (conv i p q).2 ≤ 40 := fun i hi => by
    obtain ⟨b1, b2, _⟩ := conv_bnd i p q hq.1
    exact ⟨conv_sm hq hp hi, b1, by omega⟩
  have gp : ∀ i, i < (ql p q).length → ∃ g, 0 < g ∧ dd i p q = g * (gap p q (conv i p q)).1 ∧ (conv i p q).2 * q = g * (gap p q (conv i p q)).2 ∧ 0 < (gap p q (conv i p q)).2 ∧ (gap p q (conv i p q)).2 < 2 ^ 60 ∧ Sm (gap p q (conv i p q)).1 ∧ 0 < (conv i p q).2 * q := fun i hi => by
    obtain ⟨b1, b2, b3⟩ := bnd i hi
    have h1 : 0 < (conv i p q).2 * q := Int.mul_pos b2 hq.1
    obtain ⟨g, g1, g2, g3, g4, g5, g6, _⟩ := rt_facts (x := dd i p q) h1
    have h2 := mul_abs b1 (show q.natAbs ≤ 40 by omega)
    have h3 := mul_abs hp (show (conv i p q).2.natAbs ≤ 40 by omega)
    have h4 := mul_abs (show (conv i p q).2.natAbs ≤ 40 by omega) (show q.natAbs ≤ 40 by omega)
    have h5 : (dd i p q).natAbs ≤ 3640 * 40 + 90 * 40 := by unfold dd; omega
    exact ⟨g, g1, g2, g3, g4, (by have := g5; show (rt (dd i p q) _).2 < _; omega), (by have := g6; show Sm (rt (dd i p q) _).1; omega), h1⟩
  refine ⟨by omega, ⟨by omega, hq.1, by omega⟩, ?_, ?_, ?_, ?_, ?_, ?_⟩
  · rw [hn, List.getElem?_map, List.getElem?_range (by omega)]
    show some (cv ((ql p q).take (1 + (((ql p q).length - 1 : Nat) : Int)).toNat)) = some (p, q)
    rw [show (1 + (((ql p q).length - 1 : Nat) : Int)).toNat = (ql p q).length by omega, List.take_length, cv_ql _ p q (Nat.lt_succ_self _) hq.1 hg]
  · intro i c hc
    obtain ⟨hi, rfl⟩ := cs_get hc
    obtain ⟨b1, b2, b3⟩ := bnd i hi
    exact ⟨by omega, b2, by omega⟩
  · intro i c hc
    obtain ⟨hi, rfl⟩ := cs_get hc
    obtain ⟨g, _, _, _, h4, h5, h6, _⟩ := gp i hi
    exact ⟨h6, h4, h5⟩
  · intro i c hc
    obtain ⟨hi, rfl⟩ := cs_get hc
    rw [hn]
    obtain ⟨s1, s2⟩ := dd_sign i p q hq.1 hi
    unfold dd at s1 s2
    refine ⟨fun h => cmp_eq (by have := s1 h; omega), fun h e => cmp_lt (by have := (s2 h).1 e; omega), fun h e => cmp_gt (by have := (s2 h).2 e; omega)⟩
  · intro i c c' hc' hc
    obtain ⟨hi', rfl⟩ := cs_get hc'
    obtain ⟨hi, rfl⟩ := cs_get hc
    rw [det_is i p q hq.1 hi]
    refine rt_one ?_
    split
    · exact Int.gcd_one_left _
    · rw [show (-1 : Int) = -(1) from rfl, Int.neg_gcd]; exact Int.gcd_one_left _
  · intro i c c' hc' hc
    obtain ⟨hi', rfl⟩ := cs_get hc'
    obtain ⟨hi, rfl⟩ := cs_get hc
    obtain ⟨g, g1, g2, g3, g4, _, _, g7⟩ := gp (i + 1) hi
    obtain ⟨k, k1, k2, k3, k4, _, _, k7⟩ := gp i hi'
    refine cmp_lt ?_
    rw [gabs_fst, gabs_fst, gabs_snd, gabs_snd]
    have hm := (conv_mono i p q hq.1 hi).1
    have hm2 := Int.mul_le_mul_of_nonneg_right hm (Int.le_of_lt hq.1)
    have hl := dd_less i p q hq.1 hi
    refine gap_lt (D := ((dd (i + 1) p q).natAbs : Int)) (D' := ((dd i p q).natAbs : Int)) g1 k1 g7 hm2 (by omega) (by omega) ?_ g3 ?_ k3
    · rw [g2, Int.natAbs_mul]
      have : ((g.natAbs : Nat) : Int) = g := by omega
      rw [Int.natCast_mul, this]
    · rw [k2, Int.natAbs_mul]
      have : ((k.natAbs : Nat) : Int) = k := by omega
      rw [Int.natCast_mul, this]
theorem rnd_near {p q : Int} (hq : 0 < q) : 2 * (p * 1 - rnd p q * q) ≤ q ∧ -q ≤ 2 * (p * 1 - rnd p q * q) := by
  unfold rnd
  have h1 := Int.mul_ediv_add_emod (2 * (p.natAbs : Int) + q) (2 * q)
  have h2 := Int.emod_nonneg (2 * (p.natAbs : Int) + q) (show 2 * q ≠ 0 by omega)
  have h3 := Int.emod_lt_of_pos (2 * (p.natAbs : Int) + q) (show 0 < 2 * q by omega)
  generalize (2 * (p.natAbs : Int) + q) / (2 * q) = R at *
  generalize (2 * (p.natAbs : Int) + q) % (2 * q) = m at *
  have h4 : 2 * q * R = 2 * (R * q) := by grind
  have h5 : -R * q = -(R * q) := Int.neg_mul R q
  split <;> omega
theorem rnd_abs {p q : Int} (hq : 0 < q ∧ q ≤ 40) (hp : p.natAbs ≤ 90) : (rnd p q).natAbs ≤ 220 := by
  unfold rnd
  have h := div_abs (a := 2 * (p.natAbs : Int) + q) (b := 2 * q) (m := 220) (by omega) (by omega)
  split <;> omega
theorem tzr_up {p q : Int} (hq : 0 < q) (hp : p < 0) (hq1 : q ≠ 1) (hg : Int.gcd p q = 1) : tzr p q = p / q + 1 := by
  unfold tzr
  rw [if_pos hp]
  have h1 := Int.mul_ediv_add_emod p q
  have h2 := Int.emod_nonneg p (show q ≠ 0 by omega)
  have h3 := Int.emod_lt_of_pos p hq
  have h4 : p % q ≠ 0 := by
    intro e
    have h5 := gcd_rest hg
    rw [e, Int.gcd_zero_left] at h5
    omega
  have h6 : -p / q = -(p / q) - 1 := by
    have h7 : -p = (q - p % q) + q * (-(p / q) - 1) := by
      have : q * (-(p / q) - 1) = -(q * (p / q)) - q := by grind
      omega
    rw [h7, Int.add_mul_ediv_left _ _ (by omega), Int.ediv_eq_zero_of_lt (by omega) (by omega)]
    omega
  omega
theorem law_x {t b : Int} (h1 : -90 ≤ t ∧ t ≤ 90) (h2 : 1 ≤ b ∧ b ≤ 40) : XOk t b := by
  obtain ⟨g, hg, ht, hb, hq1, hq2, hp, hcop⟩ := rt_facts (x := t) (y := b) (by omega)
  have hlen := ql_len 6 (rt t b).1 (rt t b).2 (by omega)
  have hquo : ql (rt t b).1 (rt t b).2 = ql t b := by
    have := ql_mul hg _ (rt t b).1 (rt t b).2 (Nat.lt_succ_self _)
    rw [← ht, ← hb] at this
    exact this.symm
  have hneg : t < 0 ↔ (rt t b).1 < 0 := by
    constructor
    · intro h
      rcases Int.lt_or_le (rt t b).1 0 with h' | h'
      · exact h'
      · have := Int.mul_nonneg (Int.le_of_lt hg) h'; omega
    · intro h
      have := Int.mul_pos hg (show 0 < -(rt t b).1 by omega)
      rw [Int.mul_neg] at this
      omega
  have hw : (ql (rt t b).1 (rt t b).2).getD 0 0 = (rt t b).1 / (rt t b).2 := by rw [ql_pos hq1]; rfl
  obtain ⟨p, q, hr⟩ : ∃ p q, rt t b = (p, q) := ⟨_, _, rfl⟩
  simp only [hr] at ht hb hq1 hq2 hp hcop hlen hquo hneg hw
  have hq : 0 < q ∧ q ≤ 40 := by omega
  have hpa : p.natAbs ≤ 90 := by omega
  obtain ⟨n1, n2⟩ := rnd_near (p := p) hq1
  have hR := rnd_abs hq hpa
  obtain ⟨k, k1, k2, k3, k4, k5, _, _⟩ := rt_facts (x := p * 1 - rnd p q * q) (y := q * 1) (by omega)
  have o1 : (rt (p * 1 - rnd p q * q) (q * 1)).1 * 2 ≤ (rt (p * 1 - rnd p q * q) (q * 1)).2 := by
    refine Int.le_of_mul_le_mul_left (a := k) ?_ k1
    rw [← k3, ← Int.mul_assoc, ← k2]
    omega
  have o2 : -(rt (p * 1 - rnd p q * q) (q * 1)).2 ≤ (rt (p * 1 - rnd p q * q) (q * 1)).1 * 2 := by
    refine Int.le_of_mul_le_mul_left (a := k) ?_ k1
    rw [Int.mul_neg, ← k3, ← Int.mul_assoc, ← k2]
    omega
  constructor
  all_goals simp only [hr]
  · omega
  · omega
  · exact hcop
  · omega
  · exact len_iff.mpr hq1
  · exact hquo
  · omega
  · omega
  · unfold cmp3
    split
    · omega
    · split <;> omega
  · unfold cmp3
    split
    · omega
    · split <;> omega
  · intro h h'
    rw [hw]
    exact tzr_up hq1 (hneg.mp h) h' hcop
  · intro h
    rw [hw]
    unfold tzr
    rcases h with h | h
    · rw [if_neg (fun e => h (hneg.mpr e))]
    · rw [h, Int.ediv_one, Int.ediv_one]
      split <;> omega
  · exact fun k hk => tog_ok hq hpa (by omega) hk
  · exact near_ok hq hpa hcop
/-- the second fraction, looked at by evaluation -/
def pchk (t b : Int) : Bool := match prun 12 [] (rt t b).1 (rt t b).2 with
  | none => false
  | some ps => decide (psum ps 0 1 = some ((rt t b).1, (rt t b).2))
theorem pchk_all : ((List.range 11).all fun i => (List.range (i + 1)).all fun j => pchk ((j : Int) + 1) ((i : Int) + 2)) = true := by decide +kernel
theorem law_p {t b : Int} (h1 : 2 ≤ b ∧ b ≤ 12) (h2 : 1 ≤ t ∧ t < b) : POk t b := by
  have h := List.all_eq_true.mp pchk_all (b - 2).toNat (List.mem_range.mpr (by omega))
  have h := List.all_eq_true.mp h (t - 1).toNat (List.mem_range.mpr (by omega))
  rw [show (((t - 1).toNat : Nat) : Int) + 1 = t by omega, show (((b - 2).toNat : Nat) : Int) + 2 = b by omega] at h
  obtain ⟨g, hg, ht, hb, hq1, hq2, hp, hcop⟩ := rt_facts (x := t) (y := b) (by omega)
  refine ⟨by omega, by omega, ?_⟩
  unfold pchk at h
  split at h
  · cases h
  · rename_i ps e
    exact ⟨ps, e, of_decide_eq_true h⟩
end

/-! ## D10 -/
section
theorem part_D10 : True := by
  w_top off
  k_with_none
  trivial
local macro_rules | `(tactic| walk_at "mine pad") => `(tactic| skip)
theorem tzA {t q z g : Int} (h1 : t < 0 → q ≠ 1 → z = g + 1) (h2 : ¬ t < 0 ∨ q = 1 → z = g) (ht : t < 0) : z = g + if (!decide (q = 1)) = true then 1 else 0 := by
  by_cases e : q = 1
  · rw [h2 (.inr e)]; simp [e]
  · rw [h1 ht e]; simp [e]
theorem tzB {t q z g : Int} (h2 : ¬ t < 0 ∨ q = 1 → z = g) (ht : ¬ t < 0) : z = g + if decide (t < 0) = true then 1 else 0 := by
  rw [h2 (.inl ht)]; simp [ht]
theorem stop67 {M : Model} {A : Around} {args : List Value} {Q : Value → Shared → Prop} {E : Value → Shared → Prop} {s : Shared} (h : Stop (wpAny M A (call (.ref 67) args) Q E s)) : wpAny M A (call (.ref 67) args) Q E s := h
theorem with_ints {M : Model} {A : Around} {E : Value → Shared → Prop} {s : Shared} {f : Addr} {x y : Int} {t u : Tok} {Q : Value → Shared → Prop} (h : ∀ X Y, X = x → Y = y → wpAny M A (call (.ref f) [.int X t, .int Y u]) Q E s) : wpAny M A (call (.ref f) [.int x t, .int y u]) Q E s := h x y rfl rfl
local macro_rules | `(tactic| walk_at "mine con") => `(tactic| (
  (case k1 => k_asm); (case k2 => k_asm); (case k3 => k_asm); (case k4 => k_asm); (case k5 => k_asm); (case k6 => first | rfl | assumption);
  (case k7 => first | omega | ktr_room); (case k8 => first | omega | ktr_units)))
local macro_rules | `(tactic| walk_at "mine backI") => `(tactic| (
  intro r9 news9 h9 tk9 F9 N9 hR9; (obtain ⟨⟨t9, e9⟩, e9'⟩ := hR9); subst e9; (rw [e9'] at N9); clear e9'; (try dsimp only); (try k_fold)))

local macro_rules | `(tactic| walk_at "mine backR") => `(tactic| (
  intro r9 news9 h9 tk9 F9 N9 hR9; (obtain ⟨D9, t9, u9, n9, e9, e9', l9⟩ := hR9); subst e9; (rw [e9'] at N9); clear e9'; (try simp only [AllLt, and_true] at l9); (try dsimp only at N9); (try dsimp only); (try k_fold)))

local macro_rules | `(tactic| k_mem) => `(tactic| assumption)
local macro_rules | `(tactic| is_list) => `(tactic| exact News.isList (by assumption) (by k_mem))
local macro_rules | `(tactic| walk_at "mine backB") => `(tactic| (
  intro r9 news9 h9 tk9 F9 N9 hR9; (obtain ⟨e9, e9'⟩ := hR9); subst e9; (rw [e9'] at N9); clear e9'; (try dsimp only); (try k_fold)))
local macro_rules | `(tactic| walk_at "mine backL") => `(tactic| (
  intro r9 news9 h9 tk9 F9 N9 hR9; (obtain ⟨D9, v9, n9, e9, e9', i9, l9⟩ := hR9); subst e9; (rw [e9'] at N9); clear e9'; (try simp only [AllLt, and_true] at l9); (try dsimp only); (try k_fold)))
local macro_rules | `(tactic| walk_at "mine backW") => `(tactic| (
  intro r9 news9 h9 tk9 F9 N9 hR9; (obtain ⟨⟨b9, t9, e9, lo9, hi9⟩, u9, n9, e9'⟩ := hR9); subst e9; (rw [e9'] at N9); clear e9'; (try dsimp only at N9); (try dsimp only); (try k_fold)))
local macro_rules | `(tactic| walk_at "call ref") => `(tactic| (k_here; k_dflt ((refine' con_use (con_brew _ _ _ _ _ _ _ _ _ _ _ _ _ ?mU ?m1 ?s1 ?s2 ?s3 ?s4 ?s5) ?k1 ?k2 ?k3 ?k4 ?k5 ?k6 ?k7 ?k8 ?_); walk_at "mine con"; (case mU => k_updF); (case m1 => k_mem); (case s1 => l_ints); (case s2 => (simp only [List.length_take]; omega)); (case s3 => decide); (case s4 => omega); (case s5 => k_ne); walk_at "mine backW")))
local macro_rules | `(tactic| walk_at "call ref") => `(tactic| (k_here; k_dflt ((refine' con_use (con_order _ _ _ _ _ _ _ _ _ _ _ _ _ _ ?m1 ?m2 ?s1 ?s2) ?k1 ?k2 ?k3 ?k4 ?k5 ?k6 ?k7 ?k8 ?_); walk_at "mine con"; (case m1 => k_mem); (case m2 => k_mem); (case s1 => k_extra "sm"); (case s2 => k_extra "sm"); walk_at "mine backI")))
local macro_rules | `(tactic| walk_at "call ref") => `(tactic| (k_here; k_dflt ((refine' con_use (con_diff _ _ _ _ _ _ _ _ _ _ _ _ _ _ ?m1 ?m2 ?s1 ?s2 ?s3 ?s4) ?k1 ?k2 ?k3 ?k4 ?k5 ?k6 ?k7 ?k8 ?_); walk_at "mine con"; (case m1 => k_mem); (case m2 => k_mem); (case s1 => k_extra "sm"); (case s2 => k_extra "sm"); (case s3 => k_extra "sm"); (case s4 => k_extra "sm"); walk_at "mine backR")))
local macro_rules | `(tactic| walk_at "call ref") => `(tactic| (k_here; k_dflt ((refine' con_use (con_tz' _ _ _ _ _ _ _ _ ?m1 ?s1) ?k1 ?k2 ?k3 ?k4 ?k5 ?k6 ?k7 ?k8 ?_); walk_at "mine con"; (case m1 => k_mem); (case s1 => k_extra "sm"); walk_at "mine backI")))
local macro_rules | `(tactic| walk_at "call ref") => `(tactic| (k_here; k_dflt ((refine' con_use (con_round' _ _ _ _ _ _ _ _ ?m1 ?s1 ?s2) ?k1 ?k2 ?k3 ?k4 ?k5 ?k6 ?k7 ?k8 ?_); walk_at "mine con"; (case m1 => k_mem); (case s1 => k_extra "sm"); (case s2 => k_extra "sm"); walk_at "mine backI")))
local macro_rules | `(tactic| walk_at "call ref") => `(tactic| (k_here; k_dflt ((refine' con_use (con_whole _ _ _ _ _ _ _ _ ?m1 ) ?k1 ?k2 ?k3 ?k4 ?k5 ?k6 ?k7 ?k8 ?_); walk_at "mine con"; (case m1 => k_mem); walk_at "mine backB")))
local macro_rules | `(tactic| walk_at "call ref") => `(tactic| (k_here; k_dflt ((refine' con_use (con_wholes _ _ _ _ _ _ _ _ ?m1 ?s1 ?s2 ?s3 ?s4) ?k1 ?k2 ?k3 ?k4 ?k5 ?k6 ?k7 ?k8 ?_); walk_at "mine con"; (case m1 => k_mem); (case s1 => k_extra "sm"); (case s2 => k_extra "sm"); (case s3 => k_extra "sm"); (case s4 => k_extra "sm"); walk_at "mine backL")))
local macro_rules | `(tactic| walk_at "call ref") => `(tactic| (k_here; k_dflt ((refine' con_use (con_quots _ _ _ _ _ _  ?s1 ?s2 ?s3) ?k1 ?k2 ?k3 ?k4 ?k5 ?k6 ?k7 ?k8 ?_); walk_at "mine con"; (case s1 => k_extra "sm"); (case s2 => k_extra "sm"); (case s3 => k_extra "sm"); walk_at "mine backL")))

local macro_rules | `(tactic| walk_at "call ref") => `(tactic| (k_here; k_dflt ((refine' con_use (con_near _ _ _ _ _ _ _ _ _ _ _ _ ?m1 ?m2 ?s1 ?s2 ?s3 ?s4 ?s5) ?k1 ?k2 ?k3 ?k4 ?k5 ?k6 ?k7 ?k8 ?_); walk_at "mine con"; (case m1 => k_mem); (case m2 => k_mem); (case s1 => l_ints); (case s2 => k_extra "sm"); (case s3 => omega); (case s4 => k_extra "sm"); (case s5 => k_extra "sm"); walk_at "mine backB")))
local macro_rules | `(tactic| walk_at "call ref") => `(tactic| (k_here; k_dflt ((refine' con_use (con_parted _ _ _ _ _ _ _ _ ?m1 _ ?s1 ?s2 ?s3 ?s4) ?k1 ?k2 ?k3 ?k4 ?k5 ?k6 ?k7 ?k8 ?_); walk_at "mine con"; (case m1 => k_mem); (case s1 => k_extra "sm"); (case s2 => k_extra "sm"); (case s3 => k_extra "sm"); (case s4 => k_extra "sm"); walk_at "mine backB")))
local macro_rules | `(tactic| walk_at "call ref") => `(tactic| (k_here; k_dflt (refine stop67 ?_)))
local macro_rules | `(tactic| walk_at "SkipB") => `(tactic| refine stop_of ?_)
local macro_rules | `(tactic| walk_at "exec If") => `(tactic| (k_here; k_dflt (refine' if_skip ?kF ?kN ?_ ?_; (case kF => k_asm); (case kN => k_asm)); rotate_left; (intro h9 tk9 F9 N9); (try dsimp only); rotate_left))
set_option maxRecDepth 100000
set_option maxHeartbeats 8000000 in
theorem t1 : PySem.Challenge.rw_sz0001_01.Holds := hd (by
  k_go0
  k_with_none
  (all_goals try k_fold)
  k_steps
  unfold Stop
  refine with_ints fun X Y hX hY => ?_
  obtain ⟨x1, x2, x3, x4, x5, x6, x7, x8, x9, x10, x11, x12, x13, x14⟩ := law_x (t := X) (b := Y) (by omega) (by omega)
  have x15 : Sm (rt X Y).2 := by omega
  have x16 : (ql X Y).length < 100 := by rw [← x6]; omega
  have x17 : -(2 ^ 200) < X ∧ X < 2 ^ 200 := by omega
  have x18 : 0 < Y ∧ Y < 2 ^ 200 := by omega
  subst hX hY
  k_with "sm" => first | assumption | decide
  k_dflt (refine' con_use (con_mk _ _ _ _ _ _ x17 x18) ?k1 ?k2 ?k3 ?k4 ?k5 ?k6 ?k7 ?k8 ?_)
  walk_at "mine con"
  walk_at "mine backR"
  k_steps
  all_goals unfold Stop
  all_goals (try dsimp only)
  all_goals try
    ((rename News _ _ _ _ => nE)
     (rename Fr _ _ _ _ => fE)
     refine' skip_end fE nE ?hs ?hb
     case hs => kcf_all
     case hb => first | rfl | exact near_b (tzA x11 x12 (by assumption)) | exact near_b (tzB x12 (by assumption)))
  refine with_ints fun X Y hX hY => ?_
  obtain ⟨y1, y2, ps, y3, y4⟩ := law_p (t := X) (b := Y) (by omega) (by omega)
  have y5 : -(2 ^ 200) < X ∧ X < 2 ^ 200 := by omega
  have y6 : 0 < Y ∧ Y < 2 ^ 200 := by omega
  subst hX hY
  k_dflt (refine' con_use (con_mk _ _ _ _ _ _ y5 y6) ?k1 ?k2 ?k3 ?k4 ?k5 ?k6 ?k7 ?k8 ?_)
  walk_at "mine con"
  walk_at "mine backR"
  k_steps)
end
end Mine

theorem PySem.Challenge.cw_sz0001_01_holds : PySem.Challenge.rw_sz0001_01.Holds :=
  Mine.t1
