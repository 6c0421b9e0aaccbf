import PyProof.Rows.All
import Wide.All
import OpenK.AllK
import Wide.FinOn
import HandS.ForMost
import HandS.Gcd
import HandS.TupMul
import HandS.TupAny
import HandS.IsInst
import PySem.Challenge.RW_taprows_k71_whole_long_denominators
set_option Elab.async false
set_option linter.all false
set_option maxRecDepth 100000
set_option maxHeartbeats 4000000
namespace Kw
open PySem L2
/-! ### the text by places -/
def top (i : Nat) : Stmt := PySem.Challenge.pw_taprows_k71_whole_long_denominators.main.body.getD i (.Pass ⟨0, 0, 0, 0⟩)
abbrev s_is_int : Stmt := top 10
abbrev N_is_int : List Str := ["value"]
abbrev P_is_int : List Str := ["value"]
theorem sc_is_int : FnScope N_is_int P_is_int (defScope s_is_int) := ⟨rfl, rfl, rfl, by decide +kernel, rfl, by decide +kernel, by decide +kernel⟩
abbrev s_is_in : Stmt := top 11
abbrev N_is_in : List Str := ["value", "low", "high"]
abbrev P_is_in : List Str := ["value", "low", "high"]
theorem sc_is_in : FnScope N_is_in P_is_in (defScope s_is_in) := ⟨rfl, rfl, rfl, by decide +kernel, rfl, by decide +kernel, by decide +kernel⟩
abbrev s_need_prime : Stmt := top 12
abbrev N_need_prime : List Str := ["value"]
abbrev P_need_prime : List Str := ["value"]
theorem sc_need_prime : FnScope N_need_prime P_need_prime (defScope s_need_prime) := ⟨rfl, rfl, rfl, by decide +kernel, rfl, by decide +kernel, by decide +kernel⟩
abbrev s_need_number : Stmt := top 13
abbrev N_need_number : List Str := ["value", "low", "high"]
abbrev P_need_number : List Str := ["value", "low", "high"]
theorem sc_need_number : FnScope N_need_number P_need_number (defScope s_need_number) := ⟨rfl, rfl, rfl, by decide +kernel, rfl, by decide +kernel, by decide +kernel⟩
abbrev s_inverse : Stmt := top 15
abbrev N_inverse : List Str := ["prime", "number", "other"]
abbrev P_inverse : List Str := ["prime", "number"]
theorem sc_inverse : FnScope N_inverse P_inverse (defScope s_inverse) := ⟨rfl, rfl, rfl, by decide +kernel, rfl, by decide +kernel, by decide +kernel⟩
abbrev s_prime_factors : Stmt := top 17
abbrev N_prime_factors : List Str := ["number", "found", "told"]
abbrev P_prime_factors : List Str := ["number"]
theorem sc_prime_factors : FnScope N_prime_factors P_prime_factors (defScope s_prime_factors) := ⟨rfl, rfl, rfl, by decide +kernel, rfl, by decide +kernel, by decide +kernel⟩
abbrev s_common_multiple : Stmt := top 18
abbrev N_common_multiple : List Str := ["a", "b", "one", "other"]
abbrev P_common_multiple : List Str := ["a", "b"]
theorem sc_common_multiple : FnScope N_common_multiple P_common_multiple (defScope s_common_multiple) := ⟨rfl, rfl, rfl, by decide +kernel, rfl, by decide +kernel, by decide +kernel⟩
abbrev s_quotient_of : Stmt := top 23
abbrev N_quotient_of : List Str := ["prime", "above", "low", "count", "found", "back", "turn", "figure"]
abbrev P_quotient_of : List Str := ["prime", "above", "low", "count"]
theorem sc_quotient_of : FnScope N_quotient_of P_quotient_of (defScope s_quotient_of) := ⟨rfl, rfl, rfl, by decide +kernel, rfl, by decide +kernel, by decide +kernel⟩
abbrev s_is_fraction : Stmt := top 24
abbrev N_is_fraction : List Str := ["prime", "value"]
abbrev P_is_fraction : List Str := ["prime", "value"]
theorem sc_is_fraction : FnScope N_is_fraction P_is_fraction (defScope s_is_fraction) := ⟨rfl, rfl, rfl, by decide +kernel, rfl, by decide +kernel, by decide +kernel⟩
abbrev s_need_fraction : Stmt := top 25
abbrev N_need_fraction : List Str := ["prime", "value"]
abbrev P_need_fraction : List Str := ["prime", "value"]
theorem sc_need_fraction : FnScope N_need_fraction P_need_fraction (defScope s_need_fraction) := ⟨rfl, rfl, rfl, by decide +kernel, rfl, by decide +kernel, by decide +kernel⟩
abbrev s_lowest : Stmt := top 26
abbrev N_lowest : List Str := ["above", "low", "shared"]
abbrev P_lowest : List Str := ["above", "low"]
theorem sc_lowest : FnScope N_lowest P_lowest (defScope s_lowest) := ⟨rfl, rfl, rfl, by decide +kernel, rfl, by decide +kernel, by decide +kernel⟩
abbrev s_fraction_row : Stmt := top 27
abbrev N_fraction_row : List Str := ["prime", "fraction", "count"]
abbrev P_fraction_row : List Str := ["prime", "fraction", "count"]
theorem sc_fraction_row : FnScope N_fraction_row P_fraction_row (defScope s_fraction_row) := ⟨rfl, rfl, rfl, by decide +kernel, rfl, by decide +kernel, by decide +kernel⟩
abbrev s_order_modulo : Stmt := top 28
abbrev N_order_modulo : List Str := ["prime", "low", "found", "told", "most", "power", "part"]
abbrev P_order_modulo : List Str := ["prime", "low"]
theorem sc_order_modulo : FnScope N_order_modulo P_order_modulo (defScope s_order_modulo) := ⟨rfl, rfl, rfl, by decide +kernel, rfl, by decide +kernel, by decide +kernel⟩
abbrev s_pow_rest : Stmt := top 29
abbrev N_pow_rest : List Str := ["base", "exponent", "low", "found", "square"]
abbrev P_pow_rest : List Str := ["base", "exponent", "low"]
theorem sc_pow_rest : FnScope N_pow_rest P_pow_rest (defScope s_pow_rest) := ⟨rfl, rfl, rfl, by decide +kernel, rfl, by decide +kernel, by decide +kernel⟩
abbrev s_fraction_period : Stmt := top 30
abbrev N_fraction_period : List Str := ["prime", "fraction", "above", "low", "back", "ahead"]
abbrev P_fraction_period : List Str := ["prime", "fraction"]
theorem sc_fraction_period : FnScope N_fraction_period P_fraction_period (defScope s_fraction_period) := ⟨rfl, rfl, rfl, by decide +kernel, rfl, by decide +kernel, by decide +kernel⟩
abbrev s_long_lows : Stmt := top 31
abbrev N_long_lows : List Str := ["prime", "most", "found", "low"]
abbrev P_long_lows : List Str := ["prime", "most"]
theorem sc_long_lows : FnScope N_long_lows P_long_lows (defScope s_long_lows) := ⟨rfl, rfl, rfl, by decide +kernel, rfl, by decide +kernel, by decide +kernel⟩
abbrev s_l_taken : Stmt := top 33
abbrev N_l_taken : List Str := ["_law_row", "_law_many", "_law_found", "_law_cell"]
abbrev P_l_taken : List Str := ["_law_row", "_law_many"]
theorem sc_l_taken : FnScope N_l_taken P_l_taken (defScope s_l_taken) := ⟨rfl, rfl, rfl, by decide +kernel, rfl, by decide +kernel, by decide +kernel⟩
abbrev s_l_pick : Stmt := top 34
abbrev N_l_pick : List Str := ["_law_row", "_law_things"]
abbrev P_l_pick : List Str := ["_law_row", "_law_things"]
theorem sc_l_pick : FnScope N_l_pick P_l_pick (defScope s_l_pick) := ⟨rfl, rfl, rfl, by decide +kernel, rfl, by decide +kernel, by decide +kernel⟩
abbrev s_l_prime : Stmt := top 35
abbrev N_l_prime : List Str := ["_law_row"]
abbrev P_l_prime : List Str := ["_law_row"]
theorem sc_l_prime : FnScope N_l_prime P_l_prime (defScope s_l_prime) := ⟨rfl, rfl, rfl, by decide +kernel, rfl, by decide +kernel, by decide +kernel⟩
abbrev s_l_alike : Stmt := top 36
abbrev N_l_alike : List Str := ["_law_found", "_law_due", "_law_k"]
abbrev P_l_alike : List Str := ["_law_found", "_law_due"]
theorem sc_l_alike : FnScope N_l_alike P_l_alike (defScope s_l_alike) := ⟨rfl, rfl, rfl, by decide +kernel, rfl, by decide +kernel, by decide +kernel⟩
abbrev s_l_words : Stmt := top 37
abbrev N_l_words : List Str := ["_law_size", "_law_block", "_law_row", "_law_at"]
abbrev P_l_words : List Str := ["_law_size", "_law_block"]
theorem sc_l_words : FnScope N_l_words P_l_words (defScope s_l_words) := ⟨rfl, rfl, rfl, by decide +kernel, rfl, by decide +kernel, by decide +kernel⟩
abbrev s_l_whole_power : Stmt := top 38
abbrev N_l_whole_power : List Str := ["_law_prime_here", "_law_exponent", "_law_found", "_law_turn"]
abbrev P_l_whole_power : List Str := ["_law_prime_here", "_law_exponent"]
theorem sc_l_whole_power : FnScope N_l_whole_power P_l_whole_power (defScope s_l_whole_power) := ⟨rfl, rfl, rfl, by decide +kernel, rfl, by decide +kernel, by decide +kernel⟩
abbrev s_l_every : Stmt := top 39
abbrev N_l_every : List Str := ["_law_prime_here", "_law_size", "_law_found", "_law_turn", "_law_longer", "_law_told", "_law_number"]
abbrev P_l_every : List Str := ["_law_prime_here", "_law_size"]
theorem sc_l_every : FnScope N_l_every P_l_every (defScope s_l_every) := ⟨rfl, rfl, rfl, by decide +kernel, rfl, by decide +kernel, by decide +kernel⟩
abbrev s_law : Stmt := top 40
abbrev N_law : List Str := ["_law_script", "_law_row", "_law_prime_here", "_law_most", "_law_due", "_law_low", "_law_told", "_law_count", "_law_turn", "_law_above", "_law_block", "_law_half", "_law_at", "_law_counts", "_law_size", "_law_word", "_law_power", "_law_lots", "_law_k"]
abbrev P_law : List Str := ["_law_script"]
theorem sc_law : FnScope N_law P_law (defScope s_law) := ⟨rfl, rfl, rfl, by decide +kernel, rfl, by decide +kernel, by decide +kernel⟩
/-! ### the built-in names that nobody has bound -/
structure Bi (mg : Str → Option Value) : Prop where
  range : mg "range" = none
  len : mg "len" = none
  int : mg "int" = none
  bool : mg "bool" = none
  tuple : mg "tuple" = none
  list : mg "list" = none
  str : mg "str" = none
  isinstance : mg "isinstance" = none
  max : mg "max" = none
  min : mg "min" = none
/-! ### a def where the top has laid it, and a def that keeps its promise -/
def Has (K : PySem.W.Frag) (mg : Str → Option Value) (x : Str) (ps : List Str) (st : Stmt) : Prop :=
  ∃ (f : Addr) (fd : FuncData), Fun K x x st f fd ∧ Binds K fd ps [] ∧ mg x = some (.ref f)
def Keeps (P : Program) (w : World) (K : PySem.W.Frag) (mg : Str → Option Value) (base : Heap) (k : Nat) (x : Str) (ps : List Str) (sp : Sp) : Prop :=
  ∃ (f : Addr) (fd : FuncData), FnOk P w K mg base CX0 k f fd ps sp ∧ Binds K fd ps [] ∧ PySem.W.keepIn K (.ref f) = true ∧ mg x = some (.ref f)
section
variable {P : Program} {w : World} {K : PySem.W.Frag} {mg : Str → Option Value} {base : Heap}
theorem Has.keeps {k : Nat} {x : Str} {ps : List Str} {st : Stmt} {sp : Sp} (h : Has K mg x ps st) (ok : ∀ f fd, Fun K x x st f fd → FnOk P w K mg base CX0 k f fd ps sp) : Keeps P w K mg base k x ps sp := by
  obtain ⟨f, fd, F, b, m⟩ := h
  exact ⟨f, fd, ok f fd F, b, F.kp, m⟩
end
/-! ### heaps -/
theorem same_upd {H : Hp} {p : Addr} {o : HO} (h : H p = none) : Same H (upd H p o) := fun b x e => by
  rw [upd_ne (ne_of_none e h)]
  exact e
theorem sset {H H' : Hp} {p : Addr} {o : HO} (s : Same H H') (h : H p = none) : Same H (upd H' p o) := fun b x e => by
  rw [upd_ne (ne_of_none e h)]
  exact s b x e
theorem snew {H H' : Hp} {p : Addr} {o : HO} (s : Same H H') (h : H' p = none) : Same H (upd H' p o) := s.trans (same_upd h)
theorem sseqT {K : PySem.W.Frag} {H H' : Hp} {a : Addr} {xs : List V} (e : Same H H') (h : SqT K H a xs) : SqT K H' a xs := by
  rcases h with (h | ⟨o, h⟩) | h
  · exact .inl (.inl (e _ _ h))
  · exact .inl (.inr ⟨o, e _ _ h⟩)
  · exact .inr h
theorem small {n : Nat} (h : n ≤ 1000) : n ≤ sizeLine := Nat.le_of_lt (small1000 h)
end Kw

set_option Elab.async false
set_option linter.all false
set_option maxRecDepth 100000
set_option maxHeartbeats 4000000
namespace Kw
open PySem L2
section
variable {P : Program} {w : World} {K : PySem.W.Frag} {mg : Str → Option Value} {base : Heap}
/-! ### is_int, is_in -/
def spIsInt : Sp := fun vs H Q _ => ∃ n : Int, vs = [.int n] ∧ Q (.bl true) H
theorem d_is_int (h : Has K mg "is_int" P_is_int s_is_int) (B : Bi mg) : Keeps P w K mg base 1 "is_int" P_is_int spIsInt := h.keeps fun f fd F => by
  refine F.ok sc_is_int (fun vs H Q E h => ?_) (fun cdv A outer s H vs Q E hr h => ?_)
  · obtain ⟨n, rfl, _⟩ := h
    rfl
  · obtain ⟨n, rfl, k⟩ := h
    refine ⟨_, (pss_one (ps_ret (pe_and (pe_callB call_isi (by rfl) B.isinstance (by decide +kernel) (pa_cons (pv 0) (pa_cons (pe_bltn (v := .ty "int") (by rfl) B.int (by decide +kernel) rfl) pa_nil))) (pe_one (pe_not (pe_callB call_isi (by rfl) B.isinstance (by decide +kernel) (pa_cons (pv 0) (pa_cons (pe_bltn (v := .ty "bool") (by rfl) B.bool (by decide +kernel) rfl) pa_nil)))))))), ?_⟩
    refine ⟨_, rfl, .int n, .ty "int", .type "int", .type "int", true, rfl, .ty _, .base (.int n), kit_ty (by decide +kernel), _, rfl, iteT ?_⟩
    refine ⟨_, rfl, .int n, .ty "bool", .type "int", .type "bool", false, rfl, .ty _, .base (.int n), kit_ty (by decide +kernel), _, rfl, ?_⟩
    exact k
def spIsIn : Sp := fun vs H Q _ => ∃ v a b : Int, vs = [.int v, .int a, .int b] ∧ a ≤ v ∧ v ≤ b ∧ Q (.bl true) H
theorem d_is_in (h : Has K mg "is_in" P_is_in s_is_in) (B : Bi mg) (D1 : Keeps P w K mg base 1 "is_int" P_is_int spIsInt) : Keeps P w K mg base 2 "is_in" P_is_in spIsIn := h.keeps fun f fd F => by
  obtain ⟨f_is_int, fd_is_int, G_is_int, b_is_int, k_is_int, m_is_int⟩ := D1
  refine F.ok sc_is_in (fun vs H Q E h => ?_) (fun cdv A outer s H vs Q E hr h => ?_)
  · obtain ⟨v, a, b, rfl, _⟩ := h
    rfl
  · obtain ⟨v, a, b, rfl, h1, h2, k⟩ := h
    refine ⟨_, (pss_one (ps_ret (pe_and (pe_call G_is_int (hr.mono (by decide)) rfl m_is_int k_is_int b_is_int .nil pass0 (pa_cons (pv 0) pa_nil)) (pe_one (pe_chain op_le op_le (pv 1) (pv 0) (pv 2)))))), ?_⟩
    refine ⟨_, rfl, v, rfl, _, rfl, iteT ?_⟩
    refine ⟨_, rfl, _, rfl, _, _, rfl, rfl, _, rfl, ?_⟩
    rw [decide_eq_true h1]
    refine iteT ?_
    refine ⟨_, rfl, _, _, rfl, rfl, ?_⟩
    show Q (.bl (decide (v ≤ b))) H
    rw [decide_eq_true h2]
    exact k
/-! ### need_prime, need_number -/
def isP (p : Nat) : Prop := p = 2 ∨ p = 3 ∨ p = 5 ∨ p = 7
def spNeedPrime : Sp := fun vs H Q _ => ∃ p : Nat, vs = [.int p] ∧ isP p ∧ Q .non H
/-- the global PRIMES -/
def HasPrimes (K : PySem.W.Frag) (mg : Str → Option Value) : Prop := ∃ a, mg "PRIMES" = some (.ref a) ∧ ∀ H, SqT K H a [.int 2, .int 3, .int 5, .int 7]
theorem d_need_prime (h : Has K mg "need_prime" P_need_prime s_need_prime) (hp : HasPrimes K mg) (D1 : Keeps P w K mg base 1 "is_int" P_is_int spIsInt) : Keeps P w K mg base 2 "need_prime" P_need_prime spNeedPrime := h.keeps fun f fd F => by
  obtain ⟨f_is_int, fd_is_int, G_is_int, b_is_int, k_is_int, m_is_int⟩ := D1
  obtain ⟨aP, m_PRIMES, hT⟩ := hp
  refine F.ok sc_need_prime (fun vs H Q E h => ?_) (fun cdv A outer s H vs Q E hr h => ?_)
  · obtain ⟨p, rfl, _⟩ := h
    rfl
  · obtain ⟨p, rfl, h1, k⟩ := h
    refine ⟨_, (pss_one (ps_if (PW.pt (pw_or (pt_not (pt_val (pe_call G_is_int (hr.mono (by decide)) rfl m_is_int k_is_int b_is_int .nil pass0 (pa_cons (pv 0) pa_nil)))) (pw_or1 (pt_cmpR op_notIn_seq (pv 0) (pe_glob (v := .ref _) rfl m_PRIMES rfl) rfl)))) (pss_one ps_never) pss_nil)), ?_⟩
    refine ⟨_, rfl, _, rfl, _, rfl, ?_⟩
    refine iteF ?_
    refine ⟨_, rfl, aP, _, rfl, .inr (hT _), rfl, rfl, _, rfl, ?_⟩
    have e : inV (.int (p : Int)) [.int 2, .int 3, .int 5, .int 7] = true := by
      rcases h1 with rfl | rfl | rfl | rfl <;> rfl
    rw [e]
    exact iteF k
def spNeedNumber : Sp := fun vs H Q _ => ∃ v a b : Int, vs = [.int v, .int a, .int b] ∧ a ≤ v ∧ v ≤ b ∧ Q .non H
theorem d_need_number (h : Has K mg "need_number" P_need_number s_need_number) (D1 : Keeps P w K mg base 2 "is_in" P_is_in spIsIn) : Keeps P w K mg base 3 "need_number" P_need_number spNeedNumber := h.keeps fun f fd F => by
  obtain ⟨f_is_in, fd_is_in, G_is_in, b_is_in, k_is_in, m_is_in⟩ := D1
  refine F.ok sc_need_number (fun vs H Q E h => ?_) (fun cdv A outer s H vs Q E hr h => ?_)
  · obtain ⟨v, a, b, rfl, _⟩ := h
    rfl
  · obtain ⟨v, a, b, rfl, h1, h2, k⟩ := h
    refine ⟨_, (pss_one (ps_if (pt_not (pt_val (pe_call G_is_in (hr.mono (by decide)) rfl m_is_in k_is_in b_is_in .nil pass0 (pa_cons (pv 0) (pa_cons (pv 1) (pa_cons (pv 2) pa_nil)))))) (pss_one ps_never) pss_nil)), ?_⟩
    refine ⟨_, rfl, _, rfl, _, rfl, v, a, b, rfl, h1, h2, _, rfl, ?_⟩
    exact iteF k
end
end Kw

/-! The mirrors of the program's functions as plain Lean functions. -/
namespace Km
/-! ### mirrors -/
def inv (p n : Nat) : Option Nat := ((List.range p).filter (fun o => n * o % p == 1)).head?
def strip : Nat → Nat → Nat → Option Nat
  | 0, _, _ => none
  | f + 1, t, n => if n % t = 0 then strip f t (n / t) else some n
def pfl : Nat → List Nat → Nat → Nat → Option (List Nat)
  | 0, _, _, _ => none
  | f + 1, fo, t, n =>
    if 0 < t ∧ t < 1000 then
      if t * t ≤ n then
        if n % t = 0 then
          match strip 64 t n with
          | none => none
          | some m => pfl f (fo ++ [t]) (t + 1) m
        else pfl f fo (t + 1) n
      else some (if 1 < n then fo ++ [n] else fo)
    else none
def pf (n : Nat) : Option (List Nat) := pfl 64 [] 2 n
def powl : Nat → Nat → Nat → Nat → Nat → Option Nat
  | 0, _, _, _, _ => none
  | f + 1, low, fo, sq, e =>
    if fo < 1099511627776 ∧ sq < 1099511627776 then
      if 0 < e then powl f low (if e % 2 = 1 then fo * sq % low else fo) (sq * sq % low) (e / 2) else some fo
    else none
def powr (base e low : Nat) : Option Nat := if 0 < low then powl 64 low (1 % low) (base % low) e else none
def gl : Nat → Nat → Nat → Option Nat
  | 0, _, _ => none
  | f + 1, one, other => if 0 < other then gl f other (one % other) else some one
def cm (a b : Nat) : Option Nat :=
  match gl 64 a b with
  | none => none
  | some g => if 0 < g ∧ g < 1073741824 ∧ a < 1099511627776 then some (a * b / g) else none
def w1 : Nat → Nat → Nat → Nat → Nat → Option (Nat × Nat)
  | 0, _, _, _, _ => none
  | f + 1, low, told, most, power =>
    if 0 < power * told ∧ power < 1099511627776 ∧ most < 1099511627776 then
      if low % (power * told) = 0 then w1 f low told (most * told) (power * told) else some (most, power)
    else none
def w2 : Nat → Nat → Nat → Nat → Nat → Option Nat
  | 0, _, _, _, _ => none
  | f + 1, prime, power, part, most =>
    if 0 < part ∧ part < 1073741824 then
      if most % part = 0 then
        match powr prime (most / part) power with
        | none => none
        | some r => if r = 1 then w2 f prime power part (most / part) else some most
      else some most
    else none
def l2 (prime power : Nat) : List Nat → Nat → Option Nat
  | [], most => some most
  | part :: ps, most =>
    match w2 64 prime power part most with
    | none => none
    | some m => l2 prime power ps m
def l1 (prime low : Nat) : List Nat → Nat → Option Nat
  | [], fo => some fo
  | told :: ts, fo =>
    if 1 ≤ told then
      match w1 64 low told (told - 1) told with
      | none => none
      | some (most, power) =>
        match pf most with
        | none => none
        | some parts =>
          match l2 prime power parts most with
          | none => none
          | some m =>
            match cm fo m with
            | none => none
            | some g => l1 prime low ts g
    else none
def om (prime low : Nat) : Option Nat :=
  if low = 1 then some 1 else
    match pf low with
    | none => none
    | some ts => l1 prime low ts 1
def ltest (prime low : Nat) : Option Bool :=
  if low = prime then some false else
    match pf low with
    | none => none
    | some fs =>
      if fs = [low] then
        match om prime low with
        | none => none
        | some e => some (decide (e = low - 1))
      else some false
/-! the law's own walk -/
def divs (low : Nat) : List Nat := ((List.range (low - 2)).map (fun i => 2 + i)).filter (fun k => decide (k * k ≤ low) && decide (low % k = 0))
def wk (p low : Nat) : Nat → Nat → Nat → Nat
  | 0, _, c => c
  | n + 1, t, c => if t = 1 % low then wk p low n t c else wk p low n (t * p % low) (c + 1)
def dueB (p low : Nat) : Bool := !decide (low = p) && (divs low).isEmpty && decide (wk p low low (p % low) 1 = low - 1)
def due (p most : Nat) : List Nat := ((List.range (most - 1)).map (fun i => 2 + i)).filter (dueB p)
/-! ### the rows -/
def fig (p b a : Nat) : Nat := (p - a * b % p) % p
def nx (p b low a : Nat) : Nat := (a + fig p b a * low) / p
def iter (p b low : Nat) : Nat → Nat → Nat
  | 0, a => a
  | n + 1, a => iter p b low n (nx p b low a)
def sts (p b low : Nat) : Nat → Nat → List Nat
  | 0, _ => []
  | n + 1, a => a :: sts p b low n (nx p b low a)
def row (p b low n a : Nat) : List Nat := (sts p b low n a).map (fig p b)
def every (p : Nat) : Nat → List (List Nat)
  | 0 => [[]]
  | s + 1 => (every p s).flatMap fun t => (List.range p).map fun n => t ++ [n]
/-- what is reckoned of a prime and a low -/
def chk (p b low : Nat) : Bool :=
  ((List.range (low - 1)).all fun i =>
    decide ((i + 1 + fig p b (i + 1) * low) % p = 0) && decide (1 ≤ nx p b low (i + 1)) && decide (nx p b low (i + 1) < low) && decide (Nat.gcd (i + 1) low = 1) &&
      decide (fig p b (i + 1) + fig p b (low - (i + 1)) = p - 1) && decide (nx p b low (low - (i + 1)) = low - nx p b low (i + 1))) &&
    ((sts p b low (low - 2) (nx p b low 1)).all fun x => !decide (x = 1)) && decide (iter p b low (low - 1) 1 = 1) && (decide (low = 2) || decide (iter p b low ((low - 1) / 2) 1 = low - 1)) &&
    decide (0 < low % p) && decide (low * b % p = 1 % p)
def chk1 (p low : Nat) : Bool :=
  !dueB p low ||
    match inv p (low % p) with
    | none => false
    | some b => chk p b low && decide (om p low = some (low - 1))
end Km

set_option Elab.async false
set_option linter.all false
set_option maxRecDepth 100000
set_option maxHeartbeats 4000000
namespace Kw
open PySem L2
/-! ### numbers -/
theorem natV (n : Nat) : V.int (n : Int) = V.int ((n : Nat) : Int) := rfl
theorem b64 {n : Nat} (h : n < 1099511627776) : -(2 ^ 64) < ((n : Nat) : Int) ∧ ((n : Nat) : Int) < 2 ^ 64 := by
  constructor
  · have : (0 : Int) ≤ (n : Int) := Int.natCast_nonneg n
    omega
  · have : ((n : Nat) : Int) < 1099511627776 := by omega
    omega
theorem cMul {a b : Nat} (h : a < 1099511627776) : CMul (a : Int) (b : Int) := .inl (b64 h)
theorem dEq {a b : Nat} : decide (V.int (a : Int) = V.int (b : Int)) = decide (a = b) := by
  by_cases e : a = b
  · rw [decide_eq_true e, decide_eq_true (by rw [e])]
  · rw [decide_eq_false e]
    exact decide_eq_false fun q => e (Int.ofNat.inj (V.int.inj q))
theorem dLe {a b : Nat} : decide ((a : Int) ≤ (b : Int)) = decide (a ≤ b) := by
  by_cases e : a ≤ b
  · rw [decide_eq_true e, decide_eq_true (Int.ofNat_le.mpr e)]
  · rw [decide_eq_false e, decide_eq_false (fun q => e (Int.ofNat_le.mp q))]
theorem dLt {a b : Nat} : decide ((a : Int) < (b : Int)) = decide (a < b) := by
  by_cases e : a < b
  · rw [decide_eq_true e, decide_eq_true (Int.ofNat_lt.mpr e)]
  · rw [decide_eq_false e, decide_eq_false (fun q => e (Int.ofNat_lt.mp q))]
def inz (ns : List Nat) : List V := ns.map (fun (n : Nat) => V.int (n : Int))
theorem inz_append (a b : List Nat) : inz (a ++ b) = inz a ++ inz b := List.map_append
theorem inz_one (n : Nat) : [V.int (n : Int)] = inz [n] := rfl
theorem inz_length (a : List Nat) : (inz a).length = a.length := List.length_map _
theorem inz_get {ns : List Nat} {i : Nat} {x : V} (h : (inz ns)[i]? = some x) : ∃ n, ns[i]? = some n ∧ x = .int (n : Int) := by
  unfold inz at h
  rw [List.getElem?_map] at h
  cases e : ns[i]? with
  | none =>
    rw [e] at h
    cases h
  | some n =>
    rw [e] at h
    exact ⟨n, rfl, (Option.some.inj h).symm⟩
theorem fr_pos {q : Nat → Bool} {i : Nat} (h : q i = true) : (List.range (i + 1)).filter q = (List.range i).filter q ++ [i] := by
  rw [List.range_succ, List.filter_append]
  simp [h]
theorem fr_neg {q : Nat → Bool} {i : Nat} (h : q i = false) : (List.range (i + 1)).filter q = (List.range i).filter q := by
  rw [List.range_succ, List.filter_append]
  simp [h]
theorem fr_len {q : Nat → Bool} {i : Nat} (h : i ≤ 1000) : (inz ((List.range i).filter q)).length < sizeLine := by
  rw [inz_length]
  exact small1000 (Nat.le_trans (List.length_filter_le _ _) (by rw [List.length_range]; exact h))
section
variable {P : Program} {w : World} {K : PySem.W.Frag} {mg : Str → Option Value} {base : Heap}
/-! ### inverse -/
def spInverse : Sp := fun vs H Q _ => ∃ p n r : Nat, vs = [.int p, .int n] ∧ 0 < p ∧ p < 1000 ∧ n < 1000 ∧ Km.inv p n = some r ∧ ∀ H', Same H H' → Q (.int r) H'
theorem d_inverse (h : Has K mg "inverse" P_inverse s_inverse) (B : Bi mg) : Keeps P w K mg base 1 "inverse" P_inverse spInverse := h.keeps fun f fd F => by
  refine F.ok sc_inverse (fun vs H Q E h => ?_) (fun cdv A outer s H vs Q E hr h => ?_)
  · obtain ⟨p, n, r, rfl, _⟩ := h
    rfl
  · obtain ⟨p, n, r, rfl, h0, h1, h2, hr', k⟩ := h
    refine ⟨_, (pss_one (ps_ret (pe_ix (r := rIxL K) ix_list (pe_lc (own := [("other", 2)]) (g := gName 2) rfl sc_inverse.nd (pi_range1 (by rfl) B.range (pa_cons (pv 0) pa_nil)) (blkOk_by (own := [("other", 2)]) (N := N_inverse) (sc := defScope s_inverse) (by decide +kernel)) (fun _ _ _ _ _ => pg_name (i := 2) sc_inverse.nd rfl (Or.inl rfl)) (fun _ _ _ _ _ => (pts_one (pt_cmpR op_eq (pe_op op_mod (pe_op op_mul (pv 1) (pv 2)) (pv 0)) pe_int (nomark _)))) (fun _ _ _ _ _ => (pv 2))) pe_int (fun _ _ => rfl)))), ?_⟩
    refine ⟨_, rfl, p, rfl, by omega, by omega, fun D hD => ?_⟩
    refine lc_range (lo := 0) (n := (p : Int).toNat) (fun i H' => Same H H' ∧ H' D = some (.lst (inz ((List.range i).filter (fun o => n * o % p == 1))))) ⟨same_upd hD, upd_same⟩ ?_ ?_
    · rintro i H' hi ⟨sm, eD⟩
      have ip : i < p := by omega
      refine ⟨rfl, ?_⟩
      refine ⟨_, rfl, _, rfl, _, _, rfl, rfl, .inl (b64 (by omega)), _, rfl, _, _, rfl, rfl, (by show (0 : Int) < p; omega), rfl, _, rfl, ?_⟩
      have e1 : ((n : Int) * (0 + (i : Int)) % (p : Int)) = ((n * i % p : Nat) : Int) := by
        rw [Int.zero_add, ← Int.natCast_mul, ← Int.natCast_emod]
      have e2 : (V.int 1) = V.int ((1 : Nat) : Int) := rfl
      show if decide (V.int ((n : Int) * (0 + (i : Int)) % (p : Int)) = V.int 1) = true then _ else _
      rw [e1, e2, dEq]
      have ez : ((0 : Int) + (i : Int)) = (i : Int) := Int.zero_add _
      refine ite2 (fun c => ?_) (fun c => ?_)
      · have c' : (n * i % p == 1) = true := by simpa using c
        refine ⟨_, rfl, _, eD, fr_len (by omega), sset sm hD, ?_⟩
        rw [upd_same, fr_pos (q := fun o => n * o % p == 1) c', inz_append, ez]
        rfl
      · have c' : (n * i % p == 1) = false := by simpa using c
        refine ⟨sm, ?_⟩
        rw [eD, fr_neg (q := fun o => n * o % p == 1) c']
    · rintro H' ⟨sm, eD⟩
      have ep : ((p : Int)).toNat = p := Int.toNat_natCast p
      rw [ep] at eD
      have hh : ((List.range p).filter (fun o => n * o % p == 1))[0]? = some r := by
        rw [← List.head?_eq_getElem?]
        exact hr'
      refine ⟨D, _, ((0 : Nat) : Int), .int r, rfl, rfl, SqL.of eD, atI_nat ?_, k H' sm⟩
      unfold inz
      rw [List.getElem?_map, hh]
      rfl
end
end Kw

set_option Elab.async false
set_option linter.all false
set_option maxRecDepth 100000
set_option maxHeartbeats 4000000
namespace Kw
open PySem L2
section
variable {P : Program} {w : World} {K : PySem.W.Frag} {mg : Str → Option Value} {base : Heap}
/-! ### prime_factors -/
def spPf : Sp := fun vs H Q _ => ∃ (n : Nat) (R : List Nat), vs = [.int n] ∧ Km.pf n = some R ∧ ∀ H' r, Same H H' → H r = none → H' r = some (.lst (inz R)) → Q (.ref r) H'
theorem d_prime_factors (h : Has K mg "prime_factors" P_prime_factors s_prime_factors) : Keeps P w K mg base 1 "prime_factors" P_prime_factors spPf := h.keeps fun f fd F => by
  refine F.ok sc_prime_factors (fun vs H Q E h => ?_) (fun cdv A outer s H vs Q E hr h => ?_)
  · obtain ⟨n, R, rfl, _⟩ := h
    rfl
  · obtain ⟨n0, R, rfl, hR, k⟩ := h
    refine ⟨_, (pss_cons (ps_par (i := 1) (j := 2) rfl sc_prime_factors.nd rfl rfl (by decide) rfl rfl (pa_cons (pe_lst pa_nil) (pa_cons pe_int pa_nil)) (by rfl))
      (pss_cons (ps_while PassesOwn.never (pt_cmpR op_le (pe_op op_mul (pv 2) (pv 2)) (pv 0) (nomark _)) (pss_cons (ps_if (pt_cmpR op_eq (pe_op op_mod (pv 0) (pv 2)) pe_int (nomark _)) (pss_cons (ps_expr (pe_bm PySem.F.plainAttrs_list PySem.F.slot_list_append PySem.F.type_list_append mt_append (pv 1) (pa_cons (pv 2) pa_nil)))
      (pss_one (ps_while PassesOwn.never (pt_cmpR op_eq (pe_op op_mod (pv 0) (pv 2)) pe_int (nomark _)) (pss_one (ps_set (i := 0) sc_prime_factors.nd rfl (Or.inl rfl) (pe_op op_fdiv (pv 0) (pv 2))))))) pss_nil)
      (pss_one (ps_aug (i := 2) sc_prime_factors.nd rfl (Or.inl rfl) pe_int ip_add))))
      (pss_one (ps_ret (pe_ifExp (pt_cmpR op_gt (pv 0) pe_int (nomark _)) (pe_op op_cat (pv 1) (pe_lst (pa_cons (pv 0) pa_nil))) (pv 1)))))), ?_⟩
    refine ⟨small (by decide), fun l hl => ⟨_, _, rfl, ?_⟩⟩
    refine ⟨fun m σ H' => ∃ (n : Nat) (fo : List Nat) (t : Nat), σ = [some (.int n), some (.ref l), some (.int t)] ∧ Same H H' ∧ H' l = some (.lst (inz fo)) ∧ Km.pfl m fo t n = some R ∧ fo.length + m ≤ 100,
      ⟨64, n0, [], 2, rfl, same_upd hl, upd_same, hR, by decide⟩, ?_⟩
    rintro m σ H' ⟨n, fo, t, rfl, sm, el, hm, len⟩
    cases m with
    | zero => cases hm
    | succ f =>
    rw [Km.pfl] at hm
    by_cases ht : 0 < t ∧ t < 1000
    case neg =>
      rw [if_neg ht] at hm
      cases hm
    rw [if_pos ht] at hm
    refine ⟨_, rfl, _, rfl, _, _, rfl, rfl, cMul (by omega), _, rfl, _, _, rfl, rfl, _, rfl, ?_⟩
    show if decide ((t : Int) * (t : Int) ≤ (n : Int)) = true then _ else _
    rw [← Int.natCast_mul, dLe]
    refine ite2 (fun c => ?_) (fun c => ?_)
    · -- one turn
      have c' : t * t ≤ n := of_decide_eq_true c
      rw [if_pos c'] at hm
      refine ⟨fun σ' H' => ∃ (n : Nat) (fo : List Nat), σ' = [some (.int n), some (.ref l), some (.int (t + 1 : Nat))] ∧ Same H H' ∧ H' l = some (.lst (inz fo)) ∧ Km.pfl f fo (t + 1) n = some R ∧ fo.length + f ≤ 100,
        fun σ' H' ⟨n, fo, a, b, c, d, e⟩ => ⟨f, Nat.lt_succ_self f, n, fo, t + 1, a, b, c, d, e⟩, ?_⟩
      refine ⟨_, rfl, _, rfl, _, _, rfl, rfl, (by show (0 : Int) < t; omega), rfl, _, rfl, ?_⟩
      show if decide (V.int ((n : Int) % (t : Int)) = V.int ((0 : Nat) : Int)) = true then _ else _
      rw [← Int.natCast_emod, dEq]
      refine ite2 (fun d => ?_) (fun d => ?_)
      · have d' : n % t = 0 := of_decide_eq_true d
        rw [if_pos d'] at hm
        cases hs : Km.strip 64 t n with
        | none =>
          rw [hs] at hm
          cases hm
        | some n2 =>
        rw [hs] at hm
        refine ⟨_, rfl, .inl ⟨rfl, _, SqL.of el⟩, _, rfl, l, _, _, rfl, rfl, el, ?_, ?_⟩
        · rw [inz_length]
          exact small1000 (by omega)
        refine ⟨fun m σ H' => ∃ (n : Nat), σ = [some (.int n), some (.ref l), some (.int t)] ∧ Same H H' ∧ H' l = some (.lst (inz (fo ++ [t]))) ∧ Km.strip m t n = some n2,
          ⟨64, n, rfl, sset sm hl, by rw [upd_same, inz_append]; rfl, hs⟩, ?_⟩
        rintro m2 σ H2 ⟨n3, rfl, sm2, el2, hs2⟩
        cases m2 with
        | zero => cases hs2
        | succ g =>
        rw [Km.strip] at hs2
        refine ⟨_, rfl, _, rfl, _, _, rfl, rfl, (by show (0 : Int) < t; omega), rfl, _, rfl, ?_⟩
        show if decide (V.int ((n3 : Int) % (t : Int)) = V.int ((0 : Nat) : Int)) = true then _ else _
        rw [← Int.natCast_emod, dEq]
        refine ite2 (fun d => ?_) (fun d => ?_)
        · rw [if_pos (of_decide_eq_true d)] at hs2
          refine ⟨fun σ' H' => ∃ (n : Nat), σ' = [some (.int n), some (.ref l), some (.int t)] ∧ Same H H' ∧ H' l = some (.lst (inz (fo ++ [t]))) ∧ Km.strip g t n = some n2,
            fun σ' H' z => ⟨g, Nat.lt_succ_self g, z⟩, ?_⟩
          refine ⟨_, rfl, _, rfl, _, _, rfl, rfl, ⟨by omega, by omega⟩, n3 / t, rfl, sm2, el2, hs2⟩
        · rw [if_neg (of_decide_eq_false (Bool.eq_false_iff.mpr d))] at hs2
          have e2 : n3 = n2 := Option.some.inj hs2
          subst e2
          refine ⟨_, rfl, _, _, rfl, rfl, n3, fo ++ [t], rfl, sm2, el2, hm, ?_⟩
          rw [List.length_append, List.length_singleton]
          omega
      · have d' : ¬ n % t = 0 := of_decide_eq_false (Bool.eq_false_iff.mpr d)
        rw [if_neg d'] at hm
        refine ⟨_, rfl, _, _, rfl, rfl, n, fo, rfl, sm, el, hm, by omega⟩
    · -- the end
      have c' : ¬ t * t ≤ n := of_decide_eq_false (Bool.eq_false_iff.mpr c)
      rw [if_neg c'] at hm
      have hR' := Option.some.inj hm
      refine ⟨_, rfl, _, _, rfl, rfl, _, rfl, ?_⟩
      show if decide (((1 : Nat) : Int) < (n : Int)) = true then _ else _
      rw [dLt]
      refine ite2 (fun d => ?_) (fun d => ?_)
      · rw [if_pos (of_decide_eq_true d)] at hR'
        refine ⟨_, rfl, _, rfl, small (by show 1 ≤ 1000; decide), fun p hp => ?_⟩
        have nlp : l ≠ p := ne_of_none el hp
        refine ⟨l, p, _, _, rfl, rfl, (by rw [upd_ne nlp]; exact el), upd_same, ?_, fun q hq => ?_⟩
        · rw [inz_length]
          exact small (by show fo.length + 1 ≤ 1000; omega)
        · refine k _ q (snew (snew sm hp) hq) (Same.free (snew sm hp) hq) ?_
          rw [upd_same, ← hR', inz_append]
          rfl
      · rw [if_neg (of_decide_eq_false (Bool.eq_false_iff.mpr d))] at hR'
        refine ⟨_, rfl, k _ l sm hl ?_⟩
        rw [el, hR']
end
end Kw

set_option Elab.async false
set_option linter.all false
set_option maxRecDepth 100000
set_option maxHeartbeats 4000000
namespace Kw
open PySem L2
theorem no_dec {c : Prop} [Decidable c] (h : ¬ decide c = true) : ¬ c := fun q => h (decide_eq_true q)
theorem inz_drop {ns : List Nat} {i n : Nat} (h : ns[i]? = some n) : ns.drop i = n :: ns.drop (i + 1) := by
  obtain ⟨hi, e⟩ := List.getElem?_eq_some_iff.mp h
  rw [List.drop_eq_getElem_cons hi, e]
theorem inz_lt {ns : List Nat} {i : Nat} {x : V} (h : (inz ns)[i]? = some x) : i < ns.length := by
  have q := (List.getElem?_eq_some_iff.mp h).1
  rw [inz_length] at q
  exact q
section
variable {P : Program} {w : World} {K : PySem.W.Frag} {mg : Str → Option Value} {base : Heap}
/-! ### common_multiple -/
def spCm : Sp := fun vs H Q _ => ∃ a b g : Nat, vs = [.int a, .int b] ∧ Km.cm a b = some g ∧ Q (.int g) H
theorem d_common_multiple (h : Has K mg "common_multiple" P_common_multiple s_common_multiple) : Keeps P w K mg base 1 "common_multiple" P_common_multiple spCm := h.keeps fun f fd F => by
  refine F.ok sc_common_multiple (fun vs H Q E h => ?_) (fun cdv A outer s H vs Q E hr h => ?_)
  · obtain ⟨a, b, g, rfl, _⟩ := h
    rfl
  · obtain ⟨a, b, g, rfl, hg, k⟩ := h
    unfold Km.cm at hg
    cases hl : Km.gl 64 a b with
    | none =>
      rw [hl] at hg
      cases hg
    | some d =>
    rw [hl] at hg
    by_cases hd : 0 < d ∧ d < 1073741824 ∧ a < 1099511627776
    case neg =>
      dsimp only at hg
      rw [if_neg hd] at hg
      cases hg
    dsimp only at hg
    rw [if_pos hd] at hg
    have eg := Option.some.inj hg
    refine ⟨_, (pss_cons (ps_par (i := 2) (j := 3) rfl sc_common_multiple.nd rfl rfl (by decide) rfl rfl (pa_cons (pv 0) (pa_cons (pv 1) pa_nil)) (by rfl))
      (pss_cons (ps_while PassesOwn.never (pt_cmpR op_gt (pv 3) pe_int (nomark _)) (pss_one (ps_par (i := 2) (j := 3) rfl sc_common_multiple.nd rfl rfl (by decide) rfl rfl (pa_cons (pv 3) (pa_cons (pe_op op_mod (pv 2) (pv 3)) pa_nil)) (by rfl))))
      (pss_one (ps_ret (pe_op op_fdiv (pe_op op_mul (pv 0) (pv 1)) (pv 2)))))), ?_⟩
    refine ⟨_, rfl, _, rfl, _, _, rfl, ?_⟩
    refine ⟨fun m σ H' => ∃ x y : Nat, σ = [some (.int a), some (.int b), some (.int x), some (.int y)] ∧ H' = H ∧ Km.gl m x y = some d, ⟨64, a, b, rfl, rfl, hl⟩, ?_⟩
    rintro m σ H' ⟨x, y, rfl, rfl, hm⟩
    cases m with
    | zero => cases hm
    | succ f =>
    rw [Km.gl] at hm
    refine ⟨_, rfl, _, _, rfl, rfl, _, rfl, ?_⟩
    show if decide (((0 : Nat) : Int) < (y : Int)) = true then _ else _
    rw [dLt]
    refine ite2 (fun c => ?_) (fun c => ?_)
    · have c' := of_decide_eq_true c
      rw [if_pos c'] at hm
      refine ⟨fun σ' H'' => ∃ x y : Nat, σ' = [some (.int a), some (.int b), some (.int x), some (.int y)] ∧ H'' = H' ∧ Km.gl f x y = some d, fun σ' H'' z => ⟨f, Nat.lt_succ_self f, z⟩, ?_⟩
      refine ⟨_, rfl, _, rfl, _, rfl, _, _, rfl, rfl, (by show (0 : Int) < y; omega), _, _, rfl, y, x % y, rfl, rfl, hm⟩
    · rw [if_neg (no_dec c)] at hm
      have ex := Option.some.inj hm
      subst ex
      refine ⟨_, rfl, _, rfl, _, _, rfl, rfl, cMul (by omega), _, rfl, _, _, rfl, rfl, ⟨by omega, by omega⟩, ?_⟩
      show Q (.int ((a : Int) * (b : Int) / (x : Int))) H'
      rw [← Int.natCast_mul, ← Int.natCast_ediv, eg]
      exact k
/-! ### pow_rest -/
def spPow : Sp := fun vs H Q _ => ∃ b e low r : Nat, vs = [.int b, .int e, .int low] ∧ Km.powr b e low = some r ∧ Q (.int r) H
theorem d_pow_rest (h : Has K mg "pow_rest" P_pow_rest s_pow_rest) : Keeps P w K mg base 1 "pow_rest" P_pow_rest spPow := h.keeps fun f fd F => by
  refine F.ok sc_pow_rest (fun vs H Q E h => ?_) (fun cdv A outer s H vs Q E hr h => ?_)
  · obtain ⟨b, e, low, r, rfl, _⟩ := h
    rfl
  · obtain ⟨b, e, low, r, rfl, hp, k⟩ := h
    unfold Km.powr at hp
    by_cases h0 : 0 < low
    case neg =>
      rw [if_neg h0] at hp
      cases hp
    rw [if_pos h0] at hp
    have h0' : (0 : Int) < (low : Int) := by omega
    refine ⟨_, (pss_cons (ps_par (i := 3) (j := 4) rfl sc_pow_rest.nd rfl rfl (by decide) rfl rfl (pa_cons (pe_op op_mod pe_int (pv 2)) (pa_cons (pe_op op_mod (pv 0) (pv 2)) pa_nil)) (by rfl))
      (pss_cons (ps_while PassesOwn.never (pt_cmpR op_gt (pv 1) pe_int (nomark _)) (pss_cons (ps_if (pt_cmpR op_eq (pe_op op_mod (pv 1) pe_int) pe_int (nomark _)) (pss_one (ps_set (i := 3) sc_pow_rest.nd rfl (Or.inl rfl) (pe_op op_mod (pe_op op_mul (pv 3) (pv 4)) (pv 2)))) pss_nil)
      (pss_one (ps_par (i := 4) (j := 1) rfl sc_pow_rest.nd rfl rfl (by decide) rfl rfl (pa_cons (pe_op op_mod (pe_op op_mul (pv 4) (pv 4)) (pv 2)) (pa_cons (pe_op op_fdiv (pv 1) pe_int) pa_nil)) (by rfl)))))
      (pss_one (ps_ret (pv 3))))), ?_⟩
    refine ⟨_, rfl, _, _, rfl, rfl, h0', _, rfl, _, rfl, _, _, rfl, rfl, h0', _, _, rfl, ?_⟩
    refine ⟨fun m σ H' => ∃ x y z : Nat, σ = [some (.int b), some (.int z), some (.int low), some (.int x), some (.int y)] ∧ H' = H ∧ Km.powl m low x y z = some r, ⟨64, 1 % low, b % low, e, rfl, rfl, hp⟩, ?_⟩
    rintro m σ H' ⟨x, y, z, rfl, rfl, hm⟩
    cases m with
    | zero => cases hm
    | succ f =>
    rw [Km.powl] at hm
    by_cases hb : x < 1099511627776 ∧ y < 1099511627776
    case neg =>
      rw [if_neg hb] at hm
      cases hm
    rw [if_pos hb] at hm
    refine ⟨_, rfl, _, _, rfl, rfl, _, rfl, ?_⟩
    show if decide (((0 : Nat) : Int) < (z : Int)) = true then _ else _
    rw [dLt]
    refine ite2 (fun c => ?_) (fun c => ?_)
    · have c' := of_decide_eq_true c
      rw [if_pos c'] at hm
      refine ⟨fun σ' H'' => ∃ x y z : Nat, σ' = [some (.int b), some (.int z), some (.int low), some (.int x), some (.int y)] ∧ H'' = H' ∧ Km.powl f low x y z = some r, fun σ' H'' z => ⟨f, Nat.lt_succ_self f, z⟩, ?_⟩
      refine ⟨_, rfl, _, _, rfl, rfl, (by show (0 : Int) < 2; decide), rfl, _, rfl, ?_⟩
      show if decide (V.int (((z % 2 : Nat) : Int)) = V.int ((1 : Nat) : Int)) = true then _ else _
      rw [dEq]
      refine ite2 (fun d => ?_) (fun d => ?_)
      · rw [if_pos (of_decide_eq_true d)] at hm
        refine ⟨_, rfl, _, rfl, _, _, rfl, rfl, cMul (by omega), _, rfl, _, _, rfl, rfl, h0', ?_⟩
        refine ⟨_, rfl, _, rfl, _, _, rfl, rfl, cMul (by omega), _, rfl, _, _, rfl, rfl, h0', _, rfl, _, _, rfl, rfl, ⟨by decide, by decide⟩, _, _, rfl, _, _, _, rfl, rfl, hm⟩
      · rw [if_neg (no_dec d)] at hm
        refine ⟨_, rfl, _, rfl, _, _, rfl, rfl, cMul (by omega), _, rfl, _, _, rfl, rfl, h0', _, rfl, _, _, rfl, rfl, ⟨by decide, by decide⟩, _, _, rfl, _, _, _, rfl, rfl, hm⟩
    · rw [if_neg (no_dec c)] at hm
      have ex := Option.some.inj hm
      subst ex
      exact ⟨_, rfl, k⟩
end
end Kw

set_option Elab.async false
set_option linter.all false
set_option maxRecDepth 100000
set_option maxHeartbeats 4000000
namespace Kw
open PySem L2
section
variable {P : Program} {w : World} {K : PySem.W.Frag} {mg : Str → Option Value} {base : Heap}
/-! ### order_modulo -/
def spOm : Sp := fun vs H Q _ => ∃ p low e : Nat, vs = [.int p, .int low] ∧ Km.om p low = some e ∧ ∀ H', Same H H' → Q (.int e) H'
theorem d_order_modulo (h : Has K mg "order_modulo" P_order_modulo s_order_modulo) (D1 : Keeps P w K mg base 1 "prime_factors" P_prime_factors spPf) (D2 : Keeps P w K mg base 1 "common_multiple" P_common_multiple spCm)
    (D3 : Keeps P w K mg base 1 "pow_rest" P_pow_rest spPow) : Keeps P w K mg base 2 "order_modulo" P_order_modulo spOm := h.keeps fun f fd F => by
  obtain ⟨f_prime_factors, fd_prime_factors, G_prime_factors, b_prime_factors, k_prime_factors, m_prime_factors⟩ := D1
  obtain ⟨f_common_multiple, fd_common_multiple, G_common_multiple, b_common_multiple, k_common_multiple, m_common_multiple⟩ := D2
  obtain ⟨f_pow_rest, fd_pow_rest, G_pow_rest, b_pow_rest, k_pow_rest, m_pow_rest⟩ := D3
  refine F.ok sc_order_modulo (fun vs H Q E h => ?_) (fun cdv A outer s H vs Q E hr h => ?_)
  · obtain ⟨p, low, e, rfl, _⟩ := h
    rfl
  · obtain ⟨p, low, e, rfl, he, k⟩ := h
    unfold Km.om at he
    refine ⟨_, (pss_cons (ps_if (pt_cmpR op_eq (pv 1) pe_int (nomark _)) (pss_one (ps_ret pe_int)) pss_nil)
      (pss_cons (ps_set (i := 2) sc_order_modulo.nd rfl (Or.inl rfl) pe_int)
      (pss_cons (ps_for PassesOwn.never rfl (pi_list (pe_call G_prime_factors (hr.mono (by decide)) rfl m_prime_factors k_prime_factors b_prime_factors .nil pass0 (pa_cons (pv 1) pa_nil))) (pg_name (i := 3) sc_order_modulo.nd rfl (Or.inl rfl)) (pss_cons (ps_par (i := 4) (j := 5) rfl sc_order_modulo.nd rfl rfl (by decide) rfl rfl (pa_cons (pe_op op_sub (pv 3) pe_int) (pa_cons (pv 3) pa_nil)) (by rfl))
      (pss_cons (ps_while PassesOwn.never (pt_cmpR op_eq (pe_op op_mod (pv 1) (pe_op op_mul (pv 5) (pv 3))) pe_int (nomark _)) (pss_one (ps_par (i := 4) (j := 5) rfl sc_order_modulo.nd rfl rfl (by decide) rfl rfl (pa_cons (pe_op op_mul (pv 4) (pv 3)) (pa_cons (pe_op op_mul (pv 5) (pv 3)) pa_nil)) (by rfl))))
      (pss_cons (ps_for PassesOwn.never rfl (pi_list (pe_call G_prime_factors (hr.mono (by decide)) rfl m_prime_factors k_prime_factors b_prime_factors .nil pass0 (pa_cons (pv 4) pa_nil))) (pg_name (i := 6) sc_order_modulo.nd rfl (Or.inl rfl)) (pss_one (ps_while PassesOwn.never (PW.pt (pw_and (pt_cmpR op_eq (pe_op op_mod (pv 4) (pv 6)) pe_int (nomark _)) (pw_and1 (pt_cmpR op_eq (pe_call G_pow_rest (hr.mono (by decide)) rfl m_pow_rest k_pow_rest b_pow_rest .nil pass0 (pa_cons (pv 0) (pa_cons (pe_op op_fdiv (pv 4) (pv 6)) (pa_cons (pv 5) pa_nil)))) pe_int (nomark _))))) (pss_one (ps_set (i := 4) sc_order_modulo.nd rfl (Or.inl rfl) (pe_op op_fdiv (pv 4) (pv 6)))))))
      (pss_one (ps_set (i := 2) sc_order_modulo.nd rfl (Or.inl rfl) (pe_call G_common_multiple (hr.mono (by decide)) rfl m_common_multiple k_common_multiple b_common_multiple .nil pass0 (pa_cons (pv 2) (pa_cons (pv 4) pa_nil)))))))))
      (pss_one (ps_ret (pv 2)))))), ?_⟩
    refine ⟨_, rfl, rfl, _, rfl, ?_⟩
    show if decide (V.int (low : Int) = V.int ((1 : Nat) : Int)) = true then _ else _
    rw [dEq]
    refine ite2 (fun c => ?_) (fun c => ?_)
    · rw [if_pos (of_decide_eq_true c)] at he
      have ee := Option.some.inj he
      subst ee
      exact k H (Same.refl H)
    rw [if_neg (no_dec c)] at he
    cases hts : Km.pf low with
    | none =>
      rw [hts] at he
      cases he
    | some ts =>
    rw [hts] at he
    dsimp only at he
    refine ⟨_, rfl, low, ts, rfl, hts, fun H1 r sm1 nr er => ⟨r, rfl, ⟨_, SqL.of er⟩, ?_⟩⟩
    refine for_list (K := K) (a := r) (xs := inz ts) (fun i σ H' => ∃ (fo : Nat) (v3 v4 v5 v6 : Option V), σ = [some (.int p), some (.int low), some (.int fo), v3, v4, v5, v6] ∧ Same H1 H' ∧ Km.l1 p low (ts.drop i) fo = some e)
      ⟨1, none, none, none, none, rfl, Same.refl _, he⟩ (fun i σ H' _ ⟨_, _, _, _, _, _, sm, _⟩ => sm.seq (SqL.of er)) ?_ ?_
    · rintro i x σ H' hx ⟨fo, v3, v4, v5, v6, rfl, sm, hl⟩
      obtain ⟨told, ht, rfl⟩ := inz_get hx
      rw [inz_drop ht, Km.l1] at hl
      by_cases h1 : 1 ≤ told
      case neg =>
        rw [if_neg h1] at hl
        cases hl
      rw [if_pos h1] at hl
      cases hw : Km.w1 64 low told (told - 1) told with
      | none =>
        rw [hw] at hl
        cases hl
      | some mp =>
      obtain ⟨M, Pw⟩ := mp
      rw [hw] at hl
      dsimp only at hl
      cases hpf : Km.pf M with
      | none =>
        rw [hpf] at hl
        cases hl
      | some parts =>
      rw [hpf] at hl
      dsimp only at hl
      cases hl2 : Km.l2 p Pw parts M with
      | none =>
        rw [hl2] at hl
        cases hl
      | some m =>
      rw [hl2] at hl
      dsimp only at hl
      cases hcm : Km.cm fo m with
      | none =>
        rw [hcm] at hl
        cases hl
      | some g =>
      rw [hcm] at hl
      dsimp only at hl
      have e1 : ((told : Int) - 1) = ((told - 1 : Nat) : Int) := by omega
      refine ⟨_, rfl, _, _, rfl, rfl, _, rfl, _, _, rfl, ?_⟩
      refine ⟨fun n σ H2 => ∃ mo po : Nat, σ = [some (.int p), some (.int low), some (.int fo), some (.int told), some (.int mo), some (.int po), v6] ∧ H2 = H' ∧ Km.w1 n low told mo po = some (M, Pw),
        ⟨64, told - 1, told, by rw [← e1]; rfl, rfl, hw⟩, ?_⟩
      rintro n σ H2 ⟨mo, po, rfl, rfl, hn⟩
      cases n with
      | zero => cases hn
      | succ f =>
      rw [Km.w1] at hn
      by_cases hb : 0 < po * told ∧ po < 1099511627776 ∧ mo < 1099511627776
      case neg =>
        rw [if_neg hb] at hn
        cases hn
      rw [if_pos hb] at hn
      have ep : (po : Int) * (told : Int) = ((po * told : Nat) : Int) := (Int.natCast_mul _ _).symm
      refine ⟨_, rfl, _, rfl, _, rfl, _, _, rfl, rfl, cMul (by omega), _, _, rfl, rfl, (by show (0 : Int) < (po : Int) * (told : Int); rw [ep]; omega), rfl, _, rfl, ?_⟩
      show if decide (V.int ((low : Int) % ((po : Int) * (told : Int))) = V.int ((0 : Nat) : Int)) = true then _ else _
      rw [ep, ← Int.natCast_emod, dEq]
      refine ite2 (fun d => ?_) (fun d => ?_)
      · rw [if_pos (of_decide_eq_true d)] at hn
        refine ⟨fun σ H3 => ∃ mo po : Nat, σ = [some (.int p), some (.int low), some (.int fo), some (.int told), some (.int mo), some (.int po), v6] ∧ H3 = H2 ∧ Km.w1 f low told mo po = some (M, Pw),
          fun σ H3 z => ⟨f, Nat.lt_succ_self f, z⟩, ?_⟩
        refine ⟨_, rfl, _, rfl, _, _, rfl, rfl, cMul (by omega), _, rfl, _, rfl, _, _, rfl, rfl, cMul (by omega), _, _, rfl, mo * told, po * told, rfl, rfl, hn⟩
      · rw [if_neg (no_dec d)] at hn
        have q := Option.some.inj hn
        obtain ⟨q1, q2⟩ := Prod.mk.inj q
        subst q1
        subst q2
        refine ⟨_, rfl, mo, parts, rfl, hpf, fun H3 r2 sm3 nr3 er3 => ⟨r2, rfl, ⟨_, SqL.of er3⟩, ?_⟩⟩
        refine for_list (K := K) (a := r2) (xs := inz parts) (fun j σ H4 => ∃ (mx : Nat) (v6 : Option V), σ = [some (.int p), some (.int low), some (.int fo), some (.int told), some (.int mx), some (.int po), v6] ∧ Same H3 H4 ∧ Km.l2 p po (parts.drop j) mx = some m)
          ⟨mo, v6, rfl, Same.refl _, hl2⟩ (fun j σ H4 _ ⟨_, _, _, sm, _⟩ => sm.seq (SqL.of er3)) ?_ ?_
        · rintro j x σ H4 hx ⟨mx, v6, rfl, sm4, hl3⟩
          obtain ⟨part, hpt, rfl⟩ := inz_get hx
          rw [inz_drop hpt, Km.l2] at hl3
          cases hw2 : Km.w2 64 p po part mx with
          | none =>
            rw [hw2] at hl3
            cases hl3
          | some m2 =>
          rw [hw2] at hl3
          dsimp only at hl3
          refine ⟨fun n σ H5 => ∃ mx : Nat, σ = [some (.int p), some (.int low), some (.int fo), some (.int told), some (.int mx), some (.int po), some (.int part)] ∧ H5 = H4 ∧ Km.w2 n p po part mx = some m2,
            ⟨64, mx, rfl, rfl, hw2⟩, ?_⟩
          rintro n σ H5 ⟨mx, rfl, rfl, hn⟩
          cases n with
          | zero => cases hn
          | succ f =>
          rw [Km.w2] at hn
          by_cases hb : 0 < part ∧ part < 1073741824
          case neg =>
            rw [if_neg hb] at hn
            cases hn
          rw [if_pos hb] at hn
          refine ⟨_, rfl, _, rfl, _, _, rfl, rfl, (by show (0 : Int) < part; omega), rfl, _, rfl, ?_⟩
          show if decide (V.int ((mx : Int) % (part : Int)) = V.int ((0 : Nat) : Int)) = true then _ else _
          rw [← Int.natCast_emod, dEq]
          refine ite2 (fun d => ?_) (fun d => ?_)
          · rw [if_pos (of_decide_eq_true d)] at hn
            cases hpw : Km.powr p (mx / part) po with
            | none =>
              rw [hpw] at hn
              cases hn
            | some rr =>
            rw [hpw] at hn
            dsimp only at hn
            refine ⟨_, rfl, _, rfl, _, rfl, _, _, rfl, rfl, ⟨by omega, by omega⟩, _, rfl, p, mx / part, po, rr, rfl, hpw, rfl, _, rfl, ?_⟩
            show if decide (V.int (rr : Int) = V.int ((1 : Nat) : Int)) = true then _ else _
            rw [dEq]
            refine ite2 (fun d => ?_) (fun d => ?_)
            · rw [if_pos (of_decide_eq_true d)] at hn
              refine ⟨fun σ H6 => ∃ mx : Nat, σ = [some (.int p), some (.int low), some (.int fo), some (.int told), some (.int mx), some (.int po), some (.int part)] ∧ H6 = H5 ∧ Km.w2 f p po part mx = some m2,
                fun σ H6 z => ⟨f, Nat.lt_succ_self f, z⟩, ?_⟩
              exact ⟨_, rfl, _, rfl, _, _, rfl, rfl, ⟨by omega, by omega⟩, mx / part, rfl, rfl, hn⟩
            · rw [if_neg (no_dec d)] at hn
              have q := Option.some.inj hn
              subst q
              exact ⟨mx, _, rfl, sm4, hl3⟩
          · rw [if_neg (no_dec d)] at hn
            have q := Option.some.inj hn
            subst q
            show if false = true then _ else _
            exact iteF ⟨mx, _, rfl, sm4, hl3⟩
        · rintro σ H4 ⟨mx, v6, rfl, sm4, hl3⟩
          have ed : parts.drop (inz parts).length = [] := by rw [inz_length]; exact List.drop_length
          rw [ed, Km.l2] at hl3
          have q := Option.some.inj hl3
          subst q
          refine ⟨_, rfl, _, rfl, fo, mx, g, rfl, hcm, ?_⟩
          exact ⟨g, _, _, _, _, rfl, sm.trans (sm3.trans sm4), hl⟩
    · rintro σ H' ⟨fo, v3, v4, v5, v6, rfl, sm, hl⟩
      have ed : ts.drop (inz ts).length = [] := by rw [inz_length]; exact List.drop_length
      rw [ed, Km.l1] at hl
      have q := Option.some.inj hl
      subst q
      exact ⟨_, rfl, k H' (sm1.trans sm)⟩
end
end Kw

set_option Elab.async false
set_option linter.all false
set_option maxRecDepth 100000
set_option maxHeartbeats 4000000
namespace Km
/-! ### the rows, in plain Lean -/
theorem iter_succ (p b low : Nat) : ∀ n a : Nat, iter p b low (n + 1) a = nx p b low (iter p b low n a)
  | 0, _ => rfl
  | n + 1, a => iter_succ p b low n (nx p b low a)
theorem sts_succ (p b low : Nat) : ∀ n a : Nat, sts p b low (n + 1) a = sts p b low n a ++ [iter p b low n a]
  | 0, _ => rfl
  | n + 1, a => by
    show a :: sts p b low (n + 1) (nx p b low a) = (a :: sts p b low n (nx p b low a)) ++ [iter p b low n (nx p b low a)]
    rw [sts_succ p b low n (nx p b low a)]
    rfl
theorem sts_len (p b low : Nat) : ∀ n a : Nat, (sts p b low n a).length = n
  | 0, _ => rfl
  | n + 1, a => congrArg (· + 1) (sts_len p b low n (nx p b low a))
theorem row_len (p b low n a : Nat) : (row p b low n a).length = n := by
  unfold row
  rw [List.length_map, sts_len]
theorem row_succ (p b low n a : Nat) : row p b low (n + 1) a = row p b low n a ++ [fig p b (iter p b low n a)] := by
  unfold row
  rw [sts_succ, List.map_append]
  rfl
theorem row_get (p b low a : Nat) : ∀ n i : Nat, i < n → (row p b low n a)[i]? = some (fig p b (iter p b low i a)) := by
  intro n
  induction n with
  | zero => intro i h; omega
  | succ n ih =>
    intro i h
    rw [row_succ]
    by_cases hi : i < n
    · rw [List.getElem?_append_left (by rw [row_len]; exact hi), ih i hi]
    · have : i = n := by omega
      subst this
      rw [List.getElem?_append_right (by rw [row_len]; exact Nat.le_refl _), row_len, Nat.sub_self]
      rfl
end Km
namespace Kw
open PySem L2
/-! ### lists of ints as data -/
def dz (ns : List Nat) : List PyData := ns.map (fun (n : Nat) => PyData.int (n : Int))
theorem dz_all {K : PySem.W.Frag} {H : Hp} : ∀ ns : List Nat, DpAll K H (inz ns) (dz ns)
  | [] => .nil
  | n :: r => .cons (.int _) (dz_all r)
theorem dz_lay : ∀ ns : List Nat, PyData.canLayAll0 (dz ns) = true
  | [] => by rw [dz, List.map_nil, PyData.canLayAll0]
  | n :: r => by
    have := dz_lay r
    show PyData.canLayAll0 (PyData.int (n : Int) :: dz r) = true
    rw [PyData.canLayAll0, this, PyData.canLay0]
    rfl
theorem dz_depth : ∀ ns : List Nat, PyData.depthAll (dz ns) ≤ 1
  | [] => by
    show PyData.depthAll [] ≤ 1
    rw [PyData.depthAll]
    omega
  | n :: r => by
    have := dz_depth r
    show PyData.depthAll (PyData.int (n : Int) :: dz r) ≤ 1
    rw [PyData.depthAll, PyData.depth]
    omega
theorem dz_shaped (ns : List Nat) : SeqAt.shaped (.list (dz ns)) = true := by
  have h := dz_depth ns
  unfold SeqAt.shaped
  rw [PyData.canLay0, dz_lay, PyData.depth]
  rw [decide_eq_true (by omega)]
  rfl
theorem dz_shapedT (ns : List Nat) : SeqAt.shaped (.tuple (dz ns)) = true := by
  have h := dz_depth ns
  unfold SeqAt.shaped
  rw [PyData.canLay0, dz_lay, PyData.depth]
  rw [decide_eq_true (by omega)]
  rfl
theorem dz_eqv : ∀ a b : List Nat, PyData.eqvAll (dz a) (dz b) = decide (a = b)
  | [], [] => by
    show PyData.eqvAll [] [] = _
    rw [PyData.eqvAll]
    rfl
  | [], y :: b => by
    show PyData.eqvAll [] (PyData.int (y : Int) :: dz b) = _
    rw [PyData.eqvAll]
    rfl
  | x :: a, [] => by
    show PyData.eqvAll (PyData.int (x : Int) :: dz a) [] = _
    rw [PyData.eqvAll]
    rfl
  | x :: a, y :: b => by
    show PyData.eqvAll (PyData.int (x : Int) :: dz a) (PyData.int (y : Int) :: dz b) = _
    rw [PyData.eqvAll, dz_eqv a b, PyData.eqv]
    by_cases e : x = y
    · subst e
      by_cases e2 : a = b
      · subst e2
        simp
      · simp [e2]
    · have e2 : ¬ (x : Int) = (y : Int) := fun q => e (Int.ofNat.inj q)
      simp [e, e2]
theorem dz_eqvL (a b : List Nat) : PyData.eqv (.list (dz a)) (.list (dz b)) = decide (a = b) := by
  rw [PyData.eqv, dz_eqv]
theorem dz_eqvT (a b : List Nat) : PyData.eqv (.tuple (dz a)) (.tuple (dz b)) = decide (a = b) := by
  rw [PyData.eqv, dz_eqv]
theorem dp_l {K : PySem.W.Frag} {H : Hp} {a : Addr} {ns : List Nat} (h : SqL K H a (inz ns)) : Dp K H (.ref a) (.list (dz ns)) := .lst h (dz_all ns)
theorem dp_t {K : PySem.W.Frag} {H : Hp} {a : Addr} {ns : List Nat} (h : SqT K H a (inz ns)) : Dp K H (.ref a) (.tuple (dz ns)) := .tup h (dz_all ns)
/-! ### numbers of a row -/
theorem fig_int {p a b : Nat} (hp : isP p) : ((-(a : Int)) * (b : Int)).fmod (p : Int) = ((Km.fig p b a : Nat) : Int) := by
  have e : (-(a : Int)) * (b : Int) = -((a * b : Nat) : Int) := by rw [Int.neg_mul, Int.natCast_mul]
  rw [e]
  unfold Km.fig
  generalize a * b = x
  rw [Int.fmod_eq_emod_of_nonneg _ (Int.natCast_nonneg p)]
  rcases hp with rfl | rfl | rfl | rfl <;> omega
theorem nx_int {p low a b : Nat} (hp : isP p) (h : (a + Km.fig p b a * low) % p = 0) : (-(a : Int) - ((Km.fig p b a : Nat) : Int) * (low : Int)).fdiv (p : Int) = -((Km.nx p b low a : Nat) : Int) := by
  have e : (-(a : Int) - ((Km.fig p b a : Nat) : Int) * (low : Int)) = -((a + Km.fig p b a * low : Nat) : Int) := by
    rw [Int.natCast_add, Int.natCast_mul]
    omega
  rw [e]
  unfold Km.nx
  generalize a + Km.fig p b a * low = y at h
  rw [Int.fdiv_eq_ediv_of_nonneg _ (Int.natCast_nonneg p)]
  rcases hp with rfl | rfl | rfl | rfl <;> omega
theorem fig_lt {p b a : Nat} (hp : isP p) : Km.fig p b a < p := by
  unfold Km.fig
  rcases hp with rfl | rfl | rfl | rfl <;> omega
theorem isP_lt {p : Nat} (hp : isP p) : 0 < p ∧ p < 8 := by rcases hp with rfl | rfl | rfl | rfl <;> omega
theorem inv_lt {p n b : Nat} (h : Km.inv p n = some b) : b < p := by
  unfold Km.inv at h
  have q := List.mem_of_mem_head? h
  exact List.mem_range.mp (List.mem_filter.mp q).1
section
variable {P : Program} {w : World} {K : PySem.W.Frag} {mg : Str → Option Value} {base : Heap}
/-! ### quotient_of -/
/-- what is asked of a prime, a low and the inverse: the states keep between 1 and low - 1 -/
def Turns (p b low : Nat) : Prop := ∀ a, 1 ≤ a → a < low → (a + Km.fig p b a * low) % p = 0 ∧ 1 ≤ Km.nx p b low a ∧ Km.nx p b low a < low
theorem Turns.iter {p b low : Nat} (h : Turns p b low) {a : Nat} (h1 : 1 ≤ a) (h2 : a < low) : ∀ n, 1 ≤ Km.iter p b low n a ∧ Km.iter p b low n a < low
  | 0 => ⟨h1, h2⟩
  | n + 1 => by
    rw [Km.iter_succ]
    obtain ⟨q1, q2⟩ := Turns.iter h h1 h2 n
    exact (h _ q1 q2).2
def spQ : Sp := fun vs H Q _ => ∃ p a low n b : Nat, vs = [.int p, .int (-(a : Int)), .int low, .int n] ∧ isP p ∧ low < 1000 ∧ Km.inv p (low % p) = some b ∧ Turns p b low ∧ 1 ≤ a ∧ a < low ∧ n ≤ 400 ∧
  ∀ H' t, Same H H' → H t = none → H' t = some (.tup (inz (Km.row p b low n a))) → Q (.ref t) H'
theorem d_quotient_of (h : Has K mg "quotient_of" P_quotient_of s_quotient_of) (B : Bi mg) (D1 : Keeps P w K mg base 1 "inverse" P_inverse spInverse) : Keeps P w K mg base 2 "quotient_of" P_quotient_of spQ := h.keeps fun f fd F => by
  obtain ⟨f_inverse, fd_inverse, G_inverse, b_inverse, k_inverse, m_inverse⟩ := D1
  refine F.ok sc_quotient_of (fun vs H Q E h => ?_) (fun cdv A outer s H vs Q E hr h => ?_)
  · obtain ⟨p, a, low, n, b, rfl, _⟩ := h
    rfl
  · obtain ⟨p, a, low, n, b, rfl, hp, hl, hb, hT, h1, h2, hn, k⟩ := h
    obtain ⟨p0, p8⟩ := isP_lt hp
    have bp := inv_lt hb
    refine ⟨_, (pss_cons (ps_par (i := 4) (j := 5) rfl sc_quotient_of.nd rfl rfl (by decide) rfl rfl (pa_cons (pe_lst pa_nil) (pa_cons (pe_call G_inverse (hr.mono (by decide)) rfl m_inverse k_inverse b_inverse .nil pass0 (pa_cons (pv 0) (pa_cons (pe_op op_mod (pv 2) (pv 0)) pa_nil))) pa_nil)) (by rfl))
      (pss_cons (ps_for PassesOwn.never rfl (pi_range1 (by rfl) B.range (pa_cons (pv 3) pa_nil)) (pg_name (i := 6) sc_quotient_of.nd rfl (Or.inl rfl)) (pss_cons (ps_set (i := 7) sc_quotient_of.nd rfl (Or.inl rfl) (pe_op op_modN (pe_op op_mul (pv 1) (pv 5)) (pv 0)))
      (pss_cons (ps_expr (pe_bm PySem.F.plainAttrs_list PySem.F.slot_list_append PySem.F.type_list_append mt_append (pv 4) (pa_cons (pv 7) pa_nil)))
      (pss_one (ps_set (i := 1) sc_quotient_of.nd rfl (Or.inl rfl) (pe_op op_fdivN (pe_op op_sub (pv 1) (pe_op op_mul (pv 7) (pv 2))) (pv 0)))))))
      (pss_one (ps_ret (pe_callTy call_tuple_of (by rfl) B.tuple (by decide +kernel) (pa_cons (pv 4) pa_nil)))))), ?_⟩
    refine ⟨small (by decide), fun l nl => ?_⟩
    refine ⟨_, rfl, _, rfl, _, rfl, _, _, rfl, rfl, (by show (0 : Int) < p; omega), p, low % p, b, rfl, p0, by omega, ?_, hb, fun H1 sm1 => ⟨_, _, rfl, ?_⟩⟩
    · exact Nat.lt_trans (Nat.mod_lt _ p0) (by omega)
    have sm0 : Same H H1 := (same_upd nl).trans sm1
    refine ⟨_, rfl, n, rfl, by omega, by omega, ?_⟩
    refine for_range (lo := 0) (n := ((n : Int)).toNat) (fun i σ H' => ∃ v6 v7 : Option V, σ = [some (.int p), some (.int (-((Km.iter p b low i a : Nat) : Int))), some (.int low), some (.int n), some (.ref l), some (.int b), v6, v7] ∧ Same H H' ∧ H' l = some (.lst (inz (Km.row p b low i a))))
      ⟨none, none, rfl, sm0, sm1 _ _ upd_same⟩ ?_ ?_
    · rintro i σ H' hi ⟨v6, v7, rfl, sm, el⟩
      obtain ⟨q1, q2⟩ := hT.iter h1 h2 i
      generalize ex : Km.iter p b low i a = x at q1 q2
      have hf := fig_int (a := x) (b := b) hp
      obtain ⟨z1, z2, z3⟩ := hT x q1 q2
      have hx := nx_int hp z1
      have fl := fig_lt (b := b) (a := x) hp
      refine ⟨_, rfl, _, rfl, _, _, rfl, rfl, .inl ⟨by omega, by omega⟩, _, rfl, _, _, rfl, rfl, (by show ((p : Nat) : Int) ≠ 0; omega), ?_⟩
      refine ⟨_, rfl, .inl ⟨rfl, _, SqL.of el⟩, _, rfl, l, _, _, rfl, rfl, el, ?_, ?_⟩
      · rw [inz_length, Km.row_len]
        exact small1000 (by omega)
      have fb : -(2 ^ 64) < ((-(x : Int)) * (b : Int)).fmod (p : Int) ∧ ((-(x : Int)) * (b : Int)).fmod (p : Int) < 2 ^ 64 := by
        rw [hf]
        exact b64 (by omega)
      refine ⟨_, rfl, _, rfl, _, rfl, _, _, rfl, rfl, .inl fb, _, _, rfl, rfl, _, rfl, _, _, rfl, rfl, ⟨by omega, by omega⟩, ?_⟩
      refine ⟨some (.int (0 + (i : Int))), some (.int (((-(x : Int)) * (b : Int)).fmod (p : Int))), ?_, sset sm nl, ?_⟩
      · rw [Km.iter_succ, ex, ← hx, ← hf]
        rfl
      · rw [upd_same, Km.row_succ, ex, inz_append, ← inz_one, ← hf]
    · rintro σ H' ⟨v6, v7, rfl, sm, el⟩
      have en : ((n : Int)).toNat = n := Int.toNat_natCast n
      rw [en] at el
      refine ⟨_, rfl, l, _, rfl, .inl ⟨SqL.of el, fun t ht => ?_⟩⟩
      exact k _ t (snew sm ht) (sm.free ht) upd_same
end
end Kw

set_option Elab.async false
set_option linter.all false
set_option maxRecDepth 100000
set_option maxHeartbeats 4000000
namespace Kw
open PySem L2
/-- a module's constant that is an int -/
def HasInt (mg : Str → Option Value) (x : Str) (n : Int) : Prop := ∃ t, mg x = some (.int n t)
section
variable {P : Program} {w : World} {K : PySem.W.Frag} {mg : Str → Option Value} {base : Heap}
/-! ### is_fraction, need_fraction -/
def FrOk (H : Hp) (p : Nat) (a : Addr) (above low : Int) : Prop := H a = some (.tup [.int above, .int low]) ∧ 0 < p ∧ -1000 ≤ above ∧ above ≤ 1000 ∧ 1 ≤ low ∧ low ≤ 1000 ∧ low % (p : Int) ≠ 0
def spIsFr : Sp := fun vs H Q _ => ∃ (p : Nat) (a : Addr) (above low : Int), vs = [.int p, .ref a] ∧ FrOk H p a above low ∧ Q (.bl true) H
theorem d_is_fraction (h : Has K mg "is_fraction" P_is_fraction s_is_fraction) (B : Bi mg) (c1 : HasInt mg "MOST_PART" (10 ^ 60)) (D1 : Keeps P w K mg base 2 "is_in" P_is_in spIsIn) : Keeps P w K mg base 3 "is_fraction" P_is_fraction spIsFr := h.keeps fun f fd F => by
  obtain ⟨f_is_in, fd_is_in, G_is_in, b_is_in, k_is_in, m_is_in⟩ := D1
  obtain ⟨t1, m_MOST_PART⟩ := c1
  refine F.ok sc_is_fraction (fun vs H Q E h => ?_) (fun cdv A outer s H vs Q E hr h => ?_)
  · obtain ⟨p, a, above, low, rfl, _⟩ := h
    rfl
  · obtain ⟨p, a, above, low, rfl, ⟨ha, h0, h1, h2, h3, h4, h5⟩, k⟩ := h
    refine ⟨_, (pss_cons (ps_if (PW.pt (pw_or (pt_not (pt_val (pe_callB call_isi (by rfl) B.isinstance (by decide +kernel) (pa_cons (pv 1) (pa_cons (pe_bltn (v := .ty "tuple") (by rfl) B.tuple (by decide +kernel) rfl) pa_nil))))) (pw_or (pt_cmpR op_ne (pe_callB call_len_seq (by rfl) B.len PySem.boot_len (pa_cons (pv 1) pa_nil)) pe_int (nomark _)) (pw_or1 (pt_not (pt_val (pe_call G_is_in (hr.mono (by decide)) rfl m_is_in k_is_in b_is_in .nil pass0 (pa_cons (pe_ix (r := rIxT K) ix_tup (pv 1) pe_int (fun _ _ => rfl)) (pa_cons (pe_un un_neg (pe_glob (v := .int _) rfl m_MOST_PART ⟨_, rfl⟩)) (pa_cons (pe_glob (v := .int _) rfl m_MOST_PART ⟨_, rfl⟩) pa_nil)))))))))) (pss_one (ps_ret pe_bl)) pss_nil)
      (pss_one (ps_ret (pe_and (pe_call G_is_in (hr.mono (by decide)) rfl m_is_in k_is_in b_is_in .nil pass0 (pa_cons (pe_ix (r := rIxT K) ix_tup (pv 1) pe_int (fun _ _ => rfl)) (pa_cons pe_int (pa_cons (pe_glob (v := .int _) rfl m_MOST_PART ⟨_, rfl⟩) pa_nil)))) (pe_one (pe_cmpR op_ne (pe_op op_mod (pe_ix (r := rIxT K) ix_tup (pv 1) pe_int (fun _ _ => rfl)) (pv 0)) pe_int (nomark _))))))), ?_⟩
    refine ⟨_, rfl, .ref a, .ty "tuple", .type "tuple", .type "tuple", true, rfl, .ty _, .base (.tup ha), kit_ty (by decide +kernel), _, rfl, ?_⟩
    refine iteF ?_
    refine ⟨_, rfl, a, _, rfl, .inr (SqT.of ha), rfl, _, rfl, ?_⟩
    refine iteF ?_
    refine ⟨_, rfl, a, _, ((0 : Nat) : Int), _, rfl, rfl, SqT.of ha, atI_nat rfl, _, rfl, above, _, _, rfl, by omega, by omega, _, rfl, ?_⟩
    refine iteF ?_
    refine ⟨_, rfl, a, _, ((1 : Nat) : Int), _, rfl, rfl, SqT.of ha, atI_nat rfl, low, _, _, rfl, h3, by omega, _, rfl, iteT ?_⟩
    refine ⟨_, rfl, a, _, ((1 : Nat) : Int), _, rfl, rfl, SqT.of ha, atI_nat rfl, _, rfl, _, _, rfl, rfl, (by show (0 : Int) < p; omega), rfl, ?_⟩
    show Q (.bl (!decide (V.int (low % (p : Int)) = V.int 0))) H
    rw [decide_eq_false (fun q => h5 (V.int.inj q))]
    exact k
def spNeedFr : Sp := fun vs H Q _ => ∃ (p : Nat) (a : Addr) (above low : Int), vs = [.int p, .ref a] ∧ FrOk H p a above low ∧ Q .non H
theorem d_need_fraction (h : Has K mg "need_fraction" P_need_fraction s_need_fraction) (D1 : Keeps P w K mg base 3 "is_fraction" P_is_fraction spIsFr) : Keeps P w K mg base 4 "need_fraction" P_need_fraction spNeedFr := h.keeps fun f fd F => by
  obtain ⟨f_is_fraction, fd_is_fraction, G_is_fraction, b_is_fraction, k_is_fraction, m_is_fraction⟩ := D1
  refine F.ok sc_need_fraction (fun vs H Q E h => ?_) (fun cdv A outer s H vs Q E hr h => ?_)
  · obtain ⟨p, a, above, low, rfl, _⟩ := h
    rfl
  · obtain ⟨p, a, above, low, rfl, hf, k⟩ := h
    refine ⟨_, (pss_one (ps_if (pt_not (pt_val (pe_call G_is_fraction (hr.mono (by decide)) rfl m_is_fraction k_is_fraction b_is_fraction .nil pass0 (pa_cons (pv 0) (pa_cons (pv 1) pa_nil))))) (pss_one ps_never) pss_nil)), ?_⟩
    exact ⟨_, rfl, _, rfl, p, a, above, low, rfl, hf, _, rfl, iteF k⟩
/-! ### lowest -/
def spLowest : Sp := fun vs H Q _ => ∃ a low : Nat, vs = [.int (-(a : Int)), .int low] ∧ 0 < low ∧ Nat.gcd a low = 1 ∧ ∀ H' t, Same H H' → H t = none → H' t = some (.tup [.int (-(a : Int)), .int low]) → Q (.ref t) H'
theorem d_lowest (h : Has K mg "lowest" P_lowest s_lowest) (m_gcd : mg "gcd" = some (.builtin "math.gcd")) : Keeps P w K mg base 1 "lowest" P_lowest spLowest := h.keeps fun f fd F => by
  refine F.ok sc_lowest (fun vs H Q E h => ?_) (fun cdv A outer s H vs Q E hr h => ?_)
  · obtain ⟨a, low, rfl, _⟩ := h
    rfl
  · obtain ⟨a, low, rfl, h0, hg, k⟩ := h
    refine ⟨_, (pss_cons (ps_set (i := 2) sc_lowest.nd rfl (Or.inl rfl) (pe_ifExp (pt_cmpR op_gt (pv 1) pe_int (nomark _)) (pe_callBfun cr_gcd (by rfl) m_gcd (pa_cons (pv 0) (pa_cons (pv 1) pa_nil))) (pe_un un_neg (pe_callBfun cr_gcd (by rfl) m_gcd (pa_cons (pv 0) (pa_cons (pv 1) pa_nil))))))
      (pss_one (ps_ret (pe_tup (pa_cons (pe_op op_fdivN (pv 0) (pv 2)) (pa_cons (pe_op op_fdivN (pv 1) (pv 2)) pa_nil)))))), ?_⟩
    refine ⟨_, rfl, _, _, rfl, rfl, _, rfl, ?_⟩
    rw [decide_eq_true (show (0 : Int) < low by omega)]
    refine iteT ?_
    refine ⟨_, rfl, _, rfl, -(a : Int), low, rfl, ?_⟩
    have eg : (((Nat.gcd (-(a : Int)).natAbs ((low : Int)).natAbs) : Nat) : Int) = 1 := by
      rw [Int.natAbs_neg, Int.natAbs_natCast, Int.natAbs_natCast, hg]
      rfl
    rw [eg]
    refine ⟨_, rfl, _, rfl, _, _, rfl, rfl, ⟨by decide, by decide⟩, _, rfl, _, rfl, _, _, rfl, rfl, ⟨by decide, by decide⟩, small (by show 2 ≤ 1000; decide), fun t ht => ?_⟩
    refine k _ t (same_upd ht) ht ?_
    rw [upd_same]
    show some (HO.tup [.int ((-(a : Int)).fdiv 1), .int ((low : Int).fdiv 1)]) = _
    rw [Int.fdiv_one, Int.fdiv_one]
/-! ### fraction_row -/
def spFrow : Sp := fun vs H Q _ => ∃ (p a low n b : Nat) (fa : Addr), vs = [.int p, .ref fa, .int n] ∧ H fa = some (.tup [.int (-(a : Int)), .int low]) ∧ isP p ∧ low < 1000 ∧ 0 < low % p ∧ Km.inv p (low % p) = some b ∧ Turns p b low ∧ 1 ≤ a ∧ a < low ∧ n ≤ 400 ∧
  ∀ H' t, Same H H' → H t = none → H' t = some (.tup (inz (Km.row p b low n a))) → Q (.ref t) H'
theorem frOk {H : Hp} {p a low : Nat} {fa : Addr} (e : H fa = some (.tup [.int (-(a : Int)), .int low])) (hp : isP p) (h1 : low < 1000) (h2 : 0 < low % p) (h3 : 1 ≤ a) (h4 : a < low) : FrOk H p fa (-(a : Int)) low := by
  refine ⟨e, (isP_lt hp).1, by omega, by omega, by omega, by omega, ?_⟩
  rw [← Int.natCast_emod]
  omega
theorem d_fraction_row (h : Has K mg "fraction_row" P_fraction_row s_fraction_row) (c1 : HasInt mg "MOST_ROW" 400) (D1 : Keeps P w K mg base 2 "need_prime" P_need_prime spNeedPrime) (D2 : Keeps P w K mg base 4 "need_fraction" P_need_fraction spNeedFr)
    (D3 : Keeps P w K mg base 3 "need_number" P_need_number spNeedNumber) (D4 : Keeps P w K mg base 2 "quotient_of" P_quotient_of spQ) : Keeps P w K mg base 5 "fraction_row" P_fraction_row spFrow := h.keeps fun f fd F => by
  obtain ⟨f_need_prime, fd_need_prime, G_need_prime, b_need_prime, k_need_prime, m_need_prime⟩ := D1
  obtain ⟨f_need_fraction, fd_need_fraction, G_need_fraction, b_need_fraction, k_need_fraction, m_need_fraction⟩ := D2
  obtain ⟨f_need_number, fd_need_number, G_need_number, b_need_number, k_need_number, m_need_number⟩ := D3
  obtain ⟨f_quotient_of, fd_quotient_of, G_quotient_of, b_quotient_of, k_quotient_of, m_quotient_of⟩ := D4
  obtain ⟨t1, m_MOST_ROW⟩ := c1
  refine F.ok sc_fraction_row (fun vs H Q E h => ?_) (fun cdv A outer s H vs Q E hr h => ?_)
  · obtain ⟨p, a, low, n, b, fa, rfl, _⟩ := h
    rfl
  · obtain ⟨p, a, low, n, b, fa, rfl, ef, hp, hl, h0, hb, hT, h1, h2, hn, k⟩ := h
    refine ⟨_, (pss_cons (ps_expr (pe_call G_need_prime (hr.mono (by decide)) rfl m_need_prime k_need_prime b_need_prime .nil pass0 (pa_cons (pv 0) pa_nil)))
      (pss_cons (ps_expr (pe_call G_need_fraction (hr.mono (by decide)) rfl m_need_fraction k_need_fraction b_need_fraction .nil pass0 (pa_cons (pv 0) (pa_cons (pv 1) pa_nil))))
      (pss_cons (ps_expr (pe_call G_need_number (hr.mono (by decide)) rfl m_need_number k_need_number b_need_number .nil pass0 (pa_cons (pv 2) (pa_cons pe_int (pa_cons (pe_glob (v := .int _) rfl m_MOST_ROW ⟨_, rfl⟩) pa_nil)))))
      (pss_one (ps_ret (pe_call G_quotient_of (hr.mono (by decide)) rfl m_quotient_of k_quotient_of b_quotient_of .nil pass0 (pa_cons (pv 0) (pa_cons (pe_ix (r := rIxT K) ix_tup (pv 1) pe_int (fun _ _ => rfl)) (pa_cons (pe_ix (r := rIxT K) ix_tup (pv 1) pe_int (fun _ _ => rfl)) (pa_cons (pv 2) pa_nil)))))))))), ?_⟩
    refine ⟨_, rfl, p, rfl, hp, ?_⟩
    refine ⟨_, rfl, _, rfl, p, fa, _, _, rfl, frOk ef hp hl h0 h1 h2, ?_⟩
    refine ⟨_, rfl, n, _, _, rfl, by omega, by omega, ?_⟩
    refine ⟨_, rfl, _, rfl, fa, _, ((0 : Nat) : Int), _, rfl, rfl, SqT.of ef, atI_nat rfl, _, rfl, fa, _, ((1 : Nat) : Int), _, rfl, rfl, SqT.of ef, atI_nat rfl, _, rfl, ?_⟩
    exact ⟨p, a, low, n, b, rfl, hp, hl, hb, hT, h1, h2, hn, k⟩
/-! ### fraction_period -/
def spFper : Sp := fun vs H Q _ => ∃ (p a low b e : Nat) (fa : Addr), vs = [.int p, .ref fa] ∧ H fa = some (.tup [.int (-(a : Int)), .int low]) ∧ isP p ∧ low < 1000 ∧ 0 < low % p ∧ Km.inv p (low % p) = some b ∧ 1 ≤ a ∧ a < low ∧ Nat.gcd a low = 1 ∧ Km.om p low = some e ∧
  ∀ H' t, Same H H' → H t = none → H' t = some (.tup (inz [0, e])) → Q (.ref t) H'
theorem d_fraction_period (h : Has K mg "fraction_period" P_fraction_period s_fraction_period) (c1 : HasInt mg "MOST_LOW" (10 ^ 12)) (D1 : Keeps P w K mg base 2 "need_prime" P_need_prime spNeedPrime) (D2 : Keeps P w K mg base 4 "need_fraction" P_need_fraction spNeedFr)
    (D3 : Keeps P w K mg base 1 "lowest" P_lowest spLowest) (D4 : Keeps P w K mg base 1 "inverse" P_inverse spInverse) (D5 : Keeps P w K mg base 2 "order_modulo" P_order_modulo spOm) : Keeps P w K mg base 5 "fraction_period" P_fraction_period spFper := h.keeps fun f fd F => by
  obtain ⟨f_need_prime, fd_need_prime, G_need_prime, b_need_prime, k_need_prime, m_need_prime⟩ := D1
  obtain ⟨f_need_fraction, fd_need_fraction, G_need_fraction, b_need_fraction, k_need_fraction, m_need_fraction⟩ := D2
  obtain ⟨f_lowest, fd_lowest, G_lowest, b_lowest, k_lowest, m_lowest⟩ := D3
  obtain ⟨f_inverse, fd_inverse, G_inverse, b_inverse, k_inverse, m_inverse⟩ := D4
  obtain ⟨f_order_modulo, fd_order_modulo, G_order_modulo, b_order_modulo, k_order_modulo, m_order_modulo⟩ := D5
  obtain ⟨t1, m_MOST_LOW⟩ := c1
  refine F.ok sc_fraction_period (fun vs H Q E h => ?_) (fun cdv A outer s H vs Q E hr h => ?_)
  · obtain ⟨p, a, low, b, e, fa, rfl, _⟩ := h
    rfl
  · obtain ⟨p, a, low, b, e, fa, rfl, ef, hp, hl, h0, hb, h1, h2, hg, he, k⟩ := h
    obtain ⟨p0, p8⟩ := isP_lt hp
    refine ⟨_, (pss_cons (ps_expr (pe_call G_need_prime (hr.mono (by decide)) rfl m_need_prime k_need_prime b_need_prime .nil pass0 (pa_cons (pv 0) pa_nil)))
      (pss_cons (ps_expr (pe_call G_need_fraction (hr.mono (by decide)) rfl m_need_fraction k_need_fraction b_need_fraction .nil pass0 (pa_cons (pv 0) (pa_cons (pv 1) pa_nil))))
      (pss_cons (ps_asg (pe_call G_lowest (hr.mono (by decide)) rfl m_lowest k_lowest b_lowest .nil pass0 (pa_cons (pe_ix (r := rIxT K) ix_tup (pv 1) pe_int (fun _ _ => rfl)) (pa_cons (pe_ix (r := rIxT K) ix_tup (pv 1) pe_int (fun _ _ => rfl)) pa_nil))) (pg_tup rfl (pgs_cons (pg_name (i := 2) sc_fraction_period.nd rfl (Or.inl rfl)) (pgs_cons (pg_name (i := 3) sc_fraction_period.nd rfl (Or.inl rfl)) pgs_nil))))
      (pss_cons (ps_if (pt_cmpR op_gt (pv 3) (pe_glob (v := .int _) rfl m_MOST_LOW ⟨_, rfl⟩) (nomark _)) (pss_one ps_never) pss_nil)
      (pss_cons (ps_par (i := 4) (j := 5) rfl sc_fraction_period.nd rfl rfl (by decide) rfl rfl (pa_cons (pe_call G_inverse (hr.mono (by decide)) rfl m_inverse k_inverse b_inverse .nil pass0 (pa_cons (pv 0) (pa_cons (pe_op op_mod (pv 3) (pv 0)) pa_nil))) (pa_cons pe_int pa_nil)) (by rfl))
      (pss_cons (ps_while PassesOwn.never (pt_not (pt_chain op_le op_le (pe_un un_neg (pv 3)) (pv 2) pe_int)) (pss_one (ps_par (i := 2) (j := 5) rfl sc_fraction_period.nd rfl rfl (by decide) rfl rfl (pa_cons (pe_op op_fdiv (pe_op op_sub (pv 2) (pe_op op_mul (pe_op op_modN (pe_op op_mul (pv 2) (pv 4)) (pv 0)) (pv 3))) (pv 0)) (pa_cons (pe_op op_add (pv 5) pe_int) pa_nil)) (by rfl))))
      (pss_one (ps_ret (pe_tup (pa_cons (pv 5) (pa_cons (pe_call G_order_modulo (hr.mono (by decide)) rfl m_order_modulo k_order_modulo b_order_modulo .nil pass0 (pa_cons (pv 0) (pa_cons (pv 3) pa_nil))) pa_nil))))))))))), ?_⟩
    refine ⟨_, rfl, p, rfl, hp, ?_⟩
    refine ⟨_, rfl, _, rfl, p, fa, _, _, rfl, frOk ef hp hl h0 h1 h2, ?_⟩
    refine ⟨_, rfl, fa, _, ((0 : Nat) : Int), _, rfl, rfl, SqT.of ef, atI_nat rfl, _, rfl, fa, _, ((1 : Nat) : Int), _, rfl, rfl, SqT.of ef, atI_nat rfl, a, low, rfl, by omega, hg, fun H1 t sm1 nt et => ?_⟩
    refine ⟨t, _, rfl, SqT.of et, rfl, _, _, rfl, _, _, rfl, rfl, ?_⟩
    refine ⟨_, rfl, _, _, rfl, rfl, _, rfl, ?_⟩
    rw [decide_eq_false (show ¬ (10 : Int) ^ 12 < low by omega)]
    refine iteF ?_
    refine ⟨_, rfl, _, rfl, _, rfl, _, _, rfl, rfl, (by show (0 : Int) < p; omega), p, low % p, b, rfl, p0, by omega, Nat.lt_trans (Nat.mod_lt _ p0) (by omega), hb, fun H2 sm2 => ⟨_, _, rfl, ?_⟩⟩
    refine ⟨fun m σ H' => σ = [some (.int p), some (.ref fa), some (.int (-(a : Int))), some (.int low), some (.int b), some (.int 0)] ∧ H' = H2, ⟨0, rfl, rfl⟩, ?_⟩
    rintro m σ H' ⟨rfl, rfl⟩
    refine ⟨_, rfl, low, rfl, _, rfl, _, _, rfl, rfl, _, rfl, ?_⟩
    show if decide (-(low : Int) ≤ -(a : Int)) = true then _ else _
    rw [decide_eq_true (show (-(low : Int) ≤ -(a : Int)) by omega)]
    refine iteT ?_
    refine ⟨_, _, rfl, rfl, _, rfl, ?_⟩
    rw [decide_eq_true (show (-(a : Int)) ≤ 0 by omega)]
    refine iteF ?_
    refine ⟨_, rfl, _, rfl, _, rfl, p, low, e, rfl, he, fun H3 sm3 => ⟨small (by show 2 ≤ 1000; decide), fun q hq => ?_⟩⟩
    have sm : Same H H3 := sm1.trans (sm2.trans sm3)
    exact k _ q (snew sm hq) (sm.free hq) upd_same
/-! ### long_lows -/
def spLl : Sp := fun vs H Q _ => ∃ (p most : Nat) (q : Nat → Bool), vs = [.int p, .int most] ∧ isP p ∧ most < 200 ∧ (∀ low, 2 ≤ low → low ≤ most → Km.ltest p low = some (q low)) ∧
  ∀ H' r, Same H H' → H r = none → H' r = some (.lst (inz (((List.range (most - 1)).map (fun i => 2 + i)).filter q))) → Q (.ref r) H'
theorem mf_pos {q : Nat → Bool} {i : Nat} (h : q (2 + i) = true) : ((List.range (i + 1)).map (fun i => 2 + i)).filter q = ((List.range i).map (fun i => 2 + i)).filter q ++ [2 + i] := by
  rw [List.range_succ, List.map_append, List.filter_append]
  simp [h]
theorem mf_neg {q : Nat → Bool} {i : Nat} (h : q (2 + i) = false) : ((List.range (i + 1)).map (fun i => 2 + i)).filter q = ((List.range i).map (fun i => 2 + i)).filter q := by
  rw [List.range_succ, List.map_append, List.filter_append]
  simp [h]
theorem mf_len {q : Nat → Bool} {i : Nat} (h : i ≤ 1000) : (inz (((List.range i).map (fun i => 2 + i)).filter q)).length < sizeLine := by
  rw [inz_length]
  exact small1000 (Nat.le_trans (List.length_filter_le _ _) (by rw [List.length_map, List.length_range]; exact h))
theorem d_long_lows (h : Has K mg "long_lows" P_long_lows s_long_lows) (B : Bi mg) (c1 : HasInt mg "MOST_LISTED" 3000) (D1 : Keeps P w K mg base 2 "need_prime" P_need_prime spNeedPrime) (D2 : Keeps P w K mg base 3 "need_number" P_need_number spNeedNumber)
    (D3 : Keeps P w K mg base 1 "prime_factors" P_prime_factors spPf) (D4 : Keeps P w K mg base 2 "order_modulo" P_order_modulo spOm) : Keeps P w K mg base 4 "long_lows" P_long_lows spLl := h.keeps fun f fd F => by
  obtain ⟨f_need_prime, fd_need_prime, G_need_prime, b_need_prime, k_need_prime, m_need_prime⟩ := D1
  obtain ⟨f_need_number, fd_need_number, G_need_number, b_need_number, k_need_number, m_need_number⟩ := D2
  obtain ⟨f_prime_factors, fd_prime_factors, G_prime_factors, b_prime_factors, k_prime_factors, m_prime_factors⟩ := D3
  obtain ⟨f_order_modulo, fd_order_modulo, G_order_modulo, b_order_modulo, k_order_modulo, m_order_modulo⟩ := D4
  obtain ⟨t1, m_MOST_LISTED⟩ := c1
  refine F.ok sc_long_lows (fun vs H Q E h => ?_) (fun cdv A outer s H vs Q E hr h => ?_)
  · obtain ⟨p, most, q, rfl, _⟩ := h
    rfl
  · obtain ⟨p, most, q, rfl, hp, hm, hq, k⟩ := h
    have hu := hr.units
    refine ⟨_, (pss_cons (ps_expr (pe_call G_need_prime (hr.mono (by decide)) rfl m_need_prime k_need_prime b_need_prime .nil pass0 (pa_cons (pv 0) pa_nil)))
      (pss_cons (ps_expr (pe_call G_need_number (hr.mono (by decide)) rfl m_need_number k_need_number b_need_number .nil pass0 (pa_cons (pv 1) (pa_cons pe_int (pa_cons (pe_glob (v := .int _) rfl m_MOST_LISTED ⟨_, rfl⟩) pa_nil)))))
      (pss_cons (ps_set (i := 2) sc_long_lows.nd rfl (Or.inl rfl) (pe_lst pa_nil))
      (pss_cons (ps_for PassesOwn.never rfl (pi_range2 (by rfl) B.range (pa_cons pe_int (pa_cons (pe_op op_add (pv 1) pe_int) pa_nil))) (pg_name (i := 3) sc_long_lows.nd rfl (Or.inl rfl)) (pss_one (ps_if (PW.pt (pw_and (pt_cmpR op_ne (pv 3) (pv 0) (nomark _)) (pw_and (pt_cmpR (op_eqD hr.units) (pe_call G_prime_factors (hr.mono (by decide)) rfl m_prime_factors k_prime_factors b_prime_factors .nil pass0 (pa_cons (pv 3) pa_nil)) (pe_lst (pa_cons (pv 3) pa_nil)) (nomark _)) (pw_and1 (pt_cmpR op_eq (pe_call G_order_modulo (hr.mono (by decide)) rfl m_order_modulo k_order_modulo b_order_modulo .nil pass0 (pa_cons (pv 0) (pa_cons (pv 3) pa_nil))) (pe_op op_sub (pv 3) pe_int) (nomark _)))))) (pss_one (ps_expr (pe_bm PySem.F.plainAttrs_list PySem.F.slot_list_append PySem.F.type_list_append mt_append (pv 2) (pa_cons (pv 3) pa_nil)))) pss_nil)))
      (pss_one (ps_ret (pv 2))))))), ?_⟩
    refine ⟨_, rfl, p, rfl, hp, ?_⟩
    refine ⟨_, rfl, most, _, _, rfl, by omega, by omega, ?_⟩
    refine ⟨small (by decide), fun l nl => ?_⟩
    refine ⟨_, rfl, _, _, rfl, rfl, 2, _, rfl, ⟨by omega, by omega, by omega, by omega⟩, ?_⟩
    have en : ((most : Int) + 1 - 2).toNat = most - 1 := by omega
    show ∃ W : Nat → Nat → St → Hp → Prop, _
    refine for_range (lo := 2) (n := ((most : Int) + 1 - 2).toNat) (fun i σ H' => ∃ v3 : Option V, σ = [some (.int p), some (.int most), some (.ref l), v3] ∧ Same H H' ∧ H' l = some (.lst (inz (((List.range i).map (fun i => 2 + i)).filter q))))
      ⟨none, rfl, same_upd nl, upd_same⟩ ?_ ?_
    · rintro i σ H' hi ⟨v3, rfl, sm, el⟩
      rw [en] at hi
      have hq2 := hq (2 + i) (by omega) (by omega)
      have e2 : ((2 : Int) + (i : Int)) = ((2 + i : Nat) : Int) := by omega
      rw [e2]
      generalize ex : 2 + i = x at hq2
      have hx : 2 ≤ x ∧ x < 200 := by omega
      unfold Km.ltest at hq2
      refine ⟨_, rfl, _, rfl, rfl, _, rfl, ?_⟩
      rw [dEq]
      by_cases c : x = p
      · rw [if_pos c] at hq2
        have qf := Option.some.inj hq2
        rw [decide_eq_true c]
        refine iteF (iteF ?_)
        refine ⟨_, rfl, sm, ?_⟩
        rw [mf_neg (by rw [ex]; exact qf.symm)]
        exact el
      rw [if_neg c] at hq2
      rw [decide_eq_false c]
      refine iteT ?_
      cases hpf : Km.pf x with
      | none =>
        rw [hpf] at hq2
        cases hq2
      | some fs =>
      rw [hpf] at hq2
      dsimp only at hq2
      refine ⟨_, rfl, x, fs, rfl, hpf, fun H1 r sm1 nr er => ?_⟩
      refine ⟨_, rfl, small (by show 1 ≤ 1000; decide), fun l2 nl2 => ?_⟩
      have sm2 : Same H' (upd H1 l2 (.lst (inz [x]))) := sm1.trans (same_upd nl2)
      refine ⟨.list (dz fs), .list (dz [x]), dp_l (SqL.of ((same_upd nl2) _ _ er)), dp_l (SqL.of upd_same), dz_shaped _, dz_shaped _, _, rfl, ?_⟩
      rw [dz_eqvL]
      by_cases d : fs = [x]
      case neg =>
        rw [if_neg d] at hq2
        have qf := Option.some.inj hq2
        rw [decide_eq_false d]
        refine iteF (iteF ?_)
        refine ⟨_, rfl, sm.trans sm2, ?_⟩
        rw [mf_neg (by rw [ex]; exact qf.symm)]
        exact sm2 _ _ el
      rw [if_pos d] at hq2
      rw [decide_eq_true d]
      refine iteT ?_
      cases hom : Km.om p x with
      | none =>
        rw [hom] at hq2
        cases hq2
      | some e =>
      rw [hom] at hq2
      dsimp only at hq2
      have qf := Option.some.inj hq2
      refine ⟨_, rfl, _, rfl, p, x, e, rfl, hom, fun H3 sm3 => ?_⟩
      have sm4 : Same H' H3 := sm2.trans sm3
      have e1 : ((x : Int) - 1) = ((x - 1 : Nat) : Int) := by omega
      refine ⟨_, rfl, _, _, rfl, rfl, rfl, _, rfl, ?_⟩
      show if decide (V.int (e : Int) = V.int ((x : Int) - 1)) = true then _ else _
      rw [e1, dEq, qf]
      refine ite2 (fun g => ?_) (fun g => ?_)
      · refine ⟨_, rfl, .inl ⟨rfl, _, SqL.of (sm4 _ _ el)⟩, _, rfl, l, _, _, rfl, rfl, sm4 _ _ el, mf_len (by omega), ?_⟩
        refine ⟨_, rfl, sset (sm.trans sm4) nl, ?_⟩
        rw [upd_same, mf_pos (by rw [ex]; exact g), inz_append, ex]
        rfl
      · refine ⟨_, rfl, sm.trans sm4, ?_⟩
        rw [mf_neg (by rw [ex]; exact Bool.eq_false_iff.mpr g)]
        exact sm4 _ _ el
    · rintro σ H' ⟨v3, rfl, sm, el⟩
      rw [en] at el
      exact ⟨_, rfl, k H' l sm nl el⟩
end
end Kw

set_option Elab.async false
set_option linter.all false
set_option maxRecDepth 100000
set_option maxHeartbeats 4000000
namespace Kw
open PySem L2
/-! ### the law's draws: which number comes is left open -/
/-- all that was tracked stands as before, but for the drawer's list -/
def Keep1 (rw : Addr) (H H' : Hp) : Prop := ∀ b o, H b = some o → b ≠ rw → H' b = some o
theorem Keep1.refl (rw : Addr) (H : Hp) : Keep1 rw H H := fun _ _ e _ => e
theorem Keep1.trans {rw : Addr} {H H1 H2 : Hp} (a : Keep1 rw H H1) (b : Keep1 rw H1 H2) : Keep1 rw H H2 := fun c o e n => b c o (a c o e n) n
theorem keep1_upd {rw : Addr} {H H' : Hp} {o : HO} (a : Keep1 rw H H') : Keep1 rw H (upd H' rw o) := fun c u e n => by
  rw [upd_ne n]
  exact a c u e n
theorem keep1_seq {K : PySem.W.Frag} {rw sc : Addr} {H H' : Hp} {ns : List Int} {x : Addr} {xs : List V} (a : Keep1 rw H H') (e : H rw = some (.lst (.ref x :: xs))) (h : SqL K H sc (ns.map V.int)) : SqL K H' sc (ns.map V.int) := by
  have ne : ∀ o, H sc = some o → o ≠ .lst (.ref x :: xs) → sc ≠ rw := fun o q n z => by
    rw [z, e] at q
    exact n (Option.some.inj q).symm
  have n1 : ns.map V.int ≠ V.ref x :: xs := fun z => by
    cases ns with
    | nil => cases z
    | cons n r =>
      rw [List.map_cons] at z
      cases z
  rcases h with (h | ⟨o, h⟩) | h
  · exact .inl (.inl (a _ _ h (ne _ h (fun z => n1 (HO.lst.inj z)))))
  · exact .inl (.inr ⟨o, a _ _ h (ne _ h (fun z => by cases z))⟩)
  · exact .inr h
theorem mod_nat (x : Int) {m : Nat} (h : 0 < m) : ∃ y : Nat, y < m ∧ x.fmod (m : Int) = (y : Int) := by
  have h1 : 0 ≤ x % (m : Int) := Int.emod_nonneg _ (by omega)
  have h2 : x % (m : Int) < m := Int.emod_lt_of_pos _ (by omega)
  refine ⟨(x % (m : Int)).toNat, by omega, ?_⟩
  rw [Int.fmod_eq_emod_of_nonneg _ (by omega)]
  omega
def drw (sc : Addr) (i : Nat) (s r : Int) : HO := .lst [.ref sc, .int (i : Int), .int s, .int r]
section
variable {P : Program} {w : World} {K : PySem.W.Frag} {mg : Str → Option Value} {base : Heap}
def spTaken (K : PySem.W.Frag) : Sp := fun vs H Q _ => ∃ (rw sc : Addr) (ns : List Int) (i many : Nat) (s r : Int), vs = [.ref rw, .int many] ∧ H rw = some (drw sc i s r) ∧ SqL K H sc (ns.map V.int) ∧ 0 < many ∧ many < 1000 ∧
  ∀ (H' : Hp) (x j : Nat) (s' r' : Int), x < many → Keep1 rw H H' → H' rw = some (drw sc j s' r') → Q (.int x) H'
theorem d_taken (h : Has K mg "_law_taken" P_l_taken s_l_taken) (B : Bi mg) : Keeps P w K mg base 1 "_law_taken" P_l_taken (spTaken K) := h.keeps fun f fd F => by
  refine F.ok sc_l_taken (fun vs H Q E h => ?_) (fun cdv A outer s H vs Q E hr h => ?_)
  · obtain ⟨rw, sc, ns, i, many, s, r, rfl, _⟩ := h
    rfl
  · obtain ⟨rw, sc, ns, i, many, sd, r, rfl, er, hs, h0, h1, k⟩ := h
    refine ⟨_, (pss_cons (ps_if (pt_cmpR op_gt (pe_ix (r := rIxL K) ix_list (pv 0) pe_int (fun _ _ => rfl)) pe_int (nomark _)) (pss_cons (ps_set (i := 2) sc_l_taken.nd rfl (Or.inl rfl) (pe_op op_modN (pe_callTy call_int1 (by rfl) B.int (by decide +kernel) (pa_cons (pe_ix (r := rIxL K) ix_list (pv 0) pe_int (fun _ _ => rfl)) pa_nil)) (pv 1)))
      (pss_cons (ps_asg (pe_op op_fdivN (pe_ix (r := rIxL K) ix_list (pv 0) pe_int (fun _ _ => rfl)) (pv 1)) (pg_sub (pv 0) pe_int set_list))
      (pss_one (ps_ret (pv 2))))) pss_nil)
      (pss_cons (ps_asg (pe_op op_add (pe_ix (r := rIxL K) ix_list (pv 0) pe_int (fun _ _ => rfl)) pe_int) (pg_sub (pv 0) pe_int set_list))
      (pss_cons (ps_if (pt_cmpR op_gt (pe_ix (r := rIxL K) ix_list (pv 0) pe_int (fun _ _ => rfl)) (pe_callB call_len_seq (by rfl) B.len PySem.boot_len (pa_cons (pe_ix (r := rIxL K) ix_list (pv 0) pe_int (fun _ _ => rfl)) pa_nil)) (nomark _)) (pss_cons (ps_asg (pe_op op_modN (pe_callTy call_int1 (by rfl) B.int (by decide +kernel) (pa_cons (pe_op op_add (pe_op op_mul (pe_ix (r := rIxL K) ix_list (pv 0) pe_int (fun _ _ => rfl)) pe_int) pe_int) pa_nil)) pe_int) (pg_sub (pv 0) pe_int set_list))
      (pss_one (ps_ret (pe_op op_modN (pe_callTy call_int1 (by rfl) B.int (by decide +kernel) (pa_cons (pe_op op_fdivN (pe_ix (r := rIxL K) ix_list (pv 0) pe_int (fun _ _ => rfl)) pe_int) pa_nil)) (pv 1))))) pss_nil)
      (pss_cons (ps_set (i := 3) sc_l_taken.nd rfl (Or.inl rfl) (pe_ix (r := rIxL K) ix_list (pe_ix (r := rIxL K) ix_list (pv 0) pe_int (fun _ _ => rfl)) (pe_op op_sub (pe_ix (r := rIxL K) ix_list (pv 0) pe_int (fun _ _ => rfl)) pe_int) (fun _ _ => rfl)))
      (pss_cons (ps_asg (pe_op op_modN (pe_callTy call_int1 (by rfl) B.int (by decide +kernel) (pa_cons (pe_op op_add (pe_op op_add (pe_op op_mul (pe_ix (r := rIxL K) ix_list (pv 0) pe_int (fun _ _ => rfl)) pe_int) (pv 3)) pe_int) pa_nil)) pe_int) (pg_sub (pv 0) pe_int set_list))
      (pss_cons (ps_if (pt_cmpR op_ge (pv 3) (pe_op op_pow pe_int pe_int) (nomark _)) (pss_one (ps_asg (pe_op op_fdivN (pv 3) (pv 1)) (pg_sub (pv 0) pe_int set_list))) pss_nil)
      (pss_one (ps_ret (pe_op op_modN (pe_callTy call_int1 (by rfl) B.int (by decide +kernel) (pa_cons (pv 3) pa_nil)) (pv 1)))))))))), ?_⟩
    have hm : (many : Int) ≠ 0 ∧ ((many : Nat) : Int).natAbs < 1073741824 := by omega
    refine ⟨_, rfl, rw, _, ((3 : Nat) : Int), _, rfl, rfl, SqL.of er, atI_nat rfl, _, _, rfl, rfl, _, rfl, ?_⟩
    refine ite2 (fun c => ?_) (fun c => ?_)
    · obtain ⟨y, hy, ey⟩ := mod_nat r h0
      refine ⟨_, rfl, rw, _, ((3 : Nat) : Int), _, rfl, rfl, SqL.of er, atI_nat rfl, .inl ⟨r, rfl, _, rfl, _, _, rfl, rfl, hm.1, ?_⟩⟩
      refine ⟨_, rfl, rw, _, ((3 : Nat) : Int), _, rfl, rfl, SqL.of er, atI_nat rfl, _, rfl, _, _, rfl, rfl, hm, ?_⟩
      refine ⟨_, rfl, rw, _, ((3 : Nat) : Int), 3, rfl, rfl, er, rfl, _, rfl, ?_⟩
      show Q (.int (r.fmod (many : Int))) _
      rw [ey]
      exact k _ y i sd (r.fdiv (many : Int)) hy (keep1_upd (Keep1.refl _ _)) upd_same
    refine ⟨_, rfl, rw, _, ((1 : Nat) : Int), _, rfl, rfl, SqL.of er, atI_nat rfl, _, _, rfl, rfl, ?_⟩
    refine ⟨_, rfl, rw, _, ((1 : Nat) : Int), 1, rfl, rfl, er, rfl, ?_⟩
    have k1 : Keep1 rw H (upd H rw (drw sc (i + 1) sd r)) := keep1_upd (Keep1.refl _ _)
    have hs1 : SqL K (upd H rw (drw sc (i + 1) sd r)) sc (ns.map V.int) := keep1_seq k1 er hs
    generalize eH : upd H rw (drw sc (i + 1) sd r) = H1 at k1 hs1
    have er1 : H1 rw = some (drw sc (i + 1) sd r) := by rw [← eH, upd_same]
    have eH' : upd H rw (.lst ([V.ref sc, .int (i : Int), .int sd, .int r].set 1 (.int ((i : Int) + 1)))) = H1 := eH
    show tSeq _ _ _ _ (upd H rw (.lst ([V.ref sc, .int (i : Int), .int sd, .int r].set 1 (.int ((i : Int) + 1)))))
    rw [eH']
    refine ⟨_, rfl, rw, _, ((1 : Nat) : Int), _, rfl, rfl, SqL.of er1, atI_nat rfl, _, rfl, rw, _, ((0 : Nat) : Int), _, rfl, rfl, SqL.of er1, atI_nat rfl, sc, _, rfl, .inl hs1, _, _, rfl, rfl, _, rfl, ?_⟩
    show if decide ((((ns.map V.int).length : Nat) : Int) < ((i + 1 : Nat) : Int)) = true then _ else _
    rw [dLt, List.length_map]
    refine ite2 (fun d => ?_) (fun d => ?_)
    · obtain ⟨y, hy, ey⟩ := mod_nat (((sd * 48271 + 11).fmod 2147483647).fdiv 7) h0
      refine ⟨_, rfl, rw, _, ((2 : Nat) : Int), _, rfl, rfl, SqL.of er1, atI_nat rfl, _, _, rfl, rfl, .inr ⟨by decide, by decide⟩, _, _, rfl, rfl, .inl ⟨_, rfl, _, _, rfl, rfl, (by show (2147483647 : Int) ≠ 0; decide), ?_⟩⟩
      refine ⟨_, rfl, rw, _, ((2 : Nat) : Int), 2, rfl, rfl, er1, rfl, ?_⟩
      refine ⟨_, rfl, rw, _, ((2 : Nat) : Int), _, rfl, rfl, SqL.of upd_same, atI_nat rfl, _, _, rfl, rfl, ⟨by decide, by decide⟩, .inl ⟨_, rfl, _, rfl, _, _, rfl, rfl, hm.1, ?_⟩⟩
      show Q (.int ((((sd * 48271 + 11).fmod 2147483647).fdiv 7).fmod (many : Int))) _
      rw [ey]
      exact k _ y (i + 1) ((sd * 48271 + 11).fmod 2147483647) r hy (keep1_upd k1) upd_same
    have hi : i < ns.length := by
      have := no_dec d
      omega
    have e1 : (((i + 1 : Nat) : Int) - 1) = ((i : Nat) : Int) := by omega
    have hat : atI (ns.map V.int) (((i + 1 : Nat) : Int) - 1) = some (.int ns[i]) := by
      rw [e1]
      refine atI_nat ?_
      rw [List.getElem?_map, List.getElem?_eq_getElem hi]
      rfl
    generalize ns[i] = cell at hat
    refine ⟨_, rfl, rw, _, ((0 : Nat) : Int), _, rfl, rfl, SqL.of er1, atI_nat rfl, _, rfl, rw, _, ((1 : Nat) : Int), _, rfl, rfl, SqL.of er1, atI_nat rfl, _, _, rfl, rfl, sc, _, _, _, rfl, rfl, hs1, hat, ?_⟩
    refine ⟨_, rfl, rw, _, ((2 : Nat) : Int), _, rfl, rfl, SqL.of er1, atI_nat rfl, _, _, rfl, rfl, .inr ⟨by decide, by decide⟩, _, rfl, _, _, rfl, rfl, _, _, rfl, rfl, .inl ⟨_, rfl, _, _, rfl, rfl, (by show (2147483647 : Int) ≠ 0; decide), ?_⟩⟩
    refine ⟨_, rfl, rw, _, ((2 : Nat) : Int), 2, rfl, rfl, er1, rfl, ?_⟩
    have er2 : ∀ v, (upd H1 rw (.lst ([V.ref sc, .int ((i + 1 : Nat) : Int), .int sd, .int r].set 2 v))) rw = some (.lst ([V.ref sc, .int ((i + 1 : Nat) : Int), .int sd, .int r].set 2 v)) := fun v => upd_same
    obtain ⟨y, hy, ey⟩ := mod_nat cell h0
    refine ⟨_, rfl, _, _, rfl, rfl, ⟨by decide, by decide, by decide⟩, _, _, rfl, rfl, _, rfl, ?_⟩
    refine ite2 (fun g => ?_) (fun g => ?_)
    · refine ⟨_, rfl, _, rfl, _, _, rfl, rfl, hm, _, rfl, rw, _, ((3 : Nat) : Int), 3, rfl, rfl, er2 _, rfl, ?_⟩
      refine ⟨_, rfl, .inl ⟨_, rfl, _, rfl, _, _, rfl, rfl, hm.1, ?_⟩⟩
      show Q (.int (cell.fmod (many : Int))) _
      rw [ey]
      exact k _ y (i + 1) ((sd * 48271 + cell + 11).fmod 2147483647) (cell.fdiv (many : Int)) hy (keep1_upd (keep1_upd k1)) upd_same
    · refine ⟨_, rfl, .inl ⟨_, rfl, _, rfl, _, _, rfl, rfl, hm.1, ?_⟩⟩
      show Q (.int (cell.fmod (many : Int))) _
      rw [ey]
      exact k _ y (i + 1) ((sd * 48271 + cell + 11).fmod 2147483647) r hy (keep1_upd k1) upd_same
/-! ### one of some things; a prime -/
def spPick (K : PySem.W.Frag) : Sp := fun vs H Q _ => ∃ (rw sc l : Addr) (ns : List Int) (xs : List V) (i : Nat) (s r : Int), vs = [.ref rw, .ref l] ∧ H rw = some (drw sc i s r) ∧ SqL K H sc (ns.map V.int) ∧ H l = some (.lst xs) ∧ l ≠ rw ∧ 0 < xs.length ∧ xs.length < 1000 ∧
  ∀ (H' : Hp) (v : V) (j : Nat) (s' r' : Int), v ∈ xs → Keep1 rw H H' → H' rw = some (drw sc j s' r') → Q v H'
theorem d_pick (h : Has K mg "_law_pick" P_l_pick s_l_pick) (B : Bi mg) (D1 : Keeps P w K mg base 1 "_law_taken" P_l_taken (spTaken K)) : Keeps P w K mg base 2 "_law_pick" P_l_pick (spPick K) := h.keeps fun f fd F => by
  obtain ⟨f_l_taken, fd_l_taken, G_l_taken, b_l_taken, k_l_taken, m_l_taken⟩ := D1
  refine F.ok sc_l_pick (fun vs H Q E h => ?_) (fun cdv A outer s H vs Q E hr h => ?_)
  · obtain ⟨rw, sc, l, ns, xs, i, s, r, rfl, _⟩ := h
    rfl
  · obtain ⟨rw, sc, l, ns, xs, i, sd, r, rfl, er, hs, el, nl, h0, h1, k⟩ := h
    refine ⟨_, (pss_one (ps_ret (pe_ix (r := rIxL K) ix_list (pv 1) (pe_call G_l_taken (hr.mono (by decide)) rfl m_l_taken k_l_taken b_l_taken .nil pass0 (pa_cons (pv 0) (pa_cons (pe_callB call_len_seq (by rfl) B.len PySem.boot_len (pa_cons (pv 1) pa_nil)) pa_nil))) (fun _ _ => rfl)))), ?_⟩
    refine ⟨_, rfl, _, rfl, _, rfl, l, xs, rfl, .inl (SqL.of el), rw, sc, ns, i, xs.length, sd, r, rfl, er, hs, h0, h1, fun H1 x j s' r' hx kp er1 => ?_⟩
    have e : xs[x]? = some xs[x] := List.getElem?_eq_getElem hx
    refine ⟨l, xs, (x : Int), xs[x], rfl, rfl, SqL.of (kp _ _ el nl), atI_nat e, ?_⟩
    exact k H1 _ j s' r' (List.getElem_mem hx) kp er1
def spPrime (K : PySem.W.Frag) : Sp := fun vs H Q _ => ∃ (rw sc : Addr) (ns : List Int) (i : Nat) (s r : Int), vs = [.ref rw] ∧ H rw = some (drw sc i s r) ∧ SqL K H sc (ns.map V.int) ∧
  ∀ (H' : Hp) (p j : Nat) (s' r' : Int), isP p → Keep1 rw H H' → H' rw = some (drw sc j s' r') → Q (.int p) H'
theorem d_prime (h : Has K mg "_law_prime" P_l_prime s_l_prime) (D1 : Keeps P w K mg base 2 "_law_pick" P_l_pick (spPick K)) : Keeps P w K mg base 3 "_law_prime" P_l_prime (spPrime K) := h.keeps fun f fd F => by
  obtain ⟨f_l_pick, fd_l_pick, G_l_pick, b_l_pick, k_l_pick, m_l_pick⟩ := D1
  refine F.ok sc_l_prime (fun vs H Q E h => ?_) (fun cdv A outer s H vs Q E hr h => ?_)
  · obtain ⟨rw, sc, ns, i, s, r, rfl, _⟩ := h
    rfl
  · obtain ⟨rw, sc, ns, i, sd, r, rfl, er, hs, k⟩ := h
    refine ⟨_, (pss_one (ps_ret (pe_call G_l_pick (hr.mono (by decide)) rfl m_l_pick k_l_pick b_l_pick .nil pass0 (pa_cons (pv 0) (pa_cons (pe_lst (pa_cons pe_int (pa_cons pe_int (pa_cons pe_int (pa_cons pe_int (pa_cons pe_int pa_nil)))))) pa_nil))))), ?_⟩
    refine ⟨_, rfl, small (by show 5 ≤ 1000; decide), fun l nl => ?_⟩
    have nrl : rw ≠ l := ne_of_none er nl
    have s1 := same_upd (o := .lst [.int 2, .int 2, .int 3, .int 5, .int 7]) nl
    refine ⟨rw, sc, l, ns, _, i, sd, r, rfl, s1 _ _ er, s1.seq hs, upd_same, nrl.symm, by decide, by decide, fun H1 v j s' r' hv kp er1 => ?_⟩
    have kp0 : Keep1 rw H H1 := fun b o e n => kp b o (s1 b o e) n
    simp only [List.mem_cons, List.not_mem_nil, or_false] at hv
    rcases hv with rfl | rfl | rfl | rfl | rfl
    · exact k H1 2 j s' r' (.inl rfl) kp0 er1
    · exact k H1 2 j s' r' (.inl rfl) kp0 er1
    · exact k H1 3 j s' r' (.inr (.inl rfl)) kp0 er1
    · exact k H1 5 j s' r' (.inr (.inr (.inl rfl))) kp0 er1
    · exact k H1 7 j s' r' (.inr (.inr (.inr rfl))) kp0 er1
end
end Kw

set_option Elab.async false
set_option linter.all false
set_option maxRecDepth 100000
set_option maxHeartbeats 4000000
namespace Kw
open PySem L2
/-! ### tuples of ints at addresses -/
def Tups (H : Hp) : List Addr → List (List Nat) → Prop := Paired fun t w => H t = some (.tup (inz w))
theorem Tups.mono {H H' : Hp} (f : ∀ t xs, H t = some (.tup xs) → H' t = some (.tup xs)) : ∀ {ts : List Addr} {ws : List (List Nat)}, Tups H ts ws → Tups H' ts ws
  | _, _, .nil => .nil
  | _, _, .cons h t => .cons (f _ _ h) (Tups.mono f t)
theorem Tups.app {H : Hp} : ∀ {ts us : List Addr} {ws xs : List (List Nat)}, Tups H ts ws → Tups H us xs → Tups H (ts ++ us) (ws ++ xs)
  | _, _, _, _, .nil, s => s
  | _, _, _, _, .cons h t, s => .cons h (Tups.app t s)
theorem Tups.len {H : Hp} : ∀ {ts : List Addr} {ws : List (List Nat)}, Tups H ts ws → ts.length = ws.length
  | _, _, .nil => rfl
  | _, _, .cons h t => congrArg (· + 1) (Tups.len t)
theorem Tups.at {H : Hp} : ∀ {ts : List Addr} {ws : List (List Nat)} {i : Nat} {t : Addr}, Tups H ts ws → ts[i]? = some t → ∃ w, ws[i]? = some w ∧ H t = some (.tup (inz w))
  | _, _, _, _, .nil, e => by simp at e
  | _, _, 0, t, .cons h s, e => by
    simp at e
    subst e
    exact ⟨_, rfl, h⟩
  | _, _, i + 1, t, .cons h s, e => by
    obtain ⟨w, h1, h2⟩ := Tups.at (i := i) (t := t) s (by simpa using e)
    exact ⟨w, by simpa using h1, h2⟩
theorem same_tup {H H' : Hp} (s : Same H H') : ∀ t xs, H t = some (.tup xs) → H' t = some (.tup xs) := fun t xs e => s _ _ e
theorem tup_lst {H : Hp} {D : Addr} {xs ys : List V} (e : H D = some (.lst xs)) : ∀ t zs, H t = some (.tup zs) → (upd H D (.lst ys)) t = some (.tup zs) := fun t zs h => by
  rw [upd_ne (ne_of h e (fun z => by cases z))]
  exact h
def refs (ts : List Addr) : List V := ts.map V.ref
theorem refs_app (a b : List Addr) : refs (a ++ b) = refs a ++ refs b := List.map_append
theorem refs_len (a : List Addr) : (refs a).length = a.length := List.length_map _
theorem refs_get {ts : List Addr} {i : Nat} {x : V} (h : (refs ts)[i]? = some x) : ∃ t, ts[i]? = some t ∧ x = .ref t := by
  unfold refs at h
  rw [List.getElem?_map] at h
  cases e : ts[i]? with
  | none =>
    rw [e] at h
    cases h
  | some t =>
    rw [e] at h
    exact ⟨t, rfl, (Option.some.inj h).symm⟩
section
variable {P : Program} {w : World} {K : PySem.W.Frag} {mg : Str → Option Value} {base : Heap}
/-! ### _law_alike: of equal ints, then of equal lists of ints -/
def spAlikeI : Sp := fun vs H Q _ => ∃ a : Int, vs = [.int a, .int a] ∧ ∀ H', Same H H' → Q (.bl true) H'
theorem d_alike_i (h : Has K mg "_law_alike" P_l_alike s_l_alike) (B : Bi mg) : Keeps P w K mg base 1 "_law_alike" P_l_alike spAlikeI := h.keeps fun f fd F => by
  refine F.ok sc_l_alike (fun vs H Q E h => ?_) (fun cdv A outer s H vs Q E hr h => ?_)
  · obtain ⟨a, rfl, _⟩ := h
    rfl
  · obtain ⟨a, rfl, k⟩ := h
    refine ⟨_, (pss_cons (ps_if (pt_val (pe_callB call_isiT (by rfl) B.isinstance (by decide +kernel) (pa_cons (pv 1) (pa_cons (pe_tup (pa_cons (pe_bltn (v := .ty "tuple") (by rfl) B.tuple (by decide +kernel) rfl) (pa_cons (pe_bltn (v := .ty "list") (by rfl) B.list (by decide +kernel) rfl) pa_nil))) pa_nil)))) pss_never pss_nil)
      (pss_cons (ps_if (PW.pt (pw_or (pt_cmpR op_isN (pv 1) pe_non (nomark _)) (pw_or1 (pt_val (pe_callB call_isi (by rfl) B.isinstance (by decide +kernel) (pa_cons (pv 1) (pa_cons (pe_bltn (v := .ty "str") (by rfl) B.str (by decide +kernel) rfl) pa_nil))))))) (pss_one (ps_ret (pe_and (pe_cmpR op_eq (pv 0) (pv 1) (nomark _)) (pe_one (pe_cmpR op_eq (pe_callB call_isi (by rfl) B.isinstance (by decide +kernel) (pa_cons (pv 0) (pa_cons (pe_bltn (v := .ty "str") (by rfl) B.str (by decide +kernel) rfl) pa_nil))) (pe_callB call_isi (by rfl) B.isinstance (by decide +kernel) (pa_cons (pv 1) (pa_cons (pe_bltn (v := .ty "str") (by rfl) B.str (by decide +kernel) rfl) pa_nil))) (nomark _)))))) pss_nil)
      (pss_one (ps_ret (pe_and (pe_callB call_isi (by rfl) B.isinstance (by decide +kernel) (pa_cons (pv 0) (pa_cons (pe_bltn (v := .ty "int") (by rfl) B.int (by decide +kernel) rfl) pa_nil))) (pe_and (pe_cmpR op_eq (pe_callB call_isi (by rfl) B.isinstance (by decide +kernel) (pa_cons (pv 0) (pa_cons (pe_bltn (v := .ty "bool") (by rfl) B.bool (by decide +kernel) rfl) pa_nil))) (pe_callB call_isi (by rfl) B.isinstance (by decide +kernel) (pa_cons (pv 1) (pa_cons (pe_bltn (v := .ty "bool") (by rfl) B.bool (by decide +kernel) rfl) pa_nil))) (nomark _)) (pe_one (pe_cmpR op_eq (pv 0) (pv 1) (nomark _))))))))), ?_⟩
    refine ⟨_, rfl, small (by show 2 ≤ 1000; decide), fun t nt => ?_⟩
    refine ⟨.int a, t, _, .type "int", _, false, rfl, upd_same, .cons (.ty _) (.cons (.ty _) .nil), .base (.int a), kitAny_cons (b := false) (kit_ty (by decide +kernel)) (fun _ => kitAny_cons (b := false) (kit_ty (by decide +kernel)) (fun _ => kitAny_nil) (fun q => nomatch q)) (fun q => nomatch q), _, rfl, iteF ?_⟩
    refine ⟨_, rfl, rfl, _, rfl, ?_⟩
    refine iteF ?_
    refine ⟨_, rfl, .int a, .ty "str", .type "int", .type "str", false, rfl, .ty _, .base (.int a), kit_ty (by decide +kernel), _, rfl, iteF ?_⟩
    refine ⟨_, rfl, .int a, .ty "int", .type "int", .type "int", true, rfl, .ty _, .base (.int a), kit_ty (by decide +kernel), _, rfl, iteT ?_⟩
    refine ⟨_, rfl, .int a, .ty "bool", .type "int", .type "bool", false, rfl, .ty _, .base (.int a), kit_ty (by decide +kernel), ?_⟩
    refine ⟨_, rfl, .int a, .ty "bool", .type "int", .type "bool", false, rfl, .ty _, .base (.int a), kit_ty (by decide +kernel), ?_⟩
    refine ⟨rfl, _, rfl, iteT ?_⟩
    refine ⟨_, rfl, _, rfl, rfl, ?_⟩
    show Q (.bl (decide (V.int a = V.int a))) _
    rw [decide_eq_true rfl]
    exact k _ (same_upd nt)
def spAlikeL : Sp := fun vs H Q _ => ∃ (l1 l2 : Addr) (ns : List Nat), vs = [.ref l1, .ref l2] ∧ H l1 = some (.lst (inz ns)) ∧ H l2 = some (.lst (inz ns)) ∧ ns.length ≤ 1000 ∧ ∀ H', Same H H' → Q (.bl true) H'
theorem d_alike_l (h : Has K mg "_law_alike" P_l_alike s_l_alike) (B : Bi mg) (D1 : Keeps P w K mg base 1 "_law_alike" P_l_alike spAlikeI) : Keeps P w K mg base 2 "_law_alike" P_l_alike spAlikeL := h.keeps fun f fd F => by
  obtain ⟨f_l_alike, fd_l_alike, G_l_alike, b_l_alike, k_l_alike, m_l_alike⟩ := D1
  refine F.ok sc_l_alike (fun vs H Q E h => ?_) (fun cdv A outer s H vs Q E hr h => ?_)
  · obtain ⟨l1, l2, ns, rfl, _⟩ := h
    rfl
  · obtain ⟨l1, l2, ns, rfl, e1, e2, hn, k⟩ := h
    refine ⟨_, (pss_cons (ps_if (pt_val (pe_callB call_isiT (by rfl) B.isinstance (by decide +kernel) (pa_cons (pv 1) (pa_cons (pe_tup (pa_cons (pe_bltn (v := .ty "tuple") (by rfl) B.tuple (by decide +kernel) rfl) (pa_cons (pe_bltn (v := .ty "list") (by rfl) B.list (by decide +kernel) rfl) pa_nil))) pa_nil)))) (pss_cons (ps_if (PW.pt (pw_or (pt_not (pt_val (pe_callB call_isiT (by rfl) B.isinstance (by decide +kernel) (pa_cons (pv 0) (pa_cons (pe_tup (pa_cons (pe_bltn (v := .ty "tuple") (by rfl) B.tuple (by decide +kernel) rfl) (pa_cons (pe_bltn (v := .ty "list") (by rfl) B.list (by decide +kernel) rfl) pa_nil))) pa_nil))))) (pw_or1 (pt_cmpR op_ne (pe_callB call_isi (by rfl) B.isinstance (by decide +kernel) (pa_cons (pv 0) (pa_cons (pe_bltn (v := .ty "list") (by rfl) B.list (by decide +kernel) rfl) pa_nil))) (pe_callB call_isi (by rfl) B.isinstance (by decide +kernel) (pa_cons (pv 1) (pa_cons (pe_bltn (v := .ty "list") (by rfl) B.list (by decide +kernel) rfl) pa_nil))) (nomark _))))) (pss_one (ps_ret pe_bl)) pss_nil)
      (pss_cons (ps_if (pt_cmpR op_ne (pe_callB call_len_seq (by rfl) B.len PySem.boot_len (pa_cons (pv 0) pa_nil)) (pe_callB call_len_seq (by rfl) B.len PySem.boot_len (pa_cons (pv 1) pa_nil)) (nomark _)) (pss_one (ps_ret pe_bl)) pss_nil)
      (pss_one (ps_ret (pe_cmpR (op_eqD hr.units) (pe_lc (own := [("_law_k", 2)]) (g := gName 2) rfl sc_l_alike.nd (pi_range1 (by rfl) B.range (pa_cons (pe_callB call_len_seq (by rfl) B.len PySem.boot_len (pa_cons (pv 1) pa_nil)) pa_nil)) (blkOk_by (own := [("_law_k", 2)]) (N := N_l_alike) (sc := defScope s_l_alike) (by decide +kernel)) (fun _ _ _ _ _ => pg_name (i := 2) sc_l_alike.nd rfl (Or.inl rfl)) (fun _ _ _ _ _ => (pts_one (pt_not (pt_val (pe_call G_l_alike (hr.mono (by decide)) rfl m_l_alike k_l_alike b_l_alike .nil pass0 (pa_cons (pe_ix (r := rIxL K) ix_list (pv 0) (pv 2) (fun _ _ => rfl)) (pa_cons (pe_ix (r := rIxL K) ix_list (pv 1) (pv 2) (fun _ _ => rfl)) pa_nil))))))) (fun _ _ _ _ _ => (pv 2))) (pe_lst pa_nil) (nomark _)))))) pss_nil)
      (pss_cons (ps_if (PW.pt (pw_or (pt_cmpR op_isN (pv 1) pe_non (nomark _)) (pw_or1 (pt_val (pe_callB call_isi (by rfl) B.isinstance (by decide +kernel) (pa_cons (pv 1) (pa_cons (pe_bltn (v := .ty "str") (by rfl) B.str (by decide +kernel) rfl) pa_nil))))))) (pss_one (ps_ret (pe_and (pe_cmpR op_eq (pv 0) (pv 1) (nomark _)) (pe_one (pe_cmpR op_eq (pe_callB call_isi (by rfl) B.isinstance (by decide +kernel) (pa_cons (pv 0) (pa_cons (pe_bltn (v := .ty "str") (by rfl) B.str (by decide +kernel) rfl) pa_nil))) (pe_callB call_isi (by rfl) B.isinstance (by decide +kernel) (pa_cons (pv 1) (pa_cons (pe_bltn (v := .ty "str") (by rfl) B.str (by decide +kernel) rfl) pa_nil))) (nomark _)))))) pss_nil)
      (pss_one (ps_ret (pe_and (pe_callB call_isi (by rfl) B.isinstance (by decide +kernel) (pa_cons (pv 0) (pa_cons (pe_bltn (v := .ty "int") (by rfl) B.int (by decide +kernel) rfl) pa_nil))) (pe_and (pe_cmpR op_eq (pe_callB call_isi (by rfl) B.isinstance (by decide +kernel) (pa_cons (pv 0) (pa_cons (pe_bltn (v := .ty "bool") (by rfl) B.bool (by decide +kernel) rfl) pa_nil))) (pe_callB call_isi (by rfl) B.isinstance (by decide +kernel) (pa_cons (pv 1) (pa_cons (pe_bltn (v := .ty "bool") (by rfl) B.bool (by decide +kernel) rfl) pa_nil))) (nomark _)) (pe_one (pe_cmpR op_eq (pv 0) (pv 1) (nomark _))))))))), ?_⟩
    have kl : PySem.W.kitAny K (.type "list") [.type "tuple", .type "list"] = some true := kitAny_cons (b := false) (kit_ty (by decide +kernel)) (fun _ => kitAny_cons (b := true) (kit_ty (by decide +kernel)) (fun q => nomatch q) (fun _ => rfl)) (fun q => nomatch q)
    refine ⟨_, rfl, small (by show 2 ≤ 1000; decide), fun t nt => ?_⟩
    have s1 := same_upd (o := .tup [.ty "tuple", .ty "list"]) nt
    refine ⟨.ref l2, t, _, .type "list", _, true, rfl, upd_same, .cons (.ty _) (.cons (.ty _) .nil), .base (.lst (s1 _ _ e2)), kl, _, rfl, iteT ?_⟩
    refine ⟨_, rfl, small (by show 2 ≤ 1000; decide), fun u nu => ?_⟩
    have s2 := snew (o := .tup [.ty "tuple", .ty "list"]) s1 nu
    refine ⟨.ref l1, u, _, .type "list", _, true, rfl, upd_same, .cons (.ty _) (.cons (.ty _) .nil), .base (.lst (s2 _ _ e1)), kl, _, rfl, ?_⟩
    refine iteF ?_
    refine ⟨_, rfl, .ref l1, .ty "list", .type "list", .type "list", true, rfl, .ty _, .base (.lst (s2 _ _ e1)), kit_ty (by decide +kernel), ?_⟩
    refine ⟨_, rfl, .ref l2, .ty "list", .type "list", .type "list", true, rfl, .ty _, .base (.lst (s2 _ _ e2)), kit_ty (by decide +kernel), ?_⟩
    refine ⟨rfl, _, rfl, ?_⟩
    refine iteF ?_
    refine ⟨_, rfl, l1, _, rfl, .inl (SqL.of (s2 _ _ e1)), _, rfl, l2, _, rfl, .inl (SqL.of (s2 _ _ e2)), rfl, _, rfl, ?_⟩
    rw [decide_eq_true rfl]
    refine iteF ?_
    refine ⟨_, rfl, l2, _, rfl, .inl (SqL.of (s2 _ _ e2)), ((inz ns).length : Int), rfl, by omega, by rw [inz_length]; omega, fun D nD => ?_⟩
    refine lc_range (lo := 0) (n := ((inz ns).length : Int).toNat) (fun i H' => Same H H' ∧ H' D = some (.lst (inz []))) ⟨snew s2 nD, upd_same⟩ ?_ ?_
    · rintro i H' hi ⟨sm, eD⟩
      rw [inz_length] at hi
      have hi2 : i < ns.length := by omega
      have at1 : atI (inz ns) (0 + (i : Int)) = some (.int (ns[i] : Int)) := by
        rw [Int.zero_add]
        refine atI_nat ?_
        unfold inz
        rw [List.getElem?_map, List.getElem?_eq_getElem hi2]
        rfl
      refine ⟨rfl, ?_⟩
      refine ⟨_, rfl, _, rfl, l1, _, _, _, rfl, rfl, SqL.of (sm _ _ e1), at1, _, rfl, _, rfl, l2, _, _, _, rfl, rfl, SqL.of (sm _ _ e2), at1, _, rfl, fun H2 sm2 => ?_⟩
      refine ⟨_, rfl, ?_⟩
      exact iteF ⟨sm.trans sm2, sm2 _ _ eD⟩
    · rintro H' ⟨sm, eD⟩
      refine ⟨Nat.zero_le _, fun z nz => ?_⟩
      refine ⟨.list (dz []), .list (dz []), dp_l (SqL.of (same_upd nz _ _ eD)), dp_l (SqL.of upd_same), dz_shaped _, dz_shaped _, ?_⟩
      rw [dz_eqvL, decide_eq_true rfl]
      exact k _ (snew sm nz)
/-! ### _law_whole_power -/
def spWp : Sp := fun vs H Q _ => ∃ p e : Nat, vs = [.int p, .int e] ∧ isP p ∧ e ≤ 3 ∧ Q (.int (p ^ e : Nat)) H
theorem d_whole_power (h : Has K mg "_law_whole_power" P_l_whole_power s_l_whole_power) (B : Bi mg) : Keeps P w K mg base 1 "_law_whole_power" P_l_whole_power spWp := h.keeps fun f fd F => by
  refine F.ok sc_l_whole_power (fun vs H Q E h => ?_) (fun cdv A outer s H vs Q E hr h => ?_)
  · obtain ⟨p, e, rfl, _⟩ := h
    rfl
  · obtain ⟨p, e, rfl, hp, he, k⟩ := h
    obtain ⟨p0, p8⟩ := isP_lt hp
    refine ⟨_, (pss_cons (ps_set (i := 2) sc_l_whole_power.nd rfl (Or.inl rfl) pe_int)
      (pss_cons (ps_for PassesOwn.never rfl (pi_range1 (by rfl) B.range (pa_cons (pv 1) pa_nil)) (pg_name (i := 3) sc_l_whole_power.nd rfl (Or.inl rfl)) (pss_one (ps_set (i := 2) sc_l_whole_power.nd rfl (Or.inl rfl) (pe_op op_mul (pv 2) (pv 0)))))
      (pss_one (ps_ret (pv 2))))), ?_⟩
    refine ⟨_, rfl, e, rfl, by omega, by omega, ?_⟩
    refine for_range (lo := 0) (n := ((e : Int)).toNat) (fun i σ H' => ∃ v : Option V, σ = [some (.int p), some (.int e), some (.int (p ^ i : Nat)), v] ∧ H' = H) ⟨none, rfl, rfl⟩ ?_ ?_
    · rintro i σ H' hi ⟨v, rfl, rfl⟩
      refine ⟨_, rfl, _, rfl, _, _, rfl, rfl, .inr ⟨by omega, by omega⟩, ?_⟩
      refine ⟨some (.int (0 + (i : Int))), ?_, rfl⟩
      rw [Nat.pow_succ, Int.natCast_mul]
      rfl
    · rintro σ H' ⟨v, rfl, rfl⟩
      have en : ((e : Int)).toNat = e := Int.toNat_natCast e
      rw [en]
      exact ⟨_, rfl, k⟩
end
end Kw

set_option Elab.async false
set_option linter.all false
set_option maxRecDepth 100000
set_option maxHeartbeats 4000000
namespace Km
/-- the block repeated, and its word at a place -/
def rep (s : Nat) (bl : List Nat) : List Nat := (List.replicate (s / bl.length + 2) bl).flatten
def cyc (s : Nat) (bl : List Nat) (i : Nat) : List Nat := ((rep s bl).drop i).take s
theorem rep_len (s : Nat) (bl : List Nat) : (rep s bl).length = (s / bl.length + 2) * bl.length := by
  unfold rep
  rw [List.length_flatten, List.map_replicate, List.sum_replicate_nat]
theorem rep_long (s : Nat) (bl : List Nat) (h : bl ≠ []) {i : Nat} (hi : i < bl.length) : i + s ≤ (rep s bl).length := by
  rw [rep_len]
  have h0 : 0 < bl.length := by omega
  have h1 := Nat.div_add_mod s bl.length
  have h2 := Nat.mod_lt s h0
  rw [Nat.add_mul, Nat.mul_comm (s / bl.length)]
  omega
end Km
namespace Kw
open PySem L2
theorem inz_rep (s : Nat) (bl : List Nat) : (List.replicate (s / bl.length + 2) (inz bl)).flatten = inz (Km.rep s bl) := by
  unfold Km.rep inz
  rw [List.map_flatten, List.map_replicate]
theorem inz_cut {xs : List Nat} {i s : Nat} (h : i + s ≤ xs.length) : cutV (inz xs) (some (i : Int)) (some ((i + s : Nat) : Int)) = inz ((xs.drop i).take s) := by
  unfold cutV
  rw [inz_length, HT.sIx_nat, HT.sIx_nat, Nat.min_eq_left h, Nat.min_eq_left (by omega), Nat.add_sub_cancel_left]
  unfold inz
  rw [List.map_take, List.map_drop]
theorem cut_whole {xs : List V} {lo hi : Option Int} (h : HT.sIx xs.length 0 lo = 0 ∧ HT.sIx xs.length xs.length hi = xs.length) : cutV xs lo hi = xs := by
  unfold cutV
  rw [h.1, h.2, Nat.sub_zero, List.drop_zero, List.take_length]
theorem lc_yes {σ : St} {H : Hp} {A B : Hp → Prop} (h : A H) : tYes σ H (fun b H3 => if b = true then A H3 else B H3) := by
  show if true = true then A H else B H
  exact iteT h
section
variable {P : Program} {w : World} {K : PySem.W.Frag} {mg : Str → Option Value} {base : Heap}
/-! ### _law_words -/
def spWords : Sp := fun vs H Q _ => ∃ (b : Addr) (bl : List Nat) (s : Nat), vs = [.int s, .ref b] ∧ H b = some (.tup (inz bl)) ∧ bl ≠ [] ∧ bl.length ≤ 400 ∧ s ≤ 3 ∧
  ∀ (H' : Hp) (r : Addr) (ts : List Addr), Same H H' → H r = none → H' r = some (.lst (refs ts)) → Tups H' ts ((List.range bl.length).map (Km.cyc s bl)) → Q (.ref r) H'
theorem d_words (h : Has K mg "_law_words" P_l_words s_l_words) (B : Bi mg) : Keeps P w K mg base 1 "_law_words" P_l_words spWords := h.keeps fun f fd F => by
  refine F.ok sc_l_words (fun vs H Q E h => ?_) (fun cdv A outer s H vs Q E hr h => ?_)
  · obtain ⟨b, bl, s, rfl, _⟩ := h
    rfl
  · obtain ⟨b, bl, sz, rfl, eb, hne, hl, hs, k⟩ := h
    have h0 : 0 < bl.length := List.length_pos_iff.mpr hne
    have hd : sz / bl.length ≤ 3 := Nat.le_trans (Nat.div_le_self _ _) hs
    obtain ⟨kk, hk⟩ : ∃ kk, sz / bl.length = kk := ⟨_, rfl⟩
    rw [hk] at hd
    refine ⟨_, (pss_cons (ps_set (i := 2) sc_l_words.nd rfl (Or.inr rfl) (pe_op op_repT (pv 1) (pe_op op_add (pe_op op_fdiv (pv 0) (pe_callB call_len_seq (by rfl) B.len PySem.boot_len (pa_cons (pv 1) pa_nil))) pe_int)))
      (pss_one (ps_ret (pe_lc (own := [("_law_at", 3)]) (g := gName 3) (tt := tYes) rfl sc_l_words.nd (pi_range1 (by rfl) B.range (pa_cons (pe_callB call_len_seq (by rfl) B.len PySem.boot_len (pa_cons (pv 1) pa_nil)) pa_nil)) (blkOk_by (own := [("_law_at", 3)]) (N := N_l_words) (sc := defScope s_l_words) (by decide +kernel)) (fun _ _ _ _ _ => pg_name (i := 3) sc_l_words.nd rfl (Or.inl rfl)) (fun _ _ _ _ _ => pts_nil) (fun _ _ _ _ _ => (pe_slice (r := rSlA K) sl_tupA (pv 2) (po_some (pv 3)) (po_some (pe_op op_add (pv 3) (pv 0))))))))), ?_⟩
    have ek : ((sz : Int) / ((inz bl).length : Int) + 2) = ((kk + 2 : Nat) : Int) := by
      rw [inz_length, ← Int.natCast_ediv, hk]
      rfl
    refine ⟨_, rfl, _, rfl, _, rfl, b, _, rfl, .inr (SqT.of eb), _, _, rfl, rfl, ⟨(by rw [inz_length]; omega), (by rw [inz_length]; omega)⟩, _, _, rfl, rfl, ?_⟩
    refine ⟨b, _, _, rfl, rfl, SqT.of eb, (fun z => hne (by
      have q := congrArg List.length z
      rw [inz_length] at q
      exact List.eq_nil_of_length_eq_zero q)), (by rw [ek]; omega), (by rw [ek]; omega), (by rw [inz_length]; omega), fun rp np => ?_⟩
    have er : (List.replicate ((sz : Int) / ((inz bl).length : Int) + 2).toNat (inz bl)).flatten = inz (Km.rep sz bl) := by
      rw [ek, Int.toNat_natCast, ← hk, inz_rep]
    rw [er]
    have sb : Same H (upd H rp (.tup (inz (Km.rep sz bl)))) := same_upd np
    refine ⟨_, rfl, b, _, rfl, .inr (SqT.of (sb _ _ eb)), _, rfl, by omega, by rw [inz_length]; omega, fun D nD => ?_⟩
    refine lc_range (lo := 0) (n := (((inz bl).length : Nat) : Int).toNat) (fun i H' => ∃ ts : List Addr, Same (upd H rp (.tup (inz (Km.rep sz bl)))) H' ∧ H' D = some (.lst (refs ts)) ∧ ts.length = i ∧ Tups H' ts ((List.range i).map (Km.cyc sz bl)))
      ⟨[], same_upd nD, upd_same, rfl, .nil⟩ ?_ ?_
    · rintro i H' hi ⟨ts, sm, eD, hlen, hT⟩
      rw [inz_length] at hi
      have hi2 : i < bl.length := by omega
      have ep := sm _ _ upd_same
      have e1 : ((0 : Int) + (i : Int)) = (i : Int) := Int.zero_add _
      have e2 : ((i : Int) + (sz : Int)) = ((i + sz : Nat) : Int) := rfl
      have hcut : cutV (inz (Km.rep sz bl)) (some (i : Int)) (some ((i + sz : Nat) : Int)) = inz (Km.cyc sz bl i) := inz_cut (Km.rep_long sz bl hne hi2)
      have hsz : (refs ts).length < sizeLine := by
        rw [refs_len]
        exact small1000 (by omega)
      rw [e1]
      refine ⟨rfl, lc_yes ?_⟩
      refine ⟨_, rfl, _, rfl, _, rfl, _, rfl, _, rfl, _, _, rfl, rfl, _, rfl, ?_⟩
      refine ⟨rp, _, rfl, SqT.of ep, fun hw => ?_, fun _ q nq => ?_⟩
      · -- the word is the whole row
        have hx := cut_whole hw
        refine ⟨_, eD, hsz, ts ++ [rp], sset sm nD, ?_, ?_, ?_⟩
        · rw [upd_same, refs_app]
          rfl
        · rw [List.length_append, List.length_singleton, hlen]
        · rw [List.range_succ, List.map_append]
          refine Tups.app (Tups.mono (tup_lst eD) hT) (.cons ?_ .nil)
          rw [tup_lst eD _ _ ep, ← hcut]
          exact congrArg (fun z => some (HO.tup z)) hx.symm
      · have sq : Same (upd H rp (.tup (inz (Km.rep sz bl)))) (upd H' q (.tup (cutV (inz (Km.rep sz bl)) (some (i : Int)) (some ((i + sz : Nat) : Int))))) := snew sm nq
        have eDq := (same_upd (o := .tup (cutV (inz (Km.rep sz bl)) (some (i : Int)) (some ((i + sz : Nat) : Int)))) nq) _ _ eD
        refine ⟨_, eDq, hsz, ts ++ [q], sset sq nD, ?_, ?_, ?_⟩
        · rw [upd_same, refs_app]
          rfl
        · rw [List.length_append, List.length_singleton, hlen]
        · rw [List.range_succ, List.map_append]
          refine Tups.app (Tups.mono (tup_lst eDq) (Tups.mono (same_tup (same_upd nq)) hT)) (.cons ?_ .nil)
          refine tup_lst eDq _ _ ?_
          rw [← hcut]
          exact upd_same
    · rintro H' ⟨ts, sm, eD, hlen, hT⟩
      rw [inz_length, Int.toNat_natCast] at hT
      exact k H' D ts (sb.trans sm) (sb.free nD) eD hT
/-! ### _law_every -/
def spEvery : Sp := fun vs H Q _ => ∃ p s : Nat, vs = [.int p, .int s] ∧ isP p ∧ s ≤ 3 ∧
  ∀ (H' : Hp) (r : Addr) (ts : List Addr), Same H H' → H' r = some (.lst (refs ts)) → Tups H' ts (Km.every p s) → Q (.ref r) H'
def ext (p : Nat) (w : List Nat) : List (List Nat) := (List.range p).map fun n => w ++ [n]
theorem every_len {p : Nat} (hp : isP p) : ∀ s, s ≤ 3 → (Km.every p s).length ≤ 343 := by
  intro s hs
  have : s = 0 ∨ s = 1 ∨ s = 2 ∨ s = 3 := by omega
  rcases hp with rfl | rfl | rfl | rfl <;> rcases this with rfl | rfl | rfl | rfl <;> decide +kernel
theorem flat_len (p : Nat) : ∀ ws : List (List Nat), (ws.flatMap (ext p)).length = ws.length * p
  | [] => by simp
  | w :: r => by
    rw [List.flatMap_cons, List.length_append, flat_len p r]
    unfold ext
    rw [List.length_map, List.length_range, List.length_cons, Nat.add_mul, Nat.one_mul, Nat.add_comm]
theorem d_every (h : Has K mg "_law_every" P_l_every s_l_every) (B : Bi mg) : Keeps P w K mg base 1 "_law_every" P_l_every spEvery := h.keeps fun f fd F => by
  refine F.ok sc_l_every (fun vs H Q E h => ?_) (fun cdv A outer s H vs Q E hr h => ?_)
  · obtain ⟨p, s, rfl, _⟩ := h
    rfl
  · obtain ⟨p, sz, rfl, hp, hs, k⟩ := h
    obtain ⟨p0, p8⟩ := isP_lt hp
    refine ⟨_, (pss_cons (ps_set (i := 2) sc_l_every.nd rfl (Or.inl rfl) (pe_lst (pa_cons (pe_tup pa_nil) pa_nil)))
      (pss_cons (ps_for PassesOwn.never rfl (pi_range1 (by rfl) B.range (pa_cons (pv 1) pa_nil)) (pg_name (i := 3) sc_l_every.nd rfl (Or.inl rfl)) (pss_cons (ps_set (i := 4) sc_l_every.nd rfl (Or.inl rfl) (pe_lst pa_nil))
      (pss_cons (ps_for PassesOwn.never rfl (pi_list (pv 2)) (pg_name (i := 5) sc_l_every.nd rfl (Or.inr rfl)) (pss_one (ps_set (i := 4) sc_l_every.nd rfl (Or.inl rfl) (pe_op op_cat (pv 4) (pe_lc (own := [("_law_number", 6)]) (g := gName 6) (tt := tYes) rfl sc_l_every.nd (pi_range1 (by rfl) B.range (pa_cons (pv 0) pa_nil)) (blkOk_by (own := [("_law_number", 6)]) (N := N_l_every) (sc := defScope s_l_every) (by decide +kernel)) (fun _ _ _ _ _ => pg_name (i := 6) sc_l_every.nd rfl (Or.inl rfl)) (fun _ _ _ _ _ => pts_nil) (fun _ _ _ _ _ => (pe_op (r := rCatA K) op_catA (pv 5) (pe_tup (pa_cons (pv 6) pa_nil)))))))))
      (pss_one (ps_set (i := 2) sc_l_every.nd rfl (Or.inl rfl) (pv 4))))))
      (pss_one (ps_ret (pv 2))))), ?_⟩
    refine ⟨Nat.zero_le _, fun t0 nt0 => ⟨small (by show 1 ≤ 1000; decide), fun fl nfl => ?_⟩⟩
    refine ⟨_, rfl, sz, rfl, by omega, by omega, ?_⟩
    refine for_range (lo := 0) (n := ((sz : Int)).toNat) (fun i σ H' => ∃ (fl : Addr) (ts : List Addr) (v3 v4 v5 : Option V), σ = [some (.int p), some (.int sz), some (.ref fl), v3, v4, v5, none] ∧ Same H H' ∧ H' fl = some (.lst (refs ts)) ∧ Tups H' ts (Km.every p i))
      ⟨fl, [t0], none, none, none, rfl, (same_upd nt0).trans (same_upd nfl), upd_same, .cons ((same_upd nfl) _ _ upd_same) .nil⟩ ?_ ?_
    · rintro i σ H1 hi ⟨fl, ts, v3, v4, v5, rfl, sm1, efl, hT⟩
      have his : i + 1 ≤ sz := by omega
      have hlen : ts.length = (Km.every p i).length := hT.len
      have hmax : (Km.every p i).length * p ≤ 343 := by
        have q := every_len hp (i + 1) (by omega)
        have q2 : (Km.every p (i + 1)).length = (Km.every p i).length * p := flat_len p _
        omega
      have hmax1 : (Km.every p i).length ≤ 343 := Nat.le_trans (Nat.le_mul_of_pos_right _ p0) hmax
      refine ⟨Nat.zero_le _, fun ll nll => ?_⟩
      have sl := same_upd (o := .lst []) nll
      refine ⟨_, rfl, fl, rfl, ⟨_, SqL.of (sl _ _ efl)⟩, ?_⟩
      refine for_list (K := K) (a := fl) (xs := refs ts) (fun j σ H' => ∃ (ll : Addr) (us : List Addr) (v5 : Option V), σ = [some (.int p), some (.int sz), some (.ref fl), some (.int (0 + (i : Int))), some (.ref ll), v5, none] ∧ Same H1 H' ∧ H' ll = some (.lst (refs us)) ∧ Tups H' us (((Km.every p i).take j).flatMap (ext p)))
        ⟨ll, [], v5, rfl, sl, upd_same, .nil⟩ (fun j σ H' _ ⟨_, _, _, _, sm, _⟩ => SqL.of (sm _ _ efl)) ?_ ?_
      · rintro j x σ H2 hx ⟨ll, us, v5, rfl, sm2, ell, hU⟩
        obtain ⟨t, ht, rfl⟩ := refs_get hx
        obtain ⟨wd, hw, et⟩ := hT.at ht
        have hj : j < (Km.every p i).length := (List.getElem?_eq_some_iff.mp hw).1
        have ulen : us.length = j * p := by
          rw [hU.len, flat_len, List.length_take, Nat.min_eq_left (by omega)]
        have ulen2 : us.length + p ≤ 343 := by
          have q : (j + 1) * p ≤ (Km.every p i).length * p := Nat.mul_le_mul_right p hj
          rw [Nat.add_mul, Nat.one_mul] at q
          omega
        refine ⟨_, rfl, _, rfl, p, rfl, by omega, by omega, fun D nD => ?_⟩
        refine lc_range (lo := 0) (n := ((p : Int)).toNat) (fun m H' => ∃ ys : List Addr, Same H2 H' ∧ H' D = some (.lst (refs ys)) ∧ Tups H' ys ((List.range m).map fun n => wd ++ [n]))
          ⟨[], same_upd nD, upd_same, .nil⟩ ?_ ?_
        · rintro m H3 hm ⟨ys, sm3, eD, hY⟩
          have e0 : ((0 : Int) + (m : Int)) = (m : Int) := Int.zero_add _
          have ylen : ys.length = m := by
            rw [hY.len, List.length_map, List.length_range]
          have hsz : (refs ys).length < sizeLine := by
            rw [refs_len]
            exact small1000 (by omega)
          have et3 : H3 t = some (.tup (inz wd)) := sm3 _ _ (sm2 _ _ et)
          rw [e0]
          refine ⟨rfl, lc_yes ?_⟩
          refine ⟨_, rfl, _, rfl, small (by show 1 ≤ 1000; decide), fun q nq => ?_⟩
          have sq := same_upd (o := .tup [.int (m : Int)]) nq
          have wlen : wd.length ≤ 900 := by
            have hb : (inz wd).length = wd.length := inz_length wd
            have : ∀ s w, w ∈ Km.every p s → w.length = s := by
              intro s
              induction s with
              | zero =>
                intro w hw
                simp [Km.every] at hw
                subst hw
                rfl
              | succ s ih =>
                intro w hw
                simp only [Km.every, List.mem_flatMap, List.mem_map] at hw
                obtain ⟨a, ha, n, _, rfl⟩ := hw
                rw [List.length_append, ih a ha]
                rfl
            rw [this i wd (List.mem_of_getElem? hw)]
            omega
          refine ⟨t, q, inz wd, inz [m], rfl, rfl, SqT.of (sq _ _ et3), SqT.of upd_same, (by rw [inz_length, inz_length]; exact small (by show wd.length + 1 ≤ 1000; omega)), fun hz => ?_, (fun _ hz => nomatch (show [V.int (m : Int)] = [] from hz)), fun _ _ z nz => ?_⟩
          · have hwz : wd = [] := List.eq_nil_of_length_eq_zero (by rw [← inz_length, hz]; rfl)
            have eDq := sq _ _ eD
            refine ⟨_, eDq, hsz, ys ++ [q], sset (snew sm3 nq) nD, ?_, ?_⟩
            · rw [upd_same, refs_app]
              rfl
            · rw [List.range_succ, List.map_append]
              refine Tups.app (Tups.mono (tup_lst eDq) (Tups.mono (same_tup sq) hY)) (.cons ?_ .nil)
              refine tup_lst eDq _ _ ?_
              rw [upd_same, hwz]
              rfl
          · have sz2 := same_upd (o := .tup (inz wd ++ inz [m])) nz
            have eDz := sz2 _ _ (sq _ _ eD)
            refine ⟨_, eDz, hsz, ys ++ [z], sset (snew (snew sm3 nq) nz) nD, ?_, ?_⟩
            · rw [upd_same, refs_app]
              rfl
            · rw [List.range_succ, List.map_append]
              refine Tups.app (Tups.mono (tup_lst eDz) (Tups.mono (same_tup sz2) (Tups.mono (same_tup sq) hY))) (.cons ?_ .nil)
              refine tup_lst eDz _ _ ?_
              rw [upd_same, inz_append]
        · rintro H3 ⟨ys, sm3, eD, hY⟩
          rw [Int.toNat_natCast] at hY
          have ylen : ys.length = p := by
            rw [hY.len, List.length_map, List.length_range]
          have ell3 := sm3 _ _ ell
          refine ⟨ll, D, _, _, rfl, rfl, ell3, eD, (by rw [refs_len, refs_len]; exact small (by omega)), fun z nz => ?_⟩
          have sz2 := same_upd (o := .lst (refs us ++ refs ys)) nz
          refine ⟨z, us ++ ys, _, rfl, sm2.trans (sm3.trans sz2), ?_, ?_⟩
          · rw [upd_same, refs_app]
          · rw [List.take_add_one, hw, List.flatMap_append]
            refine Tups.app (Tups.mono (same_tup (sm3.trans sz2)) hU) ?_
            show Tups _ ys ([wd].flatMap (ext p))
            rw [List.flatMap_singleton]
            exact Tups.mono (same_tup sz2) hY
      · rintro σ H2 ⟨ll, us, v5, rfl, sm2, ell, hU⟩
        refine ⟨_, rfl, ll, us, _, _, _, rfl, sm1.trans sm2, ell, ?_⟩
        rw [refs_len, hlen, List.take_length] at hU
        exact hU
    · rintro σ H1 ⟨fl, ts, v3, v4, v5, rfl, sm1, efl, hT⟩
      rw [Int.toNat_natCast] at hT
      exact ⟨_, rfl, k H1 fl ts sm1 efl hT⟩
end
end Kw

set_option Elab.async false
set_option linter.all false
set_option maxRecDepth 100000
set_option maxHeartbeats 4000000
namespace Km
/-! ### the plain law: what is reckoned, and what follows from it -/
theorem factA : ((List.range 200).all fun low => [2, 3, 5, 7].all fun p => decide (low < 2) || decide (ltest p low = some (dueB p low))) = true := by decide +kernel
theorem factB : ((List.range 200).all fun low => [2, 3, 5, 7].all fun p => decide (low < 2) || chk1 p low) = true := by decide +kernel
theorem mem_p {p : Nat} (hp : p = 2 ∨ p = 3 ∨ p = 5 ∨ p = 7) : p ∈ [2, 3, 5, 7] := by
  rcases hp with rfl | rfl | rfl | rfl <;> decide
theorem ltest_due {p low : Nat} (hp : p = 2 ∨ p = 3 ∨ p = 5 ∨ p = 7) (h2 : 2 ≤ low) (h : low < 200) : ltest p low = some (dueB p low) := by
  have q := List.all_eq_true.mp (List.all_eq_true.mp factA low (List.mem_range.mpr h)) p (mem_p hp)
  rw [Bool.or_eq_true] at q
  rcases q with q | q
  · have := of_decide_eq_true q
    omega
  · exact of_decide_eq_true q
theorem chk1_due {p low : Nat} (hp : p = 2 ∨ p = 3 ∨ p = 5 ∨ p = 7) (h2 : 2 ≤ low) (h : low < 200) (hd : dueB p low = true) : ∃ b, inv p (low % p) = some b ∧ chk p b low = true ∧ om p low = some (low - 1) := by
  have q := List.all_eq_true.mp (List.all_eq_true.mp factB low (List.mem_range.mpr h)) p (mem_p hp)
  rw [Bool.or_eq_true] at q
  rcases q with q | q
  · have := of_decide_eq_true q
    omega
  · unfold chk1 at q
    rw [hd] at q
    cases e : inv p (low % p) with
    | none =>
      rw [e] at q
      cases q
    | some b =>
      rw [e] at q
      have q' : (chk p b low && decide (om p low = some (low - 1))) = true := q
      rw [Bool.and_eq_true] at q'
      exact ⟨b, rfl, q'.1, of_decide_eq_true q'.2⟩
/-- what chk says -/
structure Ok (p b low : Nat) : Prop where
  ex : ∀ a, 1 ≤ a → a < low → (a + fig p b a * low) % p = 0
  lo : ∀ a, 1 ≤ a → a < low → 1 ≤ nx p b low a
  hi : ∀ a, 1 ≤ a → a < low → nx p b low a < low
  gcd : ∀ a, 1 ≤ a → a < low → Nat.gcd a low = 1
  half : ∀ a, 1 ≤ a → a < low → fig p b a + fig p b (low - a) = p - 1
  neg : ∀ a, 1 ≤ a → a < low → nx p b low (low - a) = low - nx p b low a
  one : ∀ x ∈ sts p b low (low - 2) (nx p b low 1), x ≠ 1
  back : iter p b low (low - 1) 1 = 1
  mid : low = 2 ∨ iter p b low ((low - 1) / 2) 1 = low - 1
  low0 : 0 < low % p
  unit : low * b % p = 1 % p
theorem ok_of {p b low : Nat} (h : chk p b low = true) : Ok p b low := by
  unfold chk at h
  simp only [Bool.and_eq_true, List.all_eq_true, decide_eq_true_eq, Bool.or_eq_true, Bool.not_eq_true', decide_eq_false_iff_not, List.mem_range] at h
  obtain ⟨⟨⟨⟨⟨h1, h2⟩, h3⟩, h4⟩, h5⟩, h6⟩ := h
  have g : ∀ a, 1 ≤ a → a < low → (((((a + fig p b a * low) % p = 0 ∧ 1 ≤ nx p b low a) ∧ nx p b low a < low) ∧ Nat.gcd a low = 1) ∧ fig p b a + fig p b (low - a) = p - 1) ∧ nx p b low (low - a) = low - nx p b low a := fun a ha hb => by
    have q := h1 (a - 1) (by omega)
    have e : a - 1 + 1 = a := by omega
    rw [e] at q
    exact q
  exact ⟨fun a ha hb => (g a ha hb).1.1.1.1.1, fun a ha hb => (g a ha hb).1.1.1.1.2, fun a ha hb => (g a ha hb).1.1.1.2, fun a ha hb => (g a ha hb).1.1.2, fun a ha hb => (g a ha hb).1.2, fun a ha hb => (g a ha hb).2, h2, h3, h4, h5, h6⟩
/-! #### the states go once through 1 .. low - 1 -/
theorem iter_add (p b low m : Nat) : ∀ n a, iter p b low (m + n) a = iter p b low m (iter p b low n a)
  | 0, _ => rfl
  | n + 1, a => iter_add p b low m n (nx p b low a)
theorem sts_get (p b low : Nat) : ∀ n i a, i < n → (sts p b low n a)[i]? = some (iter p b low i a)
  | n + 1, 0, a, _ => rfl
  | n + 1, i + 1, a, h => sts_get p b low n i (nx p b low a) (by omega)
theorem sts_mem {p b low n a x : Nat} (h : x ∈ sts p b low n a) : ∃ i, i < n ∧ x = iter p b low i a := by
  obtain ⟨i, hi, e⟩ := List.mem_iff_getElem.mp h
  rw [sts_len] at hi
  have q := sts_get p b low n i a hi
  rw [List.getElem?_eq_getElem (by rw [sts_len]; exact hi)] at q
  exact ⟨i, hi, e ▸ Option.some.inj q⟩
section
variable {p b low : Nat} (O : Ok p b low)
include O
theorem Ok.range {a : Nat} (h1 : 1 ≤ a) (h2 : a < low) : ∀ n, 1 ≤ iter p b low n a ∧ iter p b low n a < low
  | 0 => ⟨h1, h2⟩
  | n + 1 => by
    rw [iter_succ]
    obtain ⟨q1, q2⟩ := Ok.range h1 h2 n
    exact ⟨O.lo _ q1 q2, O.hi _ q1 q2⟩
theorem Ok.notone {k : Nat} (h0 : 0 < k) (h1 : k < low - 1) : iter p b low k 1 ≠ 1 := by
  have q := sts_get p b low (low - 2) (k - 1) (nx p b low 1) (by omega)
  have e : iter p b low (k - 1) (nx p b low 1) = iter p b low k 1 := by
    obtain ⟨j, rfl⟩ : ∃ j, k = j + 1 := ⟨k - 1, by omega⟩
    rfl
  rw [e] at q
  exact O.one _ (List.mem_of_getElem? q)
theorem Ok.cycle (i : Nat) : iter p b low (low - 1) (iter p b low i 1) = iter p b low i 1 := by
  rw [← iter_add, Nat.add_comm, iter_add, O.back]
theorem Ok.nodup : (sts p b low (low - 1) 1).Nodup := by
  rw [List.nodup_iff_pairwise_ne, List.pairwise_iff_getElem]
  intro i j hi hj hij
  rw [sts_len] at hi hj
  have ei := sts_get p b low (low - 1) i 1 hi
  have ej := sts_get p b low (low - 1) j 1 hj
  rw [List.getElem?_eq_getElem (by rw [sts_len]; exact hi)] at ei
  rw [List.getElem?_eq_getElem (by rw [sts_len]; exact hj)] at ej
  rw [Option.some.inj ei, Option.some.inj ej]
  intro z
  have q := congrArg (iter p b low (low - 1 - i)) z
  rw [← iter_add, ← iter_add, show low - 1 - i + i = low - 1 by omega, show low - 1 - i + j = (j - i) + (low - 1) by omega, iter_add, O.back] at q
  exact O.notone (by omega) (by omega) q.symm
end
theorem perm_of_sub : ∀ (xs ys : List Nat), xs.Nodup → (∀ x ∈ xs, x ∈ ys) → xs.length = ys.length → xs.Perm ys
  | [], ys, _, _, h => by
    have : ys = [] := List.eq_nil_of_length_eq_zero h.symm
    rw [this]
  | x :: r, ys, nd, sub, h => by
    have hx : x ∈ ys := sub x List.mem_cons_self
    have nd' := List.nodup_cons.mp nd
    have q : ys.Perm (x :: ys.erase x) := List.perm_cons_erase hx
    have hl : (ys.erase x).length = ys.length - 1 := List.length_erase_of_mem hx
    have ih := perm_of_sub r (ys.erase x) nd'.2 (fun y hy => (List.mem_erase_of_ne (fun (e : y = x) => nd'.1 (by rw [← e]; exact hy))).mpr (sub y (List.mem_cons_of_mem _ hy))) (by
      rw [hl]
      rw [List.length_cons] at h
      omega)
    exact (List.Perm.cons x ih).trans q.symm
def upto (n : Nat) : List Nat := (List.range n).map (· + 1)
section
variable {p b low : Nat} (O : Ok p b low)
include O
theorem Ok.perm1 (h : 2 ≤ low) : (sts p b low (low - 1) 1).Perm (upto (low - 1)) := by
  refine perm_of_sub _ _ O.nodup (fun x hx => ?_) (by unfold upto; rw [sts_len, List.length_map, List.length_range])
  obtain ⟨i, _, rfl⟩ := sts_mem hx
  obtain ⟨h1, h2⟩ := O.range (Nat.le_refl 1) (by omega) i
  exact List.mem_map.mpr ⟨iter p b low i 1 - 1, List.mem_range.mpr (by omega), by omega⟩
theorem Ok.reach (h : 2 ≤ low) {a : Nat} (h1 : 1 ≤ a) (h2 : a < low) : ∃ j, j < low - 1 ∧ a = iter p b low j 1 :=
  sts_mem ((O.perm1 h).mem_iff.mpr (List.mem_map.mpr ⟨a - 1, List.mem_range.mpr (by omega), by omega⟩))
theorem Ok.rot (i : Nat) (h : 2 ≤ low) : (sts p b low (low - 1) (nx p b low (iter p b low i 1))).Perm (sts p b low (low - 1) (iter p b low i 1)) := by
  have c := O.cycle i
  obtain ⟨n, hn⟩ : ∃ n, low - 1 = n + 1 := ⟨low - 2, by omega⟩
  rw [hn] at c ⊢
  rw [sts_succ]
  show (sts p b low n (nx p b low (iter p b low i 1)) ++ [iter p b low n (nx p b low (iter p b low i 1))]).Perm (iter p b low i 1 :: sts p b low n (nx p b low (iter p b low i 1)))
  have c' : iter p b low n (nx p b low (iter p b low i 1)) = iter p b low i 1 := c
  rw [c']
  exact List.perm_append_singleton _ _
theorem Ok.permI (h : 2 ≤ low) : ∀ i, (sts p b low (low - 1) (iter p b low i 1)).Perm (sts p b low (low - 1) 1)
  | 0 => List.Perm.refl _
  | i + 1 => by
    rw [iter_succ]
    exact (O.rot i h).trans (Ok.permI h i)
theorem Ok.perm (h : 2 ≤ low) {a : Nat} (h1 : 1 ≤ a) (h2 : a < low) : (sts p b low (low - 1) a).Perm (upto (low - 1)) := by
  obtain ⟨j, _, rfl⟩ := O.reach h h1 h2
  exact (O.permI h j).trans (O.perm1 h)
/-! #### halves -/
theorem Ok.negI (h : 2 ≤ low) : ∀ j a, 1 ≤ a → a < low → iter p b low j (low - a) = low - iter p b low j a
  | 0, _, _, _ => rfl
  | j + 1, a, h1, h2 => by
    show iter p b low j (nx p b low (low - a)) = low - iter p b low j (nx p b low a)
    rw [O.neg a h1 h2]
    exact Ok.negI h j _ (O.lo a h1 h2) (O.hi a h1 h2)
theorem Ok.halfway (h : 2 < low) {a : Nat} (h1 : 1 ≤ a) (h2 : a < low) : iter p b low ((low - 1) / 2) a = low - a := by
  obtain ⟨j, _, rfl⟩ := O.reach (by omega) h1 h2
  have hm : iter p b low ((low - 1) / 2) 1 = low - 1 := O.mid.resolve_left (by omega)
  rw [← iter_add, Nat.add_comm, iter_add, hm]
  exact O.negI (by omega) j 1 (Nat.le_refl 1) (by omega)
theorem Ok.halves (h : 2 < low) {a : Nat} (h1 : 1 ≤ a) (h2 : a < low) (i : Nat) : fig p b (iter p b low i a) + fig p b (iter p b low (i + (low - 1) / 2) a) = p - 1 := by
  obtain ⟨q1, q2⟩ := O.range h1 h2 i
  rw [Nat.add_comm i, iter_add, O.halfway h q1 q2]
  exact O.half _ q1 q2
/-! #### words -/
theorem Ok.circ (h : 2 ≤ low) {a : Nat} (h1 : 1 ≤ a) (h2 : a < low) : iter p b low (low - 1) a = a := by
  obtain ⟨j, _, rfl⟩ := O.reach h h1 h2
  exact O.cycle j
theorem Ok.period (h : 2 ≤ low) {a : Nat} (h1 : 1 ≤ a) (h2 : a < low) (r : Nat) : ∀ m, iter p b low ((low - 1) * m + r) a = iter p b low r a
  | 0 => by rw [Nat.mul_zero, Nat.zero_add]
  | m + 1 => by
    obtain ⟨q1, q2⟩ := O.range h1 h2 r
    rw [Nat.mul_succ, show (low - 1) * m + (low - 1) + r = (low - 1) + ((low - 1) * m + r) by omega, iter_add, Ok.period h h1 h2 r m, O.circ h q1 q2]
end
theorem rep_get (bl : List Nat) (h : 0 < bl.length) : ∀ n k, k < n * bl.length → ((List.replicate n bl).flatten)[k]? = bl[k % bl.length]?
  | 0, k, hk => by
    rw [Nat.zero_mul] at hk
    omega
  | n + 1, k, hk => by
    rw [List.replicate_succ, List.flatten_cons]
    by_cases hl : k < bl.length
    · rw [List.getElem?_append_left hl, Nat.mod_eq_of_lt hl]
    · rw [List.getElem?_append_right (by omega), rep_get bl h n (k - bl.length) (by
        rw [Nat.add_mul, Nat.one_mul] at hk
        omega)]
      congr 1
      rw [← Nat.mod_eq_sub_mod (by omega)]
theorem Ok.word {p b low : Nat} (O : Ok p b low) (h : 2 ≤ low) {a : Nat} (h1 : 1 ≤ a) (h2 : a < low) (s : Nat) {i : Nat} (hi : i < low - 1) : cyc s (row p b low (low - 1) a) i = row p b low s (iter p b low i a) := by
  have hl : (row p b low (low - 1) a).length = low - 1 := row_len _ _ _ _ _
  have hne : row p b low (low - 1) a ≠ [] := fun z => by
    rw [z] at hl
    have : (0 : Nat) = low - 1 := hl
    omega
  apply List.ext_getElem?
  intro j
  unfold Km.cyc
  rw [List.getElem?_take]
  by_cases hj : j < s
  · rw [if_pos hj, List.getElem?_drop]
    have hlong := rep_long s _ hne (i := i) (by omega)
    unfold rep
    rw [rep_get _ (by omega) _ _ (by
      rw [rep_len] at hlong
      omega), hl]
    have hm : (i + j) % (low - 1) < low - 1 := Nat.mod_lt _ (by omega)
    rw [row_get p b low a _ _ hm, row_get p b low _ _ _ hj, ← iter_add]
    have hd := Nat.div_add_mod (i + j) (low - 1)
    have q := O.period h h1 h2 ((i + j) % (low - 1)) ((i + j) / (low - 1))
    rw [hd, Nat.add_comm i j] at q
    rw [q, Nat.add_comm i j]
  · rw [if_neg hj, List.getElem?_eq_none]
    rw [row_len]
    omega
end Km

set_option Elab.async false
set_option linter.all false
set_option maxRecDepth 100000
set_option maxHeartbeats 4000000
namespace Km
/-! ### how often a word stands in a block -/
def wval (p : Nat) : List Nat → Nat
  | [] => 0
  | x :: r => x + p * wval p r
theorem every_mem (p : Nat) : ∀ s w, w ∈ every p s → w.length = s ∧ ∀ x ∈ w, x < p := by
  intro s
  induction s with
  | zero =>
    intro w hw
    simp [every] at hw
    subst hw
    exact ⟨rfl, fun x hx => nomatch hx⟩
  | succ s ih =>
    intro w hw
    simp only [every, List.mem_flatMap, List.mem_map, List.mem_range] at hw
    obtain ⟨t, ht, n, hn, rfl⟩ := hw
    obtain ⟨h1, h2⟩ := ih t ht
    refine ⟨by rw [List.length_append, h1]; rfl, fun x hx => ?_⟩
    rcases List.mem_append.mp hx with h | h
    · exact h2 x h
    · rw [List.mem_singleton.mp h]
      exact hn
theorem zeros_mem {p : Nat} (h : 0 < p) : ∀ s, List.replicate s 0 ∈ every p s
  | 0 => by simp [every]
  | s + 1 => by
    rw [List.replicate_succ']
    exact List.mem_flatMap.mpr ⟨_, zeros_mem h s, List.mem_map.mpr ⟨0, List.mem_range.mpr h, rfl⟩⟩
theorem zeros_val (p : Nat) : ∀ s, wval p (List.replicate s 0) = 0
  | 0 => rfl
  | s + 1 => by
    rw [List.replicate_succ, wval, zeros_val p s, Nat.mul_zero]
theorem fig_only {p b low a x : Nat} (hp : p = 2 ∨ p = 3 ∨ p = 5 ∨ p = 7) (hu : low * b % p = 1 % p) (hx : x < p) (h : (a + x * low) % p = 0) : fig p b a = x := by
  have h1 : ((a + x * low) * b) % p = 0 := by rw [Nat.mul_mod, h, Nat.zero_mul, Nat.zero_mod]
  have h2 : (a + x * low) * b = a * b + x * (low * b) := by rw [Nat.add_mul, Nat.mul_assoc]
  have h3 : (x * (low * b)) % p = x % p := by
    rw [Nat.mul_mod, hu, ← Nat.mul_mod, Nat.mul_one]
  rw [h2, Nat.add_mod, h3, ← Nat.add_mod] at h1
  unfold fig
  generalize a * b = y at h1
  rcases hp with rfl | rfl | rfl | rfl <;> omega
theorem Ok.row_iff {p b low : Nat} (O : Ok p b low) (hp : p = 2 ∨ p = 3 ∨ p = 5 ∨ p = 7) : ∀ (w : List Nat) (a : Nat), 1 ≤ a → a < low → (∀ x ∈ w, x < p) → (row p b low w.length a = w ↔ (a + wval p w * low) % p ^ w.length = 0)
  | [], a, _, _, _ => by
    constructor
    · intro _
      show _ % p ^ 0 = 0
      rw [Nat.pow_zero, Nat.mod_one]
    · intro _
      rfl
  | x :: r, a, h1, h2, hx => by
    have p0 : 0 < p := by rcases hp with rfl | rfl | rfl | rfl <;> decide
    have ih := Ok.row_iff O hp r (nx p b low a) (O.lo a h1 h2) (O.hi a h1 h2) (fun y hy => hx y (List.mem_cons_of_mem _ hy))
    have xp := hx x List.mem_cons_self
    have hex := O.ex a h1 h2
    have key : fig p b a = x → a + (x + p * wval p r) * low = p * (nx p b low a + wval p r * low) := fun e => by
      have q : p * nx p b low a = a + x * low := by
        unfold nx
        rw [e] at hex ⊢
        exact Nat.mul_div_cancel' (Nat.dvd_of_mod_eq_zero hex)
      rw [Nat.mul_add, q, Nat.add_mul, Nat.mul_assoc]
      omega
    show (fig p b a :: row p b low r.length (nx p b low a) = x :: r ↔ (a + (x + p * wval p r) * low) % p ^ (r.length + 1) = 0)
    rw [Nat.pow_succ, Nat.mul_comm (p ^ r.length) p]
    constructor
    · intro h
      obtain ⟨e1, e2⟩ := List.cons.inj h
      rw [key e1, Nat.mul_mod_mul_left, ih.mp e2, Nat.mul_zero]
    · intro h
      have hm : (a + x * low) % p = 0 := by
        have q : (a + (x + p * wval p r) * low) % p = 0 := by
          rw [← Nat.mod_mod_of_dvd _ (Nat.dvd_mul_right p (p ^ r.length)), h, Nat.zero_mod]
        have e : a + (x + p * wval p r) * low = (a + x * low) + p * (wval p r * low) := by
          rw [Nat.add_mul, Nat.mul_assoc]
          omega
        rw [e, Nat.add_mul_mod_self_left] at q
        exact q
      have e1 := fig_only hp O.unit xp hm
      rw [key e1, Nat.mul_mod_mul_left] at h
      rw [e1, ih.mpr ((Nat.mul_eq_zero.mp h).resolve_left (by omega))]
theorem cnt_mod {P : Nat} (hP : 0 < P) (c : Nat) : ∀ n, (upto n).countP (fun a => decide ((a + c) % P = 0)) = (n + c) / P - c / P
  | 0 => by
    show 0 = _
    rw [Nat.zero_add, Nat.sub_self]
  | n + 1 => by
    have e : upto (n + 1) = upto n ++ [n + 1] := by
      unfold upto
      rw [List.range_succ, List.map_append]
      rfl
    rw [e, List.countP_append, cnt_mod hP c n, show n + 1 + c = (n + c) + 1 by omega, Nat.succ_div]
    have hle : c / P ≤ (n + c) / P := Nat.div_le_div_right (by omega)
    by_cases d : P ∣ n + c + 1
    · have d' : (n + c + 1) % P = 0 := Nat.mod_eq_zero_of_dvd d
      rw [if_pos d]
      have : List.countP (fun a => decide ((a + c) % P = 0)) [n + 1] = 1 := by
        rw [List.countP_singleton, show n + 1 + c = n + c + 1 by omega, d']
        rfl
      rw [this]
      omega
    · have d' : ¬ (n + c + 1) % P = 0 := fun q => d (Nat.dvd_of_mod_eq_zero q)
      rw [if_neg d]
      have : List.countP (fun a => decide ((a + c) % P = 0)) [n + 1] = 0 := by
        rw [List.countP_singleton, show n + 1 + c = n + c + 1 by omega, decide_eq_false d']
        rfl
      rw [this]
      omega
/-- the list of the block's words, and how often each stands in it -/
def wlist (p b low s a : Nat) : List (List Nat) := (List.range (low - 1)).map (cyc s (row p b low (low - 1) a))
theorem Ok.wlist_eq {p b low : Nat} (O : Ok p b low) (h : 2 ≤ low) {a : Nat} (h1 : 1 ≤ a) (h2 : a < low) (s : Nat) : wlist p b low s a = (sts p b low (low - 1) a).map (row p b low s) := by
  unfold wlist
  apply List.ext_getElem?
  intro i
  rw [List.getElem?_map, List.getElem?_map]
  by_cases hi : i < low - 1
  · rw [List.getElem?_range hi, sts_get p b low _ _ _ hi]
    show some (cyc s (row p b low (low - 1) a) i) = some (row p b low s (iter p b low i a))
    rw [O.word h h1 h2 s hi]
  · rw [List.getElem?_eq_none (by rw [List.length_range]; omega), List.getElem?_eq_none (by rw [sts_len]; omega)]
    rfl
theorem Ok.count {p b low : Nat} (O : Ok p b low) (hp : p = 2 ∨ p = 3 ∨ p = 5 ∨ p = 7) (h : 2 ≤ low) {a : Nat} (h1 : 1 ≤ a) (h2 : a < low) {s : Nat} {w : List Nat} (hw : w ∈ every p s) :
    (wlist p b low s a).count w = (low - 1 + wval p w * low) / p ^ s - wval p w * low / p ^ s := by
  have p0 : 0 < p := by rcases hp with rfl | rfl | rfl | rfl <;> decide
  obtain ⟨hl, hd⟩ := every_mem p s w hw
  rw [O.wlist_eq h h1 h2 s, (List.Perm.map _ (O.perm h h1 h2)).count_eq, List.count, List.countP_map, ← cnt_mod (Nat.pow_pos p0)]
  apply List.countP_congr
  intro x hx
  obtain ⟨i, hi, rfl⟩ := List.mem_map.mp hx
  have hi' := List.mem_range.mp hi
  have q := O.row_iff hp w (i + 1) (by omega) (by omega) hd
  rw [hl] at q
  show ((row p b low s (i + 1) == w) = true ↔ decide ((i + 1 + wval p w * low) % p ^ s = 0) = true)
  rw [beq_iff_eq, decide_eq_true_iff]
  exact q
/-- how often each word of a size stands in the block: nearly equally often -/
theorem Ok.lots {p b low : Nat} (O : Ok p b low) (hp : p = 2 ∨ p = 3 ∨ p = 5 ∨ p = 7) (h : 2 ≤ low) {a : Nat} (h1 : 1 ≤ a) (h2 : a < low) (s : Nat) :
    (∀ w ∈ every p s, (wlist p b low s a).count w = (low - 1) / p ^ s ∨ (wlist p b low s a).count w = (low - 1) / p ^ s + 1) ∧
    ∃ w ∈ every p s, (wlist p b low s a).count w = (low - 1) / p ^ s := by
  have p0 : 0 < p := by rcases hp with rfl | rfl | rfl | rfl <;> decide
  refine ⟨fun w hw => ?_, _, zeros_mem p0 s, ?_⟩
  · rw [O.count hp h h1 h2 hw, Nat.add_div (Nat.pow_pos p0)]
    generalize (low - 1) / p ^ s = q
    generalize wval p w * low / p ^ s = m
    split
    · right
      omega
    · left
      omega
  · rw [O.count hp h h1 h2 (zeros_mem p0 s), zeros_val, Nat.zero_mul, Nat.add_zero, Nat.zero_div, Nat.sub_zero]
end Km

set_option Elab.async false
set_option linter.all false
set_option maxRecDepth 100000
set_option maxHeartbeats 8000000
namespace Kw
open PySem L2
/-! ### small words for the law's walk -/
/-- a sequence is cut: what holds between -/
theorem seq_cut {t u : TS} {D : Ends} {σ : St} {H : Hp} (Pn : St → Hp → Prop) (h1 : ∀ D' : Ends, (∀ σ' H', Pn σ' H' → D'.nx σ' H') → D'.rt = D.rt → t D' σ H) (h2 : ∀ σ' H', Pn σ' H' → u D σ' H') : tSeq t u D σ H :=
  h1 { D with nx := u D } h2 rfl
theorem nx_cut {t u : TS} {D D0 : Ends} {σ : St} {H : Hp} (e : D0.nx = tSeq t u D) (Pn : St → Hp → Prop) (h1 : ∀ D' : Ends, (∀ σ' H', Pn σ' H' → D'.nx σ' H') → D'.rt = D.rt → t D' σ H) (h2 : ∀ σ' H', Pn σ' H' → u D σ' H') : D0.nx σ H := by
  rw [e]
  exact seq_cut Pn h1 h2
/-- a value under another name -/
theorem set_eq {v v' : V} {i : Nat} {σ : St} {H : Hp} {Q : St → Hp → Prop} (e : v = v') (h : gName i v' σ H Q) : gName i v σ H Q := by
  rw [e]
  exact h
/-- the drawer stands, and the script -/
def Dr (K : PySem.W.Frag) (rw sc : Addr) (ns : List Int) (H : Hp) : Prop := SqL K H sc (ns.map V.int) ∧ ∃ (i : Nat) (s r : Int), H rw = some (drw sc i s r)
theorem Dr.same {K : PySem.W.Frag} {rw sc : Addr} {ns : List Int} {H H' : Hp} (d : Dr K rw sc ns H) (s : Same H H') : Dr K rw sc ns H' := by
  obtain ⟨h, i, x, r, e⟩ := d
  exact ⟨s.seq h, i, x, r, s _ _ e⟩
theorem Dr.keep {K : PySem.W.Frag} {rw sc : Addr} {ns : List Int} {H H' : Hp} {i : Nat} {s r : Int} (d : Dr K rw sc ns H) (k : Keep1 rw H H') (e : H' rw = some (drw sc i s r)) : Dr K rw sc ns H' := by
  obtain ⟨h, i0, x0, r0, e0⟩ := d
  exact ⟨keep1_seq k e0 h, i, s, r, e⟩
theorem Dr.ne {K : PySem.W.Frag} {rw sc : Addr} {ns : List Int} {H : Hp} {l : Addr} (d : Dr K rw sc ns H) (n : H l = none) : l ≠ rw := by
  obtain ⟨_, i, s, r, e⟩ := d
  exact (ne_of_none e n).symm
theorem inz_ints (ns : List Nat) : inz ns = (ns.map (fun (n : Nat) => (n : Int))).map V.int := by
  unfold inz
  rw [List.map_map]
  rfl
/-- a word as a dict's key -/
def wkey (w : List Nat) : List Key := w.map (fun (n : Nat) => (Sum.inl (n : Int) : Key))
theorem wkey_kV (w : List Nat) : (wkey w).map kV = inz w := by
  unfold wkey inz
  rw [List.map_map]
  rfl
theorem wkey_inj : ∀ {a b : List Nat}, wkey a = wkey b → a = b
  | [], [], _ => rfl
  | [], _ :: _, h => by cases h
  | _ :: _, [], h => by cases h
  | x :: a, y :: b, h => by
    have h' : (Sum.inl (x : Int) : Key) :: wkey a = Sum.inl (y : Int) :: wkey b := h
    obtain ⟨h1, h2⟩ := List.cons.inj h'
    rw [Int.ofNat.inj (Sum.inl.inj h1), wkey_inj h2]
/-- what the dict holds of a list of words -/
def Counts (kvs : List (List Key × V)) (ws : List (List Nat)) : Prop := ∀ w : List Nat, (valV kvs (wkey w)).getD (.int 0) = .int ((ws.count w : Nat) : Int)
theorem counts_put {kvs : List (List Key × V)} {ws : List (List Nat)} (h : Counts kvs ws) (u : List Nat) : Counts (putK kvs (wkey u) (.int (((ws.count u : Nat) : Int) + 1))) (ws ++ [u]) := fun w => by
  rw [valV_put]
  by_cases e : w = u
  · subst e
    rw [if_pos rfl, List.count_append, List.count_singleton_self]
    rfl
  · rw [if_neg (fun z => e (wkey_inj z)), h w, List.count_append, List.count_singleton]
    have : (u == w) = false := beq_eq_false_iff_ne.mpr (fun z => e z.symm)
    rw [this]
    rfl
section
variable {P : Program} {w : World} {K : PySem.W.Frag} {mg : Str → Option Value} {base : Heap}
def spLaw (K : PySem.W.Frag) : Sp := fun vs H Q _ => ∃ (a : Addr) (ns : List Int), vs = [.ref a] ∧ SqL K H a (ns.map V.int) ∧ ns.length ≤ 63 ∧ ∀ H', Q (.bl true) H'
theorem ok_law {f : Addr} {fd : FuncData} (F : Fun K "law" "law" s_law f fd) (B : Bi mg)
    (D1 : Keeps P w K mg base 1 "_law_taken" P_l_taken (spTaken K)) (D2 : Keeps P w K mg base 2 "_law_pick" P_l_pick (spPick K)) (D3 : Keeps P w K mg base 3 "_law_prime" P_l_prime (spPrime K))
    (D4 : Keeps P w K mg base 2 "_law_alike" P_l_alike spAlikeL) (D5 : Keeps P w K mg base 4 "long_lows" P_long_lows spLl) (D6 : Keeps P w K mg base 5 "fraction_period" P_fraction_period spFper)
    (D7 : Keeps P w K mg base 5 "fraction_row" P_fraction_row spFrow) (D8 : Keeps P w K mg base 1 "_law_words" P_l_words spWords) (D9 : Keeps P w K mg base 1 "_law_whole_power" P_l_whole_power spWp)
    (D10 : Keeps P w K mg base 1 "_law_every" P_l_every spEvery) : FnOk P w K mg base CX0 6 f fd P_law (spLaw K) := by
  obtain ⟨f_l_taken, fd_l_taken, G_l_taken, b_l_taken, k_l_taken, m_l_taken⟩ := D1
  obtain ⟨f_l_pick, fd_l_pick, G_l_pick, b_l_pick, k_l_pick, m_l_pick⟩ := D2
  obtain ⟨f_l_prime, fd_l_prime, G_l_prime, b_l_prime, k_l_prime, m_l_prime⟩ := D3
  obtain ⟨f_l_alike, fd_l_alike, G_l_alike, b_l_alike, k_l_alike, m_l_alike⟩ := D4
  obtain ⟨f_long_lows, fd_long_lows, G_long_lows, b_long_lows, k_long_lows, m_long_lows⟩ := D5
  obtain ⟨f_fraction_period, fd_fraction_period, G_fraction_period, b_fraction_period, k_fraction_period, m_fraction_period⟩ := D6
  obtain ⟨f_fraction_row, fd_fraction_row, G_fraction_row, b_fraction_row, k_fraction_row, m_fraction_row⟩ := D7
  obtain ⟨f_l_words, fd_l_words, G_l_words, b_l_words, k_l_words, m_l_words⟩ := D8
  obtain ⟨f_l_whole_power, fd_l_whole_power, G_l_whole_power, b_l_whole_power, k_l_whole_power, m_l_whole_power⟩ := D9
  obtain ⟨f_l_every, fd_l_every, G_l_every, b_l_every, k_l_every, m_l_every⟩ := D10
  refine F.ok sc_law (fun vs H Q E h => ?_) (fun cdv A outer s H vs Q E hr h => ?_)
  · obtain ⟨a, ns, rfl, _⟩ := h
    rfl
  · obtain ⟨a, ns, rfl, hS, hlen, k⟩ := h
    have hu := hu_of hr
    refine ⟨_, (pss_cons (ps_set (i := 1) sc_law.nd rfl (Or.inl rfl) (pe_lst (pa_cons (pv 0) (pa_cons pe_int (pa_cons pe_int (pa_cons pe_int pa_nil))))))
      (pss_cons (ps_set (i := 2) sc_law.nd rfl (Or.inl rfl) (pe_call G_l_prime (hr.mono (by decide)) rfl m_l_prime k_l_prime b_l_prime .nil pass0 (pa_cons (pv 1) pa_nil)))
      (pss_cons (ps_set (i := 3) sc_law.nd rfl (Or.inl rfl) (pe_call G_l_taken (hr.mono (by decide)) rfl m_l_taken k_l_taken b_l_taken .nil pass0 (pa_cons (pv 1) (pa_cons (pe_ix (r := rIxL K) ix_list (pe_lst (pa_cons pe_int (pa_cons pe_int pa_nil))) (pe_call G_l_taken (hr.mono (by decide)) rfl m_l_taken k_l_taken b_l_taken .nil pass0 (pa_cons (pv 1) (pa_cons pe_int pa_nil))) (fun _ _ => rfl)) pa_nil))))
      (pss_cons (ps_set (i := 4) sc_law.nd rfl (Or.inl rfl) (pe_lst pa_nil))
      (pss_cons (ps_for PassesOwn.never rfl (pi_range2 (by rfl) B.range (pa_cons pe_int (pa_cons (pe_op op_add (pv 3) pe_int) pa_nil))) (pg_name (i := 5) sc_law.nd rfl (Or.inr rfl)) (pss_one (ps_if (PW.pt (pw_and (pt_cmpR op_ne (pv 5) (pv 2) (nomark _)) (pw_and1 (pt_cmpR (op_eqD hr.units) (pe_lc (own := [("_law_k", 18)]) (g := gName 18) rfl sc_law.nd (pi_range2 (by rfl) B.range (pa_cons pe_int (pa_cons (pv 5) pa_nil))) (blkOk_by (own := [("_law_k", 18)]) (N := N_law) (sc := defScope s_law) (by decide +kernel)) (fun _ _ _ _ _ => pg_name (i := 18) sc_law.nd rfl (Or.inl rfl)) (fun _ _ _ _ _ => (pts_one (PW.pt (pw_and (pt_cmpR op_le (pe_op op_mul (pv 18) (pv 18)) (pv 5) (nomark _)) (pw_and1 (pt_cmpR op_eq (pe_op op_mod (pe_callTy call_int1 (by rfl) B.int (by decide +kernel) (pa_cons (pv 5) pa_nil)) (pv 18)) pe_int (nomark _))))))) (fun _ _ _ _ _ => (pv 18))) (pe_lst pa_nil) (nomark _))))) (pss_cons (ps_par (i := 6) (j := 7) rfl sc_law.nd rfl rfl (by decide) rfl rfl (pa_cons (pe_op op_mod (pe_callTy call_int1 (by rfl) B.int (by decide +kernel) (pa_cons (pv 2) pa_nil)) (pv 5)) (pa_cons pe_int pa_nil)) (by rfl))
      (pss_cons (ps_for PassesOwn.never rfl (pi_range1 (by rfl) B.range (pa_cons (pv 5) pa_nil)) (pg_name (i := 8) sc_law.nd rfl (Or.inl rfl)) (pss_one (ps_if (pt_cmpR op_ne (pv 6) (pe_op op_mod (pe_callTy call_int1 (by rfl) B.int (by decide +kernel) (pa_cons pe_int pa_nil)) (pv 5)) (nomark _)) (pss_one (ps_par (i := 6) (j := 7) rfl sc_law.nd rfl rfl (by decide) rfl rfl (pa_cons (pe_op op_mod (pe_callTy call_int1 (by rfl) B.int (by decide +kernel) (pa_cons (pe_op op_mul (pv 6) (pv 2)) pa_nil)) (pv 5)) (pa_cons (pe_op op_add (pv 7) pe_int) pa_nil)) (by rfl))) pss_nil)))
      (pss_one (ps_set (i := 4) sc_law.nd rfl (Or.inl rfl) (pe_op op_cat (pv 4) (pe_op op_rep (pe_lst (pa_cons (pv 5) pa_nil)) (pe_callTy call_int1 (by rfl) B.int (by decide +kernel) (pa_cons (pe_cmpR op_eq (pv 7) (pe_op op_sub (pv 5) pe_int) (nomark _)) pa_nil)))))))) pss_nil)))
      (pss_cons (ps_if (pt_not (pt_val (pe_call G_l_alike (hr.mono (by decide)) rfl m_l_alike k_l_alike b_l_alike .nil pass0 (pa_cons (pe_call G_long_lows (hr.mono (by decide)) rfl m_long_lows k_long_lows b_long_lows .nil pass0 (pa_cons (pv 2) (pa_cons (pv 3) pa_nil))) (pa_cons (pv 4) pa_nil))))) (pss_one (ps_ret pe_bl)) pss_nil)
      (pss_cons (ps_if (pt_cmpR (op_eqD hr.units) (pv 4) (pe_lst pa_nil) (nomark _)) (pss_one (ps_ret pe_bl)) pss_nil)
      (pss_cons (ps_set (i := 5) sc_law.nd rfl (Or.inr rfl) (pe_call G_l_pick (hr.mono (by decide)) rfl m_l_pick k_l_pick b_l_pick .nil pass0 (pa_cons (pv 1) (pa_cons (pv 4) pa_nil))))
      (pss_cons (ps_set (i := 9) sc_law.nd rfl (Or.inl rfl) (pe_op op_sub (pe_op op_sub pe_int pe_int) (pe_call G_l_taken (hr.mono (by decide)) rfl m_l_taken k_l_taken b_l_taken .nil pass0 (pa_cons (pv 1) (pa_cons (pe_op op_sub (pv 5) pe_int) pa_nil)))))
      (pss_cons (ps_if (pt_cmpR (op_neD hr.units) (pe_call G_fraction_period (hr.mono (by decide)) rfl m_fraction_period k_fraction_period b_fraction_period .nil pass0 (pa_cons (pv 2) (pa_cons (pe_tup (pa_cons (pv 9) (pa_cons (pv 5) pa_nil))) pa_nil))) (pe_tup (pa_cons pe_int (pa_cons (pe_op op_sub (pv 5) pe_int) pa_nil))) (nomark _)) (pss_one (ps_ret pe_bl)) pss_nil)
      (pss_cons (ps_set (i := 10) sc_law.nd rfl (Or.inl rfl) (pe_call G_fraction_row (hr.mono (by decide)) rfl m_fraction_row k_fraction_row b_fraction_row .nil pass0 (pa_cons (pv 2) (pa_cons (pe_tup (pa_cons (pv 9) (pa_cons (pv 5) pa_nil))) (pa_cons (pe_op op_sub (pv 5) pe_int) pa_nil)))))
      (pss_cons (ps_set (i := 11) sc_law.nd rfl (Or.inl rfl) (pe_op op_fdiv (pe_op op_sub (pv 5) pe_int) pe_int))
      (pss_cons (ps_if (pt_cmpR op_gt (pv 5) pe_int (nomark _)) (pss_one (ps_for PassesOwn.never rfl (pi_range1 (by rfl) B.range (pa_cons (pv 11) pa_nil)) (pg_name (i := 12) sc_law.nd rfl (Or.inl rfl)) (pss_one (ps_if (pt_cmpR op_ne (pe_op op_add (pe_ix (r := rIxT K) ix_tup (pv 10) (pv 12) (fun _ _ => rfl)) (pe_ix (r := rIxT K) ix_tup (pv 10) (pe_op op_add (pv 12) (pv 11)) (fun _ _ => rfl))) (pe_op op_sub (pv 2) pe_int) (nomark _)) (pss_one (ps_ret pe_bl)) pss_nil)))) pss_nil)
      (pss_cons (ps_asg (pe_tup (pa_cons pe_dnewT (pa_cons (pe_op op_add pe_int (pe_call G_l_taken (hr.mono (by decide)) rfl m_l_taken k_l_taken b_l_taken .nil pass0 (pa_cons (pv 1) (pa_cons pe_int pa_nil)))) pa_nil))) (pg_tup rfl (pgs_cons (pg_name (i := 13) sc_law.nd rfl (Or.inr rfl)) (pgs_cons (pg_name (i := 14) sc_law.nd rfl (Or.inl rfl)) pgs_nil))))
      (pss_cons (ps_for PassesOwn.never rfl (pi_list (pe_call G_l_words (hr.mono (by decide)) rfl m_l_words k_l_words b_l_words .nil pass0 (pa_cons (pv 14) (pa_cons (pv 10) pa_nil)))) (pg_name (i := 15) sc_law.nd rfl (Or.inl rfl)) (pss_one (ps_dput hu (pv 13) (pv 15) (pe_op op_add (pe_dget2 hu (pv 13) (pv 15) pe_int ⟨rfl, rfl, rfl, rfl⟩) pe_int) rfl)))
      (pss_cons (ps_set (i := 16) sc_law.nd rfl (Or.inl rfl) (pe_call G_l_whole_power (hr.mono (by decide)) rfl m_l_whole_power k_l_whole_power b_l_whole_power .nil pass0 (pa_cons (pv 2) (pa_cons (pv 14) pa_nil))))
      (pss_cons (ps_set (i := 17) sc_law.nd rfl (Or.inl rfl) (pe_ifExp (pt_cmpR op_lt (pv 16) pe_int (nomark _)) (pe_lc (own := [("_law_word", 15)]) (g := gName 15) (tt := tYes) rfl sc_law.nd (pi_list (pe_call G_l_every (hr.mono (by decide)) rfl m_l_every k_l_every b_l_every .nil pass0 (pa_cons (pv 2) (pa_cons (pv 14) pa_nil)))) (blkOk_by (own := [("_law_word", 15)]) (N := N_law) (sc := defScope s_law) (by decide +kernel)) (fun _ _ _ _ _ => pg_name (i := 15) sc_law.nd rfl (Or.inl rfl)) (fun _ _ _ _ _ => pts_nil) (fun _ _ _ _ _ => (pe_dget2 hu (pv 13) (pv 15) pe_int ⟨rfl, rfl, rfl, rfl⟩))) (pe_lst (pa_cons pe_int (pa_cons pe_int pa_nil)))))
      (pss_one (ps_ret (pe_and (pe_cmpR op_lt (pe_op op_sub (pe_callB (cr_max rfl) (by rfl) B.max (by decide +kernel) (pa_cons (pv 17) pa_nil)) (pe_callB (cr_min rfl) (by rfl) B.min (by decide +kernel) (pa_cons (pv 17) pa_nil))) pe_int (nomark _)) (pe_one (pe_or (pe_cmpR op_ge (pv 16) pe_int (nomark _)) (pe_one (pe_cmpR op_eq (pe_callB (cr_min rfl) (by rfl) B.min (by decide +kernel) (pa_cons (pv 17) pa_nil)) (pe_op op_fdiv (pe_op op_sub (pv 5) pe_int) (pv 16)) (nomark _))))))))))))))))))))))))), ?_⟩
    refine ⟨_, rfl, small (by show 4 ≤ 1000; decide), fun dw ndw => ?_⟩
    have d0 : Dr K dw a ns (upd H dw (drw a 0 5071 0)) := ⟨(same_upd ndw).seq hS, 0, 5071, 0, upd_same⟩
    refine ⟨_, rfl, dw, a, ns, 0, 5071, 0, rfl, upd_same, d0.1, fun H1 p j1 s1 r1 hp kp1 er1 => ?_⟩
    have d1 := d0.keep kp1 er1
    obtain ⟨p0, p8⟩ := isP_lt hp
    refine ⟨_, rfl, small (by show 2 ≤ 1000; decide), fun lm nlm => ?_⟩
    have d1' : Dr K dw a ns (upd H1 lm (.lst [.int 40, .int 200])) := d1.same (same_upd nlm)
    have nlw : lm ≠ dw := d1.ne nlm
    refine ⟨_, rfl, dw, a, ns, j1, 2, s1, r1, rfl, (same_upd nlm) _ _ er1, d1'.1, by decide, by decide, fun H2 x j2 s2 r2 hx kp2 er2 => ?_⟩
    have d2 := d1'.keep kp2 er2
    obtain ⟨many, hat, hm0, hm1⟩ : ∃ many : Nat, atI [V.int 40, V.int 200] (x : Int) = some (.int (many : Int)) ∧ 0 < many ∧ many ≤ 200 := by
      have : x = 0 ∨ x = 1 := by omega
      rcases this with rfl | rfl
      · exact ⟨40, rfl, by decide, by decide⟩
      · exact ⟨200, rfl, by decide, by decide⟩
    refine ⟨lm, _, _, _, rfl, rfl, SqL.of (kp2 _ _ upd_same nlw), hat, dw, a, ns, j2, many, s2, r2, rfl, er2, d2.1, hm0, by omega, fun H3 most j3 s3 r3 hmost kp3 er3 => ?_⟩
    have d3 := d2.keep kp3 er3
    have hmost2 : most < 200 := by omega
    refine ⟨Nat.zero_le _, fun dl0 ndl0 => ?_⟩
    have d4 := d3.same (same_upd (o := .lst []) ndl0)
    generalize eH4 : upd H3 dl0 (.lst []) = H4 at d4
    have edl0 : H4 dl0 = some (.lst (inz [])) := by rw [← eH4, upd_same]; rfl
    show Ends.nx _ _ _
    dsimp only
    refine seq_cut (fun σ H' => ∃ (dl : Addr) (v5 v6 v7 v8 : Option V), σ = [some (.ref a), some (.ref dw), some (.int p), some (.int most), some (.ref dl), v5, v6, v7, v8, none, none, none, none, none, none, none, none, none, none] ∧ Same H4 H' ∧ H' dl = some (.lst (inz (Km.due p most)))) (fun D' hnx hrt => ?_) ?_
    · refine ⟨_, rfl, _, _, rfl, rfl, 2, _, rfl, ⟨by omega, by omega, by omega, by omega⟩, ?_⟩
      have en : ((most : Int) + 1 - 2).toNat = most - 1 := by omega
      refine for_range (lo := 2) (n := ((most : Int) + 1 - 2).toNat) (fun i σ H' => ∃ (dl : Addr) (v5 v6 v7 v8 : Option V), σ = [some (.ref a), some (.ref dw), some (.int p), some (.int most), some (.ref dl), v5, v6, v7, v8, none, none, none, none, none, none, none, none, none, none] ∧ Same H4 H' ∧
          H' dl = some (.lst (inz (((List.range i).map (fun i => 2 + i)).filter (Km.dueB p)))))
        ⟨dl0, none, none, none, none, rfl, Same.refl _, edl0⟩ ?_ ?_
      · rintro i σ H5 hi ⟨dl, v5, v6, v7, v8, rfl, sm5, edl⟩
        rw [en] at hi
        have e2 : ((2 : Int) + (i : Int)) = ((2 + i : Nat) : Int) := by omega
        rw [e2]
        generalize ex : 2 + i = x
        have hx2 : 2 ≤ x ∧ x < 200 := by omega
        have hx0 : (0 : Int) < (x : Int) := by omega
        have hno : Km.dueB p x = false → ∀ σ' H', (∃ (v5 v6 v7 v8 : Option V), σ' = [some (.ref a), some (.ref dw), some (.int p), some (.int most), some (.ref dl), v5, v6, v7, v8, none, none, none, none, none, none, none, none, none, none] ∧ Same H5 H') →
            ∃ (dl : Addr) (v5 v6 v7 v8 : Option V), σ' = [some (.ref a), some (.ref dw), some (.int p), some (.int most), some (.ref dl), v5, v6, v7, v8, none, none, none, none, none, none, none, none, none, none] ∧ Same H4 H' ∧
              H' dl = some (.lst (inz (((List.range (i + 1)).map (fun i => 2 + i)).filter (Km.dueB p)))) := by
          rintro hb σ' H' ⟨v5, v6, v7, v8, rfl, sm⟩
          refine ⟨dl, v5, v6, v7, v8, rfl, sm5.trans sm, ?_⟩
          rw [mf_neg (by rw [ex]; exact hb)]
          exact sm _ _ edl
        refine ⟨_, rfl, _, rfl, rfl, _, rfl, ?_⟩
        rw [dEq]
        by_cases c : x = p
        · rw [decide_eq_true c]
          refine iteF (iteF ?_)
          exact hno (by unfold Km.dueB; rw [decide_eq_true c]; rfl) _ _ ⟨_, _, _, _, rfl, Same.refl _⟩
        rw [decide_eq_false c]
        refine iteT ?_
        refine ⟨_, rfl, 2, x, rfl, ⟨by omega, by omega, by omega, by omega⟩, fun D nD => ?_⟩
        have en2 : ((x : Int) - 2).toNat = x - 2 := by omega
        refine lc_range (lo := 2) (n := ((x : Int) - 2).toNat) (fun m H' => Same H5 H' ∧ H' D = some (.lst (inz (((List.range m).map (fun i => 2 + i)).filter (fun k => decide (k * k ≤ x) && decide (x % k = 0)))))) ⟨same_upd nD, upd_same⟩ ?_ ?_
        · rintro m H6 hm ⟨sm6, eD⟩
          rw [en2] at hm
          have e3 : ((2 : Int) + (m : Int)) = ((2 + m : Nat) : Int) := by omega
          rw [e3]
          generalize ey : 2 + m = y
          have hy : 2 ≤ y ∧ y < 200 := by omega
          refine ⟨rfl, ?_⟩
          refine ⟨_, rfl, _, rfl, _, _, rfl, rfl, cMul (by omega), _, rfl, _, _, rfl, rfl, _, rfl, ?_⟩
          show if decide ((y : Int) * (y : Int) ≤ (x : Int)) = true then _ else _
          rw [← Int.natCast_mul, dLe]
          by_cases g : y * y ≤ x
          · rw [decide_eq_true g]
            refine iteT ?_
            refine ⟨_, rfl, .inl ⟨_, rfl, _, rfl, _, _, rfl, rfl, (by show (0 : Int) < y; omega), rfl, _, rfl, ?_⟩⟩
            show if decide (V.int ((x : Int) % (y : Int)) = V.int ((0 : Nat) : Int)) = true then _ else _
            rw [← Int.natCast_emod, dEq]
            refine ite2 (fun g2 => ?_) (fun g2 => ?_)
            · refine ⟨_, rfl, _, eD, mf_len (by omega), sset sm6 nD, ?_⟩
              rw [upd_same, mf_pos (by rw [ey, decide_eq_true g, g2]; rfl), inz_append, ey]
              rfl
            · refine ⟨sm6, ?_⟩
              rw [mf_neg (by rw [ey, Bool.eq_false_iff.mpr g2, Bool.and_false])]
              exact eD
          · rw [decide_eq_false g]
            refine iteF (iteF ⟨sm6, ?_⟩)
            rw [mf_neg (by rw [ey, decide_eq_false g, Bool.false_and])]
            exact eD
        · rintro H6 ⟨sm6, eD⟩
          rw [en2] at eD
          refine ⟨Nat.zero_le _, fun z nz => ?_⟩
          have sz := same_upd (o := .lst []) nz
          refine ⟨.list (dz (Km.divs x)), .list (dz []), dp_l (SqL.of (sz _ _ eD)), dp_l (SqL.of upd_same), dz_shaped _, dz_shaped _, _, rfl, ?_⟩
          rw [dz_eqvL]
          have sm7 : Same H5 (upd H6 z (.lst [])) := sm6.trans sz
          by_cases g : Km.divs x = []
          case neg =>
            rw [decide_eq_false g]
            refine iteF ?_
            refine hno ?_ _ _ ⟨_, _, _, _, rfl, sm7⟩
            unfold Km.dueB
            have : (Km.divs x).isEmpty = false := by
              cases q : Km.divs x with
              | nil => exact absurd q g
              | cons _ _ => rfl
            rw [this, Bool.and_false, Bool.false_and]
          rw [decide_eq_true g]
          refine iteT ?_
          have hdue : Km.dueB p x = decide (Km.wk p x x (p % x) 1 = x - 1) := by
            unfold Km.dueB
            rw [g, decide_eq_false c]
            rfl
          refine ⟨_, rfl, .inl ⟨_, rfl, _, rfl, _, _, rfl, rfl, hx0, _, _, rfl, ?_⟩⟩
          refine ⟨_, rfl, _, rfl, by omega, by omega, ?_⟩
          refine for_range (lo := 0) (n := ((x : Int)).toNat) (fun m σ H' => ∃ (t n : Nat) (v8 : Option V), σ = [some (.ref a), some (.ref dw), some (.int p), some (.int most), some (.ref dl), some (.int x), some (.int t), some (.int n), v8, none, none, none, none, none, none, none, none, none, none] ∧ H' = upd H6 z (.lst []) ∧ Km.wk p x (x - m) t n = Km.wk p x x (p % x) 1)
            ⟨p % x, 1, v8, rfl, rfl, rfl⟩ ?_ ?_
          · rintro m σ H8 hm ⟨t, n, v8, rfl, rfl, hw⟩
            rw [Int.toNat_natCast] at hm
            rw [show x - m = (x - (m + 1)) + 1 by omega, Km.wk] at hw
            refine ⟨_, rfl, .inl ⟨_, rfl, _, rfl, _, _, rfl, rfl, hx0, rfl, _, rfl, ?_⟩⟩
            show if (!decide (V.int (t : Int) = V.int (((1 : Nat) : Int) % (x : Int)))) = true then _ else _
            rw [← Int.natCast_emod, dEq]
            by_cases g2 : t = 1 % x
            · rw [decide_eq_true g2]
              rw [if_pos g2] at hw
              exact iteF ⟨t, n, _, rfl, rfl, hw⟩
            · rw [decide_eq_false g2]
              rw [if_neg g2] at hw
              refine iteT ?_
              refine ⟨_, rfl, _, rfl, _, _, rfl, rfl, .inr ⟨by omega, by omega⟩, .inl ⟨_, rfl, _, rfl, _, _, rfl, rfl, hx0, _, rfl, _, _, rfl, rfl, _, _, rfl, ?_⟩⟩
              refine ⟨t * p % x, n + 1, some (.int (0 + (m : Int))), ?_, rfl, hw⟩
              rw [Int.natCast_emod, Int.natCast_mul]
              rfl
          · rintro σ H8 ⟨t, n, v8, rfl, rfl, hw⟩
            rw [Int.toNat_natCast, Nat.sub_self, Km.wk] at hw
            have e1 : ((x : Int) - 1) = ((x - 1 : Nat) : Int) := by omega
            refine ⟨_, rfl, _, rfl, small (by show 1 ≤ 1000; decide), fun y ny => ?_⟩
            have sy := same_upd (o := .lst [.int (x : Int)]) ny
            refine ⟨_, rfl, _, rfl, _, _, rfl, rfl, rfl, .inr ⟨_, rfl, ?_⟩⟩
            show rRep _ (.int (if decide (V.int (n : Int) = V.int ((x : Int) - 1)) = true then 1 else 0)) _ _
            rw [e1, dEq, hw, ← hdue]
            have edl2 := sy _ _ (sm7 _ _ edl)
            cases hb : Km.dueB p x with
            | false =>
              refine ⟨y, _, _, rfl, rfl, upd_same, by decide, by decide, (by show 1 * 0 ≤ sizeLine; decide), fun q nq => ?_⟩
              have sq := same_upd (o := .lst (List.replicate ((0 : Int)).toNat [V.int (x : Int)]).flatten) nq
              refine ⟨dl, q, _, _, rfl, rfl, sq _ _ edl2, upd_same, Nat.le_of_lt (mf_len (by omega)), fun u nuu => ?_⟩
              refine ⟨u, _, _, _, _, rfl, sm5.trans (sm7.trans (snew (snew sy nq) nuu)), ?_⟩
              rw [upd_same, mf_neg (by rw [ex]; exact hb)]
              show some (HO.lst (inz _ ++ [])) = _
              rw [List.append_nil]
            | true =>
              refine ⟨y, _, _, rfl, rfl, upd_same, by decide, by decide, (by show 1 * 1 ≤ sizeLine; decide), fun q nq => ?_⟩
              have sq := same_upd (o := .lst (List.replicate ((1 : Int)).toNat [V.int (x : Int)]).flatten) nq
              refine ⟨dl, q, _, _, rfl, rfl, sq _ _ edl2, upd_same, mf_len (by omega), fun u nuu => ?_⟩
              refine ⟨u, _, _, _, _, rfl, sm5.trans (sm7.trans (snew (snew sy nq) nuu)), ?_⟩
              rw [upd_same, mf_pos (by rw [ex]; exact hb), inz_append, ex]
              rfl
      · rintro σ H5 ⟨dl, v5, v6, v7, v8, rfl, sm5, edl⟩
        rw [en] at edl
        exact hnx _ _ ⟨dl, v5, v6, v7, v8, rfl, sm5, edl⟩
    rintro σ H5 ⟨dl, v5, v6, v7, v8, rfl, sm5, edl⟩
    have d5 := d4.same sm5
    have hlenD : (Km.due p most).length ≤ 198 := by
      unfold Km.due
      exact Nat.le_trans (List.length_filter_le _ _) (by rw [List.length_map, List.length_range]; omega)
    refine ⟨_, rfl, _, rfl, p, most, Km.dueB p, rfl, hp, hmost2, (fun low h2 h => Km.ltest_due hp h2 (by omega)), fun H6 lr sm6 nlr elr => ?_⟩
    refine ⟨_, rfl, lr, dl, Km.due p most, rfl, elr, sm6 _ _ edl, by omega, fun H7 sm7 => ⟨_, rfl, ?_⟩⟩
    refine iteF ?_
    have sm57 : Same H5 H7 := sm6.trans sm7
    refine ⟨_, rfl, Nat.zero_le _, fun z nz => ?_⟩
    have sz := same_upd (o := .lst []) nz
    refine ⟨.list (dz (Km.due p most)), .list (dz []), dp_l (SqL.of (sz _ _ (sm57 _ _ edl))), dp_l (SqL.of upd_same), dz_shaped _, dz_shaped _, _, rfl, ?_⟩
    rw [dz_eqvL]
    by_cases g : Km.due p most = []
    · rw [decide_eq_true g]
      exact iteT (k _)
    rw [decide_eq_false g]
    refine iteF ?_
    have d8 := d5.same (sm57.trans sz)
    have edl8 := (sm57.trans sz) _ _ edl
    generalize upd H7 z (.lst []) = H8 at d8 edl8
    obtain ⟨hs8, i8, s8, r8, er8⟩ := id d8
    have ndl : dl ≠ dw := ne_of edl8 er8 (fun q => by
      unfold drw at q
      have q' := HO.lst.inj q
      cases hd : Km.due p most with
      | nil => exact g hd
      | cons y ys =>
        rw [hd] at q'
        cases q')
    refine ⟨_, rfl, _, rfl, dw, a, dl, ns, inz (Km.due p most), i8, s8, r8, rfl, er8, hs8, edl8, ndl, (by rw [inz_length]; exact List.length_pos_iff.mpr g), (by rw [inz_length]; omega), fun H9 v j9 s9 r9 hv kp9 er9 => ?_⟩
    have d9 := d8.keep kp9 er9
    obtain ⟨low, hlow, rfl⟩ := List.mem_map.mp hv
    obtain ⟨hl0, hdue⟩ := List.mem_filter.mp hlow
    obtain ⟨i0, hi0, rfl⟩ := List.mem_map.mp hl0
    have hi0' := List.mem_range.mp hi0
    generalize el : 2 + i0 = low at hdue
    have hl2 : 2 ≤ low := by omega
    have hl200 : low < 200 := by omega
    clear hv hlow hl0 hi0 hi0' el i0
    obtain ⟨b, hb, hchk, hom⟩ := Km.chk1_due hp hl2 hl200 hdue
    have O := Km.ok_of hchk
    have hT : Turns p b low := fun a h1 h2 => ⟨O.ex a h1 h2, O.lo a h1 h2, O.hi a h1 h2⟩
    have e1 : ((low : Int) - 1) = ((low - 1 : Nat) : Int) := by omega
    refine ⟨_, _, rfl, rfl, _, rfl, _, rfl, _, _, rfl, rfl, dw, a, ns, j9, low - 1, s9, r9, (by rw [← e1]; rfl), er9, d9.1, by omega, by omega, fun H10 t j10 s10 r10 ht kp10 er10 => ?_⟩
    have d10 := d9.keep kp10 er10
    have ea : ((0 : Int) - 1 - (t : Int)) = -((t + 1 : Nat) : Int) := by omega
    refine ⟨_, _, rfl, rfl, set_eq (v' := .int (-((t + 1 : Nat) : Int))) (congrArg V.int ea) ?_⟩
    have ha1 : 1 ≤ t + 1 := by omega
    have ha2 : t + 1 < low := by omega
    generalize t + 1 = ab at ha1 ha2
    clear ea
    refine ⟨_, rfl, _, rfl, _, rfl, small (by show 2 ≤ 1000; decide), fun t1 nt1 => ?_⟩
    refine ⟨p, ab, low, b, low - 1, t1, rfl, upd_same, hp, by omega, O.low0, hb, ha1, ha2, O.gcd ab ha1 ha2, hom, fun H11 t2 sm11 nt2 et2 => ?_⟩
    refine ⟨_, rfl, _, _, rfl, rfl, small (by show 2 ≤ 1000; decide), fun t3 nt3 => ?_⟩
    have sm12 : Same H10 (upd H11 t3 (.tup [.int 0, .int ((low : Int) - 1)])) := snew ((same_upd nt1).trans sm11) nt3
    refine ⟨.tuple (dz [0, low - 1]), .tuple (dz [0, low - 1]), dp_t (SqT.of ((same_upd nt3) _ _ et2)), dp_t (SqT.of ?_), dz_shapedT _, dz_shapedT _, _, rfl, ?_⟩
    · rw [upd_same]
      show some (HO.tup [.int 0, .int ((low : Int) - 1)]) = _
      rw [e1]
      rfl
    rw [dz_eqvT, decide_eq_true rfl]
    refine iteF ?_
    have d12 := d10.same sm12
    show Ends.nx _ _ (upd H11 t3 (.tup [.int 0, .int ((low : Int) - 1)]))
    generalize upd H11 t3 (.tup [.int 0, .int ((low : Int) - 1)]) = H12 at d12
    refine ⟨_, rfl, _, rfl, _, rfl, small (by show 2 ≤ 1000; decide), fun t4 nt4 => ?_⟩
    refine ⟨_, rfl, _, _, rfl, rfl, p, ab, low, low - 1, b, t4, (by rw [← e1]; rfl), upd_same, hp, by omega, O.low0, hb, hT, ha1, ha2, by omega, fun H13 bt sm13 nbt ebt => ?_⟩
    have d13 := d12.same ((same_upd nt4).trans sm13)
    refine ⟨_, rfl, _, _, rfl, rfl, _, _, rfl, rfl, ⟨by decide, by decide⟩, ?_⟩
    have eh : (((low : Int) - 1) / 2) = (((low - 1) / 2 : Nat) : Int) := by omega
    refine set_eq (v' := .int (((low - 1) / 2 : Nat) : Int)) (congrArg V.int eh) ?_
    show Ends.nx _ _ _
    dsimp only
    refine seq_cut (fun σ H' => ∃ v12 : Option V, σ = [some (.ref a), some (.ref dw), some (.int p), some (.int most), some (.ref dl), some (.int low), v6, v7, v8, some (.int (-(ab : Int))), some (.ref bt), some (.int (((low - 1) / 2 : Nat) : Int)), v12, none, none, none, none, none, none] ∧ H' = H13) (fun D' hnx hrt => ?_) ?_
    · refine ⟨_, rfl, _, _, rfl, rfl, _, rfl, ite2 (fun c => ?_) (fun c => hnx _ _ ⟨none, rfl, rfl⟩)⟩
      have c' : (2 : Int) < (low : Int) := of_decide_eq_true c
      refine ⟨_, rfl, _, rfl, by omega, by omega, ?_⟩
      refine for_range (lo := 0) (n := ((((low - 1) / 2 : Nat) : Int)).toNat) (fun i σ H' => ∃ v12 : Option V, σ = [some (.ref a), some (.ref dw), some (.int p), some (.int most), some (.ref dl), some (.int low), v6, v7, v8, some (.int (-(ab : Int))), some (.ref bt), some (.int (((low - 1) / 2 : Nat) : Int)), v12, none, none, none, none, none, none] ∧ H' = H13)
        ⟨none, rfl, rfl⟩ ?_ (fun σ H' q => hnx _ _ q)
      rintro i σ H' hi ⟨v12, rfl, rfl⟩
      rw [Int.toNat_natCast] at hi
      have e0 : ((0 : Int) + (i : Int)) = (i : Int) := Int.zero_add _
      rw [e0]
      have hat : ∀ j, j < low - 1 → atI (inz (Km.row p b low (low - 1) ab)) ((j : Nat) : Int) = some (.int ((Km.fig p b (Km.iter p b low j ab) : Nat) : Int)) := fun j hj => by
        refine atI_nat ?_
        unfold inz
        rw [List.getElem?_map, Km.row_get p b low ab _ _ hj]
        rfl
      have hsum := O.halves (by omega) ha1 ha2 i
      refine ⟨_, rfl, _, rfl, bt, _, _, _, rfl, rfl, SqT.of ebt, hat i (by omega), _, rfl, _, rfl, _, rfl, _, _, rfl, rfl, bt, _, _, _, rfl, rfl, SqT.of ebt, hat (i + (low - 1) / 2) (by omega), _, _, rfl, rfl, _, rfl, _, _, rfl, rfl, rfl, _, rfl, ?_⟩
      refine iteNS (congrArg V.int ?_) ⟨_, rfl, rfl⟩
      show ((Km.fig p b (Km.iter p b low i ab) : Nat) : Int) + ((Km.fig p b (Km.iter p b low (i + (low - 1) / 2) ab) : Nat) : Int) = (p : Int) - 1
      omega
    rintro σ H' ⟨v12, rfl, rfl⟩
    refine fun cd ncd => ?_
    have dc := d13.same (same_upd (o := .dT []) ncd)
    have ncw : cd ≠ dw := d13.ne ncd
    obtain ⟨hsc, ic, sc, rc, erc⟩ := id dc
    refine ⟨_, rfl, dw, a, ns, ic, 3, sc, rc, rfl, erc, hsc, by decide, by decide, fun H14 sz j14 s14 r14 hsz kp14 er14 => ⟨_, _, rfl, rfl, small (by show 2 ≤ 1000; decide), fun tp ntp => ?_⟩⟩
    refine ⟨tp, _, rfl, SqT.of upd_same, rfl, _, _, rfl, _, _, rfl, rfl, ?_⟩
    have hbtw : bt ≠ dw := by
      obtain ⟨_, _, _, _, e⟩ := d13
      exact ne_of ebt e (fun q => by cases q)
    have kp15 := same_upd (o := .tup [.ref cd, .int (1 + (sz : Int))]) ntp
    have ecd : (upd H14 tp (.tup [.ref cd, .int (1 + (sz : Int))])) cd = some (.dT []) := kp15 _ _ (kp14 _ _ upd_same ncw)
    have ebt15 : (upd H14 tp (.tup [.ref cd, .int (1 + (sz : Int))])) bt = some (.tup (inz (Km.row p b low (low - 1) ab))) := kp15 _ _ (kp14 _ _ ((same_upd ncd) _ _ ebt) hbtw)
    show Ends.nx _ _ (upd H14 tp (.tup [.ref cd, .int (1 + (sz : Int))]))
    generalize upd H14 tp (.tup [.ref cd, .int (1 + (sz : Int))]) = H15 at ecd ebt15
    have hs13 : 1 ≤ 1 + sz ∧ 1 + sz ≤ 3 := by omega
    have es : (1 + (sz : Int)) = ((1 + sz : Nat) : Int) := by omega
    dsimp only
    refine seq_cut (fun σ H' => ∃ (kvs : List (List Key × V)) (v12 v15 : Option V), σ = [some (.ref a), some (.ref dw), some (.int p), some (.int most), some (.ref dl), some (.int low), v6, v7, v8, some (.int (-(ab : Int))), some (.ref bt), some (.int (((low - 1) / 2 : Nat) : Int)), v12, some (.ref cd), some (.int ((1 + sz : Nat) : Int)), v15, none, none, none] ∧
      H' cd = some (.dT kvs) ∧ Counts kvs (Km.wlist p b low (1 + sz) ab)) (fun D' hnx hrt => ?_) ?_
    · have hrl : (Km.row p b low (low - 1) ab).length = low - 1 := Km.row_len _ _ _ _ _
      refine ⟨_, rfl, _, rfl, bt, Km.row p b low (low - 1) ab, 1 + sz, (by rw [← es]; rfl), ebt15, (fun q => by
        rw [q] at hrl
        have : (0 : Nat) = low - 1 := hrl
        omega), by omega, by omega, fun H16 wl ts sm16 nwl ewl hTs => ⟨wl, rfl, ⟨_, SqL.of ewl⟩, ?_⟩⟩
      have ecd16 := sm16 _ _ ecd
      have nwc : wl ≠ cd := ne_of ewl ecd16 (fun q => by cases q)
      have hws : (List.range (Km.row p b low (low - 1) ab).length).map (Km.cyc (1 + sz) (Km.row p b low (low - 1) ab)) = Km.wlist p b low (1 + sz) ab := by
        rw [hrl]
        rfl
      rw [hws] at hTs
      have hwlen : (Km.wlist p b low (1 + sz) ab).length = low - 1 := by
        unfold Km.wlist
        rw [List.length_map, List.length_range]
      refine for_list (K := K) (a := wl) (xs := refs ts) (fun i σ H' => ∃ (kvs : List (List Key × V)) (v12 v15 : Option V), σ = [some (.ref a), some (.ref dw), some (.int p), some (.int most), some (.ref dl), some (.int low), v6, v7, v8, some (.int (-(ab : Int))), some (.ref bt), some (.int (((low - 1) / 2 : Nat) : Int)), v12, some (.ref cd), some (.int ((1 + sz : Nat) : Int)), v15, none, none, none] ∧
          Keep1 cd H16 H' ∧ H' cd = some (.dT kvs) ∧ kvs.length ≤ i ∧ Counts kvs ((Km.wlist p b low (1 + sz) ab).take i))
        ⟨[], v12, none, rfl, Keep1.refl _ _, ecd16, Nat.le_refl _, fun w => rfl⟩ (fun i σ H' _ ⟨_, _, _, _, kp, _⟩ => SqL.of (kp _ _ ewl nwc)) ?_ ?_
      · rintro i x σ H' hx ⟨kvs, v12, v15, rfl, kp, ecd', hk, hC⟩
        obtain ⟨t, ht, rfl⟩ := refs_get hx
        obtain ⟨wd, hw, et⟩ := hTs.at ht
        have hi : i < low - 1 := by
          have q := (List.getElem?_eq_some_iff.mp hw).1
          omega
        have ntc : t ≠ cd := ne_of et ecd16 (fun q => by cases q)
        have et' : H' t = some (.tup ((wkey wd).map kV)) := by
          rw [wkey_kV]
          exact kp _ _ et ntc
        refine ⟨_, rfl, cd, rfl, .inr ⟨kvs, .inl ecd'⟩, _, rfl, _, DGet.t ecd' et', _, _, hC wd, rfl, _, rfl, _, rfl, cd, _, rfl, DPut.t ecd' et' (small1000 (by omega)), ?_⟩
        refine ⟨_, v12, some (.ref t), rfl, keep1_upd kp, upd_same, Nat.le_trans (length_putK _ _ _) (by omega), ?_⟩
        rw [List.take_add_one, hw]
        exact counts_put hC wd
      · rintro σ H' ⟨kvs, v12, v15, rfl, kp, ecd', hk, hC⟩
        refine hnx _ _ ⟨kvs, v12, v15, rfl, ecd', ?_⟩
        have e : (Km.wlist p b low (1 + sz) ab).take (refs ts).length = Km.wlist p b low (1 + sz) ab := by
          rw [refs_len, hTs.len, List.take_length]
        rw [e] at hC
        exact hC
    rintro σ H17 ⟨kvs, v12, v15, rfl, ecd2, hC⟩
    obtain ⟨hlots, wq, hwq, hcq⟩ := O.lots hp hl2 ha1 ha2 (1 + sz)
    generalize Km.wlist p b low (1 + sz) ab = ws at hC hlots hcq
    refine ⟨_, rfl, _, rfl, p, 1 + sz, rfl, hp, hs13.2, ?_⟩
    have hpow : p ^ (1 + sz) < 400 ∧ 0 < p ^ (1 + sz) := by
      have : sz = 0 ∨ sz = 1 ∨ sz = 2 := by omega
      rcases hp with rfl | rfl | rfl | rfl <;> rcases this with rfl | rfl | rfl <;> decide
    generalize hP : p ^ (1 + sz) = P at hpow hlots hcq
    refine ⟨_, rfl, _, _, rfl, rfl, _, rfl, ?_⟩
    rw [decide_eq_true (show ((P : Nat) : Int) < 400 by omega)]
    refine iteT ?_
    refine ⟨_, rfl, _, rfl, p, 1 + sz, rfl, hp, hs13.2, fun H18 el us sm18 eel hU => ⟨el, rfl, ⟨_, SqL.of eel⟩, fun D nD => ?_⟩⟩
    have ecd18 := sm18 _ _ ecd2
    refine lc_list (K := K) (a := el) (xs := refs us) (fun i H' => Same H18 H' ∧ H' D = some (.lst (inz (((Km.every p (1 + sz)).take i).map (fun w => ws.count w))))) ⟨same_upd nD, upd_same⟩ (fun i H' _ ⟨sm, _⟩ => SqL.of (sm _ _ eel)) ?_ ?_
    · rintro i x H' hx ⟨sm, eD⟩
      obtain ⟨t, ht, rfl⟩ := refs_get hx
      obtain ⟨wd, hw, et⟩ := hU.at ht
      have et' : H' t = some (.tup ((wkey wd).map kV)) := by
        rw [wkey_kV]
        exact sm _ _ et
      have hi : i < (Km.every p (1 + sz)).length := (List.getElem?_eq_some_iff.mp hw).1
      have hel := every_len hp (1 + sz) hs13.2
      refine ⟨rfl, lc_yes ?_⟩
      refine ⟨_, rfl, cd, rfl, .inr ⟨kvs, .inl (sm _ _ ecd18)⟩, _, rfl, _, DGet.t (sm _ _ ecd18) et', _, eD, ?_, sset sm nD, ?_⟩
      · rw [inz_length, List.length_map, List.length_take]
        exact small1000 (by omega)
      · rw [upd_same, hC wd, List.take_add_one, hw, List.map_append, inz_append]
        rfl
    · rintro H' ⟨sm, eD⟩
      have e : (Km.every p (1 + sz)).take (refs us).length = Km.every p (1 + sz) := by
        rw [refs_len, hU.len, List.take_length]
      rw [e, inz_ints] at eD
      generalize hns : ((Km.every p (1 + sz)).map (fun w => ws.count w)).map (fun (n : Nat) => (n : Int)) = ls at eD
      have hall : ∀ y ∈ ls, y = (((low - 1) / P : Nat) : Int) ∨ y = (((low - 1) / P : Nat) : Int) + 1 := by
        intro y hy
        rw [← hns] at hy
        obtain ⟨n, hn, rfl⟩ := List.mem_map.mp hy
        obtain ⟨wd, hwd, rfl⟩ := List.mem_map.mp hn
        rcases hlots wd hwd with q | q
        · left
          rw [q]
        · right
          rw [q]
          rfl
      have hone : (((low - 1) / P : Nat) : Int) ∈ ls := by
        rw [← hns]
        exact List.mem_map.mpr ⟨_, List.mem_map.mpr ⟨wq, hwq, hcq⟩, rfl⟩
      have hpos : 0 < ls.length := List.length_pos_of_mem hone
      refine ⟨_, rfl, D, ls, rfl, SqL.of eD, hpos, fun M hM hM2 => ?_⟩
      refine ⟨_, rfl, D, ls, rfl, SqL.of eD, hpos, fun m hm hm2 => ⟨_, _, rfl, rfl, _, _, rfl, rfl, _, rfl, ?_⟩⟩
      obtain ⟨q, hq⟩ : ∃ q, (low - 1) / P = q := ⟨_, rfl⟩
      rw [hq] at hall hone
      have q1 := hall M hM
      have q2 := hall m hm
      have q3 := hm2 _ hone
      rw [decide_eq_true (show M - m < 2 by omega)]
      refine iteT ?_
      refine ⟨_, rfl, _, _, rfl, rfl, _, rfl, ?_⟩
      rw [decide_eq_false (show ¬ (400 : Int) ≤ ((P : Nat) : Int) by omega)]
      refine iteF ?_
      refine ⟨_, rfl, D, ls, rfl, SqL.of eD, hpos, fun m2 hm3 hm4 => ?_⟩
      refine ⟨_, rfl, _, _, rfl, rfl, _, rfl, _, _, rfl, rfl, ⟨by omega, by omega⟩, rfl, ?_⟩
      have q4 := hall m2 hm3
      have q5 := hm4 _ hone
      have e3 : (((low : Int) - 1) / ((P : Nat) : Int)) = ((q : Nat) : Int) := by
        rw [e1, ← Int.natCast_ediv, hq]
      show Q (.bl (decide (V.int m2 = V.int (((low : Int) - 1) / ((P : Nat) : Int))))) _
      rw [e3, decide_eq_true (congrArg V.int (show m2 = ((q : Nat) : Int) by omega))]
      exact k _
end
end Kw

set_option Elab.async false
set_option linter.all false
set_option maxRecDepth 100000
set_option maxHeartbeats 8000000
namespace Kw
open PySem L2
/-! ### the program's top: where each def stands, and the constants -/
theorem has_mk {K : PySem.W.Frag} {h : Heap} {mg : Str → Option Value} {x : Str} {ps : List Str} {st : Stmt} {f : Addr} {oc : Value} {od an : Option Addr} {sl : Array (Option Value)} {kV dc pm cd ct : Value} (X : K.In h) (G : h.Ns mainGlobals mg)
    (a : PySem.W.nsIn K mainGlobals x = some (some (.ref f))) (l : K.lookup f = some ⟨oc, od, .func (PySem.W.fnOf x x (defArgs st) (defBody st) (defScope st) .none kV dc pm an cd ct), sl⟩)
    (c : PySem.W.codeIn K cd x = true) (k : PySem.W.keepIn K (.ref f) = true)
    (b : ∀ (kV doc pm : Value) (an : Option Addr) (cdv ct : Value) (us : List Value), us.length = ps.length → bindArgs (PySem.W.fnOf x x (defArgs st) (defBody st) (defScope st) .none kV doc pm an cdv ct) ⟨us, []⟩ = pure (ps.zip us)) : Has K mg x ps st :=
  have F := fun_mk (st := st) l c k
  ⟨f, _, F, F.binds b, PySem.W.mg_of X G a⟩
theorem int_mk {K : PySem.W.Frag} {h : Heap} {mg : Str → Option Value} {x : Str} {n : Int} {t : Tok} (X : K.In h) (G : h.Ns mainGlobals mg) (a : PySem.W.nsIn K mainGlobals x = some (some (.int n t))) : HasInt mg x n := ⟨t, PySem.W.mg_of X G a⟩
theorem primes_mk {K : PySem.W.Frag} {h : Heap} {mg : Str → Option Value} {f : Addr} {oc : Value} {od : Option Addr} {its : Array Value} {n : Nat} {sl : Array (Option Value)} (X : K.In h) (G : h.Ns mainGlobals mg)
    (a : PySem.W.nsIn K mainGlobals "PRIMES" = some (some (.ref f))) (l : K.lookup f = some ⟨oc, od, .seq its n, sl⟩) (c : oc = .type "tuple") (z : its.size ≤ sizeLine) (v : Vals [.int 2, .int 3, .int 5, .int 7] its.toList) : HasPrimes K mg :=
  ⟨f, PySem.W.mg_of X G a, fun H => .inr ⟨_, its, n, l, c, rfl, z, v⟩⟩
structure Top (K : PySem.W.Frag) (mg : Str → Option Value) : Prop where
  bi : Bi mg
  primes : HasPrimes K mg
  row : HasInt mg "MOST_ROW" 400
  part : HasInt mg "MOST_PART" (10 ^ 60)
  low : HasInt mg "MOST_LOW" (10 ^ 12)
  listed : HasInt mg "MOST_LISTED" 3000
  gcd : mg "gcd" = some (.builtin "math.gcd")
  is_int : Has K mg "is_int" P_is_int s_is_int
  is_in : Has K mg "is_in" P_is_in s_is_in
  need_prime : Has K mg "need_prime" P_need_prime s_need_prime
  need_number : Has K mg "need_number" P_need_number s_need_number
  inverse : Has K mg "inverse" P_inverse s_inverse
  prime_factors : Has K mg "prime_factors" P_prime_factors s_prime_factors
  common_multiple : Has K mg "common_multiple" P_common_multiple s_common_multiple
  quotient_of : Has K mg "quotient_of" P_quotient_of s_quotient_of
  is_fraction : Has K mg "is_fraction" P_is_fraction s_is_fraction
  need_fraction : Has K mg "need_fraction" P_need_fraction s_need_fraction
  lowest : Has K mg "lowest" P_lowest s_lowest
  fraction_row : Has K mg "fraction_row" P_fraction_row s_fraction_row
  order_modulo : Has K mg "order_modulo" P_order_modulo s_order_modulo
  pow_rest : Has K mg "pow_rest" P_pow_rest s_pow_rest
  fraction_period : Has K mg "fraction_period" P_fraction_period s_fraction_period
  long_lows : Has K mg "long_lows" P_long_lows s_long_lows
  l_taken : Has K mg "_law_taken" P_l_taken s_l_taken
  l_pick : Has K mg "_law_pick" P_l_pick s_l_pick
  l_prime : Has K mg "_law_prime" P_l_prime s_l_prime
  l_alike : Has K mg "_law_alike" P_l_alike s_l_alike
  l_words : Has K mg "_law_words" P_l_words s_l_words
  l_whole_power : Has K mg "_law_whole_power" P_l_whole_power s_l_whole_power
  l_every : Has K mg "_law_every" P_l_every s_l_every
theorem law_of {P : Program} {w : World} {K : PySem.W.Frag} {mg : Str → Option Value} {base : Heap} {f : Addr} {fd : FuncData} (T : Top K mg) (F : Fun K "law" "law" s_law f fd) : FnOk P w K mg base CX0 6 f fd P_law (spLaw K) := by
  have B := T.bi
  have k1 := d_is_int (P := P) (w := w) (base := base) T.is_int B
  have k2 := d_is_in T.is_in B k1
  have k3 := d_need_prime T.need_prime T.primes k1
  have k4 := d_need_number T.need_number k2
  have k5 := d_inverse (P := P) (w := w) (base := base) T.inverse B
  have k6 := d_prime_factors (P := P) (w := w) (base := base) T.prime_factors
  have k7 := d_common_multiple (P := P) (w := w) (base := base) T.common_multiple
  have k8 := d_quotient_of T.quotient_of B k5
  have k9 := d_is_fraction T.is_fraction B T.part k2
  have k10 := d_need_fraction T.need_fraction k9
  have k11 := d_lowest (P := P) (w := w) (base := base) T.lowest T.gcd
  have k12 := d_fraction_row T.fraction_row T.row k3 k10 k4 k8
  have k13 := d_pow_rest (P := P) (w := w) (base := base) T.pow_rest
  have k14 := d_order_modulo T.order_modulo k6 k7 k13
  have k15 := d_fraction_period T.fraction_period T.low k3 k10 k11 k5 k14
  have k16 := d_long_lows T.long_lows B T.listed k3 k4 k6 k14
  have k17 := d_taken (P := P) (w := w) (base := base) T.l_taken B
  have k18 := d_pick T.l_pick B k17
  have k19 := d_prime T.l_prime k18
  have k20 := d_alike_i (P := P) (w := w) (base := base) T.l_alike B
  have k21 := d_alike_l T.l_alike B k20
  have k22 := d_words (P := P) (w := w) (base := base) T.l_words B
  have k23 := d_whole_power (P := P) (w := w) (base := base) T.l_whole_power B
  have k24 := d_every (P := P) (w := w) (base := base) T.l_every B
  exact ok_law F B k17 k18 k19 k21 k16 k15 k12 k22 k23 k24
theorem all_mk {l : PySem.W.OpenLaw} {w : World} {K : PySem.W.Frag} {h : Heap} {mg : Str → Option Value} {fa f4 : Addr} (X : K.In h) (G : h.Ns mainGlobals mg) (hfa : mg "law" = some (.ref fa)) (T : Top K mg)
    {od4 an4 : Option Addr} {sl4 : Array (Option Value)} {oc4 kV4 dc4 pm4 cd4 ct4 : Value}
    (a4 : PySem.W.nsIn K mainGlobals "law" = some (some (.ref f4))) (l4 : K.lookup f4 = some ⟨oc4, od4, .func (PySem.W.fnOf "law" "law" (defArgs s_law) (defBody s_law) (defScope s_law) .none kV4 dc4 pm4 an4 cd4 ct4), sl4⟩) (c4 : PySem.W.codeIn K cd4 "law" = true) (k4 : PySem.W.keepIn K (.ref f4) = true) :
    ∃ fd : FuncData, (∀ (s : Shared) (v : Value), BindsTo s fd ⟨[v], []⟩ [("_law_script", v)]) ∧ ∀ base : Heap, K.In base → base.Ns mainGlobals mg → FnOk l.prog w K mg base CX0 6 fa fd ["_law_script"] (spLaw K) := by
  have e := hfa.symm.trans (PySem.W.mg_of X G a4)
  cases e
  have F4 := fun_mk (st := s_law) l4 c4 k4
  exact ⟨PySem.W.fnOf "law" "law" (defArgs s_law) (defBody s_law) (defScope s_law) .none kV4 dc4 pm4 an4 cd4 ct4, fun s v => .of_eq rfl, fun base _ _ => law_of T F4⟩
theorem walk {l : PySem.W.OpenLaw} {q : Program} {loose : List Str} {XP : (Str → Option Value) → Heap → Prop} {YP : World → Heap → Prop} {d : DefRec} {K : Params → PySem.W.Frag} (hn : l.most = some 63) (hdf : d.params.defaults = [])
    (hY : ∀ (w : World) (h : Heap), YP w h → (K w.params).In h)
    (F : ∀ (w : World) (mg : Str → Option Value) (fa : Addr) (h : Heap), (K w.params).In h → h.Ns mainGlobals mg → mg d.name = some (.ref fa) →
      ∃ fd : FuncData, (∀ (s : Shared) (u : Value), BindsTo s fd ⟨[u], []⟩ [("_law_script", u)]) ∧ ∀ base : Heap, (K w.params).In base → base.Ns mainGlobals mg → FnOk l.prog w (K w.params) mg base CX0 6 fa fd ["_law_script"] (spLaw (K w.params))) :
    PySem.W.WalkO q loose XP YP l.row.toRowW d [] (fun f vs => PySem.call f vs) :=
  L2.walk_of (n := 63) (k := 6) (x := "_law_script") (CX := fun _ => CX0) (sp := fun w => spLaw (K w.params)) hn (by decide) hdf ⟨rfl, by decide, by decide⟩ hY F (fun _ _ a ns hl _ hS => ⟨a, ns, rfl, hS, hl, fun _ => rfl⟩) fun _ _ _ _ _ z => z
end Kw

set_option Elab.async false
open PySem PySem.W PyProof.Rows
set_option maxRecDepth 100000 in
set_option maxHeartbeats 0 in
theorem PySem.Challenge.cw_taprows_k71_whole_long_denominators_holds : PySem.Challenge.rw_taprows_k71_whole_long_denominators.Holds := by
  w_on; o_law; k_head; (case hw => w_witness2)
  k_fill
  refine Kw.walk (l := PySem.Challenge.rw_taprows_k71_whole_long_denominators) rfl rfl (fun w h Y => PySem.W.kIn_of Y) ?F
  case F =>
    intro w mg fa h KX G hmg
    refine' Kw.all_mk KX G hmg ?T ?a4 ?l4 ?c4 ?k4
    (case a4 => k_is); (case l4 => k_is); (case c4 => k_is); (case k4 => k_is)
    case T =>
    constructor
    · exact ⟨PySem.W.mg_none_of KX G (by k_is), PySem.W.mg_none_of KX G (by k_is), PySem.W.mg_none_of KX G (by k_is), PySem.W.mg_none_of KX G (by k_is), PySem.W.mg_none_of KX G (by k_is), PySem.W.mg_none_of KX G (by k_is), PySem.W.mg_none_of KX G (by k_is), PySem.W.mg_none_of KX G (by k_is), PySem.W.mg_none_of KX G (by k_is), PySem.W.mg_none_of KX G (by k_is)⟩
    · refine' Kw.primes_mk KX G ?aP ?lP ?cP ?zP ?vP
      (case aP => k_is); (case lP => k_is)
      (case cP => rfl)
      (case zP => decide)
      (case vP => exact .cons ⟨_, rfl⟩ (.cons ⟨_, rfl⟩ (.cons ⟨_, rfl⟩ (.cons ⟨_, rfl⟩ .nil))))
    · refine' Kw.int_mk KX G ?n0
      (case n0 => k_is)
    · refine' Kw.int_mk KX G ?n1
      (case n1 => k_is)
    · refine' Kw.int_mk KX G ?n2
      (case n2 => k_is)
    · refine' Kw.int_mk KX G ?n3
      (case n3 => k_is)
    · refine' PySem.W.mg_of KX G ?g
      (case g => k_is)
    · refine' Kw.has_mk KX G ?a_is_int ?l_is_int ?c_is_int ?k_is_int (fun _ _ _ _ _ _ us hl => match us, hl with | [_], _ => rfl)
      (case a_is_int => k_is); (case l_is_int => k_is); (case c_is_int => k_is); (case k_is_int => k_is)
    · refine' Kw.has_mk KX G ?a_is_in ?l_is_in ?c_is_in ?k_is_in (fun _ _ _ _ _ _ us hl => match us, hl with | [_, _, _], _ => rfl)
      (case a_is_in => k_is); (case l_is_in => k_is); (case c_is_in => k_is); (case k_is_in => k_is)
    · refine' Kw.has_mk KX G ?a_need_prime ?l_need_prime ?c_need_prime ?k_need_prime (fun _ _ _ _ _ _ us hl => match us, hl with | [_], _ => rfl)
      (case a_need_prime => k_is); (case l_need_prime => k_is); (case c_need_prime => k_is); (case k_need_prime => k_is)
    · refine' Kw.has_mk KX G ?a_need_number ?l_need_number ?c_need_number ?k_need_number (fun _ _ _ _ _ _ us hl => match us, hl with | [_, _, _], _ => rfl)
      (case a_need_number => k_is); (case l_need_number => k_is); (case c_need_number => k_is); (case k_need_number => k_is)
    · refine' Kw.has_mk KX G ?a_inverse ?l_inverse ?c_inverse ?k_inverse (fun _ _ _ _ _ _ us hl => match us, hl with | [_, _], _ => rfl)
      (case a_inverse => k_is); (case l_inverse => k_is); (case c_inverse => k_is); (case k_inverse => k_is)
    · refine' Kw.has_mk KX G ?a_prime_factors ?l_prime_factors ?c_prime_factors ?k_prime_factors (fun _ _ _ _ _ _ us hl => match us, hl with | [_], _ => rfl)
      (case a_prime_factors => k_is); (case l_prime_factors => k_is); (case c_prime_factors => k_is); (case k_prime_factors => k_is)
    · refine' Kw.has_mk KX G ?a_common_multiple ?l_common_multiple ?c_common_multiple ?k_common_multiple (fun _ _ _ _ _ _ us hl => match us, hl with | [_, _], _ => rfl)
      (case a_common_multiple => k_is); (case l_common_multiple => k_is); (case c_common_multiple => k_is); (case k_common_multiple => k_is)
    · refine' Kw.has_mk KX G ?a_quotient_of ?l_quotient_of ?c_quotient_of ?k_quotient_of (fun _ _ _ _ _ _ us hl => match us, hl with | [_, _, _, _], _ => rfl)
      (case a_quotient_of => k_is); (case l_quotient_of => k_is); (case c_quotient_of => k_is); (case k_quotient_of => k_is)
    · refine' Kw.has_mk KX G ?a_is_fraction ?l_is_fraction ?c_is_fraction ?k_is_fraction (fun _ _ _ _ _ _ us hl => match us, hl with | [_, _], _ => rfl)
      (case a_is_fraction => k_is); (case l_is_fraction => k_is); (case c_is_fraction => k_is); (case k_is_fraction => k_is)
    · refine' Kw.has_mk KX G ?a_need_fraction ?l_need_fraction ?c_need_fraction ?k_need_fraction (fun _ _ _ _ _ _ us hl => match us, hl with | [_, _], _ => rfl)
      (case a_need_fraction => k_is); (case l_need_fraction => k_is); (case c_need_fraction => k_is); (case k_need_fraction => k_is)
    · refine' Kw.has_mk KX G ?a_lowest ?l_lowest ?c_lowest ?k_lowest (fun _ _ _ _ _ _ us hl => match us, hl with | [_, _], _ => rfl)
      (case a_lowest => k_is); (case l_lowest => k_is); (case c_lowest => k_is); (case k_lowest => k_is)
    · refine' Kw.has_mk KX G ?a_fraction_row ?l_fraction_row ?c_fraction_row ?k_fraction_row (fun _ _ _ _ _ _ us hl => match us, hl with | [_, _, _], _ => rfl)
      (case a_fraction_row => k_is); (case l_fraction_row => k_is); (case c_fraction_row => k_is); (case k_fraction_row => k_is)
    · refine' Kw.has_mk KX G ?a_order_modulo ?l_order_modulo ?c_order_modulo ?k_order_modulo (fun _ _ _ _ _ _ us hl => match us, hl with | [_, _], _ => rfl)
      (case a_order_modulo => k_is); (case l_order_modulo => k_is); (case c_order_modulo => k_is); (case k_order_modulo => k_is)
    · refine' Kw.has_mk KX G ?a_pow_rest ?l_pow_rest ?c_pow_rest ?k_pow_rest (fun _ _ _ _ _ _ us hl => match us, hl with | [_, _, _], _ => rfl)
      (case a_pow_rest => k_is); (case l_pow_rest => k_is); (case c_pow_rest => k_is); (case k_pow_rest => k_is)
    · refine' Kw.has_mk KX G ?a_fraction_period ?l_fraction_period ?c_fraction_period ?k_fraction_period (fun _ _ _ _ _ _ us hl => match us, hl with | [_, _], _ => rfl)
      (case a_fraction_period => k_is); (case l_fraction_period => k_is); (case c_fraction_period => k_is); (case k_fraction_period => k_is)
    · refine' Kw.has_mk KX G ?a_long_lows ?l_long_lows ?c_long_lows ?k_long_lows (fun _ _ _ _ _ _ us hl => match us, hl with | [_, _], _ => rfl)
      (case a_long_lows => k_is); (case l_long_lows => k_is); (case c_long_lows => k_is); (case k_long_lows => k_is)
    · refine' Kw.has_mk KX G ?a_l_taken ?l_l_taken ?c_l_taken ?k_l_taken (fun _ _ _ _ _ _ us hl => match us, hl with | [_, _], _ => rfl)
      (case a_l_taken => k_is); (case l_l_taken => k_is); (case c_l_taken => k_is); (case k_l_taken => k_is)
    · refine' Kw.has_mk KX G ?a_l_pick ?l_l_pick ?c_l_pick ?k_l_pick (fun _ _ _ _ _ _ us hl => match us, hl with | [_, _], _ => rfl)
      (case a_l_pick => k_is); (case l_l_pick => k_is); (case c_l_pick => k_is); (case k_l_pick => k_is)
    · refine' Kw.has_mk KX G ?a_l_prime ?l_l_prime ?c_l_prime ?k_l_prime (fun _ _ _ _ _ _ us hl => match us, hl with | [_], _ => rfl)
      (case a_l_prime => k_is); (case l_l_prime => k_is); (case c_l_prime => k_is); (case k_l_prime => k_is)
    · refine' Kw.has_mk KX G ?a_l_alike ?l_l_alike ?c_l_alike ?k_l_alike (fun _ _ _ _ _ _ us hl => match us, hl with | [_, _], _ => rfl)
      (case a_l_alike => k_is); (case l_l_alike => k_is); (case c_l_alike => k_is); (case k_l_alike => k_is)
    · refine' Kw.has_mk KX G ?a_l_words ?l_l_words ?c_l_words ?k_l_words (fun _ _ _ _ _ _ us hl => match us, hl with | [_, _], _ => rfl)
      (case a_l_words => k_is); (case l_l_words => k_is); (case c_l_words => k_is); (case k_l_words => k_is)
    · refine' Kw.has_mk KX G ?a_l_whole_power ?l_l_whole_power ?c_l_whole_power ?k_l_whole_power (fun _ _ _ _ _ _ us hl => match us, hl with | [_, _], _ => rfl)
      (case a_l_whole_power => k_is); (case l_l_whole_power => k_is); (case c_l_whole_power => k_is); (case k_l_whole_power => k_is)
    · refine' Kw.has_mk KX G ?a_l_every ?l_l_every ?c_l_every ?k_l_every (fun _ _ _ _ _ _ us hl => match us, hl with | [_, _], _ => rfl)
      (case a_l_every => k_is); (case l_l_every => k_is); (case c_l_every => k_is); (case k_l_every => k_is)
#print axioms PySem.Challenge.cw_taprows_k71_whole_long_denominators_holds

