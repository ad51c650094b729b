import PyProof.Rows.All
import Wide.All
import OpenK.AllK
import Wide.FinOn
import PySem.Challenge.RW_qd0033_01
open PySem PySem.W PyProof.Rows
set_option Elab.async false
set_option maxRecDepth 100000
set_option maxHeartbeats 20000000
namespace Mine
/-- what the head looks at: the text's last statement alone; all other names stand loose -/
noncomputable def q : Program := { PySem.Challenge.rw_qd0033_01.row.prog with main := { PySem.Challenge.rw_qd0033_01.row.prog.main with body := PySem.Challenge.rw_qd0033_01.row.prog.main.body.drop (PySem.Challenge.rw_qd0033_01.row.prog.main.body.length - 1) } }
def qL : List PySem.Str := [PySem.Str.ofString "OP_ADD", PySem.Str.ofString "OP_SUB", PySem.Str.ofString "OP_MUL", PySem.Str.ofString "OP_DIV", PySem.Str.ofString "OP_DIV_UN", PySem.Str.ofString "OP_REM", PySem.Str.ofString "OP_REM_UN", PySem.Str.ofString "OP_AND", PySem.Str.ofString "OP_OR", PySem.Str.ofString "OP_XOR", PySem.Str.ofString "OP_SHL", PySem.Str.ofString "OP_SHR", PySem.Str.ofString "OP_SHR_UN", PySem.Str.ofString "OP_NEG", PySem.Str.ofString "OP_NOT", PySem.Str.ofString "OP_ADD_OVF", PySem.Str.ofString "OP_ADD_OVF_UN", PySem.Str.ofString "OP_MUL_OVF", PySem.Str.ofString "OP_MUL_OVF_UN", PySem.Str.ofString "OP_SUB_OVF", PySem.Str.ofString "OP_SUB_OVF_UN", PySem.Str.ofString "V_I4", PySem.Str.ofString "V_I8", PySem.Str.ofString "V_NINT", PySem.Str.ofString "wrap_bits", PySem.Str.ofString "AF_NONE", PySem.Str.ofString "AF_ZERO", PySem.Str.ofString "AF_OVER", PySem.Str.ofString "AF_TAG", PySem.Str.ofString "unsigned", PySem.Str.ofString "add", PySem.Str.ofString "sub", PySem.Str.ofString "mul", PySem.Str.ofString "within", PySem.Str.ofString "reading", PySem.Str.ofString "add_ovf", PySem.Str.ofString "sub_ovf", PySem.Str.ofString "mul_ovf", PySem.Str.ofString "quotient", PySem.Str.ofString "div", PySem.Str.ofString "rem", PySem.Str.ofString "div_un", PySem.Str.ofString "rem_un", PySem.Str.ofString "shl", PySem.Str.ofString "shr", PySem.Str.ofString "shr_un", PySem.Str.ofString "neg", PySem.Str.ofString "not_", PySem.Str.ofString "compare_s", PySem.Str.ofString "compare_u", PySem.Str.ofString "is_numeral", PySem.Str.ofString "bits_of", PySem.Str.ofString "joined_tag", PySem.Str.ofString "run_arith", PySem.Str.ofString "run_shift", PySem.Str.ofString "run_divide", PySem.Str.ofString "run_checked", PySem.Str.ofString "run_plain", PySem.Str.ofString "run_unary", PySem.Str.ofString "_law_OPS", PySem.Str.ofString "_law_SHIFTS", PySem.Str.ofString "_law_OTHERS", PySem.Str.ofString "_law_GOOD", PySem.Str.ofString "_law_JOINS", PySem.Str.ofString "_law_EDGES", PySem.Str.ofString "_law_cut", PySem.Str.ofString "_law_read", PySem.Str.ofString "_law_tags", PySem.Str.ofString "_law_width", PySem.Str.ofString "_law_number", PySem.Str.ofString "_law_tied", PySem.Str.ofString "_law_value", PySem.Str.ofString "_law_common", PySem.Str.ofString "_law_exact", PySem.Str.ofString "_law_divided", PySem.Str.ofString "_law_checked", PySem.Str.ofString "_law_shifted", PySem.Str.ofString "_law_answer", PySem.Str.ofString "_law_same", PySem.Str.ofString "_law_order", PySem.Str.ofString "_law_binary", PySem.Str.ofString "_law_single", PySem.Str.ofString "_law_ordered", PySem.Str.ofString "_law_pair"]
theorem ws : PySem.Challenge.rw_qd0033_01.wellSaid = true := by
  unfold OpenLaw.wellSaid OpenRow.wellSaid OpenRow.partSaid looksOpen
  repeat' (with_reducible refine look_both ?_ ?_)
  all_goals decide +kernel
local macro_rules | `(tactic| o_head $_) => `(tactic| assumption)
/-- the written part of the heap is laid by the library's own word here -/
theorem frag (_ : PySem.Challenge.rw_qd0033_01.row.Holds) : PySem.Challenge.rw_qd0033_01.row.Holds := by k_head
def asL : List Addr := [2, 3, 15, 17, 18, 20, 21, 22, 24, 25, 27, 28, 29, 31, 32, 34, 35, 36, 38, 39, 41, 42, 43, 45, 46, 48, 49, 50, 52, 53, 55, 56, 57, 59, 60, 62, 63, 64, 66, 67, 69, 70, 71, 73, 74, 76, 77, 78, 80, 81, 83, 84, 85, 87, 88, 90, 91, 92, 94, 95, 97, 98, 99, 101, 102, 104, 105, 106, 108, 109, 111, 112, 113, 115, 116, 118, 119, 120, 122, 123, 125, 126, 127, 129, 130, 132, 133, 134, 136, 137, 139, 140, 141, 143, 144, 146, 147, 148, 150, 151, 153, 154, 155, 157, 158, 160, 161, 162, 164, 165, 167, 168, 169, 171, 172, 174, 175, 176, 178, 179, 181, 182, 183, 185, 186, 188, 189, 190, 192, 193, 195, 196, 197, 199, 200, 202, 203, 204, 206, 207, 209, 210, 211, 213, 214, 216, 217, 218, 220, 221, 223, 224, 225, 227, 228, 230, 231, 232, 233, 234, 235, 236, 237, 238, 239, 240, 241, 242, 243, 244, 245, 246, 247, 248, 249, 250, 251, 252, 253, 254, 255, 256, 257, 258, 259, 260, 261, 262, 264, 265, 267, 268, 269, 270, 272, 273, 275, 276, 277, 279, 280, 282, 283, 284, 286, 287, 289, 290, 291, 293, 294, 296, 297, 298, 300, 301, 303, 304, 305, 307, 308, 310, 311, 312, 314, 315, 317, 318, 319, 321, 322, 324, 325, 326, 328, 329, 331, 332, 333, 335, 336, 338, 339, 340, 342, 343, 345, 346, 347, 349, 350, 352, 353, 354, 356, 357, 359, 360, 361, 363, 364, 366, 367, 368, 370, 371, 373, 374, 375, 377, 378, 380, 381, 382, 384, 385, 387, 388, 389, 391, 392, 394, 395, 396, 398, 399, 401, 402, 403, 405, 406, 408, 409]
theorem asE : ∀ P, asL = (Mine.frag.heap_1 P).map (·.1) := fun _ => by kernel_rfl
noncomputable abbrev HK : Hook := kHook Mine.frag.heap_1 asL asE
noncomputable def Xt : Shared → Bool := fun s => xlAt Mine.q [] s && recOk (RowW.records PySem.Challenge.rw_qd0033_01.row.toRowW) s
/-- the top's run over the library's tree of objects -/
def runT (p : Program) (w : World) (n₀ : Nat) (ann : Option Value) : Nat → SharedT → Thread → Option SharedT
  | 0, _, _ => none
  | n + 1, s, t => match through t with
    | true => some s
    | false => match stepOk n₀ ann t with
      | false => none
      | true => match stepT (denote treeTable) p w s t with
        | some (s', t') => runT p w n₀ ann n s' t'
        | none => none
theorem runT_of {p : Program} {w : World} {n₀ : Nat} {ann : Option Value} : ∀ {n : Nat} {s s' : SharedT} {t : Thread}, runT p w n₀ ann n s t = some s' → topRun treeTable p w n₀ ann n s.abs t = some s'.abs
  | 0, _, _, _, h => by cases h
  | n + 1, s, s', t, h => by
    unfold runT at h
    unfold topRun
    cases ht : through t with
    | true => rw [ht] at h; cases h; rfl
    | false =>
      rw [ht] at h
      cases hk : stepOk n₀ ann t with
      | false => rw [hk] at h; cases h
      | true =>
        rw [hk] at h
        cases hs : stepT (denote treeTable) p w s t with
        | none => rw [hs] at h; cases h
        | some r => obtain ⟨s₂, t₂⟩ := r; rw [hs] at h; rw [stepT_spec hs]; exact runT_of h
def treeOf : List Obj → Nat → BT → BT
  | [], _, t => t
  | o :: l, i, t => treeOf l (i + 1) (t.ins i o)
noncomputable def S0 (P : Params) (os : OsState) : SharedT := ⟨treeOf (boot_heap P).objs.toList 0 .nil, 11, (boot_heap P).life, #[], boot_drawn, boot_toks, os⟩
theorem S0_abs (P : Params) (os : OsState) : (S0 P os).abs = ⟨boot_heap P, #[], boot_drawn, boot_toks, os⟩ := by kernel_rfl
theorem S0_size (P : Params) : ((boot_heap P).isNs mainGlobals && (#[] : Array GenState).size == 0, (boot_heap P).objs.size, (boot_heap P).nsMap mainGlobals "__annotations__") = (true, 11, some (.ref 6)) := by kernel_rfl
theorem left_of {p q : Program} {loose : List Str} {Xt : Shared → Bool} {α : Type} {Yf : Shared → α} {Ya : World → α} {N : Nat}
    (e : opening p = plainProg p.main.scope.names) (hN : Nat.ble 600 N = true) (f : ∀ s, fenceModules? p s = some s)
    (h : ∀ w os, (runT p w 11 (some (.ref 6)) N (S0 w.params os) (topStub p)).map (fun s => (staticsOk (importedModules p.main.body) (boot_heap w.params) s.abs.heap && namesBound p s.abs.heap && gensDone s.abs && laidKept (boot_heap w.params) s.abs.heap,
      openSeen q loose (importedModules p.main.body) Xt true s.abs, Yf s.abs)) = some (true, openGood q loose, Ya w)) : LeftO p q loose Xt Yf Ya N := fun w => by
  obtain ⟨⟨hp, gs, d, k, os⟩, e1, e2⟩ := Option.map_eq_some_iff.mp (boot_open e hN f w)
  obtain ⟨rfl, rfl, rfl, rfl⟩ : hp = boot_heap w.params ∧ gs = #[] ∧ d = boot_drawn ∧ k = boot_toks := by simpa using e2
  obtain ⟨z1, z2, z3⟩ : _ ∧ _ ∧ _ := by simpa only [Prod.mk.injEq] using S0_size w.params
  obtain ⟨s, r, l⟩ := Option.map_eq_some_iff.mp (h w os)
  obtain ⟨l1, l2, l3⟩ : _ ∧ _ ∧ _ := by simpa only [Prod.mk.injEq] using l
  have r := runT_of r
  rw [S0_abs] at r
  have t : topFrom treeTable p w N ⟨boot_heap w.params, #[], boot_drawn, boot_toks, os⟩ = some s.abs := by
    unfold topFrom
    dsimp only
    rw [z1, z2, z3, r]
    show (match staticsOk (importedModules p.main.body) (boot_heap w.params) s.abs.heap && namesBound p s.abs.heap && gensDone s.abs && laidKept (boot_heap w.params) s.abs.heap with | true => _ | false => _) = _
    rw [l1]
  unfold openEnds
  rw [e1]
  show (topFrom treeTable p w N _).map _ = _
  rw [t]
  exact congrArg some (Prod.ext l2 l3)
theorem hl : LeftO PySem.Challenge.rw_qd0033_01.row.prog Mine.q Mine.qL Xt (Hook.obs HK) (Hook.val HK) 4524 := by
  refine left_of (by kernel_rfl) rfl (fun _ => rfl) ?_
  intro w os
  kernel_rfl
theorem frs : (chainsOk q && opensWell PySem.Challenge.rw_qd0033_01.row.prog && (frees PySem.Challenge.rw_qd0033_01.row.toRowW && PySem.Challenge.rw_qd0033_01.row.toRowW.within.isEmpty)) = true := by decide +kernel
local macro_rules | `(tactic| o_law) => `(tactic| refine holds_law Mine.ws fun _ => ?_)
local macro_rules | `(tactic| k_head) => `(tactic| 
  refine holds_open (q := Mine.q) (loose := Mine.qL) (Xt := Mine.Xt) (XP := XL Mine.q []) (Yf := Hook.obs HK) (Ya := Hook.val HK) (YP := Hook.says HK) (N := 4524) Mine.hl (Hook.of HK) (Hook.keeps HK) (fun s e => xl_of s (Bool.and_eq_true_iff.mp e).1) XL.keeps (by rfl) (by rfl) (by rfl) (fun s e => recFacts_of (Bool.and_eq_true_iff.mp e).2) (by rfl) (row_said Mine.ws) Mine.frs ⟨rfl, rfl, rfl, rfl, rfl, by decide +kernel⟩ ?hw ?hc)
open_top hd for PySem.Challenge.rw_qd0033_01
section
def cutF (n bits : Int) : Int := (n + 2 ^ (bits - 1).toNat) % 2 ^ bits.toNat - 2 ^ (bits - 1).toNat
def unF (n bits : Int) : Int := n % 2 ^ bits.toNat
theorem bitAnd_m64 (x : Int) : Builtin.bitAnd x 18446744073709551615 = x % 18446744073709551616 := by
  by_cases hx : 0 ≤ x
  · rw [bitAnd_pp hx (by decide)]
    have h : x.toNat &&& (18446744073709551615 : Int).toNat = x.toNat % 18446744073709551616 := Nat.and_two_pow_sub_one_eq_mod x.toNat 64
    rw [h]
    omega
  · rw [bitAnd_np hx (by decide)]
    have h : (18446744073709551615 : Int).toNat &&& (Builtin.bitNot x).toNat = (Builtin.bitNot x).toNat % 18446744073709551616 := by
      rw [Nat.and_comm]
      exact Nat.and_two_pow_sub_one_eq_mod (Builtin.bitNot x).toNat 64
    rw [h]
    unfold Builtin.bitNot
    omega
theorem mask32 (x : Int) : Builtin.bitAnd x (1 * 2 ^ (32 : Int).toNat - 1) = x % 4294967296 := bitAnd_m32 x
theorem mask64 (x : Int) : Builtin.bitAnd x (1 * 2 ^ (64 : Int).toNat - 1) = x % 18446744073709551616 := bitAnd_m64 x
theorem cut32 (x : Int) : cutF x 32 = (x + 2147483648) % 4294967296 - 2147483648 := rfl
theorem cut64 (x : Int) : cutF x 64 = (x + 9223372036854775808) % 18446744073709551616 - 9223372036854775808 := rfl
theorem un32 (x : Int) : unF x 32 = x % 4294967296 := rfl
theorem un64 (x : Int) : unF x 64 = x % 18446744073709551616 := rfl
theorem fd31 (x : Int) : x.fdiv (2 ^ ((32 : Int) - 1).toNat) = x / 2147483648 := Int.fdiv_eq_ediv_of_nonneg x (by decide)
theorem fd63 (x : Int) : x.fdiv (2 ^ ((64 : Int) - 1).toNat) = x / 9223372036854775808 := Int.fdiv_eq_ediv_of_nonneg x (by decide)
theorem wrap_hi {n bits : Int} (hb : bits = 32 ∨ bits = 64) (h : (Builtin.bitAnd n (1 * 2 ^ bits.toNat - 1)).fdiv (2 ^ (bits - 1).toNat) ≠ 0) : Builtin.bitAnd n (1 * 2 ^ bits.toNat - 1) - 1 * 2 ^ bits.toNat = cutF n bits := by
  rcases hb with rfl | rfl
  · rw [mask32, fd31] at h
    rw [mask32, cut32]
    show n % 4294967296 - 4294967296 = _
    omega
  · rw [mask64, fd63] at h
    rw [mask64, cut64]
    show n % 18446744073709551616 - 18446744073709551616 = _
    omega
theorem wrap_lo {n bits : Int} (hb : bits = 32 ∨ bits = 64) (h : (Builtin.bitAnd n (1 * 2 ^ bits.toNat - 1)).fdiv (2 ^ (bits - 1).toNat) = 0) : Builtin.bitAnd n (1 * 2 ^ bits.toNat - 1) = cutF n bits := by
  rcases hb with rfl | rfl
  · rw [mask32, fd31] at h
    rw [mask32, cut32]
    omega
  · rw [mask64, fd63] at h
    rw [mask64, cut64]
    omega
theorem un_eq {n bits : Int} (hb : bits = 32 ∨ bits = 64) : Builtin.bitAnd n (1 * 2 ^ bits.toNat - 1) = unF n bits := by
  rcases hb with rfl | rfl
  · exact mask32 n
  · exact mask64 n
theorem abs_ne {b : Int} (h : b ≠ 0) : (if b < 0 then -b else b) ≠ 0 := by split <;> omega
theorem quo_eq (a b : Int) (hb : b ≠ 0) : ((if a < 0 then -a else a).fdiv (if b < 0 then -b else b)) = if decide (a < 0) = decide (b < 0) then a.tdiv b else - a.tdiv b := by
  have hp : 0 ≤ (if b < 0 then -b else b) := by split <;> omega
  rw [Int.fdiv_eq_ediv_of_nonneg _ hp]
  by_cases h1 : a < 0 <;> by_cases h2 : b < 0 <;> simp only [h1, h2, if_true, if_false, decide_true, decide_false, Bool.false_eq_true, Bool.true_eq_false]
  · rw [← Int.tdiv_eq_ediv_of_nonneg (by omega), Int.tdiv_neg, Int.neg_tdiv]; omega
  · rw [← Int.tdiv_eq_ediv_of_nonneg (by omega), Int.neg_tdiv]
  · rw [← Int.tdiv_eq_ediv_of_nonneg (by omega), Int.tdiv_neg]
  · rw [← Int.tdiv_eq_ediv_of_nonneg (by omega)]
def inF (n bits : Int) (u : Bool) : Bool := if u then decide (0 ≤ n) && decide (n < 2 ^ bits.toNat) else decide (-(2 ^ (bits - 1).toNat) ≤ n) && decide (n < 2 ^ (bits - 1).toNat)
def inR (n bits : Int) : Prop := -(2 ^ (bits - 1).toNat) ≤ n ∧ n < 2 ^ (bits - 1).toNat
def divF (a b bits : Int) : Int × Int := if b = 0 then (0, 1) else if b = -1 ∧ a = -(2 ^ (bits - 1).toNat) then (0, 2) else (a.tdiv b, 0)
def remF (a b bits : Int) : Int × Int := if b = 0 then (0, 1) else if b = -1 ∧ a = -(2 ^ (bits - 1).toNat) then (0, 2) else (a - b * a.tdiv b, 0)
def divuF (a b bits : Int) : Int × Int := if b = 0 then (0, 1) else (cutF ((unF a bits).fdiv (unF b bits)) bits, 0)
def remuF (a b bits : Int) : Int × Int := if b = 0 then (0, 1) else (cutF ((unF a bits).fmod (unF b bits)) bits, 0)
theorem inR.abs {n bits : Int} (hb : bits = 32 ∨ bits = 64) (h : inR n bits) : n.natAbs < 18446744073709551616 := by
  rcases hb with rfl | rfl
  · have h1 : -(2147483648 : Int) ≤ n := h.1
    have h2 : n < (2147483648 : Int) := h.2
    omega
  · have h1 : -(9223372036854775808 : Int) ≤ n := h.1
    have h2 : n < (9223372036854775808 : Int) := h.2
    omega
theorem log_ok {n : Int} (h : n.natAbs < 18446744073709551616) : n.natAbs.log2 < 9000 := by
  by_cases h0 : n.natAbs = 0
  · rw [h0]; decide
  · have : n.natAbs.log2 < 64 := (Nat.log2_lt h0).mpr h
    omega
theorem abs_log {b : Int} (h : b.natAbs < 18446744073709551616) : (if b < 0 then -b else b).natAbs.log2 < 9000 := log_ok (by split <;> omega)
theorem un_pos {n bits : Int} (hb : bits = 32 ∨ bits = 64) : 0 ≤ unF n bits ∧ unF n bits < 18446744073709551616 := by
  rcases hb with rfl | rfl
  · rw [un32]; omega
  · rw [un64]; omega
theorem un_ne {n bits : Int} (hb : bits = 32 ∨ bits = 64) (h : inR n bits) (h0 : n ≠ 0) : unF n bits ≠ 0 := by
  rcases hb with rfl | rfl
  · have h1 : -(2147483648 : Int) ≤ n := h.1
    have h2 : n < (2147483648 : Int) := h.2
    rw [un32]; omega
  · have h1 : -(9223372036854775808 : Int) ≤ n := h.1
    have h2 : n < (9223372036854775808 : Int) := h.2
    rw [un64]; omega
theorem un_log {n bits : Int} (hb : bits = 32 ∨ bits = 64) : (unF n bits).natAbs.log2 < 9000 := log_ok (by have := un_pos (n := n) hb; omega)
theorem mul_ok {a b : Int} (ha : a.natAbs < 18446744073709551616) (hb : b.natAbs < 18446744073709551616) : PySem.IntMulOk a b := IntMulOk.of_le (m := 64) (n := 64) (intBits_le_iff.mpr ha) (intBits_le_iff.mpr hb) (by decide)
theorem quo1 {a b : Int} (hb : b ≠ 0) (h : (decide (a < 0) != decide (b < 0)) = true) : -(if a < 0 then -a else a).fdiv (if b < 0 then -b else b) = a.tdiv b := by
  rw [quo_eq a b hb]
  split
  · rename_i h2
    rw [h2, bne_self_eq_false] at h
    cases h
  · omega
theorem quo2 {a b : Int} (hb : b ≠ 0) (h : (decide (a < 0) != decide (b < 0)) = false) : (if a < 0 then -a else a).fdiv (if b < 0 then -b else b) = a.tdiv b := by
  rw [quo_eq a b hb]
  split
  · rfl
  · rename_i h2
    rw [bne_eq_false_iff_eq] at h
    exact absurd h h2
section
variable {n bits : Int} {u : Bool}
theorem wi1 (hu : u = true) (h : 0 ≤ n) : decide (n < 1 * 2 ^ bits.toNat) = inF n bits u := by subst hu; simp [inF, h]
theorem wi2 (hu : u = true) (h : ¬0 ≤ n) : decide (0 ≤ n) = inF n bits u := by subst hu; simp [inF, h]
theorem wi3 (hu : u = false) (h : -(1 * 2 ^ (bits - 1).toNat) ≤ n) : decide (n < 1 * 2 ^ (bits - 1).toNat) = inF n bits u := by
  subst hu
  rw [Int.one_mul] at h
  rw [Int.one_mul]
  unfold inF
  rw [if_neg Bool.false_ne_true, decide_eq_true h, Bool.true_and]
theorem wi4 (hu : u = false) (h : ¬-(1 * 2 ^ (bits - 1).toNat) ≤ n) : decide (-(1 * 2 ^ (bits - 1).toNat) ≤ n) = inF n bits u := by
  subst hu
  rw [Int.one_mul] at h
  rw [Int.one_mul]
  unfold inF
  rw [if_neg Bool.false_ne_true, decide_eq_false h, Bool.false_and]
end
def rdF (n bits : Int) (u : Bool) : Int := if u then unF n bits else n
theorem rd1 {n bits : Int} {u : Bool} (h : u = true) : unF n bits = rdF n bits u := by subst h; rfl
theorem rd2 {n bits : Int} {u : Bool} (h : u = false) : n = rdF n bits u := by subst h; rfl
theorem rd_abs {n bits : Int} {u : Bool} (hb : bits = 32 ∨ bits = 64) (h : inR n bits) : (rdF n bits u).natAbs < 18446744073709551616 := by
  unfold rdF
  split
  · have := un_pos (n := n) hb; omega
  · exact h.abs hb
theorem shk {n bits : Int} (hb : bits = 32 ∨ bits = 64) : Builtin.bitAnd n (bits - 1) = n % bits := by
  rcases hb with rfl | rfl
  · exact bitAnd_m5 n
  · exact bitAnd_m6 n
theorem shk0 {n bits : Int} (hb : bits = 32 ∨ bits = 64) : 0 ≤ Builtin.bitAnd n (bits - 1) := by rw [shk hb]; rcases hb with rfl | rfl <;> omega
theorem shk1 {n bits : Int} (hb : bits = 32 ∨ bits = 64) : Builtin.bitAnd n (bits - 1) ≤ 1000000 := by rw [shk hb]; rcases hb with rfl | rfl <;> omega
section
variable {a b bits : Int}
theorem dv0 (h : b = 0) : (divF a b bits) = (0, 1) := by unfold divF; rw [if_pos h]
theorem dv1 (h : ¬ b = 0) (h1 : b = -1) (h2 : a = -(1 * 2 ^ (bits - 1).toNat)) : (divF a b bits) = (0, 2) := by unfold divF; rw [if_neg h, if_pos ⟨h1, by rw [h2, Int.one_mul]⟩]
theorem dv2 (h : ¬ b = 0) (h1 : b = -1) (h2 : ¬ a = -(1 * 2 ^ (bits - 1).toNat)) : (divF a b bits) = (a.tdiv b, 0) := by unfold divF; rw [if_neg h, if_neg (fun e => h2 (by rw [e.2, Int.one_mul]))]
theorem dv3 (h : ¬ b = 0) (h1 : ¬ b = -1) : (divF a b bits) = (a.tdiv b, 0) := by unfold divF; rw [if_neg h, if_neg (fun e => h1 e.1)]
theorem rm0 (h : b = 0) : (remF a b bits) = (0, 1) := by unfold remF; rw [if_pos h]
theorem rm1 (h : ¬ b = 0) (h1 : b = -1) (h2 : a = -(1 * 2 ^ (bits - 1).toNat)) : (remF a b bits) = (0, 2) := by unfold remF; rw [if_neg h, if_pos ⟨h1, by rw [h2, Int.one_mul]⟩]
theorem rm2 (h : ¬ b = 0) (h1 : b = -1) (h2 : ¬ a = -(1 * 2 ^ (bits - 1).toNat)) : (remF a b bits) = (a - b * a.tdiv b, 0) := by unfold remF; rw [if_neg h, if_neg (fun e => h2 (by rw [e.2, Int.one_mul]))]
theorem rm3 (h : ¬ b = 0) (h1 : ¬ b = -1) : (remF a b bits) = (a - b * a.tdiv b, 0) := by unfold remF; rw [if_neg h, if_neg (fun e => h1 e.1)]
theorem du0 (h : b = 0) : (divuF a b bits) = (0, 1) := by unfold divuF; rw [if_pos h]
theorem du1 (h : ¬ b = 0) : (divuF a b bits) = (cutF ((unF a bits).fdiv (unF b bits)) bits, 0) := by unfold divuF; rw [if_neg h]
theorem ru0 (h : b = 0) : (remuF a b bits) = (0, 1) := by unfold remuF; rw [if_pos h]
theorem ru1 (h : ¬ b = 0) : (remuF a b bits) = (cutF ((unF a bits).fmod (unF b bits)) bits, 0) := by unfold remuF; rw [if_neg h]
end
theorem mul_q {a b : Int} (ha : a.natAbs < 18446744073709551616) (hb : b.natAbs < 18446744073709551616) : PySem.IntMulOk b (a.tdiv b) := mul_ok hb (by
  have h1 : (a.tdiv b).natAbs = a.natAbs / b.natAbs := Int.natAbs_tdiv a b
  have h2 := Nat.div_le_self a.natAbs b.natAbs
  rw [h1]
  exact Nat.lt_of_le_of_lt h2 ha)
def numF (t : Int) : Bool := decide (1 ≤ t ∧ t ≤ 3)
def bwF (t : Int) : Int := if t = 2 then 64 else 32
def joinF (x y : Int) : Int := if x = y ∧ 1 ≤ x ∧ x ≤ 3 then x else if (x = 3 ∧ y = 1) ∨ (x = 1 ∧ y = 3) then 3 else 0
theorem bw_or (t : Int) : bwF t = 32 ∨ bwF t = 64 := by unfold bwF; split <;> simp
theorem nu1 {t : Int} (h : t = 1) : (t == 1) = numF t := by subst h; rfl
theorem nu2 {t : Int} (h : t = 2) : (t == 2) = numF t := by subst h; rfl
theorem nu3 {t : Int} (h : t ≠ 1) (h' : t ≠ 2) : (t == 3) = numF t := by
  unfold numF
  by_cases q : t = 3
  · subst q; rfl
  · rw [decide_eq_false (by omega)]; simpa using q
theorem bw1 {t : Int} (h : t = 2) : 64 = bwF t := by subst h; rfl
theorem bw2 {t : Int} (h : t ≠ 2) : 32 = bwF t := by unfold bwF; rw [if_neg h]
theorem num1 {t : Int} (h : t = 1) : numF t = true := by subst h; rfl
theorem num3 {t : Int} (h : t = 3) : numF t = true := by subst h; rfl
theorem num_iff {t : Int} : numF t = true ↔ 1 ≤ t ∧ t ≤ 3 := by unfold numF; simp
theorem joinl {x y : Int} (h : joinF x y ≠ 0) : numF x = true := by
  rw [num_iff]; unfold joinF at h; split at h
  · omega
  · split at h <;> omega
theorem joinr {x y : Int} (h : joinF x y ≠ 0) : numF y = true := by
  rw [num_iff]; unfold joinF at h; split at h
  · omega
  · split at h <;> omega
theorem joinwl {x y : Int} (h : joinF x y ≠ 0) : bwF (joinF x y) = bwF x := by
  unfold joinF at *; split at h
  · rw [if_pos (by assumption)]
  · rename_i h1; rw [if_neg h1]; split at h
    · rename_i h2; rw [if_pos h2]; unfold bwF; rw [if_neg (by omega), if_neg (by omega)]
    · omega
theorem joinwr {x y : Int} (h : joinF x y ≠ 0) : bwF (joinF x y) = bwF y := by
  unfold joinF at *; split at h
  · rename_i h1; rw [if_pos h1, h1.1]
  · rename_i h1; rw [if_neg h1]; split at h
    · rename_i h2; rw [if_pos h2]; unfold bwF; rw [if_neg (by omega), if_neg (by omega)]
    · omega
theorem join_inl {x y n : Int} (h : joinF x y ≠ 0) (hr : inR n (bwF x)) : inR n (bwF (joinF x y)) := by rw [joinwl h]; exact hr
theorem join_inr {x y n : Int} (h : joinF x y ≠ 0) (hr : inR n (bwF y)) : inR n (bwF (joinF x y)) := by rw [joinwr h]; exact hr
def dvF (op a b bits : Int) : Int × Int := if op = 91 then divF a b bits else if op = 93 then remF a b bits else if op = 92 then divuF a b bits else remuF a b bits
def ovF (x bits : Int) (u : Bool) : Int × Bool := (cutF x bits, inF x bits u)
def chF (op a b bits : Int) : Int × Bool :=
  if op = 214 then ovF (rdF a bits false + rdF b bits false) bits false else if op = 215 then ovF (rdF a bits true + rdF b bits true) bits true
  else if op = 218 then ovF (rdF a bits false - rdF b bits false) bits false else if op = 219 then ovF (rdF a bits true - rdF b bits true) bits true
  else if op = 216 then ovF (rdF a bits false * rdF b bits false) bits false else ovF (rdF a bits true * rdF b bits true) bits true
def plF (op a b bits : Int) : Int :=
  if op = 88 then cutF (a + b) bits else if op = 89 then cutF (a - b) bits else if op = 90 then cutF (a * b) bits else if op = 95 then Builtin.bitAnd a b else if op = 96 then Builtin.bitOr a b else Builtin.bitXor a b
def shF (op a b bits : Int) : Int :=
  if op = 98 then cutF (a * 2 ^ (Builtin.bitAnd b (bits - 1)).toNat) bits else if op = 99 then a.fdiv (2 ^ (Builtin.bitAnd b (bits - 1)).toNat) else cutF ((unF a bits).fdiv (2 ^ (Builtin.bitAnd b (bits - 1)).toNat)) bits
def shA (op x a y b : Int) : Option (Int × Int) × Int := if numF x = true ∧ (y = 1 ∨ y = 3) then (some (x, shF op a b (bwF x)), 0) else (none, 3)
section
variable {x y : Int}
theorem jA (h : x = y) (h' : numF x = true) : x = joinF x y := by unfold joinF; rw [if_pos ⟨h, num_iff.mp h'⟩]
theorem jB (h : x = 3) (h' : y = 1) : 3 = joinF x y := by subst h; subst h'; rfl
theorem jC (h : x = 1) (h' : y = 3) : 3 = joinF x y := by subst h; subst h'; rfl
theorem j0 (h1 : x ≠ y ∨ numF x = false) (h2 : x ≠ 3 ∨ y ≠ 1) (h3 : x ≠ 1 ∨ y ≠ 3) : 0 = joinF x y := by
  have h1' : x ≠ y ∨ ¬ (1 ≤ x ∧ x ≤ 3) := by
    rcases h1 with h | h
    · exact .inl h
    · exact .inr fun q => by rw [num_iff.mpr q] at h; cases h
  unfold joinF
  rw [if_neg (by omega), if_neg (by omega)]
end
section
variable {op x a y b n : Int}
theorem sA0 (h : numF x = false) : (none, 3) = shA op x a y b := by unfold shA; rw [if_neg (fun q => by rw [h] at q; exact Bool.noConfusion q.1)]
theorem sA1 (h : y ≠ 1) (h' : y ≠ 3) : (none, 3) = shA op x a y b := by unfold shA; rw [if_neg (fun q => by omega)]
theorem sA2 (h : numF x = true) (hy : y = 1 ∨ y = 3) (e : n = shF op a b (bwF x)) : (some (x, n), 0) = shA op x a y b := by unfold shA; rw [if_pos ⟨h, hy⟩, e]
end
def unA (op x a : Int) : Option (Int × Int) × Int := if numF x = false then (none, 3) else if op = 101 then (some (x, cutF (-a) (bwF x)), 0) else if op = 102 then (some (x, cutF (-a - 1) (bwF x)), 0) else (none, 3)
theorem uA0 {op x a : Int} (h : numF x = false) : (none, 3) = unA op x a := by unfold unA; rw [if_pos h]
theorem uA1 {op x a : Int} (h : numF x = true) (h' : op = 101) : (some (x, cutF (-a) (bwF x)), 0) = unA op x a := by unfold unA; rw [if_neg (by rw [h]; simp), if_pos h']
theorem uA2 {op x a : Int} (h : numF x = true) (h1 : op ≠ 101) (h' : op = 102) : (some (x, cutF (-a - 1) (bwF x)), 0) = unA op x a := by unfold unA; rw [if_neg (by rw [h]; simp), if_neg h1, if_pos h']
theorem uA3 {op x a : Int} (h : numF x = true) (h1 : op ≠ 101) (h' : op ≠ 102) : (none, 3) = unA op x a := by unfold unA; rw [if_neg (by rw [h]; simp), if_neg h1, if_neg h']
def arF (op x a y b : Int) : Option (Int × Int) × Int :=
  if op = 98 ∨ op = 99 ∨ op = 100 then shA op x a y b
  else if joinF x y = 0 then (none, 3)
  else if op = 91 ∨ op = 92 ∨ op = 93 ∨ op = 94 then (if (dvF op a b (bwF (joinF x y))).2 = 0 then (some (joinF x y, (dvF op a b (bwF (joinF x y))).1), 0) else (none, (dvF op a b (bwF (joinF x y))).2))
  else if op = 214 ∨ op = 215 ∨ op = 218 ∨ op = 219 ∨ op = 216 ∨ op = 217 then (if (chF op a b (bwF (joinF x y))).2 = true then (some (joinF x y, (chF op a b (bwF (joinF x y))).1), 0) else (none, 2))
  else if op = 88 ∨ op = 89 ∨ op = 90 ∨ op = 95 ∨ op = 96 ∨ op = 97 then (some (joinF x y, plF op a b (bwF (joinF x y))), 0)
  else (none, 3)
theorem any_or {op : Int} : ∀ {l : List Int}, (l.any fun x => x == op) = true → op ∈ l := fun {l} h => by
  obtain ⟨x, hx, e⟩ := List.any_eq_true.mp h
  have : x = op := by simpa using e
  exact this ▸ hx
theorem any_no {op : Int} : ∀ {l : List Int}, (l.any fun x => x == op) = false → op ∉ l := fun {l} h hm => by
  have := List.any_eq_false.mp h op hm
  simp at this
section
variable {op x a y b : Int}
theorem aS (h : op = 98 ∨ op = 99 ∨ op = 100) : shA op x a y b = arF op x a y b := by unfold arF; rw [if_pos h]
theorem aJ (h1 : op ≠ 98) (h2 : op ≠ 99) (h3 : op ≠ 100) (h : joinF x y = 0) : (none, 3) = arF op x a y b := by unfold arF; rw [if_neg (by omega), if_pos h]
theorem aD (h1 : op ≠ 98) (h2 : op ≠ 99) (h3 : op ≠ 100) (h : joinF x y ≠ 0) (h4 : ([91, 92, 93, 94].any fun x => x == op) = true) (h5 : (dvF op a b (bwF (joinF x y))).2 ≠ 0) : (none, (dvF op a b (bwF (joinF x y))).2) = arF op x a y b := by
  have h6 := any_or h4; simp at h6
  unfold arF; rw [if_neg (by omega), if_neg h, if_pos (by omega), if_neg h5]
theorem aD' (h1 : op ≠ 98) (h2 : op ≠ 99) (h3 : op ≠ 100) (h : joinF x y ≠ 0) (h4 : ([91, 92, 93, 94].any fun x => x == op) = true) (h5 : (dvF op a b (bwF (joinF x y))).2 = 0) : (some (joinF x y, (dvF op a b (bwF (joinF x y))).1), 0) = arF op x a y b := by
  have h6 := any_or h4; simp at h6
  unfold arF; rw [if_neg (by omega), if_neg h, if_pos (by omega), if_pos h5]
theorem aC (h1 : op ≠ 98) (h2 : op ≠ 99) (h3 : op ≠ 100) (h : joinF x y ≠ 0) (h4 : ([91, 92, 93, 94].any fun x => x == op) = false) (h7 : ([214, 215, 218, 219, 216, 217].any fun x => x == op) = true) (h5 : (chF op a b (bwF (joinF x y))).2 = false) : (none, 2) = arF op x a y b := by
  have h6 := any_no h4; have h8 := any_or h7; simp at h6 h8
  unfold arF; rw [if_neg (by omega), if_neg h, if_neg (by omega), if_pos (by omega), if_neg (by rw [h5]; simp)]
theorem aC' (h1 : op ≠ 98) (h2 : op ≠ 99) (h3 : op ≠ 100) (h : joinF x y ≠ 0) (h4 : ([91, 92, 93, 94].any fun x => x == op) = false) (h7 : ([214, 215, 218, 219, 216, 217].any fun x => x == op) = true) (h5 : (chF op a b (bwF (joinF x y))).2 = true) : (some (joinF x y, (chF op a b (bwF (joinF x y))).1), 0) = arF op x a y b := by
  have h6 := any_no h4; have h8 := any_or h7; simp at h6 h8
  unfold arF; rw [if_neg (by omega), if_neg h, if_neg (by omega), if_pos (by omega), if_pos h5]
theorem aP (h1 : op ≠ 98) (h2 : op ≠ 99) (h3 : op ≠ 100) (h : joinF x y ≠ 0) (h4 : ([91, 92, 93, 94].any fun x => x == op) = false) (h7 : ([214, 215, 218, 219, 216, 217].any fun x => x == op) = false) (h9 : ([88, 89, 90, 95, 96, 97].any fun x => x == op) = true) : (some (joinF x y, plF op a b (bwF (joinF x y))), 0) = arF op x a y b := by
  have h6 := any_no h4; have h8 := any_no h7; have h0 := any_or h9; simp at h6 h8 h0
  unfold arF; rw [if_neg (by omega), if_neg h, if_neg (by omega), if_neg (by omega), if_pos (by omega)]
theorem aN (h1 : op ≠ 98) (h2 : op ≠ 99) (h3 : op ≠ 100) (h : joinF x y ≠ 0) (h4 : ([91, 92, 93, 94].any fun x => x == op) = false) (h7 : ([214, 215, 218, 219, 216, 217].any fun x => x == op) = false) (h9 : ([88, 89, 90, 95, 96, 97].any fun x => x == op) = false) : (none, 3) = arF op x a y b := by
  have h6 := any_no h4; have h8 := any_no h7; have h0 := any_no h9; simp at h6 h8 h0
  unfold arF; rw [if_neg (by omega), if_neg h, if_neg (by omega), if_neg (by omega), if_neg (by omega)]
end
theorem cutL {n bits : Int} (hb : bits = 32 ∨ bits = 64) : (n - -(2 ^ (bits - 1).toNat)).fmod (2 ^ bits.toNat) + -(2 ^ (bits - 1).toNat) = cutF n bits := by
  rcases hb with rfl | rfl
  · show (n - -(2147483648 : Int)).fmod 4294967296 + -2147483648 = (n + 2147483648) % 4294967296 - 2147483648
    rw [Int.fmod_eq_emod_of_nonneg _ (by decide)]; omega
  · show (n - -(9223372036854775808 : Int)).fmod 18446744073709551616 + -9223372036854775808 = (n + 9223372036854775808) % 18446744073709551616 - 9223372036854775808
    rw [Int.fmod_eq_emod_of_nonneg _ (by decide)]; omega
theorem cut_in {n bits : Int} (hb : bits = 32 ∨ bits = 64) : inR (cutF n bits) bits := by
  rcases hb with rfl | rfl
  · show -(2147483648 : Int) ≤ (n + 2147483648) % 4294967296 - 2147483648 ∧ (n + 2147483648) % 4294967296 - 2147483648 < (2147483648 : Int)
    omega
  · show -(9223372036854775808 : Int) ≤ (n + 9223372036854775808) % 18446744073709551616 - 9223372036854775808 ∧ (n + 9223372036854775808) % 18446744073709551616 - 9223372036854775808 < (9223372036854775808 : Int)
    omega
theorem rdL1 {n bits : Int} (hb : bits = 32 ∨ bits = 64) (hr : inR n bits) (h : n < 0) : n + 2 ^ bits.toNat = unF n bits := by
  rcases hb with rfl | rfl
  · have h1 : -(2147483648 : Int) ≤ n := hr.1
    show n + 4294967296 = n % 4294967296
    omega
  · have h1 : -(9223372036854775808 : Int) ≤ n := hr.1
    show n + 18446744073709551616 = n % 18446744073709551616
    omega
theorem rdL2 {n bits : Int} (hb : bits = 32 ∨ bits = 64) (hr : inR n bits) (h : ¬ n < 0) : n = unF n bits := by
  rcases hb with rfl | rfl
  · have h1 : n < (2147483648 : Int) := hr.2
    show n = n % 4294967296
    omega
  · have h1 : n < (9223372036854775808 : Int) := hr.2
    show n = n % 18446744073709551616
    omega
theorem od0 {a b : Int} (h : a = b) : 0 = if a < b then -1 else if a > b then 1 else 0 := by rw [if_neg (by omega), if_neg (by omega)]
theorem od1 {a b : Int} (h : a ≠ b) (h' : (if b > a then b else a) = a) : 1 = if a < b then -1 else if a > b then 1 else 0 := by
  split at h'
  · omega
  · rw [if_neg (by omega), if_pos (by omega)]
theorem od2 {a b : Int} (h : a ≠ b) (h' : (if b > a then b else a) ≠ a) : -1 = if a < b then -1 else if a > b then 1 else 0 := by
  split at h'
  · rw [if_pos (by omega)]
  · exact absurd rfl h'
theorem v0 {k x : Int} {t : Nat} {rest : List Value} (h : k = x) : (List.toArray (Value.int k t :: rest))[0]? = some (.int x t) := by subst h; simp
theorem v1 {k n : Int} {t u : Nat} {P : Prop} : P → (#[Value.int k t, Value.int n u])[1]? = some (.int n u) := fun _ => rfl
theorem v2 {x : Int} {P : Prop} (h : 4 ≤ x) : numF x = true → P := fun q => absurd (num_iff.mp q) (by omega)
theorem fm8 {u : Int} : 1 ≤ 1 + u.fmod 8 ∧ 1 + u.fmod 8 ≤ 8 := by
  rw [Int.fmod_eq_emod_of_nonneg _ (by decide)]; omega
end
abbrev Led := List (Addr × Obj)
abbrev tupO (vs : Array Value) (c : Nat) : Obj := { cls := .type "tuple", data := .seq vs c }
/-- a contract: what a call of the def at f gives back, wherever it is called -/
def Ctr (w : World) (mean : ExcName → Option Value) (mg mb : Str → Option Value) (D : Nat) (f : Addr) (vs : List Value) (news : Led) (Ret : (Value → Shared → Prop) → Heap → Addr → (Str → Option Value) → Shared → Prop) : Prop :=
  ∀ (dp un : Nat) (gd : Option (List Code)) (cn : Str) (cs : Scope) (a : Addr) (ccd : Value) (cl : List (Str × Addr)) (outer : List Env) (A₀ : Around) (base h₀ : Heap) (L : Addr) (m : Str → Option Value) (s : Shared) (Q E : Value → Shared → Prop),
    Below A₀ base outer h₀ → Fr h₀ L s.heap m → (Mine.frag.heap_1 w.params).In h₀ → News h₀ L s.heap news → Top Mine.q (looseW Mine.q Mine.qL) mean mg mb h₀ → cs.kind = .function → dp + D < recursionLimit → un + 8 * D < cLine →
    Ret Q h₀ L m s →
    wpAny (model PySem.Challenge.rw_qd0033_01.row.prog w) (ktrTop dp un gd cn cs L a ccd cl outer) (call (.ref f) vs) Q E s
theorem ctr_use {w : World} {mean : ExcName → Option Value} {mg mb : Str → Option Value} {D : Nat} {f : Addr} {vs : List Value} {news : Led} {Ret : (Value → Shared → Prop) → Heap → Addr → (Str → Option Value) → Shared → Prop}
    {dp un : Nat} {gd : Option (List Code)} {cn : Str} {cs : Scope} {a : Addr} {ccd : Value} {cl : List (Str × Addr)} {outer : List Env} {A₀ : Around} {base h₀ : Heap} {L : Addr} {m : Str → Option Value} {s : Shared} {Q E : Value → Shared → Prop}
    (C : Ctr w mean mg mb D f vs news Ret) (B : Below A₀ base outer h₀) (F : Fr h₀ L s.heap m) (X : (Mine.frag.heap_1 w.params).In h₀) (N : News h₀ L s.heap news) (T : Top Mine.q (looseW Mine.q Mine.qL) mean mg mb h₀) (hk : cs.kind = .function) (hd : dp + D < recursionLimit) (hu : un + 8 * D < cLine)
    (hR : Ret Q h₀ L m s) : wpAny (model PySem.Challenge.rw_qd0033_01.row.prog w) (ktrTop dp un gd cn cs L a ccd cl outer) (call (.ref f) vs) Q E s :=
  C _ _ _ _ _ _ _ _ _ _ _ _ _ _ _ _ _ B F X N T hk hd hu hR

abbrev RetI (x : Int) (news : Led) (Q : Value → Shared → Prop) (h₀ : Heap) (L : Addr) (m : Str → Option Value) (s : Shared) : Prop :=
  ∀ (t : Tok) (h' : Heap) (tk' : Nat), Fr h₀ L h' m → News h₀ L h' news → Q (.int x t) { s with heap := h', toks := tk' }
abbrev RetB (x : Bool) (news : Led) (Q : Value → Shared → Prop) (h₀ : Heap) (L : Addr) (m : Str → Option Value) (s : Shared) : Prop :=
  ∀ (_t : Tok) (h' : Heap) (tk' : Nat), Fr h₀ L h' m → News h₀ L h' news → Q (.bool x) { s with heap := h', toks := tk' }
abbrev RetP (f1 f2 : Tok → Value) (news : Led) (Q : Value → Shared → Prop) (h₀ : Heap) (L : Addr) (m : Str → Option Value) (s : Shared) : Prop :=
  ∀ (D : Addr) (t1 t2 : Tok) (c : Nat) (h' : Heap) (tk' : Nat), Fr h₀ L h' m → News h₀ L h' ((D, tupO #[f1 t1, f2 t2] c) :: news) → Q (.ref D) { s with heap := h', toks := tk' }
section
variable {h₀ h' : Heap} {L : Addr} {m : Str → Option Value} {news led : Led} {s : Shared} {Q : Value → Shared → Prop} {t : Tok} {tk' : Nat}
theorem end_I {x y : Int} (hret : RetI x news Q h₀ L m s) (F : Fr h₀ L h' m) (N : News h₀ L h' led) (hs : ∀ p ∈ news, p ∈ led) (e : y = x) : Q (.int y t) { s with heap := h', toks := tk' } := by
  subst e
  exact hret t h' tk' F (cb_drop N hs)
theorem end_B {x y : Bool} (hret : RetB x news Q h₀ L m s) (F : Fr h₀ L h' m) (N : News h₀ L h' led) (hs : ∀ p ∈ news, p ∈ led) (e : y = x) : Q (.bool y) { s with heap := h', toks := tk' } := by
  subst e
  exact hret 0 h' tk' F (cb_drop N hs)
theorem end_P {f1 f2 : Tok → Value} {D : Addr} {c : Nat} {v1 v2 : Value} (t1 t2 : Tok) (hret : RetP f1 f2 news Q h₀ L m s) (F : Fr h₀ L h' m) (N : News h₀ L h' led) (hm : (D, tupO #[v1, v2] c) ∈ led) (hs : ∀ p ∈ news, p ∈ led)
    (e1 : v1 = f1 t1) (e2 : v2 = f2 t2) : Q (.ref D) { s with heap := h', toks := tk' } := by
  subst e1; subst e2
  refine hret D t1 t2 c h' tk' F fun p hp => ?_
  rcases List.mem_cons.mp hp with rfl | hp
  · exact N _ hm
  · exact N _ (hs p hp)
theorem vi {x y : Int} {t : Tok} (h : x = y) : Value.int x t = (fun t => Value.int y t) t := by rw [h]
theorem vb {x y : Bool} {t : Tok} (h : x = y) : Value.bool x = (fun _ : Tok => Value.bool y) t := by rw [h]
end
theorem my_item {prog : Program} {w : World} {A : Around} {E : Value → Shared → Prop} {s : Shared} {h₀ : Heap} {L : Addr} {led : Led} {value slice : Expr} {D : Addr} {vs : Array Value} {c : Nat} {k : Nat} {u : Tok} {v : Value} {Q : Value → Shared → Prop}
    (N : News h₀ L s.heap led) (hm : (D, tupO vs c) ∈ led) (hk : k < 1000) (hx : vs[k]? = some v) (h : Q v s)
    (hs : subscripted slice false (.ref D) (.int (k : Int) u) = operate [.ref D, .int (k : Int) u] (getItem (.ref D) (.int (k : Int) u)) := by with_unfolding_all rfl) :
    wpAny (model prog w) A (subscriptTail value slice (.ref D) (.int (k : Int) u)) Q E s := by
  have hlt : k < vs.size := by
    by_cases q : k < vs.size
    · exact q
    · rw [Array.getElem?_eq_none (by omega)] at hx; cases hx
  refine item_tupleT (News.isTup N hm) (by omega) (by omega) (j := k) ?_ (by simpa using hx) h hs
  rw [Array.length_toList]
  unfold seqIndex?
  split
  · omega
  · simp; omega
theorem my_item0 {prog : Program} {w : World} {A : Around} {E : Value → Shared → Prop} {s : Shared} {h₀ : Heap} {L : Addr} {led : Led} {value slice : Expr} {D : Addr} {vs : Array Value} {c : Nat} {u : Tok} {v : Value} {Q : Value → Shared → Prop}
    (N : News h₀ L s.heap led) (hm : (D, tupO vs c) ∈ led) (hx : vs[0]? = some v) (h : Q v s)
    (hs : subscripted slice false (.ref D) (.int 0 u) = operate [.ref D, .int 0 u] (getItem (.ref D) (.int 0 u)) := by with_unfolding_all rfl) :
    wpAny (model prog w) A (subscriptTail value slice (.ref D) (.int 0 u)) Q E s := my_item (k := 0) N hm (by omega) hx h hs
theorem my_item1 {prog : Program} {w : World} {A : Around} {E : Value → Shared → Prop} {s : Shared} {h₀ : Heap} {L : Addr} {led : Led} {value slice : Expr} {D : Addr} {vs : Array Value} {c : Nat} {u : Tok} {v : Value} {Q : Value → Shared → Prop}
    (N : News h₀ L s.heap led) (hm : (D, tupO vs c) ∈ led) (hx : vs[1]? = some v) (h : Q v s)
    (hs : subscripted slice false (.ref D) (.int 1 u) = operate [.ref D, .int 1 u] (getItem (.ref D) (.int 1 u)) := by with_unfolding_all rfl) :
    wpAny (model prog w) A (subscriptTail value slice (.ref D) (.int 1 u)) Q E s := my_item (k := 1) N hm (by omega) hx h hs
/-- what run_arith hands back, as it lies in the ledger -/
def Res (led : Led) (D : Addr) : Option (Int × Int) → Int → Prop
  | none, f => ∃ t c, (D, tupO #[.none, .int f t] c) ∈ led
  | some (g, n), f => ∃ D2 t1 t2 t3 c c2, (D, tupO #[.ref D2, .int f t3] c) ∈ led ∧ (D2, tupO #[.int g t1, .int n t2] c2) ∈ led
abbrev RetA (r : Option (Int × Int) × Int) (news : Led) (Q : Value → Shared → Prop) (h₀ : Heap) (L : Addr) (m : Str → Option Value) (s : Shared) : Prop :=
  ∀ (D : Addr) (new : Led) (h' : Heap) (tk' : Nat), Res (new ++ news) D r.1 r.2 → Fr h₀ L h' m → News h₀ L h' (new ++ news) → Q (.ref D) { s with heap := h', toks := tk' }
theorem Res.mono {led led' : Led} {D : Addr} {r : Option (Int × Int)} {f : Int} (h : Res led D r f) (hs : ∀ p ∈ led, p ∈ led') : Res led' D r f := by
  cases r with
  | none => obtain ⟨t, c, h⟩ := h; exact ⟨t, c, hs _ h⟩
  | some p => obtain ⟨g, n⟩ := p; obtain ⟨D2, t1, t2, t3, c, c2, h, h'⟩ := h; exact ⟨D2, t1, t2, t3, c, c2, hs _ h, hs _ h'⟩
theorem one_use {P Q : Prop} (h : P → Q) (p : P) : Q := h p
section
variable {h₀ h' : Heap} {L : Addr} {m : Str → Option Value} {news led : Led} {s : Shared} {Q : Value → Shared → Prop} {t : Tok} {tk' : Nat}
theorem end_A {r r' : Option (Int × Int) × Int} {D : Addr} (hret : RetA r news Q h₀ L m s) (F : Fr h₀ L h' m) (N : News h₀ L h' led) (hs : ∀ p ∈ news, p ∈ led) (hr : Res led D r'.1 r'.2) (e : r' = r) : Q (.ref D) { s with heap := h', toks := tk' } := by
  subst e
  refine hret D led h' tk' (hr.mono fun p hp => List.mem_append_left _ hp) F fun p hp => ?_
  rcases List.mem_append.mp hp with hp | hp
  · exact N _ hp
  · exact N _ (hs p hp)
theorem res_none {D : Addr} {f : Int} {t : Tok} {c : Nat} (hm : (D, tupO #[.none, .int f t] c) ∈ led) : Res led D ((none, f) : Option (Int × Int) × Int).1 ((none, f) : Option (Int × Int) × Int).2 := ⟨t, c, hm⟩
theorem res_some {D D2 : Addr} {g n f : Int} {t1 t2 t3 : Tok} {c c2 : Nat} (hm : (D, tupO #[.ref D2, .int f t3] c) ∈ led) (hm2 : (D2, tupO #[.int g t1, .int n t2] c2) ∈ led) : Res led D ((some (g, n), f) : Option (Int × Int) × Int).1 ((some (g, n), f) : Option (Int × Int) × Int).2 := ⟨D2, t1, t2, t3, c, c2, hm, hm2⟩
end
/-- a number within the width, whichever -/
abbrev RetN (bits : Int) (news : Led) (Q : Value → Shared → Prop) (h₀ : Heap) (L : Addr) (m : Str → Option Value) (s : Shared) : Prop :=
  ∀ (n : Int) (t : Tok) (h' : Heap) (tk' : Nat), inR n bits → Fr h₀ L h' m → News h₀ L h' news → Q (.int n t) { s with heap := h', toks := tk' }
/-- a pair of tags, out of the text's table or new -/
abbrev RetT (news : Led) (Q : Value → Shared → Prop) (h₀ : Heap) (L : Addr) (m : Str → Option Value) (s : Shared) : Prop :=
  ∀ (D : Addr) (x y : Int) (tx ty : Tok) (new : Led) (h' : Heap) (tk' : Nat), (1 ≤ x ∧ x ≤ 8) → (1 ≤ y ∧ y ≤ 8) → IsTup h' D #[.int x tx, .int y ty] → Fr h₀ L h' m → News h₀ L h' (new ++ news) → Q (.ref D) { s with heap := h', toks := tk' }
/-- a tagged value -/
abbrev RetV (x n : Int) (news : Led) (Q : Value → Shared → Prop) (h₀ : Heap) (L : Addr) (m : Str → Option Value) (s : Shared) : Prop :=
  ∀ (D : Addr) (vs : Array Value) (c : Nat) (t0 t1 : Tok) (new : Led) (h' : Heap) (tk' : Nat), (D, tupO vs c) ∈ new ++ news → vs[0]? = some (.int x t0) → (numF x = true → vs[1]? = some (.int n t1)) → Fr h₀ L h' m → News h₀ L h' (new ++ news) → Q (.ref D) { s with heap := h', toks := tk' }
section
variable {h₀ h' : Heap} {L : Addr} {m : Str → Option Value} {news led : Led} {s : Shared} {Q : Value → Shared → Prop} {t : Tok} {tk' : Nat}
theorem end_N {y bits : Int} (hret : RetN bits news Q h₀ L m s) (F : Fr h₀ L h' m) (N : News h₀ L h' led) (hs : ∀ p ∈ news, p ∈ led) (e : inR y bits) : Q (.int y t) { s with heap := h', toks := tk' } :=
  hret y t h' tk' e F (cb_drop N hs)
theorem lap {new : Led} (N : News h₀ L h' led) (hs : ∀ p ∈ news, p ∈ led) (hn : ∀ p ∈ new, p ∈ led) : News h₀ L h' (new ++ news) := fun p hp => by
  rcases List.mem_append.mp hp with hp | hp
  · exact N _ (hn p hp)
  · exact N _ (hs p hp)
theorem end_T1 {D : Addr} {x y : Int} {tx ty : Tok} {c : Nat} (hret : RetT news Q h₀ L m s) (F : Fr h₀ L h' m) (N : News h₀ L h' led) (hs : ∀ p ∈ news, p ∈ led) (hm : (D, tupO #[.int x tx, .int y ty] c) ∈ led) (hx : 1 ≤ x ∧ x ≤ 8) (hy : 1 ≤ y ∧ y ≤ 8) : Q (.ref D) { s with heap := h', toks := tk' } :=
  hret D x y tx ty led h' tk' hx hy (News.isTup N hm) F (lap N hs fun _ h => h)
theorem end_T2 {D : Addr} {x y : Int} {tx ty : Tok} (hret : RetT news Q h₀ L m s) (F : Fr h₀ L h' m) (N : News h₀ L h' led) (hs : ∀ p ∈ news, p ∈ led) (hT : IsTup h' D #[.int x tx, .int y ty]) (hx : 1 ≤ x ∧ x ≤ 8) (hy : 1 ≤ y ∧ y ≤ 8) : Q (.ref D) { s with heap := h', toks := tk' } :=
  hret D x y tx ty led h' tk' hx hy hT F (lap N hs fun _ h => h)
theorem end_V {D : Addr} {vs : Array Value} {c : Nat} {x n : Int} {t0 t1 : Tok} (hret : RetV x n news Q h₀ L m s) (F : Fr h₀ L h' m) (N : News h₀ L h' led) (hs : ∀ p ∈ news, p ∈ led) (hm : (D, tupO vs c) ∈ led) (h0 : vs[0]? = some (.int x t0)) (h1 : numF x = true → vs[1]? = some (.int n t1)) : Q (.ref D) { s with heap := h', toks := tk' } :=
  hret D vs c t0 t1 led h' tk' (List.mem_append_left _ hm) h0 h1 F (lap N hs fun _ h => h)
end
section
theorem and_step (x y : Nat) : x &&& y = 2 * (x / 2 &&& y / 2) + (if x % 2 = 1 ∧ y % 2 = 1 then 1 else 0) := by
  have h1 : (x &&& y) / 2 = x / 2 &&& y / 2 := Nat.and_div_two
  have h2 : (x &&& y) % 2 = (x % 2) &&& (y % 2) := by
    have := Nat.and_mod_two_pow (a := x) (b := y) (n := 1)
    simpa using this
  have h3 : (x % 2) &&& (y % 2) = if x % 2 = 1 ∧ y % 2 = 1 then 1 else 0 := by
    rcases Nat.mod_two_eq_zero_or_one x with h | h <;> rcases Nat.mod_two_eq_zero_or_one y with h' | h' <;> rw [h, h'] <;> decide
  rw [← h1, ← h3, ← h2]
  omega
theorem and_stepI {x y : Int} (hx : 0 ≤ x) (hy : 0 ≤ y) : Builtin.bitAnd x y = 2 * Builtin.bitAnd (x / 2) (y / 2) + (if x % 2 = 1 ∧ y % 2 = 1 then 1 else 0) := by
  rw [bitAnd_pp hx hy, bitAnd_pp (by omega) (by omega), and_step x.toNat y.toNat]
  have e1 : (x / 2).toNat = x.toNat / 2 := by omega
  have e2 : (y / 2).toNat = y.toNat / 2 := by omega
  rw [e1, e2]
  have e3 : (x.toNat % 2 = 1 ∧ y.toNat % 2 = 1) ↔ (x % 2 = 1 ∧ y % 2 = 1) := by omega
  by_cases h : x % 2 = 1 ∧ y % 2 = 1
  · rw [if_pos (e3.mpr h), if_pos h]; omega
  · rw [if_neg (fun q => h (e3.mp q)), if_neg h]; omega
theorem and_zero {x y : Int} (hx : 0 ≤ x) (hy : 0 ≤ y) (h : x ≤ 0 ∨ y ≤ 0) : Builtin.bitAnd x y = 0 := by
  rw [bitAnd_pp hx hy]
  rcases h with h | h
  · have : x = 0 := by omega
    subst this
    show ((0 &&& y.toNat : Nat) : Int) = 0
    rw [Nat.zero_and]; rfl
  · have : y = 0 := by omega
    subst this
    show ((x.toNat &&& 0 : Nat) : Int) = 0
    rw [Nat.and_zero]; rfl
def cmG (σ : St) : St :=
  if ((σ.zs.tail.headD 0).fmod 2 == 1) = true then
    if ((σ.zs.tail.tail.headD 0).fmod 2 == 1) = true then
      { zs := [σ.zs.headD 0 + σ.zs.tail.tail.tail.headD 0, (σ.zs.tail.headD 0).fdiv 2, (σ.zs.tail.tail.headD 0).fdiv 2, σ.zs.tail.tail.tail.headD 0 * 2], bs := [], ss := [] }
    else { zs := [σ.zs.headD 0, (σ.zs.tail.headD 0).fdiv 2, (σ.zs.tail.tail.headD 0).fdiv 2, σ.zs.tail.tail.tail.headD 0 * 2], bs := [], ss := [] }
  else { zs := [σ.zs.headD 0, (σ.zs.tail.headD 0).fdiv 2, (σ.zs.tail.tail.headD 0).fdiv 2, σ.zs.tail.tail.tail.headD 0 * 2], bs := [], ss := [] }
theorem cm_inv {x y : Int} (hx : 0 ≤ x) (hy : 0 ≤ y) : ∀ n : Nat, ∃ j X Y P : Int, accN (fun _ σ => cmG σ) 0 ({ zs := [0, x, y, 1], bs := [], ss := [] } : St) n = { zs := [j, X, Y, P], bs := [], ss := [] } ∧ 0 ≤ X ∧ 0 ≤ Y ∧ j + P * Builtin.bitAnd X Y = Builtin.bitAnd x y
  | 0 => ⟨0, x, y, 1, rfl, hx, hy, by omega⟩
  | n + 1 => by
    obtain ⟨j, X, Y, P, e, h1, h2, h3⟩ := cm_inv hx hy n
    have hX : X.fdiv 2 = X / 2 := Int.fdiv_eq_ediv_of_nonneg _ (by decide)
    have hY : Y.fdiv 2 = Y / 2 := Int.fdiv_eq_ediv_of_nonneg _ (by decide)
    have mX : X.fmod 2 = X % 2 := Int.fmod_eq_emod_of_nonneg _ (by decide)
    have mY : Y.fmod 2 = Y % 2 := Int.fmod_eq_emod_of_nonneg _ (by decide)
    have st := and_stepI h1 h2
    show ∃ j' X' Y' P' : Int, cmG (accN (fun _ σ => cmG σ) 0 _ n) = _ ∧ _
    have eG : cmG { zs := [j, X, Y, P], bs := [], ss := [] } = if (X.fmod 2 == 1) = true then (if (Y.fmod 2 == 1) = true then { zs := [j + P, X.fdiv 2, Y.fdiv 2, P * 2], bs := [], ss := [] } else { zs := [j, X.fdiv 2, Y.fdiv 2, P * 2], bs := [], ss := [] }) else { zs := [j, X.fdiv 2, Y.fdiv 2, P * 2], bs := [], ss := [] } := rfl
    rw [e, eG, hX, hY, mX, mY]
    by_cases q1 : X % 2 = 1
    · rw [if_pos (by simpa using q1)]
      by_cases q2 : Y % 2 = 1
      · rw [if_pos (by simpa using q2)]
        refine ⟨_, _, _, _, rfl, by omega, by omega, ?_⟩
        rw [if_pos ⟨q1, q2⟩] at st
        rw [← h3, st, Int.mul_add, Int.mul_assoc, Int.mul_one]; omega
      · rw [if_neg (by simpa using q2)]
        refine ⟨_, _, _, _, rfl, by omega, by omega, ?_⟩
        rw [if_neg (fun q => q2 q.2)] at st
        rw [← h3, st, Int.mul_add, Int.mul_assoc, Int.mul_zero]; omega
    · rw [if_neg (by simpa using q1)]
      refine ⟨_, _, _, _, rfl, by omega, by omega, ?_⟩
      rw [if_neg (fun q => q1 q.1)] at st
      rw [← h3, st, Int.mul_add, Int.mul_assoc, Int.mul_zero]; omega
theorem common_loop {x y n : Int} (hx : 0 ≤ x) (hy : 0 ≤ y)
    (hend : 0 < (accUp (fun _ σ => cmG σ) 0 ({ zs := [0, x, y, 1], bs := [], ss := [] } : St) n).zs.tail.headD 0 → 0 < (accUp (fun _ σ => cmG σ) 0 ({ zs := [0, x, y, 1], bs := [], ss := [] } : St) n).zs.tail.tail.headD 0 → true = false) :
    (accUp (fun _ σ => cmG σ) 0 ({ zs := [0, x, y, 1], bs := [], ss := [] } : St) n).zs.headD 0 = Builtin.bitAnd x y := by
  obtain ⟨j, X, Y, P, e, h1, h2, h3⟩ := cm_inv hx hy (n - 0).toNat
  unfold accUp at hend ⊢
  rw [e] at hend ⊢
  dsimp only [List.headD, List.tail] at hend ⊢
  have h4 : X ≤ 0 ∨ Y ≤ 0 := by
    by_cases q : 0 < X
    · by_cases q' : 0 < Y
      · exact absurd (hend q q') (by decide)
      · exact .inr (by omega)
    · exact .inl (by omega)
  rw [and_zero h1 h2 h4] at h3
  omega
end
section
def exF (w : Str) (x y : Int) : Int := if (Txt.slice w none (some 3) == Str.ofString "add") = true then x + y else if (Txt.slice w none (some 3) == Str.ofString "sub") = true then x - y else x * y
section
variable {w : Str} {x y : Int}
theorem ex1 (h : (Txt.slice w none (some 3) == Str.ofString "add") = true) : x + y = exF w x y := by unfold exF; rw [if_pos h]
theorem ex2 (h : (Txt.slice w none (some 3) == Str.ofString "add") = false) (h2 : (Txt.slice w none (some 3) == Str.ofString "sub") = true) : x - y = exF w x y := by unfold exF; rw [if_neg (by rw [h]; exact Bool.false_ne_true), if_pos h2]
theorem ex3 (h : (Txt.slice w none (some 3) == Str.ofString "add") = false) (h2 : (Txt.slice w none (some 3) == Str.ofString "sub") = false) : x * y = exF w x y := by unfold exF; rw [if_neg (by rw [h]; exact Bool.false_ne_true), if_neg (by rw [h2]; exact Bool.false_ne_true)]
end
def ldF (w : Str) (x y low : Int) : Int × Int := if y = 0 then (0, 1) else if x = low ∧ y = -1 then (0, 2) else if (Txt.slice w none (some 3) == Str.ofString "div") = true then (x.tdiv y, 0) else (x - x.tdiv y * y, 0)
def ckF (w : Str) (a b bits : Int) : Int × Int :=
  if (Txt.slice w (some (-3)) none == Str.ofString "_un") = true then
    (if exF w (unF a bits) (unF b bits) < 0 ∨ exF w (unF a bits) (unF b bits) > 2 ^ bits.toNat - 1 then (0, 2) else (cutF (exF w (unF a bits) (unF b bits)) bits, 0))
  else (if exF w a b < -(2 ^ (bits - 1).toNat) ∨ exF w a b > 2 ^ (bits - 1).toNat - 1 then (0, 2) else (cutF (exF w a b) bits, 0))
def lsF (w : Str) (a b bits : Int) : Int :=
  if (w == Str.ofString "shl") = true then cutF (a * 2 ^ (b.fmod bits).toNat) bits else if (w == Str.ofString "shr") = true then a.fdiv (2 ^ (b.fmod bits).toNat) else cutF ((unF a bits).fdiv (2 ^ (b.fmod bits).toNat)) bits
theorem natAbs_fd (x y : Int) : (x.fdiv y).natAbs ≤ x.natAbs := PySem.natAbs_fdiv_le x y
theorem mul_fd {x y : Int} (hx : x.natAbs < 18446744073709551616) (hy : y.natAbs < 18446744073709551616) : PySem.IntMulOk (x.fdiv y) y ∧ PySem.IntMulOk (x.fdiv y + 1) y := by
  have h := natAbs_fd x y
  refine ⟨mul_ok (by omega) hy, IntMulOk.of_le (m := 65) (n := 64) (intBits_le_iff.mpr ?_) (intBits_le_iff.mpr hy) (by decide)⟩
  show (x.fdiv y + 1).natAbs < 36893488147419103232
  omega
theorem un_abs {n bits : Int} (hb : bits = 32 ∨ bits = 64) : (unF n bits).natAbs < 18446744073709551616 := by have := un_pos (n := n) hb; omega
theorem shm0 {b bits : Int} (hb : bits = 32 ∨ bits = 64) : 0 ≤ b.fmod bits := by rw [Int.fmod_eq_emod_of_nonneg _ (by omega)]; rcases hb with rfl | rfl <;> omega
theorem shm1 {b bits : Int} (hb : bits = 32 ∨ bits = 64) : b.fmod bits < 64 := by rw [Int.fmod_eq_emod_of_nonneg _ (by omega)]; rcases hb with rfl | rfl <;> omega
theorem pw_abs {k : Int} (h : k < 64) : ((2 : Int) ^ k.toNat).natAbs < 18446744073709551616 := by
  have e : ((2 : Int) ^ k.toNat).natAbs = 2 ^ k.toNat := by rw [Int.natAbs_pow]; rfl
  rw [e]
  exact Nat.lt_of_lt_of_le (Nat.pow_lt_pow_right (by decide) (show k.toNat < 64 by omega)) (by decide)
theorem mul_pw {a b bits : Int} (hb : bits = 32 ∨ bits = 64) (ha : inR a bits) : PySem.IntMulOk a (2 ^ (b.fmod bits).toNat) := mul_ok (ha.abs hb) (pw_abs (shm1 hb))
theorem pw_log {b bits : Int} (hb : bits = 32 ∨ bits = 64) : ((2 : Int) ^ (b.fmod bits).toNat).natAbs.log2 < 9000 := log_ok (pw_abs (shm1 hb))
theorem pw_ne (k : Nat) : (2 : Int) ^ k ≠ 0 := Int.ne_of_gt (Int.pow_pos (by decide))
section
variable {x y low Q : Int} {w : Str}
theorem tq3 (h : ¬ x.fdiv y < 0) (hy : y ≠ 0) : x.fdiv y = x.tdiv y := by
  have e := @Int.fdiv_eq_tdiv x y
  split at e
  · omega
  · rename_i hd
    split at e
    · split at e
      · omega
      · rename_i h1 h2
        exfalso
        have h3 : x.tdiv y ≤ 0 := Int.tdiv_nonpos_of_nonneg_of_nonpos h1 (by omega)
        omega
    · split at e
      · rename_i h1 h2
        exfalso
        have h3 : 0 ≤ (-x).tdiv y := Int.tdiv_nonneg (by omega) h2
        rw [Int.neg_tdiv] at h3
        have h4 : y.sign = 1 := Int.sign_eq_one_of_pos (by omega)
        omega
      · have h4 : y.sign = -1 := Int.sign_eq_neg_one_of_neg (by omega)
        omega
theorem tq2 (h : x.fdiv y * y = x) (hy : y ≠ 0) : x.fdiv y = x.tdiv y := by
  have hd : y ∣ x := ⟨x.fdiv y, by rw [Int.mul_comm]; exact h.symm⟩
  have e := @Int.fdiv_eq_tdiv x y
  rw [if_pos hd] at e
  omega
theorem tq1 (h : x.fdiv y < 0) (h' : x.fdiv y * y ≠ x) (hy : y ≠ 0) : x.fdiv y + 1 = x.tdiv y := by
  have hd : ¬ y ∣ x := fun q => h' (by rw [Int.fdiv_mul_cancel q])
  have e := @Int.fdiv_eq_tdiv x y
  rw [if_neg hd] at e
  split at e
  · split at e
    · rename_i h1 h2
      exfalso
      have h3 : 0 ≤ x.tdiv y := Int.tdiv_nonneg h1 h2
      omega
    · omega
  · split at e
    · rename_i h1 h2
      have h4 : y.sign = 1 := Int.sign_eq_one_of_pos (by omega)
      omega
    · rename_i h1 h2
      exfalso
      have h4 : y.sign = -1 := Int.sign_eq_neg_one_of_neg (by omega)
      have h3 : 0 ≤ x.tdiv y := Int.tdiv_nonneg_of_nonpos_of_nonpos (by omega) (by omega)
      omega
theorem ld0 (h : y = 0) : ldF w x y low = (0, 1) := by unfold ldF; rw [if_pos h]
theorem ld1 (h : y ≠ 0) (h1 : x = low) (h2 : y = -1) : ldF w x y low = (0, 2) := by unfold ldF; rw [if_neg h, if_pos ⟨h1, h2⟩]
theorem ldn1 (h : x ≠ low) : ¬ (x = low ∧ y = -1) := fun q => h q.1
theorem ldn2 (h : y ≠ -1) : ¬ (x = low ∧ y = -1) := fun q => h q.2
theorem ldt (h : y ≠ 0) (hn : ¬ (x = low ∧ y = -1)) (hd : (Txt.slice w none (some 3) == Str.ofString "div") = true) : ldF w x y low = (x.tdiv y, 0) := by unfold ldF; rw [if_neg h, if_neg hn, if_pos hd]
theorem ldf (h : y ≠ 0) (hn : ¬ (x = low ∧ y = -1)) (hd : (Txt.slice w none (some 3) == Str.ofString "div") = false) : ldF w x y low = (x - x.tdiv y * y, 0) := by unfold ldF; rw [if_neg h, if_neg hn, if_neg (by rw [hd]; exact Bool.false_ne_true)]
theorem ldV1 (h : y ≠ 0) (hn : ¬ (x = low ∧ y = -1)) (hd : (Txt.slice w none (some 3) == Str.ofString "div") = true) (hq : Q = x.tdiv y) : Q = (ldF w x y low).1 := by rw [ldt h hn hd, hq]
theorem ldV2 (h : y ≠ 0) (hn : ¬ (x = low ∧ y = -1)) : 0 = (ldF w x y low).2 := by
  unfold ldF; rw [if_neg h, if_neg hn]; split <;> rfl
theorem ldV3 (h : y ≠ 0) (hn : ¬ (x = low ∧ y = -1)) (hd : (Txt.slice w none (some 3) == Str.ofString "div") = false) (hq : Q = x.tdiv y) : x - Q * y = (ldF w x y low).1 := by rw [ldf h hn hd, hq]
end
section
variable {a b bits J : Int} {w : Str}
theorem ckU1 (h : (Txt.slice w (some (-3)) none == Str.ofString "_un") = true) (h1 : exF w (unF a bits) (unF b bits) < 0) : ckF w a b bits = (0, 2) := by unfold ckF; rw [if_pos h, if_pos (.inl h1)]
theorem ckU2 (h : (Txt.slice w (some (-3)) none == Str.ofString "_un") = true) (h1 : 2 ^ bits.toNat - 1 < exF w (unF a bits) (unF b bits)) : ckF w a b bits = (0, 2) := by unfold ckF; rw [if_pos h, if_pos (.inr h1)]
theorem ckU3 (h : (Txt.slice w (some (-3)) none == Str.ofString "_un") = true) (h1 : ¬ exF w (unF a bits) (unF b bits) < 0) (h2 : ¬ 2 ^ bits.toNat - 1 < exF w (unF a bits) (unF b bits)) : ckF w a b bits = (cutF (exF w (unF a bits) (unF b bits)) bits, 0) := by unfold ckF; rw [if_pos h, if_neg (fun q => q.elim h1 h2)]
theorem ckS1 (h : (Txt.slice w (some (-3)) none == Str.ofString "_un") = false) (h1 : exF w a b < -2 ^ (bits - 1).toNat) : ckF w a b bits = (0, 2) := by unfold ckF; rw [if_neg (by rw [h]; exact Bool.false_ne_true), if_pos (.inl h1)]
theorem ckS2 (h : (Txt.slice w (some (-3)) none == Str.ofString "_un") = false) (h1 : - -2 ^ (bits - 1).toNat - 1 < exF w a b) : ckF w a b bits = (0, 2) := by
  rw [Int.neg_neg] at h1
  unfold ckF; rw [if_neg (by rw [h]; exact Bool.false_ne_true), if_pos (.inr h1)]
theorem ckS3 (h : (Txt.slice w (some (-3)) none == Str.ofString "_un") = false) (h1 : ¬ exF w a b < -2 ^ (bits - 1).toNat) (h2 : ¬ - -2 ^ (bits - 1).toNat - 1 < exF w a b) : ckF w a b bits = (cutF (exF w a b) bits, 0) := by
  rw [Int.neg_neg] at h2
  unfold ckF; rw [if_neg (by rw [h]; exact Bool.false_ne_true), if_neg (fun q => q.elim h1 h2)]
theorem ls1 (h : (w == Str.ofString "shl") = true) : cutF (a * 2 ^ (b.fmod bits).toNat) bits = lsF w a b bits := by unfold lsF; rw [if_pos h]
theorem ls2 (h : (w == Str.ofString "shl") = false) (h2 : (w == Str.ofString "shr") = true) : a.fdiv (2 ^ (b.fmod bits).toNat) = lsF w a b bits := by unfold lsF; rw [if_neg (by rw [h]; exact Bool.false_ne_true), if_pos h2]
theorem ls3 (h : (w == Str.ofString "shl") = false) (h2 : (w == Str.ofString "shr") = false) : cutF ((unF a bits).fdiv (2 ^ (b.fmod bits).toNat)) bits = lsF w a b bits := by unfold lsF; rw [if_neg (by rw [h]; exact Bool.false_ne_true), if_neg (by rw [h2]; exact Bool.false_ne_true)]
end
def inS (w : Str) : Bool := [Str.ofString "shl", Str.ofString "shr", Str.ofString "shr_un"].any fun x => x == w
def wF (w : Str) (a b J bits : Int) : Int × Int :=
  if inS w = true then (lsF w a b bits, 0)
  else if (w == Str.ofString "and") = true then (cutF J bits, 0)
  else if (w == Str.ofString "or") = true then (cutF (unF a bits + unF b bits - J) bits, 0)
  else if (w == Str.ofString "xor") = true then (cutF (unF a bits + unF b bits - 2 * J) bits, 0)
  else if (w == Str.ofString "div") = true ∨ (w == Str.ofString "rem") = true then ldF w a b (-2 ^ (bits - 1).toNat)
  else if (w == Str.ofString "div_un") = true ∨ (w == Str.ofString "rem_un") = true then (cutF (ldF w (unF a bits) (unF b bits) (-1)).1 bits, (ldF w (unF a bits) (unF b bits) (-1)).2)
  else if 3 < w.length then ckF w a b bits
  else (cutF (exF w a b) bits, 0)
section
variable {a b J bits : Int} {w : Str}
theorem w0 (h0 : ([Str.ofString "shl", Str.ofString "shr", Str.ofString "shr_un"].any fun x => x == w) = true) : wF w a b J bits = (lsF w a b bits, 0) := by
  unfold wF inS; rw [if_pos h0]
theorem w_and (h0 : ([Str.ofString "shl", Str.ofString "shr", Str.ofString "shr_un"].any fun x => x == w) = false) (h1 : (w == Str.ofString "and") = true) : wF w a b J bits = (cutF J bits, 0) := by
  unfold wF inS; rw [if_neg (by rw [h0]; exact Bool.false_ne_true), if_pos h1]
theorem w_or (h0 : ([Str.ofString "shl", Str.ofString "shr", Str.ofString "shr_un"].any fun x => x == w) = false) (h1 : (w == Str.ofString "and") = false) (h2 : (w == Str.ofString "or") = true) : wF w a b J bits = (cutF (unF a bits + unF b bits - J) bits, 0) := by
  unfold wF inS; rw [if_neg (by rw [h0]; exact Bool.false_ne_true), if_neg (by rw [h1]; exact Bool.false_ne_true), if_pos h2]
theorem w_xor (h0 : ([Str.ofString "shl", Str.ofString "shr", Str.ofString "shr_un"].any fun x => x == w) = false) (h1 : (w == Str.ofString "and") = false) (h2 : (w == Str.ofString "or") = false) (h3 : (w == Str.ofString "xor") = true) : wF w a b J bits = (cutF (unF a bits + unF b bits - 2 * J) bits, 0) := by
  unfold wF inS; rw [if_neg (by rw [h0]; exact Bool.false_ne_true), if_neg (by rw [h1]; exact Bool.false_ne_true), if_neg (by rw [h2]; exact Bool.false_ne_true), if_pos h3]
theorem w_div (h0 : ([Str.ofString "shl", Str.ofString "shr", Str.ofString "shr_un"].any fun x => x == w) = false) (h1 : (w == Str.ofString "and") = false) (h2 : (w == Str.ofString "or") = false) (h3 : (w == Str.ofString "xor") = false) (h4 : (w == Str.ofString "div") = true) : wF w a b J bits = ldF w a b (-2 ^ (bits - 1).toNat) := by
  unfold wF inS; rw [if_neg (by rw [h0]; exact Bool.false_ne_true), if_neg (by rw [h1]; exact Bool.false_ne_true), if_neg (by rw [h2]; exact Bool.false_ne_true), if_neg (by rw [h3]; exact Bool.false_ne_true), if_pos (.inl h4)]
theorem w_rem (h0 : ([Str.ofString "shl", Str.ofString "shr", Str.ofString "shr_un"].any fun x => x == w) = false) (h1 : (w == Str.ofString "and") = false) (h2 : (w == Str.ofString "or") = false) (h3 : (w == Str.ofString "xor") = false) (h4 : (w == Str.ofString "rem") = true) : wF w a b J bits = ldF w a b (-2 ^ (bits - 1).toNat) := by
  unfold wF inS; rw [if_neg (by rw [h0]; exact Bool.false_ne_true), if_neg (by rw [h1]; exact Bool.false_ne_true), if_neg (by rw [h2]; exact Bool.false_ne_true), if_neg (by rw [h3]; exact Bool.false_ne_true), if_pos (.inr h4)]
theorem w_divu (h0 : ([Str.ofString "shl", Str.ofString "shr", Str.ofString "shr_un"].any fun x => x == w) = false) (h1 : (w == Str.ofString "and") = false) (h2 : (w == Str.ofString "or") = false) (h3 : (w == Str.ofString "xor") = false) (h4 : (w == Str.ofString "div") = false) (h5 : (w == Str.ofString "rem") = false) (h6 : (w == Str.ofString "div_un") = true) : wF w a b J bits = (cutF (ldF w (unF a bits) (unF b bits) (-1)).1 bits, (ldF w (unF a bits) (unF b bits) (-1)).2) := by
  unfold wF inS; rw [if_neg (by rw [h0]; exact Bool.false_ne_true), if_neg (by rw [h1]; exact Bool.false_ne_true), if_neg (by rw [h2]; exact Bool.false_ne_true), if_neg (by rw [h3]; exact Bool.false_ne_true), if_neg (fun q => q.elim (fun q => by rw [h4] at q; exact Bool.false_ne_true q) (fun q => by rw [h5] at q; exact Bool.false_ne_true q)), if_pos (.inl h6)]
theorem w_remu (h0 : ([Str.ofString "shl", Str.ofString "shr", Str.ofString "shr_un"].any fun x => x == w) = false) (h1 : (w == Str.ofString "and") = false) (h2 : (w == Str.ofString "or") = false) (h3 : (w == Str.ofString "xor") = false) (h4 : (w == Str.ofString "div") = false) (h5 : (w == Str.ofString "rem") = false) (h6 : (w == Str.ofString "rem_un") = true) : wF w a b J bits = (cutF (ldF w (unF a bits) (unF b bits) (-1)).1 bits, (ldF w (unF a bits) (unF b bits) (-1)).2) := by
  unfold wF inS; rw [if_neg (by rw [h0]; exact Bool.false_ne_true), if_neg (by rw [h1]; exact Bool.false_ne_true), if_neg (by rw [h2]; exact Bool.false_ne_true), if_neg (by rw [h3]; exact Bool.false_ne_true), if_neg (fun q => q.elim (fun q => by rw [h4] at q; exact Bool.false_ne_true q) (fun q => by rw [h5] at q; exact Bool.false_ne_true q)), if_pos (.inr h6)]
theorem w_ck (h0 : ([Str.ofString "shl", Str.ofString "shr", Str.ofString "shr_un"].any fun x => x == w) = false) (h1 : (w == Str.ofString "and") = false) (h2 : (w == Str.ofString "or") = false) (h3 : (w == Str.ofString "xor") = false) (h4 : (w == Str.ofString "div") = false) (h5 : (w == Str.ofString "rem") = false) (h6 : (w == Str.ofString "div_un") = false) (h7 : (w == Str.ofString "rem_un") = false) (h8 : ((w.length : Nat) : Int) > 3) : wF w a b J bits = ckF w a b bits := by
  unfold wF inS; rw [if_neg (by rw [h0]; exact Bool.false_ne_true), if_neg (by rw [h1]; exact Bool.false_ne_true), if_neg (by rw [h2]; exact Bool.false_ne_true), if_neg (by rw [h3]; exact Bool.false_ne_true), if_neg (fun q => q.elim (fun q => by rw [h4] at q; exact Bool.false_ne_true q) (fun q => by rw [h5] at q; exact Bool.false_ne_true q)), if_neg (fun q => q.elim (fun q => by rw [h6] at q; exact Bool.false_ne_true q) (fun q => by rw [h7] at q; exact Bool.false_ne_true q)), if_pos (by omega)]
theorem w_ex (h0 : ([Str.ofString "shl", Str.ofString "shr", Str.ofString "shr_un"].any fun x => x == w) = false) (h1 : (w == Str.ofString "and") = false) (h2 : (w == Str.ofString "or") = false) (h3 : (w == Str.ofString "xor") = false) (h4 : (w == Str.ofString "div") = false) (h5 : (w == Str.ofString "rem") = false) (h6 : (w == Str.ofString "div_un") = false) (h7 : (w == Str.ofString "rem_un") = false) (h8 : ¬ ((w.length : Nat) : Int) > 3) : wF w a b J bits = (cutF (exF w a b) bits, 0) := by
  unfold wF inS; rw [if_neg (by rw [h0]; exact Bool.false_ne_true), if_neg (by rw [h1]; exact Bool.false_ne_true), if_neg (by rw [h2]; exact Bool.false_ne_true), if_neg (by rw [h3]; exact Bool.false_ne_true), if_neg (fun q => q.elim (fun q => by rw [h4] at q; exact Bool.false_ne_true q) (fun q => by rw [h5] at q; exact Bool.false_ne_true q)), if_neg (fun q => q.elim (fun q => by rw [h6] at q; exact Bool.false_ne_true q) (fun q => by rw [h7] at q; exact Bool.false_ne_true q)), if_neg (by omega)]
end
theorem inr_join {x y n : Int} (h : joinF x y > 0) (hr : inR n (bwF y)) : inR n (bwF x) := by
  have h0 : joinF x y ≠ 0 := by omega
  rw [← joinwl h0, joinwr h0]; exact hr
theorem inr_y {y n x : Int} (hy : y = 1 ∨ y = 3) (hr : inR n (bwF y)) : inR n (bwF x) := by
  have e : bwF y = 32 := by unfold bwF; rw [if_neg (by omega)]
  rw [e] at hr
  have h1 : -(2147483648 : Int) ≤ n := hr.1
  have h2 : n < (2147483648 : Int) := hr.2
  rcases bw_or x with e | e <;> rw [e]
  · exact ⟨h1, h2⟩
  · refine ⟨?_, ?_⟩
    · show -(9223372036854775808 : Int) ≤ n
      omega
    · show n < (9223372036854775808 : Int)
      omega
theorem joint_ok {a b bits : Int} (hb : bits = 32 ∨ bits = 64) : PySem.IntMulOk 2 (Builtin.bitAnd (unF a bits) (unF b bits)) := by
  have h := bitAnd_range (unF a bits) (un_pos (n := b) hb).1
  have h2 := un_pos (n := b) hb
  exact mul_ok (by decide) (by omega)
end
section
open PySem.Spec PyProof.V
def jD : List (PyData × PyData) := putAllT [(encTuple PyData.int [1, 1], .int 1), (encTuple PyData.int [2, 2], .int 2), (encTuple PyData.int [3, 3], .int 3), (encTuple PyData.int [1, 3], .int 3), (encTuple PyData.int [3, 1], .int 3)] []
theorem TupTab.mono {prog : Program} {w : World} {K : Type} [DecidableEq K] {knd : KeyKind prog w K} {enc : K → PyData} {d : Addr} {news news' : Led} {D : List (PyData × PyData)} (T : TupTab knd enc news d D) (hs : ∀ p ∈ news, p ∈ news') : TupTab knd enc news' d D :=
  let ⟨lo, o, es, ep, xs, hm, hc, hd, he, hn, hk, hf⟩ := T
  ⟨lo, o, es, ep, xs, hs _ hm, hc, hd, he, hn, fun x hx => let ⟨okx, hmk, t⟩ := hk x hx; ⟨okx, hs _ hmk, t⟩, hf⟩
theorem my_Dict {prog : Program} {w : World} {A : Around} {E : Value → Shared → Prop} {s : Shared} {h₀ : Heap} {L : Addr} {m : Str → Option Value} {news : Led} {env : Env} {keys : List (Option PySem.Expr)} {values : List PySem.Expr} {pos : Pos} {Q : Value → Shared → Prop} (ht : tupFirst keys = true) (F : Fr h₀ L s.heap m) (N : News h₀ L s.heap news)
    (hbig : sysModules < h₀.objs.size) (hall : keys.all (·.isSome) = true) (hl : keys.length = values.length) (h0 : keys ≠ []) (hlen : keys.length ≤ 15)
    (h : ∀ d o h', (∀ p ∈ news, p.1 ≠ d) → Fr h₀ L h' m → News h₀ L h' ((d, o) :: news) → (d == sysModules) = false → o.IsDictOf (intKind prog w) [] →
      wpAny (model prog w) A (evalPairs (pairTrees keys values env pos)) (TupStores prog w A E d Q) E { s with heap := h' }) :
    wpAny (model prog w) A (eval (.Dict keys values pos) env) Q E s :=
  Dict_tup_made ht F N hbig hall hl h0 hlen fun o F' N' lo hd => h _ o _ (fun p hp => Nat.ne_of_lt (Heap.lt_size (N p hp).1)) F' N' lo hd
theorem jD_eq : jD = [(encTuple PyData.int [1, 1], .int 1), (encTuple PyData.int [2, 2], .int 2), (encTuple PyData.int [3, 3], .int 3), (encTuple PyData.int [1, 3], .int 3), (encTuple PyData.int [3, 1], .int 3)] := by
  simp [jD, putAllT, putD, Spec.lookup, same_encTuple same_int]
theorem jlook (x y : Int) : Spec.lookup (encTuple PyData.int [x, y]) jD = if joinF x y = 0 then none else some (.int (joinF x y)) := by
  rw [jD_eq]
  simp only [Spec.lookup, same_encTuple same_int]
  by_cases h1 : x = 1 ∧ y = 1
  · obtain ⟨rfl, rfl⟩ := h1; simp [joinF]
  by_cases h2 : x = 2 ∧ y = 2
  · obtain ⟨rfl, rfl⟩ := h2; simp [joinF]
  by_cases h3 : x = 3 ∧ y = 3
  · obtain ⟨rfl, rfl⟩ := h3; simp [joinF]
  by_cases h4 : x = 1 ∧ y = 3
  · obtain ⟨rfl, rfl⟩ := h4; simp [joinF]
  by_cases h5 : x = 3 ∧ y = 1
  · obtain ⟨rfl, rfl⟩ := h5; simp [joinF]
  have e : joinF x y = 0 := by
    unfold joinF
    rw [if_neg (by omega), if_neg (by omega)]
  rw [if_pos e]
  have n1 : ¬ ([1, 1] : List Int) = [x, y] := fun q => by simp only [List.cons.injEq, and_true] at q; exact h1 ⟨q.1.symm, q.2.symm⟩
  have n2 : ¬ ([2, 2] : List Int) = [x, y] := fun q => by simp only [List.cons.injEq, and_true] at q; exact h2 ⟨q.1.symm, q.2.symm⟩
  have n3 : ¬ ([3, 3] : List Int) = [x, y] := fun q => by simp only [List.cons.injEq, and_true] at q; exact h3 ⟨q.1.symm, q.2.symm⟩
  have n4 : ¬ ([1, 3] : List Int) = [x, y] := fun q => by simp only [List.cons.injEq, and_true] at q; exact h4 ⟨q.1.symm, q.2.symm⟩
  have n5 : ¬ ([3, 1] : List Int) = [x, y] := fun q => by simp only [List.cons.injEq, and_true] at q; exact h5 ⟨q.1.symm, q.2.symm⟩
  simp [n1, n2, n3, n4, n5, Ne.symm, fun q : [x, y] = ([1, 1] : List Int) => n1 q.symm, fun q : [x, y] = ([2, 2] : List Int) => n2 q.symm, fun q : [x, y] = ([3, 3] : List Int) => n3 q.symm, fun q : [x, y] = ([1, 3] : List Int) => n4 q.symm, fun q : [x, y] = ([3, 1] : List Int) => n5 q.symm]
/-- the table of joined tags, as _law_JOINS makes it -/
abbrev RetJ (prog : Program) (w : World) (news : Led) (Q : Value → Shared → Prop) (h₀ : Heap) (L : Addr) (m : Str → Option Value) (s : Shared) : Prop :=
  ∀ (D : Addr) (new : Led) (h' : Heap) (tk' : Nat), TupTab (intKind prog w) PyData.int (new ++ news) D jD → Fr h₀ L h' m → News h₀ L h' (new ++ news) → Q (.ref D) { s with heap := h', toks := tk' }
theorem end_J {prog : Program} {w : World} {h₀ h' : Heap} {L : Addr} {m : Str → Option Value} {news led : Led} {s : Shared} {Q : Value → Shared → Prop} {tk' : Nat} {D : Addr} (hret : RetJ prog w news Q h₀ L m s) (F : Fr h₀ L h' m) (N : News h₀ L h' led) (hs : ∀ p ∈ news, p ∈ led)
    (T : TupTab (intKind prog w) PyData.int led D jD) : Q (.ref D) { s with heap := h', toks := tk' } :=
  hret D led h' tk' (TupTab.mono T fun p hp => List.mem_append_left _ hp) F (lap N hs fun _ h => h)
section
variable {prog : Program} {w : World} {A : Around} {E : Value → Shared → Prop} {s : Shared} {h₀ : Heap} {L : Addr} {led : Led} {d k : Addr} {x y : Int} {tx ty t0 : Tok} {c : Nat} {Q : Value → Shared → Prop}
theorem my_get (N : News h₀ L s.heap led) (T : TupTab (intKind prog w) PyData.int led d jD) (hm : (k, tupO #[.int x tx, .int y ty] c) ∈ led) (hu : A.units + 1 < cLine) (h : ∀ t tk, Q (.int (joinF x y) t) { s with toks := tk }) :
    wpAny (model prog w) A (call (.builtin "dict.get") [.ref d, .ref k, .int 0 t0]) Q E s := by
  refine call_get2_tupTab_eq (knd := intKind _ _) (enc := PyData.int) (ks := [x, y]) (dd := .int 0) (dv := .int (joinF x y)) same_int hu N T hm ⟨rfl, _, _, rfl, ItemsAre.cons (intKind_is _ _ _ _) (ItemsAre.cons (intKind_is _ _ _ _) ItemsAre.nil)⟩ (Flat.int _ _) ?_ fun v hv => ?_
  · rw [jlook]
    split
    · rename_i e; rw [e]; rfl
    · rfl
  · obtain ⟨t, rfl⟩ := Flat.int_inv hv
    exact h t _
theorem my_in (N : News h₀ L s.heap led) (T : TupTab (intKind prog w) PyData.int led d jD) (hm : (k, tupO #[.int x tx, .int y ty] c) ∈ led) (hu : A.units + 1 < cLine) (h : ∀ tk, Q (.bool (decide (joinF x y ≠ 0))) { s with toks := tk }) :
    wpAny (model prog w) A (compareOp .In (.ref k) (.ref d)) Q E s := by
  refine in_tupTab_eq (knd := intKind _ _) (enc := PyData.int) (ks := [x, y]) (b := decide (joinF x y ≠ 0)) same_int hu N T hm ⟨rfl, _, _, rfl, ItemsAre.cons (intKind_is _ _ _ _) (ItemsAre.cons (intKind_is _ _ _ _) ItemsAre.nil)⟩ ?_ (h _)
  rw [jlook]
  split
  · rename_i e; simp [e]
  · rename_i e; simp [e]
end
end
section
open PySem.Calls
section
variable {prog : Program} {w : World} {A : Around} {E : Value → Shared → Prop} {s : Shared} {env : Env} {h₀ : Heap} {target : PySem.Expr} {body : List Stmt} {Q : Flow → Shared → Prop} {K : Frag}
def TurnEnd (h₀ : Heap) (L : Addr) (I : Addr) (o : Obj) (news : Led) (J : (Str → Option Value) → Prop) (s s₂ : Shared) : Prop :=
  ∃ h' tk m', s₂ = { s with heap := h', toks := tk } ∧ Fr h₀ L h' m' ∧ News h₀ L h' ((I, o) :: news) ∧ J m'
def TurnPost (h₀ : Heap) (L : Addr) (I : Addr) (o : Obj) (news : Led) (J : (Str → Option Value) → Prop) (Q : Flow → Shared → Prop) (s : Shared) (f : Flow) (s₂ : Shared) : Prop :=
  match f with
  | .ret v => Q (.ret v) s₂
  | .brk => Q .next s₂
  | _ => TurnEnd h₀ L I o news J s s₂
theorem items_inv {news : Led} {I : Addr} {P : Value → Prop} {J : (Str → Option Value) → Prop} (hI : ∀ p ∈ news, p.1 < I)
    (step : ∀ v m h tk o, P v → J m → Fr h₀ env.locals h m → News h₀ env.locals h ((I, o) :: news) →
      wpAny (model prog w) A (assign target env v) (fun _ s₂ => wpAny (model prog w) A (execs body env) (TurnPost h₀ env.locals I o news J Q { s with heap := h, toks := tk }) E s₂) E { s with heap := h, toks := tk })
    (done : ∀ m h tk, J m → Fr h₀ env.locals h m → News h₀ env.locals h news → Q .next { s with heap := h, toks := tk }) :
    ∀ (vs : List Value), (∀ v ∈ vs, P v) → ∀ m, J m → ItemsRest prog w A E h₀ env target body Q s [(I, "tuple_iterator")] [] (vs.map .val) m news := by
  intro vs
  induction vs with
  | nil => intro _ m hJ; exact ItemsRest.zero fun h tk F N => done m h tk hJ F N
  | cons v r ih =>
    intro hP m hJ
    refine ItemsRest.val fun h tk F => ?_
    intro o _
    show News h₀ env.locals h ([(I, o)] ++ news) → _
    intro N
    refine wpAny_mono (step v m h tk o (hP v (.head _)) hJ F N) (fun _ s₂ h₂ => wpAny_mono h₂ (fun f s₃ p => ?_) fun _ _ e => e) fun _ _ e => e
    have fin : TurnEnd h₀ env.locals I o news J { s with heap := h, toks := tk } s₃ → UnrEndW h₀ env.locals { s with heap := h, toks := tk } [(I, o)] (fun m' n' => SubL [] n' ∧ ItemsRest prog w A E h₀ env target body Q s [(I, "tuple_iterator")] [] (r.map .val) m' n') s₃ := by
      rintro ⟨h', tk', m', e, F', N', hJ'⟩
      refine ⟨h', tk', m', news, e, F', N', fun p hp q hq => ?_, trivial, ih (fun v hv => hP v (.tail _ hv)) m' hJ'⟩
      rw [List.mem_singleton.mp hq]
      exact Nat.ne_of_lt (hI p hp)
    cases f with
    | ret v => exact p
    | brk => exact p
    | next => exact fin p
    | cont => exact fin p
theorem iter_inv {ax : Addr} {lo : Obj} {vs : List Value} {n : Nat} {m₀ : Str → Option Value} {news : Led} (P : Value → Prop) (J : (Str → Option Value) → Prop)
    (hh : A.handled = none) (F : Fr h₀ env.locals s.heap m₀) (N : News h₀ env.locals s.heap news) (X₀ : K.In h₀) (hk : K.lookup ax = some lo) (hc : lo.cls = .type "tuple") (hd : lo.data = .seq vs.toArray n) (hz : vs.length ≤ 24)
    (hP : ∀ v ∈ vs, P v) (hJ : J m₀)
    (step : ∀ I v m h tk o, P v → J m → Fr h₀ env.locals h m → News h₀ env.locals h ((I, o) :: news) →
      wpAny (model prog w) A (assign target env v) (fun _ s₂ => wpAny (model prog w) A (execs body env) (TurnPost h₀ env.locals I o news J Q { s with heap := h, toks := tk }) E s₂) E { s with heap := h, toks := tk })
    (done : ∀ m h tk, J m → Fr h₀ env.locals h m → News h₀ env.locals h news → Q .next { s with heap := h, toks := tk }) :
    wpAny (model prog w) A (pyIter (.ref ax)) (fun it s₂ => TurnsAt prog w A h₀ env target body Q E it s₂) E s :=
  iter_tupK hh F N X₀ hk hc hd hz fun I hI => items_inv hI (step I) done vs hP m₀ hJ
end
/-- the six names that a turn of _law_binary stores, over what stood ahead of the loop -/
def mJ (m₀ : Str → Option Value) (o1 o2 o3 o4 o5 o6 : Option Value) : Str → Option Value := fun y =>
  if y = Str.ofString "op" then o1 else if y = Str.ofString "word" then o2 else if y = Str.ofString "kept" then o3 else if y = Str.ofString "want" then o4 else if y = Str.ofString "n" then o5 else if y = Str.ofString "fault" then o6 else m₀ y
def Jb (m₀ m : Str → Option Value) : Prop := ∃ o1 o2 o3 o4 o5 o6, m = mJ m₀ o1 o2 o3 o4 o5 o6
theorem Jb_of {m₀ m : Str → Option Value} (h : ∀ y, y ≠ Str.ofString "op" → y ≠ Str.ofString "word" → y ≠ Str.ofString "kept" → y ≠ Str.ofString "want" → y ≠ Str.ofString "n" → y ≠ Str.ofString "fault" → m y = m₀ y) : Jb m₀ m := by
  refine ⟨m (Str.ofString "op"), m (Str.ofString "word"), m (Str.ofString "kept"), m (Str.ofString "want"), m (Str.ofString "n"), m (Str.ofString "fault"), funext fun y => ?_⟩
  unfold mJ
  by_cases h1 : y = Str.ofString "op"
  · rw [if_pos h1, h1]
  rw [if_neg h1]
  by_cases h2 : y = Str.ofString "word"
  · rw [if_pos h2, h2]
  rw [if_neg h2]
  by_cases h3 : y = Str.ofString "kept"
  · rw [if_pos h3, h3]
  rw [if_neg h3]
  by_cases h4 : y = Str.ofString "want"
  · rw [if_pos h4, h4]
  rw [if_neg h4]
  by_cases h5 : y = Str.ofString "n"
  · rw [if_pos h5, h5]
  rw [if_neg h5]
  by_cases h6 : y = Str.ofString "fault"
  · rw [if_pos h6, h6]
  rw [if_neg h6]
  exact h y h1 h2 h3 h4 h5 h6
theorem Jb_refl (m₀ : Str → Option Value) : Jb m₀ m₀ := Jb_of fun _ _ _ _ _ _ _ => rfl
def opsL : List (Int × Str) := [(88, Str.ofString "add"), (89, Str.ofString "sub"), (90, Str.ofString "mul"), (91, Str.ofString "div"), (92, Str.ofString "div_un"), (93, Str.ofString "rem"), (94, Str.ofString "rem_un"), (95, Str.ofString "and"), (96, Str.ofString "or"), (97, Str.ofString "xor"), (98, Str.ofString "shl"), (99, Str.ofString "shr"), (100, Str.ofString "shr_un"), (214, Str.ofString "add_ovf"), (215, Str.ofString "add_ovf_un"), (216, Str.ofString "mul_ovf"), (217, Str.ofString "mul_ovf_un"), (218, Str.ofString "sub_ovf"), (219, Str.ofString "sub_ovf_un")]
def PV (h₀ : Heap) (v : Value) : Prop := ∃ T op word t1 t2, v = .ref T ∧ IsTup h₀ T #[.int op t1, .str word t2] ∧ (op, word) ∈ opsL
theorem ops_len {op : Int} {word : Str} (h : (op, word) ∈ opsL) : word.length ≤ 16 := by
  have : ∀ p ∈ opsL, p.2.length ≤ 16 := by decide +kernel
  exact this _ h
theorem res_eq {led : Led} {D : Addr} {r r' : Option (Int × Int) × Int} (e : r' = r) (h : Res led D r'.1 r'.2) : Res led D r.1 r.2 := e ▸ h
section
variable {prog : Program} {w : World} {A : Around} {E : Value → Shared → Prop} {s : Shared} {env : Env} {h₀ : Heap} {target : PySem.Expr} {body : List Stmt} {Q : Flow → Shared → Prop} {K : Frag}
def StepG (prog : Program) (w : World) (A : Around) (E : Value → Shared → Prop) (s : Shared) (env : Env) (h₀ : Heap) (target : PySem.Expr) (body : List Stmt) (Q : Flow → Shared → Prop) (m₀ : Str → Option Value) (news : Led) : Prop :=
  ∀ (I T : Addr) (op : Int) (word : Str) (t u : Tok) (o1 o2 o3 o4 o5 o6 : Option Value) (h : Heap) (tk : Nat) (o : Obj), IsTup h₀ T #[.int op t, .str word u] → (op, word) ∈ opsL → word.length ≤ 16 → Fr h₀ env.locals h (mJ m₀ o1 o2 o3 o4 o5 o6) → News h₀ env.locals h ((I, o) :: news) →
      wpAny (model prog w) A (assign target env (.ref T)) (fun _ s₂ => wpAny (model prog w) A (execs body env) (TurnPost h₀ env.locals I o news (Jb m₀) Q { s with heap := h, toks := tk }) E s₂) E { s with heap := h, toks := tk }
def DoneG (s : Shared) (env : Env) (h₀ : Heap) (Q : Flow → Shared → Prop) (m₀ : Str → Option Value) (news : Led) : Prop :=
  ∀ (o1 o2 o3 o4 o5 o6 : Option Value) (h : Heap) (tk : Nat), Fr h₀ env.locals h (mJ m₀ o1 o2 o3 o4 o5 o6) → News h₀ env.locals h news → Q .next { s with heap := h, toks := tk }
theorem iter_ops {ax : Addr} {lo : Obj} {vs : List Value} {n : Nat} {m₀ : Str → Option Value} {news : Led}
    (hh : A.handled = none) (F : Fr h₀ env.locals s.heap m₀) (N : News h₀ env.locals s.heap news) (X₀ : K.In h₀) (hk : K.lookup ax = some lo) (hc : lo.cls = .type "tuple") (hd : lo.data = .seq vs.toArray n) (hz : vs.length ≤ 24)
    (hP : ∀ v ∈ vs, PV h₀ v) (step : StepG prog w A E s env h₀ target body Q m₀ news) (done : DoneG s env h₀ Q m₀ news) :
    wpAny (model prog w) A (pyIter (.ref ax)) (fun it s₂ => TurnsAt prog w A h₀ env target body Q E it s₂) E s :=
  iter_inv (PV h₀) (Jb m₀) hh F N X₀ hk hc hd hz hP (Jb_refl _)
    (fun I v m h tk o hv hj F' N' => by
      obtain ⟨T, op, word, t, u, rfl, hT, hm⟩ := hv
      obtain ⟨o1, o2, o3, o4, o5, o6, rfl⟩ := hj
      exact step I T op word t u o1 o2 o3 o4 o5 o6 h tk o hT hm (ops_len hm) F' N')
    (fun m h tk hj F' N' => by
      obtain ⟨o1, o2, o3, o4, o5, o6, rfl⟩ := hj
      exact done o1 o2 o3 o4 o5 o6 h tk F' N')
end
end
section
def shT (x y : Int) : Int := if x ≤ 3 ∧ (y = 1 ∨ y = 3) then x else 0
def kpF (word : Str) (x y : Int) : Int := if inS word = true then shT x y else joinF x y
section
variable {a b bits : Int} {w : Str}
theorem pmod {b bits : Int} (hb : bits = 32 ∨ bits = 64) : b.fmod bits = Builtin.bitAnd b (bits - 1) := by
  rw [shk hb, Int.fmod_eq_emod_of_nonneg _ (by omega)]
/-- division: the law's reading and the program's -/
theorem dv_sig (h : (Txt.slice w none (some 3) == Str.ofString "div") = true) : ldF w a b (-2 ^ (bits - 1).toNat) = divF a b bits := by
  unfold ldF divF
  by_cases h0 : b = 0
  · rw [if_pos h0, if_pos h0]
  rw [if_neg h0, if_neg h0, if_pos h]
  by_cases h1 : b = -1 ∧ a = -2 ^ (bits - 1).toNat
  · rw [if_pos ⟨h1.2, h1.1⟩, if_pos h1]
  · rw [if_neg (fun q => h1 ⟨q.2, q.1⟩), if_neg h1]
theorem rm_sig (h : (Txt.slice w none (some 3) == Str.ofString "div") = false) : ldF w a b (-2 ^ (bits - 1).toNat) = remF a b bits := by
  unfold ldF remF
  by_cases h0 : b = 0
  · rw [if_pos h0, if_pos h0]
  rw [if_neg h0, if_neg h0]
  by_cases h1 : b = -1 ∧ a = -2 ^ (bits - 1).toNat
  · rw [if_pos ⟨h1.2, h1.1⟩, if_pos h1]
  · rw [if_neg (fun q => h1 ⟨q.2, q.1⟩), if_neg (by rw [h]; exact Bool.false_ne_true), if_neg h1, Int.mul_comm]
theorem un0 (hb : bits = 32 ∨ bits = 64) (hr : inR b bits) : unF b bits = 0 ↔ b = 0 := by
  constructor
  · intro h
    by_cases q : b = 0
    · exact q
    · exact absurd h (un_ne hb hr q)
  · rintro rfl
    rcases hb with rfl | rfl <;> rfl
theorem dv_uns (h : (Txt.slice w none (some 3) == Str.ofString "div") = true) (hb : bits = 32 ∨ bits = 64) (hr : inR b bits) :
    (cutF (ldF w (unF a bits) (unF b bits) (-1)).1 bits, (ldF w (unF a bits) (unF b bits) (-1)).2) = if b = 0 then (cutF 0 bits, 1) else (divuF a b bits) := by
  have ha := (un_pos (n := a) hb).1
  have hb' := (un_pos (n := b) hb).1
  unfold ldF divuF
  by_cases h0 : b = 0
  · rw [if_pos ((un0 hb hr).mpr h0), if_pos h0]
  · rw [if_neg (fun q => h0 ((un0 hb hr).mp q)), if_neg h0, if_neg h0, if_neg (fun q => by omega), if_pos h, Int.fdiv_eq_tdiv_of_nonneg ha hb']
theorem rm_uns (h : (Txt.slice w none (some 3) == Str.ofString "div") = false) (hb : bits = 32 ∨ bits = 64) (hr : inR b bits) :
    (cutF (ldF w (unF a bits) (unF b bits) (-1)).1 bits, (ldF w (unF a bits) (unF b bits) (-1)).2) = if b = 0 then (cutF 0 bits, 1) else (remuF a b bits) := by
  have ha := (un_pos (n := a) hb).1
  have hb' := (un_pos (n := b) hb).1
  unfold ldF remuF
  by_cases h0 : b = 0
  · rw [if_pos ((un0 hb hr).mpr h0), if_pos h0]
  · rw [if_neg (fun q => h0 ((un0 hb hr).mp q)), if_neg h0, if_neg h0, if_neg (fun q => by omega), if_neg (by rw [h]; exact Bool.false_ne_true)]
    have e : unF a bits - (unF a bits).tdiv (unF b bits) * unF b bits = (unF a bits).fmod (unF b bits) := by
      rw [Int.fmod_eq_tmod_of_nonneg ha hb', Int.tmod_def, Int.mul_comm]
    rw [e]
/-- the checked ones -/
theorem ck_uns (h : (Txt.slice w (some (-3)) none == Str.ofString "_un") = true) : ckF w a b bits = if inF (exF w (unF a bits) (unF b bits)) bits true = true then (cutF (exF w (unF a bits) (unF b bits)) bits, 0) else (0, 2) := by
  unfold ckF inF
  rw [if_pos h, if_pos rfl]
  generalize exF w (unF a bits) (unF b bits) = n
  by_cases h1 : n < 0
  · rw [if_pos (.inl h1), decide_eq_false (by omega), Bool.false_and, if_neg Bool.false_ne_true]
  by_cases h2 : n > 2 ^ bits.toNat - 1
  · rw [if_pos (.inr h2), decide_eq_false (show ¬ n < 2 ^ bits.toNat by omega), Bool.and_false, if_neg Bool.false_ne_true]
  · rw [if_neg (fun q => q.elim h1 h2), decide_eq_true (show 0 ≤ n by omega), decide_eq_true (show n < 2 ^ bits.toNat by omega), Bool.true_and, if_pos rfl]
theorem ck_sig (h : (Txt.slice w (some (-3)) none == Str.ofString "_un") = false) : ckF w a b bits = if inF (exF w a b) bits false = true then (cutF (exF w a b) bits, 0) else (0, 2) := by
  unfold ckF inF
  rw [if_neg (by rw [h]; exact Bool.false_ne_true), if_neg Bool.false_ne_true]
  generalize exF w a b = n
  by_cases h1 : n < -2 ^ (bits - 1).toNat
  · rw [if_pos (.inl h1), decide_eq_false (by omega), Bool.false_and, if_neg Bool.false_ne_true]
  by_cases h2 : n > 2 ^ (bits - 1).toNat - 1
  · rw [if_pos (.inr h2), decide_eq_false (show ¬ n < 2 ^ (bits - 1).toNat by omega), Bool.and_false, if_neg Bool.false_ne_true]
  · rw [if_neg (fun q => q.elim h1 h2), decide_eq_true (by omega), decide_eq_true (show n < 2 ^ (bits - 1).toNat by omega), Bool.true_and, if_pos rfl]
end
end
section
theorem n1 : ∀ (k a c : Nat), a < 2 ^ k → c < 2 ^ k → (a &&& c) + (a &&& (2 ^ k - 1 - c)) = a
  | 0, a, c, ha, hc => by
    have : a = 0 := by omega
    subst this
    simp
  | k + 1, a, c, ha, hc => by
    have hp : 2 ^ (k + 1) = 2 * 2 ^ k := by rw [Nat.pow_succ]; omega
    rw [hp] at ha hc
    have ih := n1 k (a / 2) (c / 2) (by omega) (by omega)
    have e1 := and_step a c
    have e2 := and_step a (2 ^ (k + 1) - 1 - c)
    rw [hp] at e2
    have d1 : (2 * 2 ^ k - 1 - c) / 2 = 2 ^ k - 1 - c / 2 := by omega
    have d2 : (2 * 2 ^ k - 1 - c) % 2 = 1 - c % 2 := by omega
    rw [d1, d2] at e2
    rw [hp, e1, e2]
    rcases Nat.mod_two_eq_zero_or_one a with h | h <;> rcases Nat.mod_two_eq_zero_or_one c with h' | h' <;> rw [h, h'] <;> simp <;> omega
/-- the same over ints that are not negative -/
theorem n1I {k : Nat} {p q : Int} (hp : 0 ≤ p) (hq : 0 ≤ q) (h1 : p < 2 ^ k) (h2 : q < 2 ^ k) : Builtin.bitAnd p (2 ^ k - 1 - q) = p - Builtin.bitAnd p q := by
  have hc : ((2 ^ k : Nat) : Int) = (2 : Int) ^ k := by norm_cast
  rw [bitAnd_pp hp (by omega), bitAnd_pp hp hq]
  have e := n1 k p.toNat q.toNat (by omega) (by omega)
  have e2 : ((2 : Int) ^ k - 1 - q).toNat = 2 ^ k - 1 - q.toNat := by omega
  rw [e2]
  omega
theorem and_le {p q : Int} (hp : 0 ≤ p) (hq : 0 ≤ q) : 0 ≤ Builtin.bitAnd p q ∧ Builtin.bitAnd p q ≤ p ∧ Builtin.bitAnd p q ≤ q := by
  have h1 := bitAnd_range p hq
  have h2 := bitAnd_range q hp
  rw [bitAnd_comm] at h2
  exact ⟨h1.1, h2.2, h1.2⟩
theorem or_lt {k : Nat} {p q : Int} (hp : 0 ≤ p) (hq : 0 ≤ q) (h1 : p < 2 ^ k) (h2 : q < 2 ^ k) : p + q - Builtin.bitAnd p q < 2 ^ k := by
  have e := n1I hp hq h1 h2
  have h := (and_le (p := p) (q := 2 ^ k - 1 - q) hp (by omega)).2.2
  omega
theorem and_nn {p q : Int} : Builtin.bitAnd (-p - 1) (-q - 1) = -(p + q - Builtin.bitAnd p q) - 1 := by
  have e : Builtin.bitOr p q = p + q - Builtin.bitAnd p q := bitOr_and p q
  unfold Builtin.bitOr Builtin.bitNot at e
  omega
theorem and_pn {p q : Int} (hp : 0 ≤ p) (hq : 0 ≤ q) : Builtin.bitAnd p (-q - 1) = p - Builtin.bitAnd p q := by
  rw [bitAnd_comm, bitAnd_np (by omega) hp, bitAnd_pp hp hq]
  have e : (Builtin.bitNot (-q - 1)) = q := by unfold Builtin.bitNot; omega
  rw [e]
theorem bits_and {M H : Int} {k : Nat} (hM : M = 2 ^ (k + 1)) (hH : H = 2 ^ k) {a b : Int} (ha : -H ≤ a ∧ a < H) (hb : -H ≤ b ∧ b < H) :
    ∃ J v : Int, Builtin.bitAnd (a % M) (b % M) = J ∧ Builtin.bitAnd a b = v ∧ (-H ≤ v ∧ v < H) ∧ (-H ≤ a + b - v ∧ a + b - v < H) ∧ (-H ≤ a + b - 2 * v ∧ a + b - 2 * v < H) ∧ (J = v ∨ J = v + M) ∧ 0 ≤ J ∧ J < M := by
  have hMH : M = 2 * H := by rw [hM, hH, Int.pow_succ]; omega
  have hH0 : 0 < H := by rw [hH]; exact Int.pow_pos (by decide)
  by_cases pa : 0 ≤ a <;> by_cases pb : 0 ≤ b
  · have ea : a % M = a := Int.emod_eq_of_lt pa (by omega)
    have eb : b % M = b := Int.emod_eq_of_lt pb (by omega)
    have h1 := and_le pa pb
    have h2 := or_lt (k := k) pa pb (by omega) (by omega)
    refine ⟨_, _, rfl, rfl, ?_⟩
    rw [ea, eb]
    omega
  · obtain ⟨q, rfl⟩ : ∃ q, b = -q - 1 := ⟨-b - 1, by omega⟩
    have ea : a % M = a := Int.emod_eq_of_lt pa (by omega)
    have eb : (-q - 1) % M = M - 1 - q := by
      rw [← Int.add_emod_right, Int.emod_eq_of_lt (by omega) (by omega)]; omega
    have h0 := and_pn pa (show 0 ≤ q by omega)
    have h1 := and_le pa (show 0 ≤ q by omega)
    have h2 := or_lt (k := k) pa (show 0 ≤ q by omega) (by omega) (by omega)
    have h3 := n1I (k := k + 1) pa (show 0 ≤ q by omega) (by omega) (by omega)
    rw [← hM] at h3
    refine ⟨_, _, rfl, rfl, ?_⟩
    rw [ea, eb, h3, h0]
    omega
  · obtain ⟨p, rfl⟩ : ∃ p, a = -p - 1 := ⟨-a - 1, by omega⟩
    have eb : b % M = b := Int.emod_eq_of_lt pb (by omega)
    have ea : (-p - 1) % M = M - 1 - p := by
      rw [← Int.add_emod_right, Int.emod_eq_of_lt (by omega) (by omega)]; omega
    have h0 := and_pn pb (show 0 ≤ p by omega)
    have h1 := and_le pb (show 0 ≤ p by omega)
    have h2 := or_lt (k := k) pb (show 0 ≤ p by omega) (by omega) (by omega)
    have h3 := n1I (k := k + 1) pb (show 0 ≤ p by omega) (by omega) (by omega)
    rw [← hM] at h3
    refine ⟨_, _, rfl, rfl, ?_⟩
    rw [ea, eb, bitAnd_comm (M - 1 - p) b, h3, bitAnd_comm (-p - 1) b, h0]
    omega
  · obtain ⟨p, rfl⟩ : ∃ p, a = -p - 1 := ⟨-a - 1, by omega⟩
    obtain ⟨q, rfl⟩ : ∃ q, b = -q - 1 := ⟨-b - 1, by omega⟩
    have p0 : 0 ≤ p := by omega
    have q0 : 0 ≤ q := by omega
    have ea : (-p - 1) % M = M - 1 - p := by
      rw [← Int.add_emod_right, Int.emod_eq_of_lt (by omega) (by omega)]; omega
    have eb : (-q - 1) % M = M - 1 - q := by
      rw [← Int.add_emod_right, Int.emod_eq_of_lt (by omega) (by omega)]; omega
    have h0 := @and_nn p q
    have h1 := and_le p0 q0
    have h2 := or_lt (k := k) p0 q0 (by omega) (by omega)
    have h3 := n1I (k := k + 1) (p := M - 1 - p) (q := q) (by omega) q0 (by omega) (by omega)
    have h4 := n1I (k := k + 1) (p := q) (q := p) q0 p0 (by omega) (by omega)
    rw [← hM] at h3 h4
    rw [bitAnd_comm (M - 1 - p) q, h4, bitAnd_comm q p] at h3
    refine ⟨_, _, rfl, rfl, ?_⟩
    rw [ea, eb, h3, h0]
    omega
theorem bits_all {a b bits : Int} (hb : bits = 32 ∨ bits = 64) (ha : inR a bits) (hr : inR b bits) :
    cutF (Builtin.bitAnd (unF a bits) (unF b bits)) bits = Builtin.bitAnd a b ∧ cutF (unF a bits + unF b bits - Builtin.bitAnd (unF a bits) (unF b bits)) bits = Builtin.bitOr a b ∧
    cutF (unF a bits + unF b bits - 2 * Builtin.bitAnd (unF a bits) (unF b bits)) bits = Builtin.bitXor a b := by
  rw [bitOr_and, bitXor_and]
  rcases hb with rfl | rfl
  · have h1 : -(2147483648 : Int) ≤ a ∧ a < 2147483648 := ha
    have h2 : -(2147483648 : Int) ≤ b ∧ b < 2147483648 := hr
    obtain ⟨J, v, e1, e2, h⟩ := bits_and (M := 4294967296) (H := 2147483648) (k := 31) (by decide) (by decide) h1 h2
    rw [un32, un32, e1, e2, cut32, cut32, cut32]
    omega
  · have h1 : -(9223372036854775808 : Int) ≤ a ∧ a < 9223372036854775808 := ha
    have h2 : -(9223372036854775808 : Int) ≤ b ∧ b < 9223372036854775808 := hr
    obtain ⟨J, v, e1, e2, h⟩ := bits_and (M := 18446744073709551616) (H := 9223372036854775808) (k := 63) (by decide) (by decide) h1 h2
    rw [un64, un64, e1, e2, cut64, cut64, cut64]
    omega
end
section
section
variable {op x a y b : Int} {w : Str}
theorem arD (h : op = 91 ∨ op = 92 ∨ op = 93 ∨ op = 94) (hj : 0 < joinF x y) : arF op x a y b = if (dvF op a b (bwF x)).2 = 0 then (some (joinF x y, (dvF op a b (bwF x)).1), 0) else (none, (dvF op a b (bwF x)).2) := by
  have h0 : joinF x y ≠ 0 := by omega
  unfold arF; rw [if_neg (by omega), if_neg h0, if_pos h, joinwl h0]
theorem arC (h : op = 214 ∨ op = 215 ∨ op = 218 ∨ op = 219 ∨ op = 216 ∨ op = 217) (hj : 0 < joinF x y) : arF op x a y b = if (chF op a b (bwF x)).2 = true then (some (joinF x y, (chF op a b (bwF x)).1), 0) else (none, 2) := by
  have h0 : joinF x y ≠ 0 := by omega
  unfold arF; rw [if_neg (by omega), if_neg h0, if_neg (by omega), if_pos h, joinwl h0]
theorem arP (h : op = 88 ∨ op = 89 ∨ op = 90 ∨ op = 95 ∨ op = 96 ∨ op = 97) (hj : 0 < joinF x y) : arF op x a y b = (some (joinF x y, plF op a b (bwF x)), 0) := by
  have h0 : joinF x y ≠ 0 := by omega
  unfold arF; rw [if_neg (by omega), if_neg h0, if_neg (by omega), if_neg (by omega), if_pos h, joinwl h0]
/-- what the law asks, out of its own answer -/
def lawR (k : Int) (p : Int × Int) : Option (Int × Int) × Int := if p.2 = 0 then (some (k, p.1), 0) else (none, p.2)
theorem lawC {n : Int} {c : Bool} {k : Int} : lawR k (if c = true then (n, 0) else (0, 2)) = if c = true then (some (k, n), 0) else (none, 2) := by
  cases c <;> rfl
theorem lawU {p : Int × Int} {b k z : Int} : lawR k (if b = 0 then (z, 1) else p) = lawR k (if b = 0 then (0, 1) else p) := by
  unfold lawR; split <;> rfl
theorem pl_main (hm : (op, w) ∈ opsL) (hs : ([Str.ofString "shl", Str.ofString "shr", Str.ofString "shr_un"].any fun z => z == w) = false) (hj : 0 < joinF x y) (ha : inR a (bwF x)) (hr : inR b (bwF y)) :
    arF op x a y b = lawR (joinF x y) (wF w a b (Builtin.bitAnd (unF a (bwF x)) (unF b (bwF x))) (bwF x)) := by
  have hb := bw_or x
  have hrx : inR b (bwF x) := inr_join hj hr
  have hB := bits_all hb ha hrx
  simp only [opsL, List.mem_cons, Prod.mk.injEq, List.not_mem_nil, or_false] at hm
  rcases hm with ⟨rfl, rfl⟩ | ⟨rfl, rfl⟩ | ⟨rfl, rfl⟩ | ⟨rfl, rfl⟩ | ⟨rfl, rfl⟩ | ⟨rfl, rfl⟩ | ⟨rfl, rfl⟩ | ⟨rfl, rfl⟩ | ⟨rfl, rfl⟩ | ⟨rfl, rfl⟩ | ⟨rfl, rfl⟩ | ⟨rfl, rfl⟩ | ⟨rfl, rfl⟩ | ⟨rfl, rfl⟩ | ⟨rfl, rfl⟩ | ⟨rfl, rfl⟩ | ⟨rfl, rfl⟩ | ⟨rfl, rfl⟩ | ⟨rfl, rfl⟩
  · rw [arP (by decide) hj, w_ex (by decide +kernel) (by decide +kernel) (by decide +kernel) (by decide +kernel) (by decide +kernel) (by decide +kernel) (by decide +kernel) (by decide +kernel) (by decide +kernel), ← ex1 (by decide +kernel)]; rfl
  · rw [arP (by decide) hj, w_ex (by decide +kernel) (by decide +kernel) (by decide +kernel) (by decide +kernel) (by decide +kernel) (by decide +kernel) (by decide +kernel) (by decide +kernel) (by decide +kernel), ← ex2 (by decide +kernel) (by decide +kernel)]; rfl
  · rw [arP (by decide) hj, w_ex (by decide +kernel) (by decide +kernel) (by decide +kernel) (by decide +kernel) (by decide +kernel) (by decide +kernel) (by decide +kernel) (by decide +kernel) (by decide +kernel), ← ex3 (by decide +kernel) (by decide +kernel)]; rfl
  · rw [arD (by decide) hj, w_div (by decide +kernel) (by decide +kernel) (by decide +kernel) (by decide +kernel) (by decide +kernel), dv_sig (by decide +kernel)]; rfl
  · rw [arD (by decide) hj, w_divu (by decide +kernel) (by decide +kernel) (by decide +kernel) (by decide +kernel) (by decide +kernel) (by decide +kernel) (by decide +kernel), dv_uns (by decide +kernel) hb hrx, lawU]
    have e : (if b = 0 then ((0 : Int), (1 : Int)) else divuF a b (bwF x)) = divuF a b (bwF x) := by
      by_cases q : b = 0
      · rw [if_pos q, du0 q]
      · rw [if_neg q]
    rw [e]; rfl
  · rw [arD (by decide) hj, w_rem (by decide +kernel) (by decide +kernel) (by decide +kernel) (by decide +kernel) (by decide +kernel), rm_sig (by decide +kernel)]; rfl
  · rw [arD (by decide) hj, w_remu (by decide +kernel) (by decide +kernel) (by decide +kernel) (by decide +kernel) (by decide +kernel) (by decide +kernel) (by decide +kernel), rm_uns (by decide +kernel) hb hrx, lawU]
    have e : (if b = 0 then ((0 : Int), (1 : Int)) else remuF a b (bwF x)) = remuF a b (bwF x) := by
      by_cases q : b = 0
      · rw [if_pos q, ru0 q]
      · rw [if_neg q]
    rw [e]; rfl
  · rw [arP (by decide) hj, w_and (by decide +kernel) (by decide +kernel), hB.1]; rfl
  · rw [arP (by decide) hj, w_or (by decide +kernel) (by decide +kernel) (by decide +kernel), hB.2.1]; rfl
  · rw [arP (by decide) hj, w_xor (by decide +kernel) (by decide +kernel) (by decide +kernel) (by decide +kernel), hB.2.2]; rfl
  · exact absurd hs (by decide +kernel)
  · exact absurd hs (by decide +kernel)
  · exact absurd hs (by decide +kernel)
  · rw [arC (by decide) hj, w_ck (by decide +kernel) (by decide +kernel) (by decide +kernel) (by decide +kernel) (by decide +kernel) (by decide +kernel) (by decide +kernel) (by decide +kernel) (by decide +kernel), ck_sig (by decide +kernel), ← ex1 (by decide +kernel), lawC]; rfl
  · rw [arC (by decide) hj, w_ck (by decide +kernel) (by decide +kernel) (by decide +kernel) (by decide +kernel) (by decide +kernel) (by decide +kernel) (by decide +kernel) (by decide +kernel) (by decide +kernel), ck_uns (by decide +kernel), ← ex1 (by decide +kernel), lawC]; rfl
  · rw [arC (by decide) hj, w_ck (by decide +kernel) (by decide +kernel) (by decide +kernel) (by decide +kernel) (by decide +kernel) (by decide +kernel) (by decide +kernel) (by decide +kernel) (by decide +kernel), ck_sig (by decide +kernel), ← ex3 (by decide +kernel) (by decide +kernel), lawC]; rfl
  · rw [arC (by decide) hj, w_ck (by decide +kernel) (by decide +kernel) (by decide +kernel) (by decide +kernel) (by decide +kernel) (by decide +kernel) (by decide +kernel) (by decide +kernel) (by decide +kernel), ck_uns (by decide +kernel), ← ex3 (by decide +kernel) (by decide +kernel), lawC]; rfl
  · rw [arC (by decide) hj, w_ck (by decide +kernel) (by decide +kernel) (by decide +kernel) (by decide +kernel) (by decide +kernel) (by decide +kernel) (by decide +kernel) (by decide +kernel) (by decide +kernel), ck_sig (by decide +kernel), ← ex2 (by decide +kernel) (by decide +kernel), lawC]; rfl
  · rw [arC (by decide) hj, w_ck (by decide +kernel) (by decide +kernel) (by decide +kernel) (by decide +kernel) (by decide +kernel) (by decide +kernel) (by decide +kernel) (by decide +kernel) (by decide +kernel), ck_uns (by decide +kernel), ← ex2 (by decide +kernel) (by decide +kernel), lawC]; rfl
theorem pl_shift (hm : (op, w) ∈ opsL) (hs : ([Str.ofString "shl", Str.ofString "shr", Str.ofString "shr_un"].any fun z => z == w) = true) {J : Int} :
    (op = 98 ∨ op = 99 ∨ op = 100) ∧ wF w a b J (bwF x) = (shF op a b (bwF x), 0) := by
  have hb := bw_or x
  simp only [opsL, List.mem_cons, Prod.mk.injEq, List.not_mem_nil, or_false] at hm
  rcases hm with ⟨rfl, rfl⟩ | ⟨rfl, rfl⟩ | ⟨rfl, rfl⟩ | ⟨rfl, rfl⟩ | ⟨rfl, rfl⟩ | ⟨rfl, rfl⟩ | ⟨rfl, rfl⟩ | ⟨rfl, rfl⟩ | ⟨rfl, rfl⟩ | ⟨rfl, rfl⟩ | ⟨rfl, rfl⟩ | ⟨rfl, rfl⟩ | ⟨rfl, rfl⟩ | ⟨rfl, rfl⟩ | ⟨rfl, rfl⟩ | ⟨rfl, rfl⟩ | ⟨rfl, rfl⟩ | ⟨rfl, rfl⟩ | ⟨rfl, rfl⟩
  all_goals first
    | exact absurd hs (by decide +kernel)
    | (refine ⟨by decide, ?_⟩; rw [w0 hs]; first
        | (rw [← ls1 (by decide +kernel), pmod hb]; rfl)
        | (rw [← ls2 (by decide +kernel) (by decide +kernel), pmod hb]; rfl)
        | (rw [← ls3 (by decide +kernel) (by decide +kernel), pmod hb]; rfl))
end
section
variable {op x a y b J : Int} {w : Str}
theorem join0 (hx : 1 ≤ x) (h : ¬ 0 < joinF x y) : joinF x y = 0 := by
  unfold joinF at *
  split at h
  · omega
  · rename_i h1
    rw [if_neg h1]
    split at h <;> omega
theorem op_ns (hm : (op, w) ∈ opsL) (hs : ([Str.ofString "shl", Str.ofString "shr", Str.ofString "shr_un"].any fun z => z == w) = false) : op ≠ 98 ∧ op ≠ 99 ∧ op ≠ 100 := by
  have h : ∀ p ∈ opsL, ([Str.ofString "shl", Str.ofString "shr", Str.ofString "shr_un"].any fun z => z == p.2) = false → p.1 ≠ 98 ∧ p.1 ≠ 99 ∧ p.1 ≠ 100 := by decide +kernel
  exact h _ hm hs
theorem want_nJ (hx : 1 ≤ x) (hm : (op, w) ∈ opsL) (hs : ([Str.ofString "shl", Str.ofString "shr", Str.ofString "shr_un"].any fun z => z == w) = false) (hj : ¬ 0 < joinF x y) : (none, 3) = arF op x a y b := by
  obtain ⟨h1, h2, h3⟩ := op_ns hm hs
  exact aJ h1 h2 h3 (join0 hx hj)
theorem want_fJ (hm : (op, w) ∈ opsL) (hs : ([Str.ofString "shl", Str.ofString "shr", Str.ofString "shr_un"].any fun z => z == w) = false) (hj : 0 < joinF x y) (ha : inR a (bwF x)) (hr : inR b (bwF y))
    (h : (wF w a b (Builtin.bitAnd (unF a (bwF x)) (unF b (bwF x))) (bwF x)).2 ≠ 0) : (none, (wF w a b (Builtin.bitAnd (unF a (bwF x)) (unF b (bwF x))) (bwF x)).2) = arF op x a y b := by
  rw [pl_main hm hs hj ha hr]; unfold lawR; rw [if_neg h]
theorem want_sJ (hm : (op, w) ∈ opsL) (hs : ([Str.ofString "shl", Str.ofString "shr", Str.ofString "shr_un"].any fun z => z == w) = false) (hj : 0 < joinF x y) (ha : inR a (bwF x)) (hr : inR b (bwF y))
    (h : (wF w a b (Builtin.bitAnd (unF a (bwF x)) (unF b (bwF x))) (bwF x)).2 = 0) : (some (joinF x y, (wF w a b (Builtin.bitAnd (unF a (bwF x)) (unF b (bwF x))) (bwF x)).1), 0) = arF op x a y b := by
  rw [pl_main hm hs hj ha hr]; unfold lawR; rw [if_pos h]
theorem want_nS (hm : (op, w) ∈ opsL) (hs : ([Str.ofString "shl", Str.ofString "shr", Str.ofString "shr_un"].any fun z => z == w) = true) (h : ¬ x ≤ 3 ∨ (y ≠ 1 ∧ y ≠ 3)) : (none, 3) = arF op x a y b := by
  rw [← aS (pl_shift (x := x) (a := a) (b := b) (J := 0) hm hs).1]
  rcases h with h | h
  · exact sA0 (by cases q : numF x with | false => rfl | true => rw [num_iff] at q; omega)
  · exact sA1 h.1 h.2
theorem want_sS (hm : (op, w) ∈ opsL) (hs : ([Str.ofString "shl", Str.ofString "shr", Str.ofString "shr_un"].any fun z => z == w) = true) (hx : 1 ≤ x) (h3 : x ≤ 3) (hy : y = 1 ∨ y = 3) : (some (x, (wF w a b J (bwF x)).1), 0) = arF op x a y b := by
  obtain ⟨h1, h2⟩ := pl_shift (x := x) (a := a) (b := b) (J := J) hm hs
  rw [← aS h1, h2]
  exact sA2 (num_iff.mpr ⟨hx, h3⟩) hy rfl
theorem want_fS (hm : (op, w) ∈ opsL) (hs : ([Str.ofString "shl", Str.ofString "shr", Str.ofString "shr_un"].any fun z => z == w) = true) (h : (wF w a b J (bwF x)).2 ≠ 0) {P : Prop} : P := by
  rw [(pl_shift (x := x) (a := a) (b := b) (J := J) hm hs).2] at h
  exact absurd rfl h
end
section
variable {x a b bits op : Int}
theorem uw0 (h : ¬ x ≤ 3) : (none, 3) = unA op x a := uA0 (by cases q : numF x with | false => rfl | true => rw [num_iff] at q; omega)
theorem uw1 (h1 : 1 ≤ x) (h : x ≤ 3) : (some (x, cutF (-a) (bwF x)), 0) = unA 101 x a := uA1 (num_iff.mpr ⟨h1, h⟩) rfl
theorem uw2 (h1 : 1 ≤ x) (h : x ≤ 3) (ha : inR a (bwF x)) : (some (x, -1 - a), 0) = unA 102 x a := by
  rw [← uA2 (num_iff.mpr ⟨h1, h⟩) (by decide) rfl]
  have e : cutF (-a - 1) (bwF x) = -1 - a := by
    rcases bw_or x with e | e <;> rw [e] at ha ⊢
    · have h1 : -(2147483648 : Int) ≤ a := ha.1
      have h2 : a < (2147483648 : Int) := ha.2
      rw [cut32]; omega
    · have h1 : -(9223372036854775808 : Int) ≤ a := ha.1
      have h2 : a < (9223372036854775808 : Int) := ha.2
      rw [cut64]; omega
  rw [e]
theorem uw3 : (none, 3) = unA 88 x a := by
  cases h : numF x with
  | false => exact uA0 h
  | true => exact uA3 h (by decide) (by decide)
theorem ord_lt (hb : bits = 32 ∨ bits = 64) (ha : inR a bits) (hr : inR b bits) : (if unF a 64 < unF b 64 then (-1 : Int) else if unF a 64 > unF b 64 then 1 else 0) = (if unF a bits < unF b bits then -1 else if unF a bits > unF b bits then 1 else 0) := by
  rcases hb with rfl | rfl
  · have h1 : -(2147483648 : Int) ≤ a := ha.1
    have h2 : a < (2147483648 : Int) := ha.2
    have h3 : -(2147483648 : Int) ≤ b := hr.1
    have h4 : b < (2147483648 : Int) := hr.2
    rw [un64, un64, un32, un32]
    by_cases q : a % 4294967296 < b % 4294967296
    · rw [if_pos q, if_pos (by omega)]
    · by_cases q2 : a % 4294967296 > b % 4294967296
      · rw [if_neg q, if_pos q2, if_neg (by omega), if_pos (by omega)]
      · rw [if_neg q, if_neg q2, if_neg (by omega), if_neg (by omega)]
  · rfl
end
end
section
def MidI (h₀ : Heap) (L : Addr) (m : Str → Option Value) (news : Led) (s : Shared) (nm : Str) (v : Int) (f : Flow) (s' : Shared) : Prop :=
  f = .next ∧ ∃ t h tk, s' = { s with heap := h, toks := tk } ∧ Fr h₀ L h (fun y => if y = nm then some (.int v t) else m y) ∧ News h₀ L h news
section
variable {M : Model} {A : Around} {E : Value → Shared → Prop} {s : Shared} {h₀ h : Heap} {L : Addr} {m : Str → Option Value} {news : Led} {Q : Flow → Shared → Prop} {st : Stmt} {env : Env} {nm : Str} {v v' : Int} {t : Tok} {tk : Nat}
theorem join_int (nm : Str) (v : Int) (_F : Fr h₀ L s.heap m) (_N : News h₀ L s.heap news) (h1 : wpAny M A (exec st env) (MidI h₀ L m news s nm v) E s)
    (h2 : ∀ t h tk, Fr h₀ L h (fun y => if y = nm then some (.int v t) else m y) → News h₀ L h news → Q .next { s with heap := h, toks := tk }) : wpAny M A (exec st env) Q E s :=
  wpAny_mono h1 (fun f s' h => by obtain ⟨rfl, t, h, tk, rfl, F, N⟩ := h; exact h2 t h tk F N) fun _ _ e => e
theorem mid1 (F : Fr h₀ L h (fun y => if y = nm then some (.int v' t) else m y)) (N : News h₀ L h news) (e : v' = v) : MidI h₀ L m news s nm v .next { s with heap := h, toks := tk } := by
  subst e; exact ⟨rfl, t, h, tk, rfl, F, N⟩
theorem mid0 (F : Fr h₀ L h m) (N : News h₀ L h news) (hm : m nm = some (.int v' t)) (e : v' = v) : MidI h₀ L m news s nm v .next { s with heap := h, toks := tk } := by
  subst e
  have q : (fun y => if y = nm then some (.int v' t) else m y) = m := funext fun y => by
    by_cases h : y = nm
    · rw [if_pos h, h, hm]
    · rw [if_neg h]
  exact ⟨rfl, t, h, tk, rfl, by rw [q]; exact F, N⟩
end
def jnF (a b x y : Int) : Int := if 0 < joinF x y then Builtin.bitAnd (unF a (bwF x)) (unF b (bwF x)) else 0
section
variable {op x a y b : Int} {w : Str}
theorem sh1 (h : x ≤ 3) (h' : y = 1) : x = shT x y := by unfold shT; rw [if_pos ⟨h, .inl h'⟩]
theorem sh2 (h : x ≤ 3) (h' : y = 3) : x = shT x y := by unfold shT; rw [if_pos ⟨h, .inr h'⟩]
theorem sh3 (h : ¬ x ≤ 3) : 0 = shT x y := by unfold shT; rw [if_neg (fun q => h q.1)]
theorem sh4 (h : y ≠ 1) (h' : y ≠ 3) : 0 = shT x y := by unfold shT; rw [if_neg (fun q => by omega)]
theorem jn1 (h : 0 < joinF x y) : Builtin.bitAnd (unF a (bwF x)) (unF b (bwF x)) = jnF a b x y := by unfold jnF; rw [if_pos h]
theorem jn2 (h : ¬ 0 < joinF x y) : 0 = jnF a b x y := by unfold jnF; rw [if_neg h]
theorem kp1 (h : ([Str.ofString "shl", Str.ofString "shr", Str.ofString "shr_un"].any fun z => z == w) = true) : shT x y = kpF w x y := by unfold kpF inS; rw [if_pos h]
theorem kp2 (h : ([Str.ofString "shl", Str.ofString "shr", Str.ofString "shr_un"].any fun z => z == w) = false) : joinF x y = kpF w x y := by unfold kpF inS; rw [if_neg (by rw [h]; exact Bool.false_ne_true)]
theorem jn_ok : PySem.IntMulOk 2 (jnF a b x y) := by
  unfold jnF; split
  · exact joint_ok (bw_or x)
  · exact mul_ok (by decide) (by decide)
theorem sh_pos (h : 0 < shT x y) : x ≤ 3 ∧ (y = 1 ∨ y = 3) ∧ shT x y = x := by
  unfold shT at *; split at h
  · rename_i q; rw [if_pos q]; exact ⟨q.1, q.2, rfl⟩
  · omega
theorem inr_kp (h : 0 < kpF w x y) (hr : inR b (bwF y)) : inR b (bwF x) := by
  unfold kpF at h; split at h
  · exact inr_y (sh_pos h).2.1 hr
  · exact inr_join h hr
theorem kpN (hx : 1 ≤ x) (hm : (op, w) ∈ opsL) (h : ¬ 0 < kpF w x y) : (none, 3) = arF op x a y b := by
  cases hs : ([Str.ofString "shl", Str.ofString "shr", Str.ofString "shr_un"].any fun z => z == w) with
  | true =>
    rw [← kp1 hs] at h
    refine want_nS hm hs ?_
    unfold shT at h
    split at h
    · omega
    · omega
  | false =>
    rw [← kp2 hs] at h
    exact want_nJ hx hm hs h
theorem kpFa (hm : (op, w) ∈ opsL) (ha : inR a (bwF x)) (hr : inR b (bwF y)) (h : 0 < kpF w x y) (hf : (wF w a b (jnF a b x y) (bwF x)).2 ≠ 0) : (none, (wF w a b (jnF a b x y) (bwF x)).2) = arF op x a y b := by
  cases hs : ([Str.ofString "shl", Str.ofString "shr", Str.ofString "shr_un"].any fun z => z == w) with
  | true => exact want_fS hm hs hf
  | false =>
    rw [← kp2 hs] at h
    rw [← jn1 h] at hf ⊢
    exact want_fJ hm hs h ha hr hf
theorem kpS (hx : 1 ≤ x) (hm : (op, w) ∈ opsL) (ha : inR a (bwF x)) (hr : inR b (bwF y)) (h : 0 < kpF w x y) (hf : (wF w a b (jnF a b x y) (bwF x)).2 = 0) : (some (kpF w x y, (wF w a b (jnF a b x y) (bwF x)).1), 0) = arF op x a y b := by
  cases hs : ([Str.ofString "shl", Str.ofString "shr", Str.ofString "shr_un"].any fun z => z == w) with
  | true =>
    rw [← kp1 hs] at h ⊢
    obtain ⟨h1, h2, h3⟩ := sh_pos h
    rw [h3]
    exact want_sS hm hs hx h1 h2
  | false =>
    rw [← kp2 hs] at h ⊢
    rw [← jn1 h] at hf ⊢
    exact want_sJ hm hs h ha hr hf
end
/-- the letters of the call, kept at hand -/
structure JV (a b x y : Int) : Prop where
section
variable {M : Model} {A : Around} {E : Value → Shared → Prop} {s : Shared} {h₀ : Heap} {L : Addr} {m : Str → Option Value} {news : Led} {Q : Flow → Shared → Prop} {st : Stmt} {env : Env} {a b x y op : Int} {w : Str}
def MidDone (h₀ : Heap) (L : Addr) (m : Str → Option Value) (news : Led) (s : Shared) (nm : Str) (v : Int) (Q : Flow → Shared → Prop) : Prop :=
  ∀ t h tk, Fr h₀ L h (fun y => if y = nm then some (.int v t) else m y) → News h₀ L h news → Q .next { s with heap := h, toks := tk }
theorem join_shift (_ : JV a b x y) (F : Fr h₀ L s.heap m) (N : News h₀ L s.heap news) (h1 : wpAny M A (exec st env) (MidI h₀ L m news s (Str.ofString "shift_tag") (shT x y)) E s) (h2 : MidDone h₀ L m news s (Str.ofString "shift_tag") (shT x y) Q) : wpAny M A (exec st env) Q E s := join_int _ _ F N h1 h2
theorem join_joint (_ : JV a b x y) (F : Fr h₀ L s.heap m) (N : News h₀ L s.heap news) (h1 : wpAny M A (exec st env) (MidI h₀ L m news s (Str.ofString "joint") (jnF a b x y)) E s) (h2 : MidDone h₀ L m news s (Str.ofString "joint") (jnF a b x y) Q) : wpAny M A (exec st env) Q E s := join_int _ _ F N h1 h2
theorem join_kept (_ : JV a b x y) (_ : (op, w) ∈ opsL) (F : Fr h₀ L s.heap m) (N : News h₀ L s.heap news) (h1 : wpAny M A (exec st env) (MidI h₀ L m news s (Str.ofString "kept") (kpF w x y)) E s) (h2 : MidDone h₀ L m news s (Str.ofString "kept") (kpF w x y) Q) : wpAny M A (exec st env) Q E s := join_int _ _ F N h1 h2
end
theorem turn_end {h₀ h : Heap} {L I : Addr} {o : Obj} {news led : Led} {m₀ m' : Str → Option Value} {Q : Flow → Shared → Prop} {s : Shared} {tk : Nat} (F : Fr h₀ L h m') (N : News h₀ L h led) (hI : (I, o) ∈ led) (hs : ∀ p ∈ news, p ∈ led) (hj : Jb m₀ m') :
    TurnPost h₀ L I o news (Jb m₀) Q s .next { s with heap := h, toks := tk } :=
  ⟨h, tk, m', rfl, F, fun p hp => by
    rcases List.mem_cons.mp hp with rfl | hp
    · exact N _ hI
    · exact N _ (hs p hp), hj⟩
theorem oth {op x a y b : Int} (h : op = 101 ∨ op = 102 ∨ op = 103 ∨ op = 37 ∨ op = 40 ∨ op = 211 ∨ op = 65025 ∨ op = 186) : (none, 3) = arF op x a y b := by
  unfold arF
  rw [if_neg (by omega)]
  split
  · rfl
  · rw [if_neg (by omega), if_neg (by omega), if_neg (by omega)]
theorem oth_at {i : Nat} {d x a y b : Int} (hd : d = 101 ∨ d = 0) : (none, 3) = arF (([101, 102, 103, 37, 40, 211, 65025, 186] : List Int).getD i d) x a y b := by
  rcases i with _ | _ | _ | _ | _ | _ | _ | _ | i
  · exact oth (.inl rfl)
  · exact oth (.inr (.inl rfl))
  · exact oth (.inr (.inr (.inl rfl)))
  · exact oth (.inr (.inr (.inr (.inl rfl))))
  · exact oth (.inr (.inr (.inr (.inr (.inl rfl)))))
  · exact oth (.inr (.inr (.inr (.inr (.inr (.inl rfl))))))
  · exact oth (.inr (.inr (.inr (.inr (.inr (.inr (.inl rfl)))))))
  · exact oth (.inr (.inr (.inr (.inr (.inr (.inr (.inr rfl)))))))
  · show (none, 3) = arF d x a y b
    rcases hd with rfl | rfl
    · exact oth (.inl rfl)
    · unfold arF
      rw [if_neg (by omega)]
      split
      · rfl
      · rw [if_neg (by omega), if_neg (by omega), if_neg (by omega)]
theorem inr_jne {x y n : Int} (h : joinF x y ≠ 0) (hr : inR n (bwF y)) : inR n (bwF x) := by
  rw [← joinwl h, joinwr h]; exact hr
end
section
open PySem.Calls
section
variable {prog : Program} {w : World} {A : Around} {E : Value → Shared → Prop} {s : Shared} {env : Env} {h₀ : Heap} {x : Str} {body : List Stmt} {Q : Flow → Shared → Prop}
/-- the three names that a turn of the law's outer loop stores -/
def mR (m₀ : Str → Option Value) (o1 o2 o3 : Option Value) : Str → Option Value := fun y =>
  if y = Str.ofString "p" then o1 else if y = Str.ofString "row" then o2 else if y = Str.ofString "j" then o3 else m₀ y
def Jr (m₀ m : Str → Option Value) : Prop := ∃ o1 o2 o3, m = mR m₀ o1 o2 o3
theorem Jr_of {m₀ m : Str → Option Value} (h : ∀ y, y ≠ Str.ofString "p" → y ≠ Str.ofString "row" → y ≠ Str.ofString "j" → m y = m₀ y) : Jr m₀ m := by
  refine ⟨m (Str.ofString "p"), m (Str.ofString "row"), m (Str.ofString "j"), funext fun y => ?_⟩
  unfold mR
  by_cases h1 : y = Str.ofString "p"
  · rw [if_pos h1, h1]
  rw [if_neg h1]
  by_cases h2 : y = Str.ofString "row"
  · rw [if_pos h2, h2]
  rw [if_neg h2]
  by_cases h3 : y = Str.ofString "j"
  · rw [if_pos h3, h3]
  rw [if_neg h3]
  exact h y h1 h2 h3
def StepR (prog : Program) (w : World) (A : Around) (E : Value → Shared → Prop) (s : Shared) (env : Env) (h₀ : Heap) (x : Str) (body : List Stmt) (Q : Flow → Shared → Prop) (m₀ : Str → Option Value) (news : Led) (n : Nat) : Prop :=
  ∀ (I : Addr) (k : Int) (t : Tok) (o1 o2 o3 : Option Value) (h : Heap) (tk : Nat) (it : Obj), 0 ≤ k → k < n → (∀ p ∈ news, p.1 < I) → it.cls = .type "range_iterator" → Fr h₀ env.locals h (fun y => if y = x then some (.int k t) else mR m₀ o1 o2 o3 y) → News h₀ env.locals h ((I, it) :: news) →
      wpAny (model prog w) A (execs body env) (TurnPost h₀ env.locals I it news (Jr m₀) Q { s with heap := h, toks := tk }) E { s with heap := h, toks := tk }
def DoneR (s : Shared) (env : Env) (h₀ : Heap) (Q : Flow → Shared → Prop) (m₀ : Str → Option Value) (news : Led) : Prop :=
  ∀ (o1 o2 o3 : Option Value) (h : Heap) (tk : Nat), Fr h₀ env.locals h (mR m₀ o1 o2 o3) → News h₀ env.locals h news → Q .next { s with heap := h, toks := tk }
theorem rest_inv {news : Led} {I : Addr} {m₀ : Str → Option Value} {n : Nat} (hI : ∀ p ∈ news, p.1 < I)
    (step : StepR prog w A E s env h₀ x body Q m₀ news n) (done : DoneR s env h₀ Q m₀ news) :
    ∀ (k i : Nat), i + k = n → ∀ m, Jr m₀ m → RangeRest prog w A E h₀ env x body Q s I 0 n k i m news := by
  intro k
  induction k with
  | zero =>
    intro i _ m hJ
    obtain ⟨o1, o2, o3, rfl⟩ := hJ
    exact RangeRest.zero fun h tk F N => done o1 o2 o3 h tk F N
  | succ k ih =>
    intro i hi m hJ
    obtain ⟨o1, o2, o3, rfl⟩ := hJ
    refine RangeRest.succ fun t h tk F N => ?_
    refine wpAny_mono (step I _ t o1 o2 o3 h tk _ (by omega) (by omega) hI rfl F N) (fun f s₃ p => ?_) fun _ _ e => e
    have fin : TurnEnd h₀ env.locals I (itR (0 + ((i + 1 : Nat) : Int)) ((n : Int) - ((i + 1 : Nat) : Int))) news (Jr m₀) { s with heap := h, toks := tk } s₃ →
        UnrEnd h₀ env.locals { s with heap := h, toks := tk } I (itR (0 + ((i + 1 : Nat) : Int)) ((n : Int) - ((i + 1 : Nat) : Int))) (RangeRest prog w A E h₀ env x body Q s I 0 n k (i + 1)) s₃ := by
      rintro ⟨h', tk', m', e, F', N', hJ'⟩
      exact ⟨h', tk', m', news, e, F', N', fun p hp => Nat.ne_of_lt (hI p hp), ih (i + 1) (by omega) m' hJ'⟩
    cases f with
    | ret v => exact p
    | brk => exact p
    | next => exact fin p
    | cont => exact fin p
theorem iter_rng {r : Addr} {b₀ : Int} {t₀ u₀ v₀ : Tok} {m₀ : Str → Option Value} {news : Led}
    (hh : A.handled = none) (hr : IsRange s.heap r 0 b₀ 1 t₀ u₀ v₀) (hb : 0 ≤ b₀ ∧ b₀ ≤ 5) (F : Fr h₀ env.locals s.heap m₀) (N : News h₀ env.locals s.heap news)
    (step : StepR prog w A E s env h₀ x body Q m₀ news b₀.toNat) (done : DoneR s env h₀ Q m₀ news) :
    wpAny (model prog w) A (pyIter (.ref r)) (fun it s₂ => LoopAtV prog w A h₀ env x body Q E it s₂) E s := by
  have hc : b₀ = 0 ∨ b₀ = 1 ∨ b₀ = 2 ∨ b₀ = 3 ∨ b₀ = 4 ∨ b₀ = 5 := by omega
  refine iter_rangeUnr (n := b₀.toNat) hh hr ?_ ?_ F N fun I hI => rest_inv hI step done _ _ (by omega) m₀ (Jr_of fun _ _ _ _ => rfl)
  · rcases hc with rfl | rfl | rfl | rfl | rfl | rfl <;> decide
  · rcases hc with rfl | rfl | rfl | rfl | rfl | rfl <;> decide
end
theorem turn_endR {h₀ h : Heap} {L I : Addr} {o : Obj} {news led : Led} {m₀ m' : Str → Option Value} {Q : Flow → Shared → Prop} {s : Shared} {tk : Nat} (F : Fr h₀ L h m') (N : News h₀ L h led) (hI : (I, o) ∈ led) (hs : ∀ p ∈ news, p ∈ led) (hj : Jr m₀ m') :
    TurnPost h₀ L I o news (Jr m₀) Q s .next { s with heap := h, toks := tk } :=
  ⟨h, tk, m', rfl, F, fun p hp => by
    rcases List.mem_cons.mp hp with rfl | hp
    · exact N _ hI
    · exact N _ (hs p hp), hj⟩
end
local macro_rules | `(tactic| walk_at "mine enter") => `(tactic| (
  unfold Ctr
  intro dp un gd cn cs a ccd cl outer A₀ base h₀ L m s Q E B F X N T hk hd hu hret
  refine wpAny_call ?_
  k_dflt cell_enter))
local macro_rules | `(tactic| walk_at "mine sub") => `(tactic| (intro p hp; (repeat (first | exact hp | refine List.mem_append_right _ ?_ | refine List.Mem.tail _ ?_)); done))
local macro_rules | `(tactic| walk_at "mine end") => `(tactic| first
  | ((rename RetI _ _ _ _ _ _ _ => hR); (refine' end_I hR ?F ?N ?S ?e); (case F => k_asm); (case N => k_asm); (case S => walk_at "mine sub"))
  | ((rename RetB _ _ _ _ _ _ _ => hR); (refine' end_B hR ?F ?N ?S ?e); (case F => k_asm); (case N => k_asm); (case S => walk_at "mine sub"))
  | ((rename RetP _ _ _ _ _ _ _ _ => hR); (refine' end_P _ _ hR ?F ?N ?M ?S ?e1 ?e2); (case F => k_asm); (case N => k_asm); (case M => k_mem); (case S => walk_at "mine sub"); (all_goals (first | refine vi ?_ | refine vb ?_ | skip)))
  | fail "mine end")
local macro_rules | `(tactic| walk_at "binaryOp FloorDiv int int") => `(tactic| (k_here; (with_reducible refine floordiv_int ?e ?_ (Or.inl (PyProof.noPylong_of_log2 ?p))); (case e => first | with_reducible assumption | exact un_ne (by assumption) (by assumption) (by assumption)); (case p => with_reducible assumption)))
local macro_rules | `(tactic| walk_at "binaryOp Mod int int") => `(tactic| (k_here; (with_reducible refine mod_int' ?e ?_); (case e => first | with_reducible assumption | exact un_ne (by assumption) (by assumption) (by assumption))))
local macro_rules | `(tactic| walk_at "binaryOp Mult int int") => `(tactic| (k_here; (with_reducible refine mul_int ?_ ?p); (case p => with_reducible assumption)))
local macro_rules | `(tactic| walk_at "binaryOp LShift int int") => `(tactic| (k_here; (with_reducible refine lshift_int_small ?e ?f ?g ?_); (case e => with_reducible assumption); (case f => with_reducible assumption); (case g => with_reducible assumption)))
local macro_rules | `(tactic| walk_at "binaryOp RShift int int") => `(tactic| (k_here; (with_reducible refine rshift_int ?e ?_); (case e => with_reducible assumption)))
local macro_rules | `(tactic| walk_at "mine ask") => `(tactic| (
  (case k1 => first | k_asm | fail "ask: the frames below")
  (case k2 => first | k_asm | fail "ask: the frame")
  (case k3 => first | k_asm | fail "ask: the written part")
  (case k4 => first | k_asm | fail "ask: the ledger")
  (case k5 => first | k_asm | fail "ask: the top")
  (case k6 => first | exact rfl | assumption | fail "ask: the caller")
  (case k7 => first | ktr_room | fail "ask: room")
  (case k8 => first | ktr_units | fail "ask: units")))
local macro_rules | `(tactic| walk_at "mine prem") => `(tactic| first | assumption | omega)
local macro_rules | `(tactic| walk_at "eval Call") => `(tactic| (k_here; (with_reducible show wpAny _ _ (eval (Expr.Call (Expr.Name _ _) _ [] _) _) _ _ _); k_dflt (refine Call_ ?_)))
local macro_rules | `(tactic| k_mem) => `(tactic| ((show (_ : Addr × Obj) ∈ (_ : List (Addr × Obj))); first | with_reducible assumption | (with_reducible refine List.mem_append_right _ ?_; k_mem) | (with_reducible refine List.mem_append_left _ ?_; k_mem)))
local macro_rules | `(tactic| walk_at "subscriptTail") => `(tactic| (k_here; (with_reducible show wpAny _ _ (subscriptTail _ _ (Value.ref _) (Value.int 0 _)) _ _ _); k_dflt (refine' my_item0 ?N ?M ?X ?_; (case N => k_asm); (case M => k_mem); (case X => assumption))))
local macro_rules | `(tactic| walk_at "subscriptTail") => `(tactic| (k_here; (with_reducible show wpAny _ _ (subscriptTail _ _ (Value.ref _) (Value.int 1 _)) _ _ _); k_dflt (refine' my_item1 ?N ?M ?X ?_; (case N => k_asm); (case M => k_mem); (case X => first | assumption | walk_at "mine one"))))
local macro_rules | `(tactic| walk_at "mine num") => `(tactic| first | assumption | exact num1 (by assumption) | exact num3 (by assumption) | exact joinl (by assumption) | exact joinr (by assumption) | fail "mine num")
local macro_rules | `(tactic| walk_at "mine one") => `(tactic| (refine one_use (P := numF _ = true) (by assumption) ?_; walk_at "mine num"))
local macro_rules | `(tactic| walk_at "mine prem") => `(tactic| first | exact bw_or _ | exact join_inl (by assumption) (by assumption) | exact join_inr (by assumption) (by assumption))
local macro_rules | `(tactic| walk_at "mine ifs") => `(tactic| ((try unfold dvF); (try unfold chF); (try unfold plF); (try unfold shF); (repeat' split) <;> first | rfl | contradiction | omega))
local macro_rules | `(tactic| walk_at "mine end") => `(tactic| 
  ((rename RetA _ _ _ _ _ _ _ => hR); (first
    | refine' end_A hR ?F ?N ?S (res_none ?M) ?e; (case F => k_asm); (case N => k_asm); (case S => walk_at "mine sub"); (case M => k_mem)
    | refine' end_A hR ?F ?N ?S (res_some ?M ?M2) ?e; (case F => k_asm); (case N => k_asm); (case S => walk_at "mine sub"); (case M => k_mem); (case M2 => k_mem)
    | refine' end_A hR ?F ?N ?S ?R ?e; (case F => k_asm); (case N => k_asm); (case R => assumption); (case S => walk_at "mine sub"))))
local macro_rules | `(tactic| walk_at "mine prem") => `(tactic| ((with_reducible show (_ : Option Value) = _); with_unfolding_all exact rfl))
local macro_rules | `(tactic| walk_at "mine prem") => `(tactic| ((with_reducible show inR _ _); first | exact inr_join (by with_reducible assumption) (by with_reducible assumption) | exact inr_y (.inl (by with_reducible assumption)) (by with_reducible assumption) | exact inr_y (.inr (by with_reducible assumption)) (by with_reducible assumption)))
local macro_rules | `(tactic| walk_at "mine prem") => `(tactic| ((with_reducible show PySem.IntMulOk 2 _); first | exact joint_ok (bw_or _) | exact mul_ok (by decide) (by decide)))
local macro_rules | `(tactic| walk_at "mine end") => `(tactic| ((rename RetN _ _ _ _ _ _ _ => hR); (refine' end_N hR ?F ?N ?S ?e); (case F => k_asm); (case N => k_asm); (case S => walk_at "mine sub")))
local macro_rules | `(tactic| walk_at "mine end") => `(tactic| ((rename RetV _ _ _ _ _ _ _ _ => hR); (refine' end_V hR ?F ?N ?S ?M ?e0 ?e1); (case F => k_asm); (case N => k_asm); (case S => walk_at "mine sub"); (case M => k_mem)))
local macro_rules | `(tactic| walk_at "mine end") => `(tactic| ((rename RetT _ _ _ _ _ _ => hR); first
  | (refine' end_T1 hR ?F ?N ?S ?M ?e0 ?e1; (case F => k_asm); (case N => k_asm); (case S => walk_at "mine sub"); (case M => k_mem))
  | (refine' end_T2 hR ?F ?N ?S ?M ?e0 ?e1; (case F => k_asm); (case N => k_asm); (case S => walk_at "mine sub"); (case M => exact tupK (by k_in) (by k_is)))))
local macro_rules | `(tactic| walk_at "compareOp In str ref") => `(tactic| (k_here; (with_reducible show wpAny _ _ (compareOp CmpOp.In (Value.str _ _) (Value.ref _)) _ _ _); k_dflt (refine' in_tuple_strs (tupK ?k1 ?k2) ?k3 ?_; (case k1 => k_in); (case k2 => k_is); (case k3 => kde_strs))))
theorem c_wrap (w mean mg mb news) (n bits : Int) (tn tb : Tok) (hb : bits = 32 ∨ bits = 64) : Ctr w mean mg mb 2 21 [.int n tn, .int bits tb] news (RetI (cutF n bits) news) := by
  walk_at "mine enter"
  k_steps
  all_goals walk_at "mine end"
  · exact wrap_hi hb (by assumption)
  · exact wrap_lo hb (by assumption)
local macro_rules | `(tactic| walk_at "call ref") => `(tactic| k_extra "mine call")
theorem c_unsigned (w mean mg mb news) (n bits : Int) (tn tb : Tok) (hb : bits = 32 ∨ bits = 64) : Ctr w mean mg mb 2 28 [.int n tn, .int bits tb] news (RetI (unF n bits) news) := by
  (k_with "mine call" => (k_here; (with_reducible show wpAny _ _ (call (Value.ref 21) _) _ _ _); k_dflt (refine' ctr_use (c_wrap _ _ _ _ _ _ _ _ _ ?p0) ?k1 ?k2 ?k3 ?k4 ?k5 ?k6 ?k7 ?k8 ?_; walk_at "mine ask"; (case p0 => first | with_reducible assumption | walk_at "mine prem"); intro t9 h9 tk9 F9 N9; (try dsimp only); (try k_fold))))
  walk_at "mine enter"
  k_steps
  all_goals walk_at "mine end"
  exact un_eq hb
theorem c_quotient (w mean mg mb news) (a b : Int) (ta tb : Tok) (hb : b ≠ 0) (hb2 : b.natAbs < 18446744073709551616) : Ctr w mean mg mb 2 91 [.int a ta, .int b tb] news (RetI (a.tdiv b) news) := by
  (k_with "mine call" => (k_here; (with_reducible show wpAny _ _ (call (Value.ref 28) _) _ _ _); k_dflt (refine' ctr_use (c_unsigned _ _ _ _ _ _ _ _ _ ?p0) ?k1 ?k2 ?k3 ?k4 ?k5 ?k6 ?k7 ?k8 ?_; walk_at "mine ask"; (case p0 => first | with_reducible assumption | walk_at "mine prem"); intro t9 h9 tk9 F9 N9; (try dsimp only); (try k_fold))))
  have hb' := abs_ne hb
  have hb3 := abs_log hb2
  walk_at "mine enter"
  k_steps
  all_goals walk_at "mine end"
  · exact quo1 hb (by assumption)
  · exact quo2 hb (by assumption)
theorem c_cmps (w mean mg mb news) (a b : Int) (ta tb : Tok) : Ctr w mean mg mb 2 161 [.int a ta, .int b tb] news (RetI (if a < b then -1 else if a > b then 1 else 0) news) := by
  (k_with "mine call" => (k_here; (with_reducible show wpAny _ _ (call (Value.ref 91) _) _ _ _); k_dflt (refine' ctr_use (c_quotient _ _ _ _ _ _ _ _ _ ?p0 ?p1) ?k1 ?k2 ?k3 ?k4 ?k5 ?k6 ?k7 ?k8 ?_; walk_at "mine ask"; (case p0 => first | with_reducible assumption | walk_at "mine prem"); (case p1 => first | with_reducible assumption | walk_at "mine prem"); intro t9 h9 tk9 F9 N9; (try dsimp only); (try k_fold))))
  walk_at "mine enter"
  k_steps
  all_goals walk_at "mine end"
  all_goals (first | (rw [if_pos (by assumption)]) | (rw [if_neg (by assumption), if_pos (by assumption)]) | (rw [if_neg (by assumption), if_neg (by assumption)]))
theorem c_within (w mean mg mb news) (n bits : Int) (tn tb : Tok) (u : Bool) (hb : bits = 32 ∨ bits = 64) : Ctr w mean mg mb 2 56 [.int n tn, .int bits tb, .bool u] news (RetB (inF n bits u) news) := by
  (k_with "mine call" => (k_here; (with_reducible show wpAny _ _ (call (Value.ref 161) _) _ _ _); k_dflt (refine' ctr_use (c_cmps _ _ _ _ _ _ _ _ _ ) ?k1 ?k2 ?k3 ?k4 ?k5 ?k6 ?k7 ?k8 ?_; walk_at "mine ask"; intro t9 h9 tk9 F9 N9; (try dsimp only); (try k_fold))))
  walk_at "mine enter"
  k_steps
  all_goals walk_at "mine end"
  all_goals (first | exact wi1 (by assumption) (by assumption) | exact wi2 (by assumption) (by assumption) | exact wi3 (by assumption) (by assumption) | exact wi4 (by assumption) (by assumption))
theorem c_reading (w mean mg mb news) (n bits : Int) (tn tb : Tok) (u : Bool) (hb : bits = 32 ∨ bits = 64) : Ctr w mean mg mb 3 63 [.int n tn, .int bits tb, .bool u] news (RetI (rdF n bits u) news) := by
  (k_with "mine call" => (k_here; (with_reducible show wpAny _ _ (call (Value.ref 56) _) _ _ _); k_dflt (refine' ctr_use (c_within _ _ _ _ _ _ _ _ _ _ ?p0) ?k1 ?k2 ?k3 ?k4 ?k5 ?k6 ?k7 ?k8 ?_; walk_at "mine ask"; (case p0 => first | with_reducible assumption | walk_at "mine prem"); intro t9 h9 tk9 F9 N9; (try dsimp only); (try k_fold))))
  walk_at "mine enter"
  k_steps
  all_goals walk_at "mine end"
  · exact rd1 (by assumption)
  · exact rd2 (by assumption)
theorem c_add (w mean mg mb news) (a b bits : Int) (ta tb tc : Tok) (hb : bits = 32 ∨ bits = 64) : Ctr w mean mg mb 3 35 [.int a ta, .int b tb, .int bits tc] news (RetI (cutF (a + b) bits) news) := by
  (k_with "mine call" => (k_here; (with_reducible show wpAny _ _ (call (Value.ref 63) _) _ _ _); k_dflt (refine' ctr_use (c_reading _ _ _ _ _ _ _ _ _ _ ?p0) ?k1 ?k2 ?k3 ?k4 ?k5 ?k6 ?k7 ?k8 ?_; walk_at "mine ask"; (case p0 => first | with_reducible assumption | walk_at "mine prem"); intro t9 h9 tk9 F9 N9; (try dsimp only); (try k_fold))))
  walk_at "mine enter"
  k_steps
  all_goals walk_at "mine end"
  rfl
theorem c_sub (w mean mg mb news) (a b bits : Int) (ta tb tc : Tok) (hb : bits = 32 ∨ bits = 64) : Ctr w mean mg mb 3 42 [.int a ta, .int b tb, .int bits tc] news (RetI (cutF (a - b) bits) news) := by
  (k_with "mine call" => (k_here; (with_reducible show wpAny _ _ (call (Value.ref 35) _) _ _ _); k_dflt (refine' ctr_use (c_add _ _ _ _ _ _ _ _ _ _ _ ?p0) ?k1 ?k2 ?k3 ?k4 ?k5 ?k6 ?k7 ?k8 ?_; walk_at "mine ask"; (case p0 => first | with_reducible assumption | walk_at "mine prem"); intro t9 h9 tk9 F9 N9; (try dsimp only); (try k_fold))))
  walk_at "mine enter"
  k_steps
  all_goals walk_at "mine end"
  rfl
theorem c_mul (w mean mg mb news) (a b bits : Int) (ta tb tc : Tok) (hb : bits = 32 ∨ bits = 64) (ha : inR a bits) (hr : inR b bits) : Ctr w mean mg mb 3 49 [.int a ta, .int b tb, .int bits tc] news (RetI (cutF (a * b) bits) news) := by
  (k_with "mine call" => (k_here; (with_reducible show wpAny _ _ (call (Value.ref 42) _) _ _ _); k_dflt (refine' ctr_use (c_sub _ _ _ _ _ _ _ _ _ _ _ ?p0) ?k1 ?k2 ?k3 ?k4 ?k5 ?k6 ?k7 ?k8 ?_; walk_at "mine ask"; (case p0 => first | with_reducible assumption | walk_at "mine prem"); intro t9 h9 tk9 F9 N9; (try dsimp only); (try k_fold))))
  have hm := mul_ok (ha.abs hb) (hr.abs hb)
  walk_at "mine enter"
  k_steps
  all_goals walk_at "mine end"
  rfl
theorem c_addovf (w mean mg mb news) (a b bits : Int) (ta tb tc : Tok) (u : Bool) (hb : bits = 32 ∨ bits = 64) (ha : inR a bits) (hr : inR b bits) : Ctr w mean mg mb 4 70 [.int a ta, .int b tb, .int bits tc, .bool u] news (RetP (fun t => .int (cutF (rdF a bits u + rdF b bits u) bits) t) (fun _ => .bool (inF (rdF a bits u + rdF b bits u) bits u)) news) := by
  (k_with "mine call" => (k_here; (with_reducible show wpAny _ _ (call (Value.ref 49) _) _ _ _); k_dflt (refine' ctr_use (c_mul _ _ _ _ _ _ _ _ _ _ _ ?p0 ?p1 ?p2) ?k1 ?k2 ?k3 ?k4 ?k5 ?k6 ?k7 ?k8 ?_; walk_at "mine ask"; (case p0 => first | with_reducible assumption | walk_at "mine prem"); (case p1 => first | with_reducible assumption | walk_at "mine prem"); (case p2 => first | with_reducible assumption | walk_at "mine prem"); intro t9 h9 tk9 F9 N9; (try dsimp only); (try k_fold))))
  walk_at "mine enter"
  k_steps
  all_goals walk_at "mine end"
  all_goals (first | rfl | exact (0 : Nat))
theorem c_subovf (w mean mg mb news) (a b bits : Int) (ta tb tc : Tok) (u : Bool) (hb : bits = 32 ∨ bits = 64) (ha : inR a bits) (hr : inR b bits) : Ctr w mean mg mb 4 77 [.int a ta, .int b tb, .int bits tc, .bool u] news (RetP (fun t => .int (cutF (rdF a bits u - rdF b bits u) bits) t) (fun _ => .bool (inF (rdF a bits u - rdF b bits u) bits u)) news) := by
  (k_with "mine call" => (k_here; (with_reducible show wpAny _ _ (call (Value.ref 70) _) _ _ _); k_dflt (refine' ctr_use (c_addovf _ _ _ _ _ _ _ _ _ _ _ _ ?p0 ?p1 ?p2) ?k1 ?k2 ?k3 ?k4 ?k5 ?k6 ?k7 ?k8 ?_; walk_at "mine ask"; (case p0 => first | with_reducible assumption | walk_at "mine prem"); (case p1 => first | with_reducible assumption | walk_at "mine prem"); (case p2 => first | with_reducible assumption | walk_at "mine prem"); intro D9 t9 u9 c9 h9 tk9 F9 N9; (try dsimp only); (try k_fold))))
  walk_at "mine enter"
  k_steps
  all_goals walk_at "mine end"
  all_goals (first | rfl | exact (0 : Nat))
theorem c_mulovf (w mean mg mb news) (a b bits : Int) (ta tb tc : Tok) (u : Bool) (hb : bits = 32 ∨ bits = 64) (ha : inR a bits) (hr : inR b bits) : Ctr w mean mg mb 4 84 [.int a ta, .int b tb, .int bits tc, .bool u] news (RetP (fun t => .int (cutF (rdF a bits u * rdF b bits u) bits) t) (fun _ => .bool (inF (rdF a bits u * rdF b bits u) bits u)) news) := by
  (k_with "mine call" => (k_here; (with_reducible show wpAny _ _ (call (Value.ref 77) _) _ _ _); k_dflt (refine' ctr_use (c_subovf _ _ _ _ _ _ _ _ _ _ _ _ ?p0 ?p1 ?p2) ?k1 ?k2 ?k3 ?k4 ?k5 ?k6 ?k7 ?k8 ?_; walk_at "mine ask"; (case p0 => first | with_reducible assumption | walk_at "mine prem"); (case p1 => first | with_reducible assumption | walk_at "mine prem"); (case p2 => first | with_reducible assumption | walk_at "mine prem"); intro D9 t9 u9 c9 h9 tk9 F9 N9; (try dsimp only); (try k_fold))))
  have hm := mul_ok (rd_abs (u := u) hb ha) (rd_abs (u := u) hb hr)
  walk_at "mine enter"
  k_steps
  all_goals walk_at "mine end"
  all_goals (first | rfl | exact (0 : Nat))
theorem c_div (w mean mg mb news) (a b bits : Int) (ta tb tc : Tok) (hb : bits = 32 ∨ bits = 64) (ha : inR a bits) (hr : inR b bits) : Ctr w mean mg mb 4 98 [.int a ta, .int b tb, .int bits tc] news (RetP (fun t => .int (divF a b bits).1 t) (fun t => .int (divF a b bits).2 t) news) := by
  (k_with "mine call" => (k_here; (with_reducible show wpAny _ _ (call (Value.ref 84) _) _ _ _); k_dflt (refine' ctr_use (c_mulovf _ _ _ _ _ _ _ _ _ _ _ _ ?p0 ?p1 ?p2) ?k1 ?k2 ?k3 ?k4 ?k5 ?k6 ?k7 ?k8 ?_; walk_at "mine ask"; (case p0 => first | with_reducible assumption | walk_at "mine prem"); (case p1 => first | with_reducible assumption | walk_at "mine prem"); (case p2 => first | with_reducible assumption | walk_at "mine prem"); intro D9 t9 u9 c9 h9 tk9 F9 N9; (try dsimp only); (try k_fold))))
  have hab := hr.abs hb
  walk_at "mine enter"
  k_steps
  all_goals walk_at "mine end"
  all_goals (first | rw [dv0 (by assumption)] | rw [dv1 (by assumption) (by assumption) (by assumption)] | rw [dv2 (by assumption) (by assumption) (by assumption)] | rw [dv3 (by assumption) (by assumption)])
theorem c_rem (w mean mg mb news) (a b bits : Int) (ta tb tc : Tok) (hb : bits = 32 ∨ bits = 64) (ha : inR a bits) (hr : inR b bits) : Ctr w mean mg mb 4 105 [.int a ta, .int b tb, .int bits tc] news (RetP (fun t => .int (remF a b bits).1 t) (fun t => .int (remF a b bits).2 t) news) := by
  (k_with "mine call" => (k_here; (with_reducible show wpAny _ _ (call (Value.ref 98) _) _ _ _); k_dflt (refine' ctr_use (c_div _ _ _ _ _ _ _ _ _ _ _ ?p0 ?p1 ?p2) ?k1 ?k2 ?k3 ?k4 ?k5 ?k6 ?k7 ?k8 ?_; walk_at "mine ask"; (case p0 => first | with_reducible assumption | walk_at "mine prem"); (case p1 => first | with_reducible assumption | walk_at "mine prem"); (case p2 => first | with_reducible assumption | walk_at "mine prem"); intro D9 t9 u9 c9 h9 tk9 F9 N9; (try dsimp only); (try k_fold))))
  have hab := hr.abs hb
  have hq := mul_q (ha.abs hb) (hr.abs hb)
  walk_at "mine enter"
  k_steps
  all_goals walk_at "mine end"
  all_goals (first | rw [rm0 (by assumption)] | rw [rm1 (by assumption) (by assumption) (by assumption)] | rw [rm2 (by assumption) (by assumption) (by assumption)] | rw [rm3 (by assumption) (by assumption)])
theorem c_divun (w mean mg mb news) (a b bits : Int) (ta tb tc : Tok) (hb : bits = 32 ∨ bits = 64) (ha : inR a bits) (hr : inR b bits) : Ctr w mean mg mb 4 112 [.int a ta, .int b tb, .int bits tc] news (RetP (fun t => .int (divuF a b bits).1 t) (fun t => .int (divuF a b bits).2 t) news) := by
  (k_with "mine call" => (k_here; (with_reducible show wpAny _ _ (call (Value.ref 105) _) _ _ _); k_dflt (refine' ctr_use (c_rem _ _ _ _ _ _ _ _ _ _ _ ?p0 ?p1 ?p2) ?k1 ?k2 ?k3 ?k4 ?k5 ?k6 ?k7 ?k8 ?_; walk_at "mine ask"; (case p0 => first | with_reducible assumption | walk_at "mine prem"); (case p1 => first | with_reducible assumption | walk_at "mine prem"); (case p2 => first | with_reducible assumption | walk_at "mine prem"); intro D9 t9 u9 c9 h9 tk9 F9 N9; (try dsimp only); (try k_fold))))
  have hn := fun h => un_ne hb hr h
  have hl := un_log (n := b) hb
  walk_at "mine enter"
  k_steps
  all_goals walk_at "mine end"
  all_goals (first | rw [du0 (by assumption)] | rw [du1 (by assumption)])
theorem c_remun (w mean mg mb news) (a b bits : Int) (ta tb tc : Tok) (hb : bits = 32 ∨ bits = 64) (ha : inR a bits) (hr : inR b bits) : Ctr w mean mg mb 4 119 [.int a ta, .int b tb, .int bits tc] news (RetP (fun t => .int (remuF a b bits).1 t) (fun t => .int (remuF a b bits).2 t) news) := by
  (k_with "mine call" => (k_here; (with_reducible show wpAny _ _ (call (Value.ref 112) _) _ _ _); k_dflt (refine' ctr_use (c_divun _ _ _ _ _ _ _ _ _ _ _ ?p0 ?p1 ?p2) ?k1 ?k2 ?k3 ?k4 ?k5 ?k6 ?k7 ?k8 ?_; walk_at "mine ask"; (case p0 => first | with_reducible assumption | walk_at "mine prem"); (case p1 => first | with_reducible assumption | walk_at "mine prem"); (case p2 => first | with_reducible assumption | walk_at "mine prem"); intro D9 t9 u9 c9 h9 tk9 F9 N9; (try dsimp only); (try k_fold))))
  have hn := fun h => un_ne hb hr h
  have hl := un_log (n := b) hb
  walk_at "mine enter"
  k_steps
  all_goals walk_at "mine end"
  all_goals (first | rw [ru0 (by assumption)] | rw [ru1 (by assumption)])
theorem c_shl (w mean mg mb news) (a n bits : Int) (ta tb tc : Tok) (hb : bits = 32 ∨ bits = 64) (ha : inR a bits) : Ctr w mean mg mb 3 126 [.int a ta, .int n tb, .int bits tc] news (RetI (cutF (a * 2 ^ (Builtin.bitAnd n (bits - 1)).toNat) bits) news) := by
  (k_with "mine call" => (k_here; (with_reducible show wpAny _ _ (call (Value.ref 119) _) _ _ _); k_dflt (refine' ctr_use (c_remun _ _ _ _ _ _ _ _ _ _ _ ?p0 ?p1 ?p2) ?k1 ?k2 ?k3 ?k4 ?k5 ?k6 ?k7 ?k8 ?_; walk_at "mine ask"; (case p0 => first | with_reducible assumption | walk_at "mine prem"); (case p1 => first | with_reducible assumption | walk_at "mine prem"); (case p2 => first | with_reducible assumption | walk_at "mine prem"); intro D9 t9 u9 c9 h9 tk9 F9 N9; (try dsimp only); (try k_fold))))
  have h0 := shk0 (n := n) hb
  have h1 := shk1 (n := n) hb
  have h2 := ha.abs hb
  walk_at "mine enter"
  k_steps
  all_goals walk_at "mine end"
  rfl
theorem c_shr (w mean mg mb news) (a n bits : Int) (ta tb tc : Tok) (hb : bits = 32 ∨ bits = 64) (ha : inR a bits) : Ctr w mean mg mb 3 133 [.int a ta, .int n tb, .int bits tc] news (RetI (a.fdiv (2 ^ (Builtin.bitAnd n (bits - 1)).toNat)) news) := by
  (k_with "mine call" => (k_here; (with_reducible show wpAny _ _ (call (Value.ref 126) _) _ _ _); k_dflt (refine' ctr_use (c_shl _ _ _ _ _ _ _ _ _ _ _ ?p0 ?p1) ?k1 ?k2 ?k3 ?k4 ?k5 ?k6 ?k7 ?k8 ?_; walk_at "mine ask"; (case p0 => first | with_reducible assumption | walk_at "mine prem"); (case p1 => first | with_reducible assumption | walk_at "mine prem"); intro t9 h9 tk9 F9 N9; (try dsimp only); (try k_fold))))
  have h0 := shk0 (n := n) hb
  have h1 := shk1 (n := n) hb
  have h2 := ha.abs hb
  walk_at "mine enter"
  k_steps
  all_goals walk_at "mine end"
  rfl
theorem c_shrun (w mean mg mb news) (a n bits : Int) (ta tb tc : Tok) (hb : bits = 32 ∨ bits = 64) (ha : inR a bits) : Ctr w mean mg mb 3 140 [.int a ta, .int n tb, .int bits tc] news (RetI (cutF ((unF a bits).fdiv (2 ^ (Builtin.bitAnd n (bits - 1)).toNat)) bits) news) := by
  (k_with "mine call" => (k_here; (with_reducible show wpAny _ _ (call (Value.ref 133) _) _ _ _); k_dflt (refine' ctr_use (c_shr _ _ _ _ _ _ _ _ _ _ _ ?p0 ?p1) ?k1 ?k2 ?k3 ?k4 ?k5 ?k6 ?k7 ?k8 ?_; walk_at "mine ask"; (case p0 => first | with_reducible assumption | walk_at "mine prem"); (case p1 => first | with_reducible assumption | walk_at "mine prem"); intro t9 h9 tk9 F9 N9; (try dsimp only); (try k_fold))))
  have h0 := shk0 (n := n) hb
  have h1 := shk1 (n := n) hb
  have h2 := ha.abs hb
  walk_at "mine enter"
  k_steps
  all_goals walk_at "mine end"
  rfl
theorem c_neg (w mean mg mb news) (n bits : Int) (tn tb : Tok) (hb : bits = 32 ∨ bits = 64) : Ctr w mean mg mb 3 147 [.int n tn, .int bits tb] news (RetI (cutF (-n) bits) news) := by
  (k_with "mine call" => (k_here; (with_reducible show wpAny _ _ (call (Value.ref 140) _) _ _ _); k_dflt (refine' ctr_use (c_shrun _ _ _ _ _ _ _ _ _ _ _ ?p0 ?p1) ?k1 ?k2 ?k3 ?k4 ?k5 ?k6 ?k7 ?k8 ?_; walk_at "mine ask"; (case p0 => first | with_reducible assumption | walk_at "mine prem"); (case p1 => first | with_reducible assumption | walk_at "mine prem"); intro t9 h9 tk9 F9 N9; (try dsimp only); (try k_fold))))
  walk_at "mine enter"
  k_steps
  all_goals walk_at "mine end"
  rfl
theorem c_not (w mean mg mb news) (n bits : Int) (tn tb : Tok) (hb : bits = 32 ∨ bits = 64) : Ctr w mean mg mb 3 154 [.int n tn, .int bits tb] news (RetI (cutF (-n - 1) bits) news) := by
  (k_with "mine call" => (k_here; (with_reducible show wpAny _ _ (call (Value.ref 147) _) _ _ _); k_dflt (refine' ctr_use (c_neg _ _ _ _ _ _ _ _ _ ?p0) ?k1 ?k2 ?k3 ?k4 ?k5 ?k6 ?k7 ?k8 ?_; walk_at "mine ask"; (case p0 => first | with_reducible assumption | walk_at "mine prem"); intro t9 h9 tk9 F9 N9; (try dsimp only); (try k_fold))))
  walk_at "mine enter"
  k_steps
  all_goals walk_at "mine end"
  rfl
theorem c_cmpu (w mean mg mb news) (a b : Int) (ta tb : Tok) : Ctr w mean mg mb 3 168 [.int a ta, .int b tb] news (RetI (if unF a 64 < unF b 64 then -1 else if unF a 64 > unF b 64 then 1 else 0) news) := by
  (k_with "mine call" => (k_here; (with_reducible show wpAny _ _ (call (Value.ref 154) _) _ _ _); k_dflt (refine' ctr_use (c_not _ _ _ _ _ _ _ _ _ ?p0) ?k1 ?k2 ?k3 ?k4 ?k5 ?k6 ?k7 ?k8 ?_; walk_at "mine ask"; (case p0 => first | with_reducible assumption | walk_at "mine prem"); intro t9 h9 tk9 F9 N9; (try dsimp only); (try k_fold))))
  have hb : (64 : Int) = 32 ∨ (64 : Int) = 64 := Or.inr rfl
  walk_at "mine enter"
  k_steps
  all_goals walk_at "mine end"
  rfl
theorem c_isnum (w mean mg mb) (news : Led) (A : Addr) (vsA : Array Value) (cA : Nat) (x : Int) (tA0 : Tok) (hA : (A, tupO vsA cA) ∈ news) (hA0 : vsA[0]? = some (.int x tA0))  : Ctr w mean mg mb 2 175 [.ref A] news (RetB (numF x) news) := by
  (k_with "mine call" => (k_here; (with_reducible show wpAny _ _ (call (Value.ref 168) _) _ _ _); k_dflt (refine' ctr_use (c_cmpu _ _ _ _ _ _ _ _ _ ) ?k1 ?k2 ?k3 ?k4 ?k5 ?k6 ?k7 ?k8 ?_; walk_at "mine ask"; intro t9 h9 tk9 F9 N9; (try dsimp only); (try k_fold))))
  walk_at "mine enter"
  k_steps
  all_goals walk_at "mine end"
  · exact nu1 (by assumption)
  · exact nu2 (by assumption)
  · exact nu3 (by assumption) (by assumption)
theorem c_bitsof (w mean mg mb) (news : Led) (A : Addr) (vsA : Array Value) (cA : Nat) (x : Int) (tA0 : Tok) (hA : (A, tupO vsA cA) ∈ news) (hA0 : vsA[0]? = some (.int x tA0))  : Ctr w mean mg mb 2 182 [.ref A] news (RetI (bwF x) news) := by
  (k_with "mine call" => (k_here; (with_reducible show wpAny _ _ (call (Value.ref 175) _) _ _ _); k_dflt (refine' ctr_use (c_isnum _ _ _ _ _ _ _ _ _ _ ?p0 ?p1) ?k1 ?k2 ?k3 ?k4 ?k5 ?k6 ?k7 ?k8 ?_; walk_at "mine ask"; (case p0 => first | k_mem | with_reducible assumption | walk_at "mine prem"); (case p1 => first | k_mem | with_reducible assumption | walk_at "mine prem"); intro t9 h9 tk9 F9 N9; (try dsimp only); (try k_fold))))
  walk_at "mine enter"
  k_steps
  all_goals walk_at "mine end"
  · exact bw1 (by assumption)
  · exact bw2 (by assumption)
theorem c_joined (w mean mg mb) (news : Led) (A : Addr) (vsA : Array Value) (cA : Nat) (x : Int) (tA0 : Tok) (B : Addr) (vsB : Array Value) (cB : Nat) (y : Int) (tB0 : Tok) (hA : (A, tupO vsA cA) ∈ news) (hA0 : vsA[0]? = some (.int x tA0)) (hB : (B, tupO vsB cB) ∈ news) (hB0 : vsB[0]? = some (.int y tB0))  : Ctr w mean mg mb 3 189 [.ref A, .ref B] news (RetI (joinF x y) news) := by
  (k_with "mine call" => (k_here; (with_reducible show wpAny _ _ (call (Value.ref 182) _) _ _ _); k_dflt (refine' ctr_use (c_bitsof _ _ _ _ _ _ _ _ _ _ ?p0 ?p1) ?k1 ?k2 ?k3 ?k4 ?k5 ?k6 ?k7 ?k8 ?_; walk_at "mine ask"; (case p0 => first | k_mem | with_reducible assumption | walk_at "mine prem"); (case p1 => first | k_mem | with_reducible assumption | walk_at "mine prem"); intro t9 h9 tk9 F9 N9; (try dsimp only); (try k_fold))))
  walk_at "mine enter"
  k_steps
  all_goals walk_at "mine end"
  all_goals (first | exact jA (by assumption) (by assumption) | exact jB (by assumption) (by assumption) | exact jC (by assumption) (by assumption) | exact j0 (by first | exact .inl (by assumption) | exact .inr (by assumption)) (by first | exact .inl (by assumption) | exact .inr (by assumption)) (by first | exact .inl (by assumption) | exact .inr (by assumption)) | omega)
theorem c_divide (w mean mg mb) (news : Led) (op a b bits : Int) (to ta tb tc : Tok) (hb : bits = 32 ∨ bits = 64) (ha : inR a bits) (hr : inR b bits) : Ctr w mean mg mb 5 210 [.int op to, .int a ta, .int b tb, .int bits tc] news (RetP (fun t => .int (dvF op a b bits).1 t) (fun t => .int (dvF op a b bits).2 t) news) := by
  (k_with "mine call" => (k_here; (with_reducible show wpAny _ _ (call (Value.ref 189) _) _ _ _); k_dflt (refine' ctr_use (c_joined _ _ _ _ _ _ _ _ _ _ _ _ _ _ _ ?p0 ?p1 ?p2 ?p3) ?k1 ?k2 ?k3 ?k4 ?k5 ?k6 ?k7 ?k8 ?_; walk_at "mine ask"; (case p0 => first | k_mem | with_reducible assumption | walk_at "mine prem"); (case p1 => first | k_mem | with_reducible assumption | walk_at "mine prem"); (case p2 => first | k_mem | with_reducible assumption | walk_at "mine prem"); (case p3 => first | k_mem | with_reducible assumption | walk_at "mine prem"); intro t9 h9 tk9 F9 N9; (try dsimp only); (try k_fold))))
  walk_at "mine enter"
  k_steps
  all_goals walk_at "mine end"
  all_goals walk_at "mine ifs"
theorem c_checked (w mean mg mb) (news : Led) (op a b bits : Int) (to ta tb tc : Tok) (hb : bits = 32 ∨ bits = 64) (ha : inR a bits) (hr : inR b bits) : Ctr w mean mg mb 5 217 [.int op to, .int a ta, .int b tb, .int bits tc] news (RetP (fun t => .int (chF op a b bits).1 t) (fun _ => .bool (chF op a b bits).2) news) := by
  (k_with "mine call" => (k_here; (with_reducible show wpAny _ _ (call (Value.ref 210) _) _ _ _); k_dflt (refine' ctr_use (c_divide _ _ _ _ _ _ _ _ _ _ _ _ _ ?p0 ?p1 ?p2) ?k1 ?k2 ?k3 ?k4 ?k5 ?k6 ?k7 ?k8 ?_; walk_at "mine ask"; (case p0 => first | k_mem | with_reducible assumption | walk_at "mine prem"); (case p1 => first | k_mem | with_reducible assumption | walk_at "mine prem"); (case p2 => first | k_mem | with_reducible assumption | walk_at "mine prem"); intro D9 t9 u9 c9 h9 tk9 F9 N9; (try dsimp only); (try k_fold))))
  walk_at "mine enter"
  k_steps
  all_goals walk_at "mine end"
  all_goals first | exact (0 : Nat) | walk_at "mine ifs"
theorem c_plain (w mean mg mb) (news : Led) (op a b bits : Int) (to ta tb tc : Tok) (hb : bits = 32 ∨ bits = 64) (ha : inR a bits) (hr : inR b bits) : Ctr w mean mg mb 4 224 [.int op to, .int a ta, .int b tb, .int bits tc] news (RetI (plF op a b bits) news) := by
  (k_with "mine call" => (k_here; (with_reducible show wpAny _ _ (call (Value.ref 217) _) _ _ _); k_dflt (refine' ctr_use (c_checked _ _ _ _ _ _ _ _ _ _ _ _ _ ?p0 ?p1 ?p2) ?k1 ?k2 ?k3 ?k4 ?k5 ?k6 ?k7 ?k8 ?_; walk_at "mine ask"; (case p0 => first | k_mem | with_reducible assumption | walk_at "mine prem"); (case p1 => first | k_mem | with_reducible assumption | walk_at "mine prem"); (case p2 => first | k_mem | with_reducible assumption | walk_at "mine prem"); intro D9 t9 u9 c9 h9 tk9 F9 N9; (try dsimp only); (try k_fold))))
  walk_at "mine enter"
  k_steps
  all_goals walk_at "mine end"
  all_goals walk_at "mine ifs"
theorem c_shift (w mean mg mb) (news : Led) (op : Int) (to : Tok) (A : Addr) (vsA : Array Value) (cA : Nat) (x : Int) (tA0 : Tok) (a : Int) (tA1 : Tok) (B : Addr) (vsB : Array Value) (cB : Nat) (y : Int) (tB0 : Tok) (b : Int) (tB1 : Tok) (hA : (A, tupO vsA cA) ∈ news) (hA0 : vsA[0]? = some (.int x tA0)) (hA1 : numF x = true → vsA[1]? = some (.int a tA1)) (hAr : inR a (bwF x)) (hB : (B, tupO vsB cB) ∈ news) (hB0 : vsB[0]? = some (.int y tB0)) (hB1 : numF y = true → vsB[1]? = some (.int b tB1)) (hBr : inR b (bwF y))  : Ctr w mean mg mb 5 203 [.int op to, .ref A, .ref B] news (RetA (shA op x a y b) news) := by
  (k_with "mine call" => (k_here; (with_reducible show wpAny _ _ (call (Value.ref 224) _) _ _ _); k_dflt (refine' ctr_use (c_plain _ _ _ _ _ _ _ _ _ _ _ _ _ ?p0 ?p1 ?p2) ?k1 ?k2 ?k3 ?k4 ?k5 ?k6 ?k7 ?k8 ?_; walk_at "mine ask"; (case p0 => first | k_mem | with_reducible assumption | walk_at "mine prem"); (case p1 => first | k_mem | with_reducible assumption | walk_at "mine prem"); (case p2 => first | k_mem | with_reducible assumption | walk_at "mine prem"); intro t9 h9 tk9 F9 N9; (try dsimp only); (try k_fold))))
  walk_at "mine enter"
  k_steps
  all_goals walk_at "mine end"
  all_goals (first | exact sA0 (by assumption) | exact sA1 (by assumption) (by assumption) | (refine sA2 (by assumption) (by first | exact .inl (by assumption) | exact .inr (by assumption)) ?_; walk_at "mine ifs"))
theorem c_unary (w mean mg mb) (news : Led) (op : Int) (to : Tok) (A : Addr) (vsA : Array Value) (cA : Nat) (x : Int) (tA0 : Tok) (a : Int) (tA1 : Tok) (hA : (A, tupO vsA cA) ∈ news) (hA0 : vsA[0]? = some (.int x tA0)) (hA1 : numF x = true → vsA[1]? = some (.int a tA1)) (hAr : inR a (bwF x))  : Ctr w mean mg mb 5 231 [.int op to, .ref A] news (RetA (unA op x a) news) := by
  (k_with "mine call" => (k_here; (with_reducible show wpAny _ _ (call (Value.ref 203) _) _ _ _); k_dflt (refine' ctr_use (c_shift _ _ _ _ _ _ _ _ _ _ _ _ _ _ _ _ _ _ _ _ _ ?p0 ?p1 ?p2 ?p3 ?p4 ?p5 ?p6 ?p7) ?k1 ?k2 ?k3 ?k4 ?k5 ?k6 ?k7 ?k8 ?_; walk_at "mine ask"; (case p0 => first | k_mem | with_reducible assumption | walk_at "mine prem"); (case p1 => first | k_mem | with_reducible assumption | walk_at "mine prem"); (case p2 => first | k_mem | with_reducible assumption | walk_at "mine prem"); (case p3 => first | k_mem | with_reducible assumption | walk_at "mine prem"); (case p4 => first | k_mem | with_reducible assumption | walk_at "mine prem"); (case p5 => first | k_mem | with_reducible assumption | walk_at "mine prem"); (case p6 => first | k_mem | with_reducible assumption | walk_at "mine prem"); (case p7 => first | k_mem | with_reducible assumption | walk_at "mine prem"); intro D9 w9 h9 tk9 R9 F9 N9; (try dsimp only); (try k_fold))))
  walk_at "mine enter"
  k_steps
  all_goals walk_at "mine end"
  all_goals (first | exact uA0 (by assumption) | exact uA1 (by assumption) (by assumption) | exact uA2 (by assumption) (by assumption) (by assumption) | exact uA3 (by assumption) (by assumption) (by assumption))
theorem c_arith (w mean mg mb) (news : Led) (op : Int) (to : Tok) (A : Addr) (vsA : Array Value) (cA : Nat) (x : Int) (tA0 : Tok) (a : Int) (tA1 : Tok) (B : Addr) (vsB : Array Value) (cB : Nat) (y : Int) (tB0 : Tok) (b : Int) (tB1 : Tok) (hA : (A, tupO vsA cA) ∈ news) (hA0 : vsA[0]? = some (.int x tA0)) (hA1 : numF x = true → vsA[1]? = some (.int a tA1)) (hAr : inR a (bwF x)) (hB : (B, tupO vsB cB) ∈ news) (hB0 : vsB[0]? = some (.int y tB0)) (hB1 : numF y = true → vsB[1]? = some (.int b tB1)) (hBr : inR b (bwF y)) : Ctr w mean mg mb 7 196 [.int op to, .ref A, .ref B] news (RetA (arF op x a y b) news) := by
  (k_with "mine call" => (k_here; (with_reducible show wpAny _ _ (call (Value.ref 231) _) _ _ _); k_dflt (refine' ctr_use (c_unary _ _ _ _ _ _ _ _ _ _ _ _ _ _ ?p0 ?p1 ?p2 ?p3) ?k1 ?k2 ?k3 ?k4 ?k5 ?k6 ?k7 ?k8 ?_; walk_at "mine ask"; (case p0 => first | k_mem | with_reducible assumption | walk_at "mine prem"); (case p1 => first | k_mem | with_reducible assumption | walk_at "mine prem"); (case p2 => first | k_mem | with_reducible assumption | walk_at "mine prem"); (case p3 => first | k_mem | with_reducible assumption | walk_at "mine prem"); intro D9 w9 h9 tk9 R9 F9 N9; (try dsimp only); (try k_fold))))
  walk_at "mine enter"
  k_steps
  all_goals walk_at "mine end"
  all_goals (first
    | exact aS (by first | exact .inl (by assumption) | exact .inr (.inl (by assumption)) | exact .inr (.inr (by assumption)))
    | exact aJ (by assumption) (by assumption) (by assumption) (by assumption)
    | exact aD (by assumption) (by assumption) (by assumption) (by assumption) (by assumption) (by assumption)
    | exact aD' (by assumption) (by assumption) (by assumption) (by assumption) (by assumption) (by assumption)
    | exact aC (by assumption) (by assumption) (by assumption) (by assumption) (by assumption) (by assumption) (by assumption)
    | exact aC' (by assumption) (by assumption) (by assumption) (by assumption) (by assumption) (by assumption) (by assumption)
    | exact aP (by assumption) (by assumption) (by assumption) (by assumption) (by assumption) (by assumption) (by assumption)
    | exact aN (by assumption) (by assumption) (by assumption) (by assumption) (by assumption) (by assumption) (by assumption))
theorem l_cut (w mean mg mb) (news : Led) (n bits : Int) (tn tb : Tok) (hb : bits = 32 ∨ bits = 64) : Ctr w mean mg mb 2 276 [.int n tn, .int bits tb] news (RetI (cutF n bits) news) := by
  (k_with "mine call" => (k_here; (with_reducible show wpAny _ _ (call (Value.ref 196) _) _ _ _); k_dflt (refine' ctr_use (c_arith _ _ _ _ _ _ _ _ _ _ _ _ _ _ _ _ _ _ _ _ _ ?p0 ?p1 ?p2 ?p3 ?p4 ?p5 ?p6 ?p7) ?k1 ?k2 ?k3 ?k4 ?k5 ?k6 ?k7 ?k8 ?_; walk_at "mine ask"; (case p0 => first | k_mem | with_reducible assumption | walk_at "mine prem"); (case p1 => first | k_mem | with_reducible assumption | walk_at "mine prem"); (case p2 => first | k_mem | with_reducible assumption | walk_at "mine prem"); (case p3 => first | k_mem | with_reducible assumption | walk_at "mine prem"); (case p4 => first | k_mem | with_reducible assumption | walk_at "mine prem"); (case p5 => first | k_mem | with_reducible assumption | walk_at "mine prem"); (case p6 => first | k_mem | with_reducible assumption | walk_at "mine prem"); (case p7 => first | k_mem | with_reducible assumption | walk_at "mine prem"); intro D9 w9 h9 tk9 R9 F9 N9; (try dsimp only); (try k_fold))))
  have hm : (2 : Int) ^ bits.toNat ≠ 0 := by rcases hb with rfl | rfl <;> decide
  walk_at "mine enter"
  k_steps
  all_goals walk_at "mine end"
  exact cutL hb
theorem l_read (w mean mg mb) (news : Led) (n bits : Int) (tn tb : Tok) (hb : bits = 32 ∨ bits = 64) (hr : inR n bits) : Ctr w mean mg mb 2 283 [.int n tn, .int bits tb] news (RetI (unF n bits) news) := by
  (k_with "mine call" => (k_here; (with_reducible show wpAny _ _ (call (Value.ref 276) _) _ _ _); k_dflt (refine' ctr_use (l_cut _ _ _ _ _ _ _ _ _ ?p0) ?k1 ?k2 ?k3 ?k4 ?k5 ?k6 ?k7 ?k8 ?_; walk_at "mine ask"; (case p0 => first | k_mem | with_reducible assumption | walk_at "mine prem"); intro t9 h9 tk9 F9 N9; (try dsimp only); (try k_fold))))
  walk_at "mine enter"
  k_steps
  all_goals walk_at "mine end"
  · exact rdL1 hb hr (by assumption)
  · exact rdL2 hb hr (by assumption)
theorem l_width (w mean mg mb) (news : Led) (x : Int) (tx : Tok) : Ctr w mean mg mb 2 297 [.int x tx] news (RetI (bwF x) news) := by
  (k_with "mine call" => (k_here; (with_reducible show wpAny _ _ (call (Value.ref 283) _) _ _ _); k_dflt (refine' ctr_use (l_read _ _ _ _ _ _ _ _ _ ?p0 ?p1) ?k1 ?k2 ?k3 ?k4 ?k5 ?k6 ?k7 ?k8 ?_; walk_at "mine ask"; (case p0 => first | k_mem | with_reducible assumption | walk_at "mine prem"); (case p1 => first | k_mem | with_reducible assumption | walk_at "mine prem"); intro t9 h9 tk9 F9 N9; (try dsimp only); (try k_fold))))
  walk_at "mine enter"
  k_steps
  all_goals walk_at "mine end"
  · exact bw1 (by assumption)
  · exact bw2 (by assumption)
theorem l_order (w mean mg mb) (news : Led) (a b : Int) (ta tb : Tok) : Ctr w mean mg mb 2 374 [.int a ta, .int b tb] news (RetI (if a < b then -1 else if a > b then 1 else 0) news) := by
  (k_with "mine call" => (k_here; (with_reducible show wpAny _ _ (call (Value.ref 297) _) _ _ _); k_dflt (refine' ctr_use (l_width _ _ _ _ _ _ _ ) ?k1 ?k2 ?k3 ?k4 ?k5 ?k6 ?k7 ?k8 ?_; walk_at "mine ask"; intro t9 h9 tk9 F9 N9; (try dsimp only); (try k_fold))))
  walk_at "mine enter"
  k_steps
  all_goals walk_at "mine end"
  all_goals (first | exact od0 (by assumption) | exact od1 (by assumption) (by assumption) | exact od2 (by assumption) (by assumption))
theorem l_number (w mean mg mb) (news : Led) (n bits : Int) (tn tb : Tok) (hb : bits = 32 ∨ bits = 64) : Ctr w mean mg mb 3 304 [.int n tn, .int bits tb] news (RetN bits news) := by
  (k_with "mine call" => (k_here; (with_reducible show wpAny _ _ (call (Value.ref 374) _) _ _ _); k_dflt (refine' ctr_use (l_order _ _ _ _ _ _ _ _ _ ) ?k1 ?k2 ?k3 ?k4 ?k5 ?k6 ?k7 ?k8 ?_; walk_at "mine ask"; intro t9 h9 tk9 F9 N9; (try dsimp only); (try k_fold))))
  walk_at "mine enter"
  k_steps
  all_goals walk_at "mine end"
  all_goals exact cut_in hb
theorem l_tied (w mean mg mb) (news : Led) (n a c bits : Int) (tn ta tc tb : Tok) (hb : bits = 32 ∨ bits = 64) : Ctr w mean mg mb 4 311 [.int n tn, .int a ta, .int c tc, .int bits tb] news (RetN bits news) := by
  (k_with "mine call" => (k_here; (with_reducible show wpAny _ _ (call (Value.ref 304) _) _ _ _); k_dflt (refine' ctr_use (l_number _ _ _ _ _ _ _ _ _ ?p0) ?k1 ?k2 ?k3 ?k4 ?k5 ?k6 ?k7 ?k8 ?_; walk_at "mine ask"; (case p0 => first | k_mem | with_reducible assumption | walk_at "mine prem"); intro n9 t9 h9 tk9 Z9 F9 N9; (try dsimp only); (try k_fold))))
  walk_at "mine enter"
  k_steps
  all_goals walk_at "mine end"
  all_goals first | exact cut_in hb | assumption
theorem l_value (w mean mg mb) (news : Led) (x n : Int) (tx tn : Tok) (h1 : 1 ≤ x) (h8 : x ≤ 8) : Ctr w mean mg mb 2 318 [.int x tx, .int n tn] news (RetV x n news) := by
  (k_with "mine call" => (k_here; (with_reducible show wpAny _ _ (call (Value.ref 311) _) _ _ _); k_dflt (refine' ctr_use (l_tied _ _ _ _ _ _ _ _ _ _ _ _ _ ?p0) ?k1 ?k2 ?k3 ?k4 ?k5 ?k6 ?k7 ?k8 ?_; walk_at "mine ask"; (case p0 => first | k_mem | with_reducible assumption | walk_at "mine prem"); intro n9 t9 h9 tk9 Z9 F9 N9; (try dsimp only); (try k_fold))))
  walk_at "mine enter"
  k_steps
  all_goals walk_at "mine end"
  all_goals (first | exact v1 | exact v2 (by omega) | exact v0 (by first | rfl | omega) | skip)
  all_goals exact (0 : Nat)
theorem l_tags (w mean mg mb) (news : Led) (x : Int) (tx : Tok) : Ctr w mean mg mb 2 290 [.int x tx] news (RetT news) := by
  (k_with "mine call" => (k_here; (with_reducible show wpAny _ _ (call (Value.ref 318) _) _ _ _); k_dflt (refine' ctr_use (l_value _ _ _ _ _ _ _ _ _ ?p0 ?p1) ?k1 ?k2 ?k3 ?k4 ?k5 ?k6 ?k7 ?k8 ?_; walk_at "mine ask"; (case p0 => first | k_mem | with_reducible assumption | walk_at "mine prem"); (case p1 => first | k_mem | with_reducible assumption | walk_at "mine prem"); intro D9 vs9 c9 t9 u9 w9 h9 tk9 M9 A9 B9 F9 N9; (try dsimp only); (try k_fold))))
  walk_at "mine enter"
  k_steps
  all_goals walk_at "mine end"
  all_goals (first | exact fm8 | decide)
theorem l_common (w mean mg mb) (news : Led) (a b bits : Int) (ta tb tc : Tok) (hb : bits = 32 ∨ bits = 64) (ha : inR a bits) (hr : inR b bits) : Ctr w mean mg mb 3 325 [.int a ta, .int b tb, .int bits tc] news (RetI (Builtin.bitAnd (unF a bits) (unF b bits)) news) := by
  (k_with "mine call" => (k_here; (with_reducible show wpAny _ _ (call (Value.ref 290) _) _ _ _); k_dflt (refine' ctr_use (l_tags _ _ _ _ _ _ _ ) ?k1 ?k2 ?k3 ?k4 ?k5 ?k6 ?k7 ?k8 ?_; walk_at "mine ask"; intro D9 x9 y9 tx9 ty9 w9 h9 tk9 X9 Y9 T9 F9 N9; (try dsimp only); (try k_fold))))
  walk_at "mine enter"
  k_steps
  all_goals walk_at "mine end"
  exact common_loop (un_pos hb).1 (un_pos hb).1 (by assumption)
theorem l_exact (w mean mg mb) (news : Led) (word : Str) (x y : Int) (tw tx ty : Tok) (hm : PySem.IntMulOk x y) (hl : word.length ≤ 16) : Ctr w mean mg mb 2 332 [.str word tw, .int x tx, .int y ty] news (RetI (exF word x y) news) := by
  (k_with "mine call" => (k_here; (with_reducible show wpAny _ _ (call (Value.ref 325) _) _ _ _); k_dflt (refine' ctr_use (l_common _ _ _ _ _ _ _ _ _ _ _ ?p0 ?p1 ?p2) ?k1 ?k2 ?k3 ?k4 ?k5 ?k6 ?k7 ?k8 ?_; walk_at "mine ask"; (case p0 => first | k_mem | with_reducible assumption | walk_at "mine prem"); (case p1 => first | k_mem | with_reducible assumption | walk_at "mine prem"); (case p2 => first | k_mem | with_reducible assumption | walk_at "mine prem"); intro t9 h9 tk9 F9 N9; (try dsimp only); (try k_fold))))
  walk_at "mine enter"
  k_steps
  all_goals walk_at "mine end"
  · exact ex1 (by assumption)
  · exact ex2 (by assumption) (by assumption)
  · exact ex3 (by assumption) (by assumption)
theorem l_divided (w mean mg mb) (news : Led) (word : Str) (x y low : Int) (tw tx ty tl : Tok) (hl : word.length ≤ 16) (hx : x.natAbs < 18446744073709551616) (hy : y.natAbs < 18446744073709551616) : Ctr w mean mg mb 2 339 [.str word tw, .int x tx, .int y ty, .int low tl] news (RetP (fun t => .int (ldF word x y low).1 t) (fun t => .int (ldF word x y low).2 t) news) := by
  (k_with "mine call" => (k_here; (with_reducible show wpAny _ _ (call (Value.ref 332) _) _ _ _); k_dflt (refine' ctr_use (l_exact _ _ _ _ _ _ _ _ _ _ _ ?p0 ?p1) ?k1 ?k2 ?k3 ?k4 ?k5 ?k6 ?k7 ?k8 ?_; walk_at "mine ask"; (case p0 => first | k_mem | with_reducible assumption | walk_at "mine prem"); (case p1 => first | k_mem | with_reducible assumption | walk_at "mine prem"); intro t9 h9 tk9 F9 N9; (try dsimp only); (try k_fold))))
  have hy2 := log_ok hy
  have hm1 := (mul_fd (x := x) hx hy).1
  have hm2 := (mul_fd (x := x) hx hy).2
  walk_at "mine enter"
  k_steps
  all_goals walk_at "mine end"
  all_goals (first | rw [ld0 (by assumption)] | rw [ld1 (by assumption) (by assumption) (by assumption)] | exact ldV1 (by assumption) (by first | exact ldn1 (by assumption) | exact ldn2 (by assumption)) (by assumption) (by first | exact tq1 (by assumption) (by assumption) (by assumption) | exact tq2 (by assumption) (by assumption) | exact tq3 (by assumption) (by assumption)) | exact ldV3 (by assumption) (by first | exact ldn1 (by assumption) | exact ldn2 (by assumption)) (by assumption) (by first | exact tq1 (by assumption) (by assumption) (by assumption) | exact tq2 (by assumption) (by assumption) | exact tq3 (by assumption) (by assumption)) | exact ldV2 (by assumption) (by first | exact ldn1 (by assumption) | exact ldn2 (by assumption)))
theorem l_checked (w mean mg mb) (news : Led) (word : Str) (a b bits : Int) (tw tx ty tl : Tok) (hl : word.length ≤ 16) (hb : bits = 32 ∨ bits = 64) (ha : inR a bits) (hr : inR b bits) : Ctr w mean mg mb 3 346 [.str word tw, .int a tx, .int b ty, .int bits tl] news (RetP (fun t => .int (ckF word a b bits).1 t) (fun t => .int (ckF word a b bits).2 t) news) := by
  (k_with "mine call" => (k_here; (with_reducible show wpAny _ _ (call (Value.ref 339) _) _ _ _); k_dflt (refine' ctr_use (l_divided _ _ _ _ _ _ _ _ _ _ _ _ _ ?p0 ?p1 ?p2) ?k1 ?k2 ?k3 ?k4 ?k5 ?k6 ?k7 ?k8 ?_; walk_at "mine ask"; (case p0 => first | k_mem | with_reducible assumption | walk_at "mine prem"); (case p1 => first | k_mem | with_reducible assumption | walk_at "mine prem"); (case p2 => first | k_mem | with_reducible assumption | walk_at "mine prem"); intro D9 t9 u9 c9 h9 tk9 F9 N9; (try dsimp only); (try k_fold))))
  have hm := mul_ok (ha.abs hb) (hr.abs hb)
  have hm2 := mul_ok (un_abs (n := a) hb) (un_abs (n := b) hb)
  walk_at "mine enter"
  k_steps
  all_goals walk_at "mine end"
  all_goals (first | rw [ckU1 (by assumption) (by assumption)] | rw [ckU2 (by assumption) (by assumption)] | rw [ckU3 (by assumption) (by assumption) (by assumption)] | rw [ckS1 (by assumption) (by assumption)] | rw [ckS2 (by assumption) (by assumption)] | rw [ckS3 (by assumption) (by assumption) (by assumption)])
theorem l_shifted (w mean mg mb) (news : Led) (word : Str) (a b bits : Int) (tw tx ty tl : Tok) (hl : word.length ≤ 16) (hb : bits = 32 ∨ bits = 64) (ha : inR a bits) : Ctr w mean mg mb 3 353 [.str word tw, .int a tx, .int b ty, .int bits tl] news (RetI (lsF word a b bits) news) := by
  (k_with "mine call" => (k_here; (with_reducible show wpAny _ _ (call (Value.ref 346) _) _ _ _); k_dflt (refine' ctr_use (l_checked _ _ _ _ _ _ _ _ _ _ _ _ _ ?p0 ?p1 ?p2 ?p3) ?k1 ?k2 ?k3 ?k4 ?k5 ?k6 ?k7 ?k8 ?_; walk_at "mine ask"; (case p0 => first | k_mem | with_reducible assumption | walk_at "mine prem"); (case p1 => first | k_mem | with_reducible assumption | walk_at "mine prem"); (case p2 => first | k_mem | with_reducible assumption | walk_at "mine prem"); (case p3 => first | k_mem | with_reducible assumption | walk_at "mine prem"); intro D9 t9 u9 c9 h9 tk9 F9 N9; (try dsimp only); (try k_fold))))
  have hbn : bits ≠ 0 := by omega
  have hk0 := shm0 (b := b) hb
  have hk1 := shm1 (b := b) hb
  have hm := mul_pw (b := b) hb ha
  have hlg := pw_log (b := b) hb
  have hne := pw_ne (b.fmod bits).toNat
  walk_at "mine enter"
  k_steps
  all_goals walk_at "mine end"
  all_goals (first | exact ls1 (by assumption) | exact ls2 (by assumption) (by assumption) | exact ls3 (by assumption) (by assumption))
theorem l_answer (w mean mg mb) (news : Led) (word : Str) (a b J bits : Int) (tw tx ty tj tl : Tok) (hl : word.length ≤ 16) (hb : bits = 32 ∨ bits = 64) (ha : inR a bits) (hr : inR b bits) (hJ : PySem.IntMulOk 2 J) : Ctr w mean mg mb 5 360 [.str word tw, .int a tx, .int b ty, .int J tj, .int bits tl] news (RetP (fun t => .int (wF word a b J bits).1 t) (fun t => .int (wF word a b J bits).2 t) news) := by
  (k_with "mine call" => (k_here; (with_reducible show wpAny _ _ (call (Value.ref 353) _) _ _ _); k_dflt (refine' ctr_use (l_shifted _ _ _ _ _ _ _ _ _ _ _ _ _ ?p0 ?p1 ?p2) ?k1 ?k2 ?k3 ?k4 ?k5 ?k6 ?k7 ?k8 ?_; walk_at "mine ask"; (case p0 => first | k_mem | with_reducible assumption | walk_at "mine prem"); (case p1 => first | k_mem | with_reducible assumption | walk_at "mine prem"); (case p2 => first | k_mem | with_reducible assumption | walk_at "mine prem"); intro t9 h9 tk9 F9 N9; (try dsimp only); (try k_fold))))
  have hm := mul_ok (ha.abs hb) (hr.abs hb)
  have hua := un_abs (n := a) hb
  have hub := un_abs (n := b) hb
  have haa := ha.abs hb
  have hba := hr.abs hb
  walk_at "mine enter"
  k_steps
  all_goals walk_at "mine end"
  all_goals (first | rw [w0 (by assumption)] | rw [w_and (by assumption) (by assumption)] | rw [w_or (by assumption) (by assumption) (by assumption)] | rw [w_xor (by assumption) (by assumption) (by assumption) (by assumption)] | rw [w_div (by assumption) (by assumption) (by assumption) (by assumption) (by assumption)] | rw [w_rem (by assumption) (by assumption) (by assumption) (by assumption) (by assumption)] | rw [w_divu (by assumption) (by assumption) (by assumption) (by assumption) (by assumption) (by assumption) (by assumption)] | rw [w_remu (by assumption) (by assumption) (by assumption) (by assumption) (by assumption) (by assumption) (by assumption)] | rw [w_ck (by assumption) (by assumption) (by assumption) (by assumption) (by assumption) (by assumption) (by assumption) (by assumption) (by assumption)] | rw [w_ex (by assumption) (by assumption) (by assumption) (by assumption) (by assumption) (by assumption) (by assumption) (by assumption) (by assumption)])
theorem l_sameN (w mean mg mb) (news : Led) (D1 D2 : Addr) (f : Int) (t1 t2 : Tok) (c1 c2 : Nat) (h1 : (D1, tupO #[.none, .int f t1] c1) ∈ news) (h2 : (D2, tupO #[.none, .int f t2] c2) ∈ news) : Ctr w mean mg mb 12 367 [.ref D1, .ref D2] news (RetB true news) := by
  (k_with "mine call" => (k_here; (with_reducible show wpAny _ _ (call (Value.ref 360) _) _ _ _); k_dflt (refine' ctr_use (l_answer _ _ _ _ _ _ _ _ _ _ _ _ _ _ _ ?p0 ?p1 ?p2 ?p3 ?p4) ?k1 ?k2 ?k3 ?k4 ?k5 ?k6 ?k7 ?k8 ?_; walk_at "mine ask"; (case p0 => first | k_mem | with_reducible assumption | walk_at "mine prem"); (case p1 => first | k_mem | with_reducible assumption | walk_at "mine prem"); (case p2 => first | k_mem | with_reducible assumption | walk_at "mine prem"); (case p3 => first | k_mem | with_reducible assumption | walk_at "mine prem"); (case p4 => first | k_mem | with_reducible assumption | walk_at "mine prem"); intro D9 t9 u9 c9 h9 tk9 F9 N9; (try dsimp only); (try k_fold))))
  walk_at "mine enter"
  k_steps
  all_goals walk_at "mine end"
  rfl
theorem l_sameS (w mean mg mb) (news : Led) (D1 D2 E1 E2 : Addr) (g n f : Int) (t1 t2 p1 p2 q1 q2 : Tok) (c1 c2 d1 d2 : Nat) (h1 : (D1, tupO #[.ref E1, .int f t1] c1) ∈ news) (h1' : (E1, tupO #[.int g p1, .int n q1] d1) ∈ news) (h2 : (D2, tupO #[.ref E2, .int f t2] c2) ∈ news) (h2' : (E2, tupO #[.int g p2, .int n q2] d2) ∈ news) : Ctr w mean mg mb 12 367 [.ref D1, .ref D2] news (RetB true news) := by
  walk_at "mine enter"
  k_steps
  all_goals walk_at "mine end"
  rfl
theorem l_same (w mean mg mb) (news : Led) (D1 D2 : Addr) (r : Option (Int × Int)) (f : Int) (h1 : Res news D1 r f) (h2 : Res news D2 r f) : Ctr w mean mg mb 12 367 [.ref D1, .ref D2] news (RetB true news) := by
  cases r with
  | none =>
    obtain ⟨t1, c1, h1⟩ := h1
    obtain ⟨t2, c2, h2⟩ := h2
    exact l_sameN _ _ _ _ _ _ _ _ _ _ _ _ h1 h2
  | some p =>
    obtain ⟨g, n⟩ := p
    obtain ⟨E1, p1, q1, t1, c1, d1, h1, h1'⟩ := h1
    obtain ⟨E2, p2, q2, t2, c2, d2, h2, h2'⟩ := h2
    exact l_sameS _ _ _ _ _ _ _ _ _ _ _ _ _ _ _ _ _ _ _ _ _ _ h1 h1' h2 h2'
local macro_rules | `(tactic| walk_at "eval Dict") => `(tactic| (k_here; (with_reducible refine' my_Dict ?t ?F ?N ?b ?a ?l (List.cons_ne_nil _ _) ?g ?_); k_dflt ((case t => rfl); (case F => k_asm); (case N => k_asm); (case b => exact modules_low (Top.nolimit (by with_reducible assumption))); (case a => rfl); (case l => rfl); (case g => decide); intro d9 o9 h9 dn9 F9 N9 lo9 hd9)))
local macro_rules | `(tactic| walk_at "TupStores") => `(tactic| (k_here; k_dflt ((apply TupStores.intro (knd := intKind _ _) (enc := PyData.int) PyProof.V.same_int); (case hu => ktr_units); (case F => k_asm); (case N => k_asm); (case T => ((refine TupTab.ofEmpty ?_ (by assumption) (by assumption)); k_mem)); (case hk => (tupd_keys_int; done)); (case hsz => size_fits); (case' h => intro h9 w9 tk9 F9 N9 T9 K9))))
local macro_rules | `(tactic| walk_at "mine end") => `(tactic| ((rename RetJ _ _ _ _ _ _ _ _ => hR); (refine' end_J hR ?F ?N ?S ?T); (case F => k_asm); (case N => k_asm); (case T => assumption); (case S => (intro p hp; (refine (by assumption : ∀ p ∈ _, p.1 ≠ _ → p ∈ _) p ?_ ((by assumption : ∀ p ∈ _, p.1 ≠ _) p hp)); (repeat (first | exact hp | refine List.Mem.tail _ ?_))))))
theorem l_joins (w mean mg mb) (news : Led) : Ctr w mean mg mb 12 268 [] news (RetJ PySem.Challenge.rw_qd0033_01.row.prog w news) := by
  walk_at "mine enter"
  k_steps
  all_goals walk_at "mine end"
local macro_rules | `(tactic| walk_at "call builtin:dict.get") => `(tactic| (k_here; k_dflt (show wpAny _ _ (call (Value.builtin "dict.get") [Value.ref _, Value.ref _, Value.int 0 _]) _ _ _); k_dflt (refine' my_get ?N ?T ?M ?U ?_; (case N => k_asm); (case T => tuptab_tab); (case M => k_mem); (case U => ktr_units); intro t9 tk9)))
local macro_rules | `(tactic| walk_at "pyIter ref") => `(tactic| (k_here; (with_reducible show wpAny _ _ (pyIter (Value.ref 251)) (fun it s₂ => TurnsAt _ _ _ _ _ _ _ _ _ it s₂) _ _); k_dflt (refine' iter_ops ?hh ?F ?N ?X ?hk ?hc ?hd ?hz ?hP ?_ ?_; (case hh => rfl); (case F => k_asm); (case N => k_asm); (case X => k_asm); (case hk => k_is); (case hc => rfl); (case hd => rfl); (case hz => decide); (case hP => (repeat (first | exact List.forall_mem_nil _ | (refine List.forall_mem_cons.mpr ⟨?_, ?_⟩; focus (exact ⟨_, _, _, _, _, rfl, tupK (by k_asm) (by k_is), by decide +kernel⟩))))))))
local macro_rules | `(tactic| walk_at "StepG") => `(tactic| (unfold StepG; intro I9 T9 op9 word9 t9 u9 o1 o2 o3 o4 o5 o6 h9 tk9 o9 T9' M9 L9 F9 N9))
local macro_rules | `(tactic| walk_at "DoneG") => `(tactic| (unfold DoneG; intro o1 o2 o3 o4 o5 o6 h9 tk9 F9 N9))
local macro_rules | `(tactic| walk_at "assign Tuple") => `(tactic| (k_here; (with_reducible show wpAny _ _ (assign (Expr.Tuple _ _ _) _ (Value.ref _)) _ _ _); k_dflt (refine' unpackN_ ?F ?N (IsTup.keeps ?T (Fr.keep ?F2)) ?hh ?hn ?hs ?_; (case T => assumption); (case F => k_asm); (case N => k_asm); (case F2 => k_asm); (case hh => exact rfl); (case hn => exact rfl); (case hs => exact rfl); intro h9 F9 N9)))
local macro_rules | `(tactic| walk_at "TurnPost") => `(tactic| (k_dflt (refine' turn_end ?F ?N ?I ?S (Jb_of ?J); (case F => k_asm); (case N => k_asm); (case I => k_mem); (case S => walk_at "mine sub"); (case J => (intro y h1 h2 h3 h4 h5 h6; (try dsimp only); (simp only [if_neg h1, if_neg h2, if_neg h3, if_neg h4, if_neg h5, if_neg h6, mJ]))))))
local macro_rules | `(tactic| walk_at "mine want") => `(tactic| first
  | (refine' res_eq (r' := (none, _)) ?e (res_none ?M); (case M => k_mem); (case e => walk_at "mine wants"))
  | (refine' res_eq (r' := (some (_, _), _)) ?e (res_some ?M ?M2); (case M => k_mem); (case M2 => k_mem); (case e => walk_at "mine wants")))
local macro_rules | `(tactic| walk_at "mine wants") => `(tactic| first
  | exact uw0 (by with_reducible assumption) | exact uw1 (by with_reducible assumption) (by with_reducible assumption) | exact uw2 (by with_reducible assumption) (by with_reducible assumption) (by with_reducible assumption) | exact uw3
  | exact want_fS (by with_reducible assumption) (by with_reducible assumption) (by with_reducible assumption)
  | exact want_sS (by with_reducible assumption) (by with_reducible assumption) (by with_reducible assumption) (by with_reducible assumption) (by first | exact .inl (by with_reducible assumption) | exact .inr (by with_reducible assumption))
  | exact want_nS (by with_reducible assumption) (by with_reducible assumption) (by first | exact .inl (by with_reducible assumption) | exact .inr ⟨by with_reducible assumption, by with_reducible assumption⟩)
  | exact want_fJ (by with_reducible assumption) (by with_reducible assumption) (by with_reducible assumption) (by with_reducible assumption) (by with_reducible assumption) (by with_reducible assumption)
  | exact want_sJ (by with_reducible assumption) (by with_reducible assumption) (by with_reducible assumption) (by with_reducible assumption) (by with_reducible assumption) (by with_reducible assumption)
  | exact want_nJ (by with_reducible assumption) (by with_reducible assumption) (by with_reducible assumption) (by with_reducible assumption))
local macro_rules | `(tactic| walk_at "mine wants") => `(tactic| exact oth_at (.inr rfl))
local macro_rules | `(tactic| walk_at "mine prem") => `(tactic| ((with_reducible show inR _ _); exact inr_jne (by with_reducible assumption) (by with_reducible assumption)))
local macro_rules | `(tactic| walk_at "MidI") => `(tactic| (k_dflt (first
  | (refine' mid1 ?F ?N ?e; (case F => with_reducible assumption); (case N => k_asm); (case e => walk_at "mine midv"))
  | (refine' mid0 ?F ?N ?m ?e; (case F => k_asm); (case N => k_asm); (case m => rfl); (case e => walk_at "mine midv")))))
local macro_rules | `(tactic| walk_at "mine midv") => `(tactic| first
  | exact sh1 (by with_reducible assumption) (by with_reducible assumption) | exact sh2 (by with_reducible assumption) (by with_reducible assumption) | exact sh3 (by with_reducible assumption) | exact sh4 (by with_reducible assumption) (by with_reducible assumption)
  | exact jn1 (by with_reducible assumption) | exact jn2 (by with_reducible assumption)
  | exact kp1 (by with_reducible assumption) | exact kp2 (by with_reducible assumption))
local macro_rules | `(tactic| walk_at "mine prem") => `(tactic| ((with_reducible show inR _ _); exact inr_kp (by with_reducible assumption) (by with_reducible assumption)))
local macro_rules | `(tactic| walk_at "mine prem") => `(tactic| ((with_reducible show PySem.IntMulOk 2 _); exact jn_ok))
local macro_rules | `(tactic| walk_at "mine wants") => `(tactic| first
  | exact kpN (by with_reducible assumption) (by with_reducible assumption) (by with_reducible assumption)
  | exact kpFa (by with_reducible assumption) (by with_reducible assumption) (by with_reducible assumption) (by with_reducible assumption) (by with_reducible assumption)
  | exact kpS (by with_reducible assumption) (by with_reducible assumption) (by with_reducible assumption) (by with_reducible assumption) (by with_reducible assumption) (by with_reducible assumption))
local macro_rules | `(tactic| walk_at "exec If") => `(tactic| (k_here; (with_reducible show wpAny _ _ (exec (Stmt.If _ [Stmt.Assign [Expr.Name (Str.ofString "shift_tag") _] _ _] [] _) _) _ _ _); k_dflt ((with_reducible rename JV _ _ _ _ => jv); refine' join_shift jv ?F ?N (wpAny_If ?_) ?_; (case F => k_asm); (case N => k_asm))))
local macro_rules | `(tactic| walk_at "exec If") => `(tactic| (k_here; (with_reducible show wpAny _ _ (exec (Stmt.If _ [Stmt.Assign [Expr.Name (Str.ofString "joint") _] _ _] [] _) _) _ _ _); k_dflt ((with_reducible rename JV _ _ _ _ => jv); refine' join_joint jv ?F ?N (wpAny_If ?_) ?_; (case F => k_asm); (case N => k_asm))))
local macro_rules | `(tactic| walk_at "exec If") => `(tactic| (k_here; (with_reducible show wpAny _ _ (exec (Stmt.If _ [Stmt.Assign [Expr.Name (Str.ofString "kept") _] _ _] [] _) _) _ _ _); k_dflt ((with_reducible rename JV _ _ _ _ => jv); (with_reducible rename (_, _) ∈ opsL => jm); refine' join_kept jv jm ?F ?N (wpAny_If ?_) ?_; (case F => k_asm); (case N => k_asm))))
local macro_rules | `(tactic| walk_at "MidDone") => `(tactic| (unfold MidDone; intro t9 h9 tk9 F9 N9))
theorem l_binary (w mean mg mb) (news : Led) (A : Addr) (vsA : Array Value) (cA : Nat) (x : Int) (tA0 : Tok) (a : Int) (tA1 : Tok) (B : Addr) (vsB : Array Value) (cB : Nat) (y : Int) (tB0 : Tok) (b : Int) (tB1 : Tok) (ta tb : Tok) (hA : (A, tupO vsA cA) ∈ news) (hA0 : vsA[0]? = some (.int x tA0)) (hA1 : numF x = true → vsA[1]? = some (.int a tA1)) (hAr : inR a (bwF x)) (hB : (B, tupO vsB cB) ∈ news) (hB0 : vsB[0]? = some (.int y tB0)) (hB1 : numF y = true → vsB[1]? = some (.int b tB1)) (hBr : inR b (bwF y)) (hx : 1 ≤ x) : Ctr w mean mg mb 16 381 [.ref A, .ref B, .int a ta, .int b tb] news (RetB true news) := by
  (k_with "mine call" => (k_here; (with_reducible show wpAny _ _ (call (Value.ref 268) _) _ _ _); k_dflt (refine' ctr_use (l_joins _ _ _ _ _) ?k1 ?k2 ?k3 ?k4 ?k5 ?k6 ?k7 ?k8 ?_; walk_at "mine ask"; intro D9 w9 h9 tk9 T9 F9 N9; (try dsimp only); (try k_fold))))
  (k_with "mine call" => (k_here; (with_reducible show wpAny _ _ (call (Value.ref 367) _) _ _ _); k_dflt (refine' ctr_use (l_same _ _ _ _ _ _ _ _ _ ?p0 ?p1) ?k1 ?k2 ?k3 ?k4 ?k5 ?k6 ?k7 ?k8 ?_; walk_at "mine ask"; (case p0 => first | assumption | exact Res.mono (by assumption) (fun _ h => List.Mem.tail _ h)); (case p1 => walk_at "mine want"); intro t9 h9 tk9 F9 N9; (try dsimp only); (try k_fold))))
  have jv : JV a b x y := JV.mk
  walk_at "mine enter"
  k_steps
  all_goals walk_at "mine end"
  all_goals rfl
theorem l_single (w mean mg mb) (news : Led) (A : Addr) (vsA : Array Value) (cA : Nat) (x : Int) (tA0 : Tok) (a : Int) (tA1 : Tok) (ta : Tok) (hA : (A, tupO vsA cA) ∈ news) (hA0 : vsA[0]? = some (.int x tA0)) (hA1 : numF x = true → vsA[1]? = some (.int a tA1)) (hAr : inR a (bwF x)) (hx : 1 ≤ x) : Ctr w mean mg mb 14 388 [.ref A, .int a ta] news (RetB true news) := by
  (k_with "mine call" => (k_here; (with_reducible show wpAny _ _ (call (Value.ref 381) _) _ _ _); k_dflt (refine' ctr_use (l_binary _ _ _ _ _ _ _ _ _ _ _ _ _ _ _ _ _ _ _ _ _ ?p0 ?p1 ?p2 ?p3 ?p4 ?p5 ?p6 ?p7 ?p8) ?k1 ?k2 ?k3 ?k4 ?k5 ?k6 ?k7 ?k8 ?_; walk_at "mine ask"; (case p0 => k_mem); (case p1 => with_reducible assumption); (case p2 => with_reducible assumption); (case p3 => with_reducible assumption); (case p4 => k_mem); (case p5 => with_reducible assumption); (case p6 => with_reducible assumption); (case p7 => with_reducible assumption); (case p8 => omega); intro t9 h9 tk9 F9 N9; (try dsimp only); (try k_fold))))
  walk_at "mine enter"
  k_steps
  all_goals walk_at "mine end"
  all_goals rfl
theorem l_ordered (w mean mg mb) (news : Led) (a b bits : Int) (ta tb tc : Tok) (hb : bits = 32 ∨ bits = 64) (ha : inR a bits) (hr : inR b bits) : Ctr w mean mg mb 6 395 [.int a ta, .int b tb, .int bits tc] news (RetB true news) := by
  have ho := ord_lt hb ha hr
  walk_at "mine enter"
  k_steps
  all_goals walk_at "mine end"
  all_goals first
    | exact beq_iff_eq.mpr ho
    | exact absurd rfl (by assumption)
local macro_rules | `(tactic| walk_at "compareOp In ref ref") => `(tactic| (k_here; k_dflt (refine' my_in ?N ?T ?M ?U ?_; (case N => k_asm); (case T => tuptab_tab); (case M => k_mem); (case U => ktr_units); intro tk9)))
theorem l_pair (w mean mg mb) (news : Led) (t x y c : Int) (tt tx ty tc : Tok) : Ctr w mean mg mb 20 402 [.int t tt, .int x tx, .int y ty, .int c tc] news (RetB true news) := by
  (k_with "mine call" => (k_here; (with_reducible show wpAny _ _ (call (Value.ref 388) _) _ _ _); k_dflt (refine' ctr_use (l_single _ _ _ _ _ _ _ _ _ _ _ _ _ ?p0 ?p1 ?p2 ?p3 ?p4) ?k1 ?k2 ?k3 ?k4 ?k5 ?k6 ?k7 ?k8 ?_; walk_at "mine ask"; (case p0 => k_mem); (case p1 => with_reducible assumption); (case p2 => with_reducible assumption); (case p3 => with_reducible assumption); (case p4 => omega); intro t9 h9 tk9 F9 N9; (try dsimp only); (try k_fold))))
  (k_with "mine call" => (k_here; (with_reducible show wpAny _ _ (call (Value.ref 395) _) _ _ _); k_dflt (refine' ctr_use (l_ordered _ _ _ _ _ _ _ _ _ _ _ ?p0 ?p1 ?p2) ?k1 ?k2 ?k3 ?k4 ?k5 ?k6 ?k7 ?k8 ?_; walk_at "mine ask"; (case p0 => exact bw_or _); (case p1 => with_reducible assumption); (case p2 => walk_at "mine prem"); intro t9 h9 tk9 F9 N9; (try dsimp only); (try k_fold))))
  walk_at "mine enter"
  k_steps
  all_goals walk_at "mine end"
  all_goals rfl
local macro_rules | `(tactic| walk_at "pyIter ref") => `(tactic| (k_here; (with_reducible show wpAny _ _ (pyIter (Value.ref _)) (fun it s₂ => LoopAtV _ _ _ _ _ (Str.ofString "p") _ _ _ it s₂) _ _); (with_reducible rename IsRange _ _ _ _ _ _ _ _ => hr9); k_dflt (refine' iter_rng ?hh hr9 ?hb ?F ?N ?_ ?_; (case hh => rfl); (case F => k_asm); (case N => k_asm); (case hb => walk_at "mine count"))))
local macro_rules | `(tactic| walk_at "mine count") => `(tactic| (constructor <;> (repeat' split) <;> omega))
local macro_rules | `(tactic| walk_at "StepR") => `(tactic| (unfold StepR; intro I9 k9 t9 o1 o2 o3 h9 tk9 it9 K0 K1 hlt9 hcls9 F9 N9))
local macro_rules | `(tactic| walk_at "DoneR") => `(tactic| (unfold DoneR; intro o1 o2 o3 h9 tk9 F9 N9))
local macro_rules | `(tactic| walk_at "TurnPost") => `(tactic| (k_dflt (refine' turn_endR ?F ?N ?I ?S (Jr_of ?J); (case F => k_asm); (case N => k_asm); (case I => k_mem); (case S => walk_at "mine sub"); (case J => (intro y h1 h2 h3; (try dsimp only); (simp only [if_neg h1, if_neg h2, if_neg h3, mR]))))))
local macro_rules | `(tactic| k_qdec) => `(tactic| decide +kernel)
theorem lawp : PySem.Challenge.rw_qd0033_01.Holds := Mine.hd (by
  (k_with "mine call" => (k_here; (with_reducible show wpAny _ _ (call (Value.ref 402) _) _ _ _); k_dflt (refine' ctr_use (l_pair _ _ _ _ _ _ _ _ _ _ _ _ _) ?k1 ?k2 ?k3 ?k4 ?k5 ?k6 ?k7 ?k8 ?_; walk_at "mine ask"; intro t9 h9 tk9 F9 N9; (try dsimp only); (try k_fold))))
  k_go0
  all_goals (try k_fold)
  k_steps)
end Mine
theorem PySem.Challenge.cw_qd0033_01_holds : PySem.Challenge.rw_qd0033_01.Holds := by
  exact Mine.lawp
