import PyProof.Rows.All
import Wide.All
import OpenK.AllK
import Wide.FinOn
import HandS.ForMost
import HandS.Wide
import HandS.WideBits
import HandS.RevRange
import HandS.IsInst
import HandS.Defaults
import HandS.RaiseMore
import PySem.Challenge.RW_leafglobe_k04_whole_roots
set_option Elab.async false
set_option linter.all false
set_option maxRecDepth 100000
set_option exponentiation.threshold 2000
/-! Whole roots: the text by places, the small mathematics, the promises of the number defs. -/
namespace Wr
open PySem PySem.Spec PyProof.Rows L2
/-! ### the text -/
def topS (i : Nat) : Stmt := PySem.Challenge.pw_leafglobe_k04_whole_roots.main.body.getD i (.Pass ⟨0, 0, 0, 0⟩)
abbrev sIsWhole : Stmt := topS 5
abbrev sAreWhole : Stmt := topS 6
abbrev sShared : Stmt := topS 7
abbrev sPartAll : Stmt := topS 8
abbrev sIsLowest : Stmt := topS 9
abbrev sIsFrac : Stmt := topS 12
abbrev sNeedFrac : Stmt := topS 13
abbrev sNeedHalv : Stmt := topS 14
abbrev sRootBy : Stmt := topS 15
abbrev sWholeRoot : Stmt := topS 16
abbrev sFloorBy : Stmt := topS 17
abbrev sFloorOf : Stmt := topS 18
abbrev sPool : Stmt := topS 20
abbrev sTake : Stmt := topS 21
abbrev sGreat : Stmt := topS 22
abbrev sBase : Stmt := topS 23
abbrev sLaw : Stmt := topS 24
theorem scIsWhole : FnScope ["thing"] ["thing"] (defScope sIsWhole) := ⟨rfl, rfl, rfl, by decide +kernel, rfl, by decide +kernel, by decide +kernel⟩
theorem scAreWhole : FnScope ["thing", "many", "part"] ["thing", "many"] (defScope sAreWhole) := ⟨rfl, rfl, rfl, by decide +kernel, rfl, by decide +kernel, by decide +kernel⟩
theorem scShared : FnScope ["one", "other"] ["one", "other"] (defScope sShared) := ⟨rfl, rfl, rfl, by decide +kernel, rfl, by decide +kernel, by decide +kernel⟩
theorem scPartAll : FnScope ["row", "found", "number"] ["row"] (defScope sPartAll) := ⟨rfl, rfl, rfl, by decide +kernel, rfl, by decide +kernel, by decide +kernel⟩
theorem scIsLowest : FnScope ["thing", "many"] ["thing", "many"] (defScope sIsLowest) := ⟨rfl, rfl, rfl, by decide +kernel, rfl, by decide +kernel, by decide +kernel⟩
theorem scIsFrac : FnScope ["thing"] ["thing"] (defScope sIsFrac) := ⟨rfl, rfl, rfl, by decide +kernel, rfl, by decide +kernel, by decide +kernel⟩
theorem scNeedFrac : FnScope ["thing"] ["thing"] (defScope sNeedFrac) := ⟨rfl, rfl, rfl, by decide +kernel, rfl, by decide +kernel, by decide +kernel⟩
theorem scNeedHalv : FnScope ["thing", "upto"] ["thing", "upto"] (defScope sNeedHalv) := ⟨rfl, rfl, rfl, by decide +kernel, rfl, by decide +kernel, by decide +kernel⟩
theorem scRootBy : FnScope ["number", "found", "place", "tried"] ["number"] (defScope sRootBy) := ⟨rfl, rfl, rfl, by decide +kernel, rfl, by decide +kernel, by decide +kernel⟩
theorem scWholeRoot : FnScope ["number"] ["number"] (defScope sWholeRoot) := ⟨rfl, rfl, rfl, by decide +kernel, rfl, by decide +kernel, by decide +kernel⟩
theorem scFloorBy : FnScope ["fraction", "halvings", "over", "under"] ["fraction", "halvings"] (defScope sFloorBy) := ⟨rfl, rfl, rfl, by decide +kernel, rfl, by decide +kernel, by decide +kernel⟩
theorem scFloorOf : FnScope ["fraction", "halvings"] ["fraction", "halvings"] (defScope sFloorOf) := ⟨rfl, rfl, rfl, by decide +kernel, rfl, by decide +kernel, by decide +kernel⟩
/-! ### the mathematics -/
theorem pow_step (p : Nat) : (2 : Int) ^ (p + 1) = 2 * 2 ^ p := by
  rw [Int.pow_succ]
  exact Int.mul_comm _ _
theorem pow_pos2 (p : Nat) : (0 : Int) < 2 ^ p := Int.pow_pos (by decide)
theorem sq_le {a b : Int} (h0 : 0 ≤ a) (h : a ≤ b) : a * a ≤ b * b := Int.mul_le_mul h h h0 (Int.le_trans h0 h)
/-- two whole roots are one -/
theorem root_one {n r s : Int} (hr : 0 ≤ r) (hs : 0 ≤ s) (r1 : r * r ≤ n) (r2 : n < (r + 1) * (r + 1)) (s1 : s * s ≤ n) (s2 : n < (s + 1) * (s + 1)) : r = s := by
  rcases Int.lt_trichotomy r s with h | h | h
  · have := sq_le (a := r + 1) (b := s) (by omega) (by omega)
    omega
  · exact h
  · have := sq_le (a := s + 1) (b := r) (by omega) (by omega)
    omega
/-- what holds ahead of the turn at place p - 1: found is a multiple of 2 ^ p, the root lies within 2 ^ p of it -/
structure Near (n f : Int) (p : Nat) : Prop where
  mul : ∃ q : Int, 0 ≤ q ∧ f = q * 2 ^ p
  lo : f * f ≤ n
  hi : n < (f + 2 ^ p) * (f + 2 ^ p)
theorem Near.nn {n f : Int} {p : Nat} (h : Near n f p) : 0 ≤ f := by
  obtain ⟨q, h0, rfl⟩ := h.mul
  exact Int.mul_nonneg h0 (Int.le_of_lt (pow_pos2 p))
theorem Near.le {n f : Int} {p : Nat} (h : Near n f p) : f ≤ n := by
  have h0 := h.nn
  have h1 := h.lo
  by_cases z : f = 0
  · rw [z] at h1 ⊢
    omega
  · have : f * 1 ≤ f * f := Int.mul_le_mul_of_nonneg_left (by omega) h0
    omega
theorem Near.yes {n f : Int} {p : Nat} (h : Near n f (p + 1)) (y : (f + 2 ^ p) * (f + 2 ^ p) ≤ n) : Near n (f + 2 ^ p) p := by
  obtain ⟨q, h0, e⟩ := h.mul
  have hi := h.hi
  rw [pow_step] at e hi
  refine ⟨⟨2 * q + 1, by omega, ?_⟩, y, ?_⟩
  · rw [e, Int.add_mul, Int.one_mul, Int.mul_comm 2 q, Int.mul_assoc]
  · rw [show f + 2 ^ p + 2 ^ p = f + 2 * 2 ^ p by omega]
    exact hi
theorem Near.no {n f : Int} {p : Nat} (h : Near n f (p + 1)) (y : ¬ (f + 2 ^ p) * (f + 2 ^ p) ≤ n) : Near n f p := by
  obtain ⟨q, h0, e⟩ := h.mul
  rw [pow_step] at e
  refine ⟨⟨2 * q, by omega, ?_⟩, h.lo, by omega⟩
  rw [e, Int.mul_comm 2 q, Int.mul_assoc]
theorem near_first {n : Int} {m : Nat} (h0 : 0 ≤ n) (h : n < 2 ^ m * 2 ^ m) : Near n 0 m := ⟨⟨0, Int.le_refl _, (Int.zero_mul _).symm⟩, by omega, by rw [Int.zero_add]; exact h⟩
theorem near_last {n f : Int} (h : Near n f 0) : n < (f + 1) * (f + 1) := h.hi
theorem bits_lt (n : Int) : n.natAbs < 2 ^ Builtin.Int.intBits n := by
  unfold Builtin.Int.intBits
  split
  · rename_i h
    rw [eq_of_beq h]
    decide
  · exact Nat.lt_log2_self
theorem bits_sq {n : Int} (h0 : 0 ≤ n) : n < 2 ^ ((Builtin.Int.intBits n + 1) / 2) * 2 ^ ((Builtin.Int.intBits n + 1) / 2) := by
  have h := bits_lt n
  generalize Builtin.Int.intBits n = b at h ⊢
  rw [← Int.pow_add]
  have h2 : (2 : Nat) ^ b ≤ 2 ^ ((b + 1) / 2 + (b + 1) / 2) := Nat.pow_le_pow_right (by decide) (by omega)
  have h3 : ((2 ^ ((b + 1) / 2 + (b + 1) / 2) : Nat) : Int) = (2 : Int) ^ ((b + 1) / 2 + (b + 1) / 2) := by
    rw [Int.natCast_pow]
    rfl
  rw [← h3]
  omega
theorem bits_le {n : Int} {k : Nat} (h : n.natAbs < 2 ^ k) : Builtin.Int.intBits n ≤ k := PyProof.Rows.intBits_le h
theorem abs_eq (x : Int) : (if x < 0 then -x else x) = (x.natAbs : Int) := by
  split <;> omega
theorem gcd_step (a b : Nat) (h : b ≠ 0) : Nat.gcd b (a % b) = Nat.gcd a b := by
  rw [Nat.gcd_comm b (a % b), ← Nat.gcd_rec, Nat.gcd_comm]
end Wr
namespace Wr
open PySem PySem.Spec PyProof.Rows L2
/-- a def of the text behind the top, its name, how it is called by places -/
structure Df (K : PySem.W.Frag) (mg : Str → Option Value) (x : Str) (st : Stmt) (ps : List Str) (f : Addr) (fd : FuncData) : Prop where
  F : Fun K x x st f fd
  g : mg x = some (.ref f)
  b : Binds K fd ps []
/-- the built-in names that no def of the text hides -/
structure Free (mg : Str → Option Value) : Prop where
  isi : mg "isinstance" = none
  int : mg "int" = none
  bool : mg "bool" = none
  tup : mg "tuple" = none
  len : mg "len" = none
  all : mg "all" = none
  abs : mg "abs" = none
  rev : mg "reversed" = none
  rng : mg "range" = none
  max : mg "max" = none
  min : mg "min" = none
  repr : mg "repr" = none
theorem same_refl {H : Hp} : Same H H := fun _ _ e => e
theorem same_new {H : Hp} {p : Addr} {o : HO} (h : H p = none) : Same H (upd H p o) := fun b x e => by
  rw [upd_ne (ne_of_none e h)]
  exact e
section
variable {P : Program} {w : World} {K : PySem.W.Frag} {mg : Str → Option Value} {base : Heap}
/-! ### is_whole -/
def spIsWhole : Sp := fun vs H Q _ => ∃ n : Int, vs = [.int n] ∧ Q (.bl true) H
theorem ok_isWhole {f : Addr} {fd : FuncData} (D : Df K mg "is_whole" sIsWhole ["thing"] f fd) (B : Free mg) : FnOk P w K mg base CX0 1 f fd ["thing"] spIsWhole := by
  refine D.F.ok scIsWhole (fun vs H Q E h => ?_) (fun cdv A outer s H vs Q E hr h => ?_)
  · obtain ⟨n, rfl, _⟩ := h
    rfl
  · obtain ⟨n, rfl, q⟩ := h
    refine ⟨_, pss_one (ps_ret (pe_and
      (pe_callB call_isi (by rfl) B.isi (by decide +kernel) (pa_cons (pv 0) (pa_cons (pe_bltn (v := .ty "int") (by rfl) B.int (by decide +kernel) rfl) pa_nil)))
      (pe_one (pe_not (pe_callB call_isi (by rfl) B.isi (by decide +kernel) (pa_cons (pv 0) (pa_cons (pe_bltn (v := .ty "bool") (by rfl) B.bool (by decide +kernel) rfl) pa_nil))))))), ?_⟩
    refine ⟨.int n, rfl, .int n, .ty "int", .type "int", .type "int", true, rfl, .ty _, .base (.int n), kit_ty (by decide +kernel), true, rfl, iteT ?_⟩
    exact ⟨.int n, rfl, .int n, .ty "bool", .type "int", .type "bool", false, rfl, .ty _, .base (.int n), kit_ty (by decide +kernel), false, rfl, q⟩
/-! ### shared_part -/
def spShared : Sp := fun vs H Q _ => ∃ x y : Int, vs = [.int x, .int y] ∧ Q (.int (Int.gcd x y)) H
theorem ok_shared {f : Addr} {fd : FuncData} (D : Df K mg "shared_part" sShared ["one", "other"] f fd) (B : Free mg) : FnOk P w K mg base CX0 1 f fd ["one", "other"] spShared := by
  refine D.F.ok scShared (fun vs H Q E h => ?_) (fun cdv A outer s H vs Q E hr h => ?_)
  · obtain ⟨x, y, rfl, _⟩ := h
    rfl
  · obtain ⟨x, y, rfl, q⟩ := h
    refine ⟨_, pss_cons (ps_par (i := 0) (j := 1) rfl scShared.nd rfl rfl (by decide) rfl rfl (pa_cons (pe_callB call_abs (by rfl) B.abs (by decide +kernel) (pa_cons (pv 0) pa_nil)) (pa_cons (pe_callB call_abs (by rfl) B.abs (by decide +kernel) (pa_cons (pv 1) pa_nil)) pa_nil)) (by rfl))
      (pss_cons (ps_while PassesOwn.never (pt_cmpR op_ne (pv 1) pe_int (nomark _))
        (pss_one (ps_par (i := 0) (j := 1) rfl scShared.nd rfl rfl (by decide) rfl rfl (pa_cons (pv 1) (pa_cons (pe_op op_mod (pv 0) (pv 1)) pa_nil)) (by rfl))))
      (pss_one (ps_ret (pv 0)))), ?_⟩
    refine ⟨.int x, rfl, x, rfl, .int y, rfl, y, rfl, _, _, rfl, ?_⟩
    rw [abs_eq, abs_eq]
    refine ⟨fun m σ H' => ∃ a b : Nat, σ = [some (.int (a : Int)), some (.int (b : Int))] ∧ Nat.gcd a b = Int.gcd x y ∧ m = b ∧ H' = H, ⟨_, x.natAbs, y.natAbs, rfl, rfl, rfl, rfl⟩, fun m σ H' hW => ?_⟩
    obtain ⟨a, b, rfl, eg, rfl, rfl⟩ := hW
    refine ⟨.int (m : Int), rfl, rfl, _, rfl, ?_⟩
    by_cases hb : m = 0
    · subst hb
      refine iteNS rfl ?_
      refine ⟨.int (a : Int), rfl, ?_⟩
      rw [Nat.gcd_zero_right] at eg
      rw [eg]
      exact q
    · have hne : ¬ V.int (m : Int) = V.int 0 := fun e => hb (by
        have := V.int.inj e
        omega)
      rw [decide_eq_false hne]
      refine iteT ?_
      refine ⟨fun σ' H'' => ∃ c d : Nat, σ' = [some (.int (c : Int)), some (.int (d : Int))] ∧ Nat.gcd c d = Int.gcd x y ∧ d < m ∧ H'' = H', fun σ' H'' hN => ?_, ?_⟩
      · obtain ⟨c, d, e1, e2, e3, e4⟩ := hN
        exact ⟨d, e3, c, d, e1, e2, rfl, e4⟩
      · refine ⟨.int (m : Int), rfl, .int (a : Int), rfl, .int (m : Int), rfl, _, _, rfl, rfl, (by omega), _, _, rfl, m, a % m, ?_, ?_, Nat.mod_lt _ (by omega), rfl⟩
        · show [some (V.int (m : Int)), some (V.int ((a : Int) % (m : Int)))] = [some (V.int (m : Int)), some (V.int ((a % m : Nat) : Int))]
          rw [Int.natCast_emod]
        · rw [gcd_step a m hb]
          exact eg
/-! ### root_by, whole_root -/
def spRoot : Sp := fun vs H Q _ => ∃ n : Int, vs = [.int n] ∧ 0 ≤ n ∧ n.natAbs < 2 ^ 400 ∧ ∀ r : Int, 0 ≤ r → r * r ≤ n → n < (r + 1) * (r + 1) → Q (.int r) H
theorem ok_rootBy {f : Addr} {fd : FuncData} (D : Df K mg "root_by" sRootBy ["number"] f fd) (B : Free mg) : FnOk P w K mg base CX0 1 f fd ["number"] spRoot := by
  refine D.F.ok scRootBy (fun vs H Q E h => ?_) (fun cdv A outer s H vs Q E hr h => ?_)
  · obtain ⟨n, rfl, _⟩ := h
    rfl
  · obtain ⟨n, rfl, h0, hn, q⟩ := h
    refine ⟨_, pss_cons (ps_set (i := 1) scRootBy.nd rfl (.inl rfl) pe_int)
      (pss_cons (ps_for PassesOwn.never rfl (pi_revR (by rfl) B.rev (prg_1 (by rfl) B.rng (pe_op op_fdiv (pe_op op_add (pe_bits (pv 0)) pe_int) pe_int))) (pg_name (i := 2) scRootBy.nd rfl (.inl rfl))
        (pss_cons (ps_set (i := 3) scRootBy.nd rfl (.inl rfl) (pe_op op_orL (pv 1) (pe_op op_oneShl pe_int (pv 2))))
        (pss_one (ps_if (pt_cmpR op_le (pe_op op_mulW (pv 3) (pv 3)) (pv 0) (nomark _)) (pss_one (ps_set (i := 1) scRootBy.nd rfl (.inl rfl) (pv 3))) pss_nil))))
      (pss_one (ps_ret (pv 1)))), ?_⟩
    have hb := bits_le hn
    have hsq := bits_sq h0
    have em : ((Builtin.Int.intBits n : Nat) + 1 : Int) / 2 = (((Builtin.Int.intBits n + 1) / 2 : Nat) : Int) := by omega
    refine ⟨.int n, rfl, n, rfl, _, _, rfl, rfl, _, _, rfl, rfl, ⟨by decide, by decide⟩, _, rfl, ?_⟩
    rw [em]
    generalize hm : (Builtin.Int.intBits n + 1) / 2 = m at hsq
    have hm2 : m ≤ 200 := by omega
    have e0 : ((m : Int) - 0).toNat = m := by omega
    refine ⟨by decide, by decide, by omega, by omega, ?_⟩
    rw [e0]
    refine for_rangeC (lo := 0 + (m : Int) - 1) (c := -1) (n := m) (fun i σ H' => H' = H ∧ ∃ (fo : Int) (y2 y3 : Option V), σ = [some (.int n), some (.int fo), y2, y3] ∧ Near n fo (m - i))
      ⟨rfl, 0, none, none, rfl, near_first h0 hsq⟩ ?_ ?_
    · rintro i σ H' hi ⟨rfl, fo, y2, y3, rfl, N⟩
      obtain ⟨p, ep⟩ : ∃ p, m - i = p + 1 := ⟨m - i - 1, by omega⟩
      have ei : (0 + (m : Int) - 1) + (i : Nat) * (-1) = (p : Int) := by omega
      rw [ep] at N
      rw [ei]
      obtain ⟨a, ha, ea⟩ := N.mul
      have hfn := N.nn
      have hfl := N.le
      have hpp := pow_pos2 p
      have hp200 : p ≤ 200 := by omega
      have hlt : (2 : Int) ^ p < 2 ^ (p + 1) := by
        rw [pow_step]
        omega
      have hpn : ((2 : Int) ^ p).natAbs < 2 ^ 400 := by
        rw [Int.natAbs_pow]
        exact Nat.pow_lt_pow_right (by decide) (by omega)
      have hT : (fo + 2 ^ p).natAbs < 2 ^ 401 := by
        have : (2 : Nat) ^ 401 = 2 ^ 400 + 2 ^ 400 := by decide
        omega
      -- tried = found | 1 << place
      refine ⟨.int fo, rfl, .int (p : Int), rfl, p, rfl, rfl, by omega, a, 2 ^ p, p + 1, ?_, rfl, ⟨ha, by omega, hlt⟩, ?_⟩
      · rw [ea]
      rw [← ea]
      -- if tried * tried <= number
      refine ⟨.int (fo + 2 ^ p), rfl, .int (fo + 2 ^ p), rfl, _, _, rfl, rfl, wide_mul hT hT (by decide) (by decide) (by decide), .int n, rfl, _, _, rfl, rfl, _, rfl, ?_⟩
      have emi : m - (i + 1) = p := by omega
      refine ite2 (fun y => ?_) (fun y => ?_)
      · refine ⟨.int (fo + 2 ^ p), rfl, rfl, fo + 2 ^ p, _, _, rfl, ?_⟩
        rw [emi]
        exact N.yes (of_decide_eq_true y)
      · refine ⟨rfl, fo, _, _, rfl, ?_⟩
        rw [emi]
        exact N.no fun z => y (decide_eq_true z)
    · rintro σ H' ⟨rfl, fo, y2, y3, rfl, N⟩
      rw [Nat.sub_self] at N
      exact ⟨.int fo, rfl, q fo N.nn N.lo (near_last N)⟩
theorem ok_wholeRoot {f f1 f2 : Addr} {fd fd1 fd2 : FuncData} (D : Df K mg "whole_root" sWholeRoot ["number"] f fd) (B : Free mg) (D1 : Df K mg "is_whole" sIsWhole ["thing"] f1 fd1) (D2 : Df K mg "root_by" sRootBy ["number"] f2 fd2) :
    FnOk P w K mg base CX0 2 f fd ["number"] spRoot := by
  have G1 : FnOk P w K mg base CX0 1 f1 fd1 ["thing"] spIsWhole := ok_isWhole D1 B
  have G2 : FnOk P w K mg base CX0 1 f2 fd2 ["number"] spRoot := ok_rootBy D2 B
  refine D.F.ok scWholeRoot (fun vs H Q E h => ?_) (fun cdv A outer s H vs Q E hr h => ?_)
  · obtain ⟨n, rfl, _⟩ := h
    rfl
  · obtain ⟨n, rfl, h0, hn, q⟩ := h
    refine ⟨_, pss_cons (ps_if (PW.pt (pw_or (pt_not (pt_val (pe_call G1 hr (by rfl) D1.g D1.F.kp D1.b .nil pass0 (pa_cons (pv 0) pa_nil)))) (pw_or1 (pt_cmpR op_lt (pv 0) pe_int (nomark _))))) (pss_one ps_never) pss_nil)
      (pss_one (ps_ret (pe_call G2 hr (by rfl) D2.g D2.F.kp D2.b .nil pass0 (pa_cons (pv 0) pa_nil)))), ?_⟩
    refine ⟨.int n, rfl, n, rfl, true, rfl, ?_⟩
    refine iteF ?_
    refine ⟨.int n, rfl, _, _, rfl, rfl, _, rfl, ?_⟩
    rw [decide_eq_false (show ¬ n < 0 by omega)]
    refine iteF ?_
    exact ⟨.int n, rfl, n, rfl, h0, hn, q⟩
end
end Wr
namespace Wr
open PySem PySem.Spec PyProof.Rows L2
section
variable {P : Program} {w : World} {K : PySem.W.Frag} {mg : Str → Option Value} {base : Heap}
/-! ### are_whole .. need_fraction: of a tuple of two ints, the second 1 -/
def spAreWhole : Sp := fun vs H Q _ => ∃ (a : Addr) (x y : Int), vs = [.ref a, .int 2] ∧ H a = some (.tup [.int x, .int y]) ∧ ∀ H', Same H H' → Q (.bl true) H'
theorem ok_areWhole {f f1 : Addr} {fd fd1 : FuncData} (D : Df K mg "are_whole" sAreWhole ["thing", "many"] f fd) (B : Free mg) (D1 : Df K mg "is_whole" sIsWhole ["thing"] f1 fd1) :
    FnOk P w K mg base CX0 2 f fd ["thing", "many"] spAreWhole := by
  have G1 : FnOk P w K mg base CX0 1 f1 fd1 ["thing"] spIsWhole := ok_isWhole D1 B
  refine D.F.ok scAreWhole (fun vs H Q E h => ?_) (fun cdv A outer s H vs Q E hr h => ?_)
  · obtain ⟨a, x, y, rfl, _⟩ := h
    rfl
  · obtain ⟨a, x, y, rfl, ha, q⟩ := h
    refine ⟨_, pss_one (ps_ret (pe_and
      (pe_callB call_isi (by rfl) B.isi (by decide +kernel) (pa_cons (pv 0) (pa_cons (pe_bltn (v := .ty "tuple") (by rfl) B.tup (by decide +kernel) rfl) pa_nil)))
      (pe_and (pe_cmpR op_eq (pe_callB call_len_seq (by rfl) B.len PySem.boot_len (pa_cons (pv 0) pa_nil)) (pv 1) (nomark _))
      (pe_one (pe_callB (cr_all rfl) (by rfl) B.all (by decide +kernel) (pa_cons
        (pe_lc (own := [("part", 2)]) (g := gName 2) (tt := tYes) rfl scAreWhole.nd (pi_tup (pv 0)) (blkOk_by (N := ["thing", "many", "part"]) (sc := defScope sAreWhole) (by decide +kernel))
          (fun _ _ _ _ _ => pg_name (i := 2) scAreWhole.nd rfl (Or.inl rfl)) (fun _ _ _ _ _ => pts_nil) (fun _ _ _ _ _ => pe_call G1 hr (by rfl) D1.g D1.F.kp D1.b .nil pass0 (pa_cons (pv 2) pa_nil))) pa_nil)))))), ?_⟩
    refine ⟨.ref a, rfl, .ref a, .ty "tuple", .type "tuple", .type "tuple", true, rfl, .ty _, .base (.tup ha), kit_ty (by decide +kernel), true, rfl, iteT ?_⟩
    have hT : SqT K H a [.int x, .int y] := .inl (.inl ha)
    refine ⟨.ref a, rfl, a, _, rfl, .inr hT, .int 2, rfl, rfl, true, rfl, iteT ?_⟩
    refine ⟨.ref a, rfl, a, rfl, ⟨_, hT⟩, fun L hL => ?_⟩
    refine lc_tup (K := K) (a := a) (xs := [.int x, .int y]) (fun i H' => Same H H' ∧ H' L = some (.lst (List.replicate i (V.bl true)))) ⟨same_new hL, upd_same⟩ (fun i H' _ h => .inl (.inl (h.1 _ _ ha))) ?_ ?_
    · rintro i v H' hi ⟨sm, e⟩
      obtain ⟨z, rfl⟩ : ∃ z, v = V.int z := by
        match i, hi with
        | 0, hi => exact ⟨x, (Option.some.inj hi).symm⟩
        | 1, hi => exact ⟨y, (Option.some.inj hi).symm⟩
        | i + 2, hi => exact absurd hi (by simp)
      have hi2 : i < 2 := (List.getElem?_eq_some_iff.mp hi).1
      refine ⟨rfl, .int z, rfl, z, rfl, _, e, ?_, ?_, ?_⟩
      · rw [List.length_replicate]
        exact small1000 (by omega)
      · exact fun b o hb => by
          rw [upd_ne (ne_of_none hb hL)]
          exact sm _ _ hb
      · rw [upd_same, List.replicate_succ']
    · rintro H' ⟨sm, e⟩
      refine ⟨L, [true, true], rfl, .inl (.inl e), ?_⟩
      exact q H' sm
def spPartAll : Sp := fun vs H Q _ => ∃ (a : Addr) (x : Int), vs = [.ref a] ∧ H a = some (.tup [.int x, .int 1]) ∧ Q (.int 1) H
theorem ok_partAll {f f1 : Addr} {fd fd1 : FuncData} (D : Df K mg "part_of_all" sPartAll ["row"] f fd) (B : Free mg) (D1 : Df K mg "shared_part" sShared ["one", "other"] f1 fd1) :
    FnOk P w K mg base CX0 2 f fd ["row"] spPartAll := by
  have G1 : FnOk P w K mg base CX0 1 f1 fd1 ["one", "other"] spShared := ok_shared D1 B
  refine D.F.ok scPartAll (fun vs H Q E h => ?_) (fun cdv A outer s H vs Q E hr h => ?_)
  · obtain ⟨a, x, rfl, _⟩ := h
    rfl
  · obtain ⟨a, x, rfl, ha, q⟩ := h
    refine ⟨_, pss_cons (ps_set (i := 1) scPartAll.nd rfl (.inl rfl) pe_int)
      (pss_cons (ps_for PassesOwn.never rfl (pi_tup (pv 0)) (pg_name (i := 2) scPartAll.nd rfl (.inl rfl))
        (pss_one (ps_set (i := 1) scPartAll.nd rfl (.inl rfl) (pe_call G1 hr (by rfl) D1.g D1.F.kp D1.b .nil pass0 (pa_cons (pv 1) (pa_cons (pv 2) pa_nil))))))
      (pss_one (ps_ret (pv 1)))), ?_⟩
    have hT : SqT K H a [.int x, .int 1] := .inl (.inl ha)
    refine ⟨.ref a, rfl, a, rfl, ⟨_, hT⟩, for_tup (K := K) (a := a) (xs := [.int x, .int 1]) (fun i σ H' => H' = H ∧ ∃ (g : Int) (v : Option V), σ = [some (.ref a), some (.int g), v] ∧ (i = 2 → g = 1))
      ⟨rfl, 0, none, rfl, fun z => by omega⟩ (fun i σ H' _ h => by rw [h.1]; exact hT) ?_ ?_⟩
    · rintro i v σ H' hi ⟨rfl, g, v2, rfl, _⟩
      match i, hi with
      | 0, hi =>
        obtain rfl : V.int x = v := Option.some.inj hi
        exact ⟨.int g, rfl, .int x, rfl, g, x, rfl, rfl, _, _, rfl, fun z => by omega⟩
      | 1, hi =>
        obtain rfl : V.int 1 = v := Option.some.inj hi
        refine ⟨.int g, rfl, .int 1, rfl, g, 1, rfl, rfl, _, _, rfl, fun _ => ?_⟩
        rw [Int.gcd_one]
        rfl
      | i + 2, hi => exact absurd hi (by simp)
    · rintro σ H' ⟨rfl, g, v, rfl, e⟩
      have e2 := e rfl
      subst e2
      exact ⟨.int 1, rfl, q⟩
def spIsLowest : Sp := fun vs H Q _ => ∃ (a : Addr) (x : Int), vs = [.ref a, .int 2] ∧ H a = some (.tup [.int x, .int 1]) ∧ ∀ H', Same H H' → Q (.bl true) H'
theorem ok_isLowest {f f1 f2 f3 f4 : Addr} {fd fd1 fd2 fd3 fd4 : FuncData} (D : Df K mg "is_lowest" sIsLowest ["thing", "many"] f fd) (B : Free mg) (D1 : Df K mg "is_whole" sIsWhole ["thing"] f1 fd1) (D2 : Df K mg "are_whole" sAreWhole ["thing", "many"] f2 fd2)
    (D3 : Df K mg "shared_part" sShared ["one", "other"] f3 fd3) (D4 : Df K mg "part_of_all" sPartAll ["row"] f4 fd4) : FnOk P w K mg base CX0 3 f fd ["thing", "many"] spIsLowest := by
  have G2 : FnOk P w K mg base CX0 2 f2 fd2 ["thing", "many"] spAreWhole := ok_areWhole D2 B D1
  have G4 : FnOk P w K mg base CX0 2 f4 fd4 ["row"] spPartAll := ok_partAll D4 B D3
  refine D.F.ok scIsLowest (fun vs H Q E h => ?_) (fun cdv A outer s H vs Q E hr h => ?_)
  · obtain ⟨a, x, rfl, _⟩ := h
    rfl
  · obtain ⟨a, x, rfl, ha, q⟩ := h
    refine ⟨_, pss_one (ps_ret (pe_and (pe_call G2 hr (by rfl) D2.g D2.F.kp D2.b .nil pass0 (pa_cons (pv 0) (pa_cons (pv 1) pa_nil)))
      (pe_one (pe_cmpR op_eq (pe_call G4 hr (by rfl) D4.g D4.F.kp D4.b .nil pass0 (pa_cons (pv 0) pa_nil)) pe_int (nomark _))))), ?_⟩
    refine ⟨.ref a, rfl, .int 2, rfl, a, x, 1, rfl, ha, fun H' sm => ⟨true, rfl, iteT ?_⟩⟩
    exact ⟨.ref a, rfl, a, x, rfl, sm _ _ ha, rfl, q H' sm⟩
def spIsFrac : Sp := fun vs H Q _ => ∃ (a : Addr) (x : Int), vs = [.ref a] ∧ H a = some (.tup [.int x, .int 1]) ∧ ∀ H', Same H H' → Q (.bl true) H'
theorem ok_isFrac {f f1 : Addr} {fd fd1 : FuncData} (D : Df K mg "is_fraction" sIsFrac ["thing"] f fd) (D1 : Df K mg "is_lowest" sIsLowest ["thing", "many"] f1 fd1) (G1 : FnOk P w K mg base CX0 3 f1 fd1 ["thing", "many"] spIsLowest) :
    FnOk P w K mg base CX0 4 f fd ["thing"] spIsFrac := by
  refine D.F.ok scIsFrac (fun vs H Q E h => ?_) (fun cdv A outer s H vs Q E hr h => ?_)
  · obtain ⟨a, x, rfl, _⟩ := h
    rfl
  · obtain ⟨a, x, rfl, ha, q⟩ := h
    refine ⟨_, pss_one (ps_ret (pe_and (pe_call G1 hr (by rfl) D1.g D1.F.kp D1.b .nil pass0 (pa_cons (pv 0) (pa_cons pe_int pa_nil)))
      (pe_one (pe_cmpR op_ge (pe_ix ix_tup (pv 0) pe_int (fun _ _ => rfl)) pe_int (nomark _))))), ?_⟩
    refine ⟨.ref a, rfl, a, x, rfl, ha, fun H' sm => ⟨true, rfl, iteT ?_⟩⟩
    exact ⟨.ref a, rfl, a, _, 1, .int 1, rfl, rfl, .inl (.inl (sm _ _ ha)), atI_nat (j := 1) rfl, _, _, rfl, rfl, q H' sm⟩
def spNeedFrac : Sp := fun vs H Q _ => ∃ (a : Addr) (x : Int), vs = [.ref a] ∧ H a = some (.tup [.int x, .int 1]) ∧ ∀ H', Same H H' → Q .non H'
theorem ok_needFrac {f f1 : Addr} {fd fd1 : FuncData} (D : Df K mg "need_fraction" sNeedFrac ["thing"] f fd) (D1 : Df K mg "is_fraction" sIsFrac ["thing"] f1 fd1) (G1 : FnOk P w K mg base CX0 4 f1 fd1 ["thing"] spIsFrac) :
    FnOk P w K mg base CX0 5 f fd ["thing"] spNeedFrac := by
  refine D.F.ok scNeedFrac (fun vs H Q E h => ?_) (fun cdv A outer s H vs Q E hr h => ?_)
  · obtain ⟨a, x, rfl, _⟩ := h
    rfl
  · obtain ⟨a, x, rfl, ha, q⟩ := h
    refine ⟨_, pss_one (ps_if (pt_not (pt_val (pe_call G1 hr (by rfl) D1.g D1.F.kp D1.b .nil pass0 (pa_cons (pv 0) pa_nil)))) (pss_one ps_never) pss_nil), ?_⟩
    exact ⟨.ref a, rfl, a, x, rfl, ha, fun H' sm => ⟨true, rfl, iteF (q H' sm)⟩⟩
def spNeedHalv : Sp := fun vs H Q _ => ∃ n : Int, vs = [.int n, .int 200] ∧ 0 ≤ n ∧ n ≤ 200 ∧ Q .non H
theorem ok_needHalv {f f1 : Addr} {fd fd1 : FuncData} (F : Fun K "need_halvings" "need_halvings" sNeedHalv f fd) (B : Free mg) (D1 : Df K mg "is_whole" sIsWhole ["thing"] f1 fd1) : FnOk P w K mg base CX0 2 f fd ["thing", "upto"] spNeedHalv := by
  have G1 : FnOk P w K mg base CX0 1 f1 fd1 ["thing"] spIsWhole := ok_isWhole D1 B
  refine F.ok scNeedHalv (fun vs H Q E h => ?_) (fun cdv A outer s H vs Q E hr h => ?_)
  · obtain ⟨n, rfl, _⟩ := h
    rfl
  · obtain ⟨n, rfl, h0, h1, q⟩ := h
    refine ⟨_, pss_one (ps_if (PW.pt (pw_or (pt_not (pt_val (pe_call G1 hr (by rfl) D1.g D1.F.kp D1.b .nil pass0 (pa_cons (pv 0) pa_nil)))) (pw_or1 (pt_not (pt_chain op_le op_le pe_int (pv 0) (pv 1)))))) (pss_one ps_never) pss_nil), ?_⟩
    refine ⟨.int n, rfl, n, rfl, true, rfl, iteF ?_⟩
    refine ⟨.int n, rfl, _, _, rfl, rfl, _, rfl, ?_⟩
    rw [decide_eq_true h0]
    refine iteT ⟨.int 200, rfl, _, _, rfl, rfl, _, rfl, ?_⟩
    rw [decide_eq_true h1]
    exact iteF q
/-! ### floor_by, floor_of -/
def spFloorBy : Sp := fun vs H Q _ => ∃ (a : Addr) (x : Int) (k : Nat), vs = [.ref a, .int (k : Int)] ∧ H a = some (.tup [.int x, .int 1]) ∧ x.natAbs < 2 ^ 150 ∧ k ≤ 200 ∧ Q (.int (x * 2 ^ k)) H
theorem ok_floorBy {f : Addr} {fd : FuncData} (D : Df K mg "floor_by" sFloorBy ["fraction", "halvings"] f fd) : FnOk P w K mg base CX0 1 f fd ["fraction", "halvings"] spFloorBy := by
  refine D.F.ok scFloorBy (fun vs H Q E h => ?_) (fun cdv A outer s H vs Q E hr h => ?_)
  · obtain ⟨a, x, k, rfl, _⟩ := h
    rfl
  · obtain ⟨a, x, k, rfl, ha, hx, hk, q⟩ := h
    refine ⟨_, pss_cons (ps_asg (pv 0) (pg_tup (by rfl) (pgs_cons (pg_name (i := 2) scFloorBy.nd rfl (.inl rfl)) (pgs_cons (pg_name (i := 3) scFloorBy.nd rfl (.inl rfl)) pgs_nil))))
      (pss_one (ps_ret (pe_op op_fdiv (pe_op op_shlN (pv 2) (pv 1)) (pv 3)))), ?_⟩
    refine ⟨.ref a, rfl, a, _, rfl, .inl (.inl ha), rfl, _, _, rfl, _, _, rfl, rfl, ?_⟩
    refine ⟨.int x, rfl, .int (k : Int), rfl, x, k, rfl, rfl, shl_ok hx (by omega), .int 1, rfl, _, _, rfl, rfl, ⟨by decide, by decide⟩, ?_⟩
    show Q (.int (x * 2 ^ k / 1)) H
    rw [Int.ediv_one]
    exact q
def spFloorOf : Sp := fun vs H Q _ => ∃ (a : Addr) (x : Int) (k : Nat), vs = [.ref a, .int (k : Int)] ∧ H a = some (.tup [.int x, .int 1]) ∧ x.natAbs < 2 ^ 150 ∧ k ≤ 200 ∧ ∀ H', Same H H' → Q (.int (x * 2 ^ k)) H'
theorem ok_floorOf {f f1 f2 f3 : Addr} {fd fd1 fd2 fd3 : FuncData} {ds : List Value} (F : Fun K "floor_of" "floor_of" sFloorOf f fd) (D1 : Df K mg "need_fraction" sNeedFrac ["thing"] f1 fd1) (G1 : FnOk P w K mg base CX0 5 f1 fd1 ["thing"] spNeedFrac)
    (F2 : Fun K "need_halvings" "need_halvings" sNeedHalv f2 fd2) (g2 : mg "need_halvings" = some (.ref f2)) (b2 : Binds K fd2 ["thing", "upto"] ds) (v2 : Vals [V.int 200] ds) (G2 : FnOk P w K mg base CX0 2 f2 fd2 ["thing", "upto"] spNeedHalv)
    (D3 : Df K mg "floor_by" sFloorBy ["fraction", "halvings"] f3 fd3) : FnOk P w K mg base CX0 6 f fd ["fraction", "halvings"] spFloorOf := by
  have G3 : FnOk P w K mg base CX0 1 f3 fd3 ["fraction", "halvings"] spFloorBy := ok_floorBy D3
  refine F.ok scFloorOf (fun vs H Q E h => ?_) (fun cdv A outer s H vs Q E hr h => ?_)
  · obtain ⟨a, x, k, rfl, _⟩ := h
    rfl
  · obtain ⟨a, x, k, rfl, ha, hx, hk, q⟩ := h
    refine ⟨_, pss_cons (ps_expr (pe_call G1 hr (by rfl) D1.g D1.F.kp D1.b .nil pass0 (pa_cons (pv 0) pa_nil)))
      (pss_cons (ps_expr (pe_call G2 (hr.mono (by decide)) (by rfl) g2 F2.kp b2 v2 pass0 (pa_cons (pv 1) pa_nil)))
      (pss_one (ps_ret (pe_call G3 (hr.mono (by decide)) (by rfl) D3.g D3.F.kp D3.b .nil pass0 (pa_cons (pv 0) (pa_cons (pv 1) pa_nil)))))), ?_⟩
    refine ⟨.ref a, rfl, a, x, rfl, ha, fun H' sm => ?_⟩
    refine ⟨.int (k : Int), rfl, (k : Int), rfl, by omega, by omega, ?_⟩
    exact ⟨.ref a, rfl, .int (k : Int), rfl, a, x, k, rfl, sm _ _ ha, hx, hk, q H' sm⟩
end
end Wr
namespace Wr
open PySem PySem.Spec PyProof.Rows L2
/-! ### the draws: a pool is a list of three ints within bounds -/
def Pool (H : Hp) (p : Addr) (j : Nat) : Prop := ∃ a b c : Int, H p = some (.lst [.int a, .int b, .int c]) ∧ 0 ≤ a ∧ 0 ≤ b ∧ b < 1000000007 ∧ 0 ≤ c ∧ c ≤ 100000 + (j : Int)
theorem Pool.mono {H : Hp} {p : Addr} {i j : Nat} (h : Pool H p i) (l : i ≤ j) : Pool H p j := by
  obtain ⟨a, b, c, h1, h2, h3, h4, h5, h6⟩ := h
  exact ⟨a, b, c, h1, h2, h3, h4, h5, by omega⟩
/-- all but p stands as it stood -/
def Kept (p : Addr) (H H' : Hp) : Prop := ∀ b o, b ≠ p → H b = some o → H' b = some o
theorem Kept.trans {p : Addr} {H H1 H2 : Hp} (a : Kept p H H1) (b : Kept p H1 H2) : Kept p H H2 := fun c o h e => b c o h (a c o h e)
theorem Kept.refl {p : Addr} {H : Hp} : Kept p H H := fun _ _ _ e => e
theorem kept_upd {p : Addr} {H : Hp} {o : HO} : Kept p H (upd H p o) := fun b u h e => by
  rw [upd_ne h]
  exact e
theorem div_le_self {a m : Int} (h0 : 0 ≤ a) (hm : 0 < m) : 0 ≤ a / m := Int.ediv_nonneg h0 (Int.le_of_lt hm)
section
variable {P : Program} {w : World} {K : PySem.W.Frag} {mg : Str → Option Value} {base : Heap}
def spPool (K : PySem.W.Frag) : Sp := fun vs H Q _ => ∃ (a : Addr) (ns : List Int) (k : Nat), vs = [.ref a, .int (k : Int)] ∧ SqL K H a (ns.map V.int) ∧ k ≤ 8 ∧ ∀ p H', H p = none → Same H H' → Pool H' p 0 → Q (.ref p) H'
theorem ok_pool {f : Addr} {fd : FuncData} (D : Df K mg "_law_pool" sPool ["_law_script", "_law_k"] f fd) (B : Free mg) : FnOk P w K mg base CX0 1 f fd ["_law_script", "_law_k"] (spPool K) := by
  have sc : FnScope ["_law_script", "_law_k", "_law_cell"] ["_law_script", "_law_k"] (defScope sPool) := ⟨rfl, rfl, rfl, by decide +kernel, rfl, by decide +kernel, by decide +kernel⟩
  refine D.F.ok sc (fun vs H Q E h => ?_) (fun cdv A outer s H vs Q E hr h => ?_)
  · obtain ⟨a, ns, k, rfl, _⟩ := h
    rfl
  · obtain ⟨a, ns, k, rfl, hS, hk, q⟩ := h
    refine ⟨_, pss_cons (ps_set (i := 2) sc.nd rfl (.inl rfl) pe_int)
      (pss_cons (ps_if (pt_cmpR op_lt (pv 1) (pe_callB call_len_seq (by rfl) B.len PySem.boot_len (pa_cons (pv 0) pa_nil)) (nomark _))
        (pss_one (ps_set (i := 2) sc.nd rfl (.inl rfl) (pe_ix ix_list (pv 0) (pv 1) (fun _ _ => rfl)))) pss_nil)
      (pss_one (ps_ret (pe_lst (pa_cons (pe_callB (call_max2 rfl) (by rfl) B.max (by decide +kernel) (pa_cons pe_int (pa_cons (pe_op op_sub (pv 2) (pe_op op_pow pe_int pe_int)) pa_nil)))
        (pa_cons (pe_op op_mod (pv 2) pe_int) (pa_cons (pe_op op_add (pe_op op_mul pe_int (pv 1)) pe_int) pa_nil))))))), ?_⟩
    -- from the cell on
    have fin : ∀ c : Int, (tRet (tLst (tCons (tCB (fun xs H Q => ∃ i j, xs = [V.int i, V.int j] ∧ Q (.int (if j > i then j else i)) H) (tCons (tC (.int 0)) (tCons (tOp (rI0 fun i j => .int (i - j)) (tVar 2) (tOp (rI CPow fun i j => .int (i ^ j.toNat)) (tC (.int 10)) (tC (.int 18)))) tNil)))
        (tCons (tOp (rI (fun _ j => 0 < j) fun i j => .int (i % j)) (tVar 2) (tC (.int 1000000007))) (tCons (tOp (rI0 fun i j => .int (i + j)) (tOp (rI CMul fun i j => .int (i * j)) (tC (.int 7919)) (tVar 1)) (tC (.int 1))) tNil)))) : TS)
        { nx := fun _ H' => Q .non H', rt := Q } [some (.ref a), some (.int (k : Int)), some (.int c)] H := fun c => by
      refine ⟨.int c, rfl, _, _, rfl, rfl, ⟨by decide, by decide, by decide⟩, _, _, rfl, rfl, _, _, rfl, .int c, rfl, _, _, rfl, rfl, (by show (0 : Int) < 1000000007; decide), .int (k : Int), rfl, _, _, rfl, rfl, .inl ⟨by decide, by decide⟩, _, _, rfl, rfl, (by show 3 ≤ sizeLine; decide), fun p np => ?_⟩
      refine q p _ np (same_new np) ⟨_, _, _, upd_same, ?_, Int.emod_nonneg _ (by decide), Int.emod_lt_of_pos _ (by decide), by omega, by omega⟩
      split <;> omega
    -- _law_cell = 0; if _law_k < len(_law_script)
    refine ⟨.int (k : Int), rfl, .ref a, rfl, a, _, rfl, .inl hS, _, _, rfl, rfl, _, rfl, ite2 (fun e => ?_) (fun e => ?_)⟩
    · have e1 := of_decide_eq_true e
      rw [List.length_map] at e1
      have hk2 : k < ns.length := by omega
      refine ⟨.ref a, rfl, .int (k : Int), rfl, a, _, (k : Int), .int ns[k], rfl, rfl, hS, atI_nat (j := k) (by rw [List.getElem?_map, List.getElem?_eq_getElem hk2]; rfl), ?_⟩
      exact fin ns[k]
    · exact fin 0
/-! ### _law_take -/
def spTake : Sp := fun vs H Q _ => ∃ (p : Addr) (m : Int) (j : Nat), vs = [.ref p, .int m] ∧ Pool H p j ∧ j ≤ 1000 ∧ 0 < m ∧ m.natAbs < 2 ^ 100 ∧ ∀ d H', 0 ≤ d → d < m → Pool H' p (j + 1) → Kept p H H' → Q (.int d) H'
theorem ok_take {f : Addr} {fd : FuncData} (D : Df K mg "_law_take" sTake ["_law_pool_here", "_law_many"] f fd) : FnOk P w K mg base CX0 1 f fd ["_law_pool_here", "_law_many"] spTake := by
  have sc : FnScope ["_law_pool_here", "_law_many", "_law_digit", "_law_fore", "_law_two"] ["_law_pool_here", "_law_many"] (defScope sTake) := ⟨rfl, rfl, rfl, by decide +kernel, rfl, by decide +kernel, by decide +kernel⟩
  refine D.F.ok sc (fun vs H Q E h => ?_) (fun cdv A outer s H vs Q E hr h => ?_)
  · obtain ⟨p, m, j, rfl, _⟩ := h
    rfl
  · obtain ⟨p, m, j, rfl, hp, hj, hm, hm2, q⟩ := h
    obtain ⟨a, b, c, h1, h2, h3, h4, h5, h6⟩ := hp
    refine ⟨_, pss_cons (ps_if (pt_cmpR op_gt (pe_ix ix_list (pv 0) pe_int (fun _ _ => rfl)) pe_int (nomark _))
        (pss_cons (ps_set (i := 2) sc.nd rfl (.inl rfl) (pe_op op_mod (pe_ix ix_list (pv 0) pe_int (fun _ _ => rfl)) (pv 1)))
        (pss_cons (ps_asg (pe_op op_fdivW (pe_ix ix_list (pv 0) pe_int (fun _ _ => rfl)) (pv 1)) (pg_sub (pv 0) pe_int set_list))
        (pss_one (ps_ret (pv 2))))) pss_nil)
      (pss_cons (ps_asg (pe_op op_add (pe_ix ix_list (pv 0) pe_int (fun _ _ => rfl)) pe_int) (pg_sub (pv 0) pe_int set_list))
      (pss_cons (ps_set (i := 3) sc.nd rfl (.inl rfl) (pe_op op_mod (pe_op op_add (pe_op op_add (pe_op op_mul (pe_ix ix_list (pv 0) pe_int (fun _ _ => rfl)) pe_int) (pe_op op_mul pe_int (pe_ix ix_list (pv 0) pe_int (fun _ _ => rfl)))) pe_int) pe_int))
      (pss_cons (ps_set (i := 3) sc.nd rfl (.inl rfl) (pe_op op_mod (pe_op op_pow (pv 3) pe_int) pe_int))
      (pss_cons (ps_set (i := 4) sc.nd rfl (.inl rfl) (pe_op op_mod (pe_op op_pow (pe_op op_add (pe_op op_add (pv 3) (pe_op op_mul (pe_op op_mul pe_int (pe_ix ix_list (pv 0) pe_int (fun _ _ => rfl))) (pe_ix ix_list (pv 0) pe_int (fun _ _ => rfl)))) (pe_op op_mod (pe_ix ix_list (pv 0) pe_int (fun _ _ => rfl)) pe_int)) pe_int) pe_int))
      (pss_one (ps_ret (pe_op op_mod (pe_op op_fdiv (pe_op op_mod (pe_op op_mul (pv 4) pe_int) pe_int) pe_int) (pv 1)))))))), ?_⟩
    have hS : SqL K H p [.int a, .int b, .int c] := .inl (.inl h1)
    -- if pool[0] > 0
    refine ⟨.ref p, rfl, p, _, 0, .int a, rfl, rfl, hS, atI_nat (j := 0) rfl, _, _, rfl, rfl, _, rfl, ite2 (fun e => ?_) (fun e => ?_)⟩
    · have ha : (0 : Int) < a := of_decide_eq_true e
      refine ⟨.ref p, rfl, p, _, 0, .int a, rfl, rfl, hS, atI_nat (j := 0) rfl, .int m, rfl, _, _, rfl, rfl, hm, ?_⟩
      refine ⟨.ref p, rfl, p, _, 0, .int a, rfl, rfl, hS, atI_nat (j := 0) rfl, .int m, rfl, _, _, rfl, rfl, wide_div hm hm2 (by decide) (by decide), ?_⟩
      refine ⟨.ref p, rfl, p, _, 0, 0, rfl, rfl, h1, rfl, ?_⟩
      refine ⟨.int (a % m), rfl, ?_⟩
      exact q _ _ (Int.emod_nonneg _ (by omega)) (Int.emod_lt_of_pos _ hm) ⟨a / m, b, c, upd_same, div_le_self h2 hm, h3, h4, h5, by omega⟩ kept_upd
    · refine ⟨.ref p, rfl, p, _, 2, .int c, rfl, rfl, hS, atI_nat (j := 2) rfl, _, _, rfl, rfl, ?_⟩
      refine ⟨.ref p, rfl, p, _, 2, 2, rfl, rfl, h1, rfl, ?_⟩
      have hS2 : SqL K (upd H p (.lst [.int a, .int b, .int (c + 1)])) p [.int a, .int b, .int (c + 1)] := .inl (.inl upd_same)
      -- _law_fore
      refine ⟨.ref p, rfl, p, _, 1, .int b, rfl, rfl, hS2, atI_nat (j := 1) rfl, _, _, rfl, rfl, .inl ⟨by omega, by omega⟩, .ref p, rfl, p, _, 2, .int (c + 1), rfl, rfl, hS2, atI_nat (j := 2) rfl, _, _, rfl, rfl, .inl ⟨by decide, by decide⟩, _, _, rfl, rfl, _, _, rfl, rfl, _, _, rfl, rfl, (by show (0 : Int) < 2147483629; decide), ?_⟩
      have f0 := Int.emod_nonneg (b * 48271 + 104729 * (c + 1) + 101) (show (2147483629 : Int) ≠ 0 by decide)
      have f1 := Int.emod_lt_of_pos (b * 48271 + 104729 * (c + 1) + 101) (show (0 : Int) < 2147483629 by decide)
      refine ⟨.int ((b * 48271 + 104729 * (c + 1) + 101) % 2147483629), rfl, _, _, rfl, rfl, ⟨by decide, by decide, by omega⟩, _, _, rfl, rfl, (by show (0 : Int) < 2147483587; decide), ?_⟩
      have g0 := Int.emod_nonneg (((b * 48271 + 104729 * (c + 1) + 101) % 2147483629) ^ (5 : Int).toNat) (show (2147483587 : Int) ≠ 0 by decide)
      have g1 := Int.emod_lt_of_pos (((b * 48271 + 104729 * (c + 1) + 101) % 2147483629) ^ (5 : Int).toNat) (show (0 : Int) < 2147483587 by decide)
      -- _law_two
      have t0 : (0 : Int) ≤ 69621 * (c + 1) * (c + 1) := Int.mul_nonneg (by omega) (by omega)
      have t1 : 69621 * (c + 1) * (c + 1) ≤ 69621 * 101001 * 101001 := Int.mul_le_mul (by omega) (by omega) (by omega) (by decide)
      have u0 := Int.emod_nonneg b (show (65537 : Int) ≠ 0 by decide)
      have u1 := Int.emod_lt_of_pos b (show (0 : Int) < 65537 by decide)
      refine ⟨.int ((((b * 48271 + 104729 * (c + 1) + 101) % 2147483629) ^ (5 : Int).toNat) % 2147483587), rfl, .ref p, rfl, p, _, 2, .int (c + 1), rfl, rfl, hS2, atI_nat (j := 2) rfl, _, _, rfl, rfl, .inl ⟨by decide, by decide⟩, .ref p, rfl, p, _, 2, .int (c + 1), rfl, rfl, hS2, atI_nat (j := 2) rfl, _, _, rfl, rfl, .inl ⟨by omega, by omega⟩, _, _, rfl, rfl,
        .ref p, rfl, p, _, 1, .int b, rfl, rfl, hS2, atI_nat (j := 1) rfl, _, _, rfl, rfl, (by show (0 : Int) < 65537; decide), _, _, rfl, rfl, _, _, rfl, rfl, ⟨by decide, by decide, by omega⟩, _, _, rfl, rfl, (by show (0 : Int) < 2147483563; decide), ?_⟩
      have v0 := Int.emod_nonneg (((((b * 48271 + 104729 * (c + 1) + 101) % 2147483629) ^ (5 : Int).toNat) % 2147483587 + 69621 * (c + 1) * (c + 1) + b % 65537) ^ (3 : Int).toNat) (show (2147483563 : Int) ≠ 0 by decide)
      have v1 := Int.emod_lt_of_pos (((((b * 48271 + 104729 * (c + 1) + 101) % 2147483629) ^ (5 : Int).toNat) % 2147483587 + 69621 * (c + 1) * (c + 1) + b % 65537) ^ (3 : Int).toNat) (show (0 : Int) < 2147483563 by decide)
      refine ⟨.int ((((((b * 48271 + 104729 * (c + 1) + 101) % 2147483629) ^ (5 : Int).toNat) % 2147483587 + 69621 * (c + 1) * (c + 1) + b % 65537) ^ (3 : Int).toNat) % 2147483563), rfl, _, _, rfl, rfl, .inl ⟨by omega, by omega⟩, _, _, rfl, rfl, (by show (0 : Int) < 2147483549; decide), _, _, rfl, rfl, ⟨by decide, by decide⟩, .int m, rfl, _, _, rfl, rfl, hm, ?_⟩
      exact q _ _ (Int.emod_nonneg _ (by omega)) (Int.emod_lt_of_pos _ hm) ⟨a, b, c + 1, upd_same, h2, h3, h4, by omega, by omega⟩ kept_upd
end
end Wr
namespace Wr
open PySem PySem.Spec PyProof.Rows L2
section
variable {P : Program} {w : World} {K : PySem.W.Frag} {mg : Str → Option Value} {base : Heap}
/-! ### _law_great -/
def spGreat : Sp := fun vs H Q _ => ∃ (p : Addr) (j : Nat), vs = [.ref p] ∧ Pool H p j ∧ j ≤ 900 ∧ ∀ g H', 0 ≤ g → g < 1000000000000000000 → Pool H' p (j + 3) → Kept p H H' → Q (.int g) H'
theorem ok_great {f f1 : Addr} {fd fd1 : FuncData} (D : Df K mg "_law_great" sGreat ["_law_pool_here"] f fd) (B : Free mg) (D1 : Df K mg "_law_take" sTake ["_law_pool_here", "_law_many"] f1 fd1) : FnOk P w K mg base CX0 2 f fd ["_law_pool_here"] spGreat := by
  have G1 : FnOk P w K mg base CX0 1 f1 fd1 ["_law_pool_here", "_law_many"] spTake := ok_take D1
  have sc : FnScope ["_law_pool_here", "_law_found", "_law_turn"] ["_law_pool_here"] (defScope sGreat) := ⟨rfl, rfl, rfl, by decide +kernel, rfl, by decide +kernel, by decide +kernel⟩
  refine D.F.ok sc (fun vs H Q E h => ?_) (fun cdv A outer s H vs Q E hr h => ?_)
  · obtain ⟨p, j, rfl, _⟩ := h
    rfl
  · obtain ⟨p, j, rfl, hp, hj, q⟩ := h
    refine ⟨_, pss_cons (ps_set (i := 1) sc.nd rfl (.inl rfl) pe_int)
      (pss_cons (ps_for PassesOwn.never rfl (pi_range1 (by rfl) B.rng (pa_cons pe_int pa_nil)) (pg_name (i := 2) sc.nd rfl (.inl rfl))
        (pss_one (ps_set (i := 1) sc.nd rfl (.inl rfl) (pe_op op_add (pe_op op_mul (pv 1) pe_int) (pe_call G1 hr (by rfl) D1.g D1.F.kp D1.b .nil pass0 (pa_cons (pv 0) (pa_cons pe_int pa_nil)))))))
      (pss_one (ps_ret (pv 1)))), ?_⟩
    refine ⟨3, rfl, by decide, by decide, for_range (n := 3) (fun i σ H' => ∃ (g : Int) (v : Option V), σ = [some (.ref p), some (.int g), v] ∧ 0 ≤ g ∧ g < 1000000 ^ i ∧ i ≤ 3 ∧ Pool H' p (j + i) ∧ Kept p H H')
      ⟨0, none, rfl, by decide, by decide, by decide, hp, .refl⟩ ?_ ?_⟩
    · rintro i σ H' hi ⟨g, v, rfl, g0, g1, _, hp', kp⟩
      have g2 : g < 1000000000000 := by
        have i3 : i = 0 ∨ i = 1 ∨ i = 2 := by omega
        rcases i3 with z | z | z
        · rw [z] at g1
          exact Int.lt_trans g1 (by decide)
        · rw [z] at g1
          exact Int.lt_trans g1 (by decide)
        · rw [z] at g1
          exact g1
      refine ⟨.int g, rfl, _, _, rfl, rfl, .inl ⟨by omega, by omega⟩, .ref p, rfl, p, 1000000, j + i, rfl, hp', by omega, by decide, by decide, fun d H'' d0 d1 hp'' kp' => ?_⟩
      refine ⟨_, _, rfl, rfl, g * 1000000 + d, _, rfl, by omega, ?_, hi, hp'', kp.trans kp'⟩
      rw [Int.pow_succ]
      omega
    · rintro σ H' ⟨g, v, rfl, g0, g1, _, hp', kp⟩
      exact ⟨.int g, rfl, q g H' g0 (Int.lt_of_lt_of_le g1 (by decide)) hp' kp⟩
/-! ### _law_base -/
def spBase : Sp := fun vs H Q _ => ∃ (p : Addr) (j : Nat), vs = [.ref p] ∧ Pool H p j ∧ j ≤ 800 ∧ ∀ g H', 0 ≤ g → g < 100000000000000000000 → Pool H' p (j + 4) → Kept p H H' → Q (.int g) H'
theorem ok_base {f f1 f2 : Addr} {fd fd1 fd2 : FuncData} (D : Df K mg "_law_base" sBase ["_law_pool_here"] f fd) (B : Free mg) (D1 : Df K mg "_law_take" sTake ["_law_pool_here", "_law_many"] f1 fd1) (D2 : Df K mg "_law_great" sGreat ["_law_pool_here"] f2 fd2) :
    FnOk P w K mg base CX0 3 f fd ["_law_pool_here"] spBase := by
  have G1 : FnOk P w K mg base CX0 1 f1 fd1 ["_law_pool_here", "_law_many"] spTake := ok_take D1
  have G2 : FnOk P w K mg base CX0 2 f2 fd2 ["_law_pool_here"] spGreat := ok_great D2 B D1
  have sc : FnScope ["_law_pool_here", "_law_way"] ["_law_pool_here"] (defScope sBase) := ⟨rfl, rfl, rfl, by decide +kernel, rfl, by decide +kernel, by decide +kernel⟩
  refine D.F.ok sc (fun vs H Q E h => ?_) (fun cdv A outer s H vs Q E hr h => ?_)
  · obtain ⟨p, j, rfl, _⟩ := h
    rfl
  · obtain ⟨p, j, rfl, hp, hj, q⟩ := h
    have hr1 := hr.mono (show 1 ≤ 2 by decide)
    refine ⟨_, pss_cons (ps_set (i := 1) sc.nd rfl (.inl rfl) (pe_call G1 hr1 (by rfl) D1.g D1.F.kp D1.b .nil pass0 (pa_cons (pv 0) (pa_cons pe_int pa_nil))))
      (pss_cons (ps_if (pt_cmpR op_eq (pv 1) pe_int (nomark _)) (pss_one (ps_ret (pe_call G1 hr1 (by rfl) D1.g D1.F.kp D1.b .nil pass0 (pa_cons (pv 0) (pa_cons pe_int pa_nil))))) pss_nil)
      (pss_cons (ps_if (pt_cmpR op_eq (pv 1) pe_int (nomark _)) (pss_one (ps_ret (pe_call G2 hr (by rfl) D2.g D2.F.kp D2.b .nil pass0 (pa_cons (pv 0) pa_nil)))) pss_nil)
      (pss_cons (ps_if (pt_cmpR op_eq (pv 1) pe_int (nomark _)) (pss_one (ps_ret (pe_op op_add (pe_op op_mul pe_int (pe_op op_pow pe_int pe_int)) (pe_call G2 hr (by rfl) D2.g D2.F.kp D2.b .nil pass0 (pa_cons (pv 0) pa_nil))))) pss_nil)
      (pss_one (ps_ret (pe_callB (call_max2 rfl) (by rfl) B.max (by decide +kernel) (pa_cons pe_int (pa_cons (pe_op op_sub (pe_op op_add (pe_op op_oneShl pe_int (pe_call G1 hr1 (by rfl) D1.g D1.F.kp D1.b .nil pass0 (pa_cons (pv 0) (pa_cons pe_int pa_nil))))
        (pe_call G1 hr1 (by rfl) D1.g D1.F.kp D1.b .nil pass0 (pa_cons (pv 0) (pa_cons pe_int pa_nil)))) pe_int) pa_nil)))))))), ?_⟩
    refine ⟨.ref p, rfl, p, 4, j, rfl, hp, by omega, by decide, by decide, fun d H1 d0 d1 hp1 k1 => ?_⟩
    refine ⟨.int d, rfl, rfl, _, rfl, ite2 (fun _ => ?_) (fun _ => ?_)⟩
    · refine ⟨.ref p, rfl, p, 12, j + 1, rfl, hp1, by omega, by decide, by decide, fun e H2 e0 e1 hp2 k2 => ?_⟩
      have e2 : e < 12 := e1
      exact q e H2 e0 (by omega) (hp2.mono (by omega)) (k1.trans k2)
    refine ⟨.int d, rfl, rfl, _, rfl, ite2 (fun _ => ?_) (fun _ => ?_)⟩
    · refine ⟨.ref p, rfl, p, j + 1, rfl, hp1, by omega, fun e H2 e0 e1 hp2 k2 => ?_⟩
      exact q e H2 e0 (by omega) (hp2.mono (by omega)) (k1.trans k2)
    refine ⟨.int d, rfl, rfl, _, rfl, ite2 (fun _ => ?_) (fun _ => ?_)⟩
    · refine ⟨_, _, rfl, rfl, ⟨by decide, by decide, by decide⟩, _, _, rfl, rfl, .inl ⟨by decide, by decide⟩, .ref p, rfl, p, j + 1, rfl, hp1, by omega, fun e H2 e0 e1 hp2 k2 => ⟨_, _, rfl, rfl, ?_⟩⟩
      have ep : (10 : Int) ^ (18 : Int).toNat = 1000000000000000000 := by decide
      show Q (.int (98 * (10 : Int) ^ (18 : Int).toNat + e)) H2
      rw [ep]
      exact q _ H2 (by omega) (by omega) (hp2.mono (by omega)) (k1.trans k2)
    · refine ⟨.ref p, rfl, p, 66, j + 1, rfl, hp1, by omega, by decide, by decide, fun e H2 e0 e1 hp2 k2 => ?_⟩
      obtain ⟨k, rfl⟩ := Int.eq_ofNat_of_zero_le e0
      refine ⟨k, rfl, rfl, by omega, .ref p, rfl, p, 3, j + 2, rfl, hp2, by omega, by decide, by decide, fun t H3 t0 t1 hp3 k3 => ?_⟩
      have hk : (2 : Int) ^ k ≤ 36893488147419103232 := by
        have z : (2 : Nat) ^ k ≤ 2 ^ 65 := Nat.pow_le_pow_right (by decide) (by omega)
        have z2 : ((2 ^ k : Nat) : Int) = (2 : Int) ^ k := PySem.W.kbt_cast k
        omega
      have hk0 := pow_pos2 k
      refine ⟨_, _, rfl, rfl, _, _, rfl, rfl, _, _, rfl, ?_⟩
      show Q (.int (if (2 : Int) ^ k + t - 1 > 0 then (2 : Int) ^ k + t - 1 else 0)) H3
      refine q _ H3 ?_ ?_ (hp3.mono (by omega)) ((k1.trans k2).trans k3)
      · split <;> omega
      · split <;> omega
end
end Wr
/-! repr of a list of ints where no repr is under way, and a def that is run at one caller alone. -/
namespace Wr
open PySem PySem.Spec PyProof.Rows L2
/-! ### repr of a list of ints -/
/-- the list of ints as data -/
def asData (ns : List Int) : PyData := .list (ns.map PyData.int)
theorem dp_ints {K : PySem.W.Frag} {H : Hp} : ∀ ns : List Int, DpAll K H (ns.map V.int) (ns.map PyData.int)
  | [] => .nil
  | n :: ns => .cons (.int n) (dp_ints ns)
def rReprL (K : PySem.W.Frag) : List V → Hp → VK → Prop := fun xs H Q => ∃ (a : Addr) (ns : List Int), xs = [.ref a] ∧ SqL K H a (ns.map V.int) ∧ (asData ns).showable = true ∧ (asData ns).hasDict = false ∧ (asData ns).depth ≤ 10 ∧ (asData ns).shown.length ≤ sizeLine ∧ Q (.str (asData ns).shown) H
theorem call_reprL {X : Cx} {k : Nat} (hr : Room k X.A) (hg : X.A.guards = some []) : CallR X (.builtin "repr") (rReprL X.K) := by
  rintro pins s σ H xs us Q I r ⟨a, ns, rfl, hS, h1, h2, h3, h4, q⟩
  have hu := hr.units
  obtain ⟨u, rfl, ru⟩ := vals1 r
  cases (show u = Value.ref a from ru)
  obtain ⟨as, rd⟩ := Dp.reads I (asData ns) (.ref a) (.ref a) (.lst hS (dp_ints ns)) rfl
  exact PySem.repr_of_reads' rd h1 (PyData.noDict_hsm h2) hg (by omega) (fun _ _ e => e) (fun h' u' tk keep => ⟨.str _, H, I.kept keep, ⟨u', rfl⟩, q⟩) h4
/-! ### a def at one surrounding -/
section
variable {P : Program} {w : World} {K : PySem.W.Frag} {mg : Str → Option Value} {base : Heap}
/-- the layer's rule for a def speaks of every surrounding; this one of the A at hand, so that the body may use what is known of A -/
theorem body_at {x qual : Str} {st : Stmt} {f : Addr} {fd : FuncData} {N ps : List Str} {k : Nat} {A : Around} {outer : List Env} {s : Shared} {H : Hp} {args : Args} {us : List Value} {vs : List V} {Q : VK} {E : XK}
    (F : Fun K x qual st f fd) (S : FnScope N ps (defScope st)) (room : Room (k + 1) A) (e0 : Env0 P w K mg base A outer s H) (bound : BindsTo s fd args (ps.zip us)) (r : Vals vs us) (many : vs.length = ps.length)
    (body : ∀ cdv : Value, Room k (A.deeper (envOfC qual (defScope st) s.heap.objs.size f cdv)) →
      ∃ t, PSs (cxOf CX0 P w K mg base N qual (defScope st) f cdv A outer s H E).nox (defBody st) t ∧ t { nx := fun _ H' => Q .non H', rt := Q } (start N vs) H) :
    codeAny (model P w) A (.call (.ref f) args) (CR CX0 outer P w H s Q E) s := by
  obtain ⟨oc, od, kV, doc, pm, an, cdv, ct, osl, rfl, at_f, code_f⟩ := F.ex
  have grown : ∀ (b : Addr) (o : Obj), base.get? b = some o → s.heap.get? b = some o := fun b o e => (e0.bs b o e).1
  have inK : K.In s.heap := e0.mod.kin.keeps grown
  have kinds : ∀ y ∈ ps.zip us, (defScope st).names.lookup y.1 = some .local ∨ ((defScope st).names.lookup y.1 = some .cell ∧ ((cellsFrom (s.heap.objs.size + 1) (defScope st).names []).lookup y.1).isSome = true) := by
    rintro ⟨n, v⟩ hy
    refine (S.par n (List.of_mem_zip hy).1).imp id fun z => ⟨z, ?_⟩
    exact PySem.W.cellsFrom_some _ _ _ (.inl z)
  obtain ⟨t, good, start_t⟩ := body cdv (room.deeper _)
  refine codeAny_call_function room.depth (inK _ _ at_f) rfl S.co S.gen rfl (PySem.W.codeRec_of inK code_f) (bound _ _ _ _ (wpAny_newFunctionEnv_cells S.kind kinds ?_))
  rintro env rfl s1 made
  have begins : Inv (cxOf CX0 P w K mg base N qual (defScope st) f cdv A outer s H E) [] (start N vs) H s1 := inv_start S room.hd e0 many r made
  refine ⟨(e0.mod.nolimit.keeps grown).keeps made.toInCall.keep, codeAny_func (wpAny_mono (good.nox.run [] s1 (start N vs) H _ begins start_t) ?_ fun _ _ z => z)⟩
  intro fl s' hs
  match fl, hs with
  | .ret u, ⟨v, σ', H', J, rv, q⟩ => exact ⟨v, H', J.os, J.bare, J.base, J.hok, rv, q⟩
  | .next, ⟨σ', H', J, q⟩ => exact ⟨.non, H', J.os, J.bare, J.base, J.hok, rfl, q⟩
  | .brk, ⟨_, _, _, q⟩ => exact False.elim q
  | .cont, ⟨_, _, _, q⟩ => exact False.elim q
/-! ### the law's own call, from the heap that the top leaves -/
/-- what is tracked at the law's call: nothing, or the script alone -/
structure Tracks (K : PySem.W.Frag) (H : Hp) (a : Addr) (o : Obj) (xs : List V) : Prop where
  one : ∀ b u, H b = some u → b = a ∧ u = .frz o (.lst xs)
  free : H a ≠ none → K.lookup a = none
  seen : SqL K H a xs
/-- the script is the module's own object, or it is tracked as a thing that nobody writes -/
theorem tracks_of {K : PySem.W.Frag} {h : Heap} {a : Addr} {vs : List Value} {xs : List V} (X : K.In h) (ha : h.get? a = some { cls := .type "list", data := .seq vs.toArray }) (r : Vals xs vs) (hl : vs.length ≤ sizeLine) :
    ∃ H : Hp, Tracks K H a { cls := .type "list", data := .seq vs.toArray } xs := by
  cases e : K.lookup a with
  | some o =>
    obtain rfl : o = { cls := .type "list", data := .seq vs.toArray } := Option.some.inj ((X a o e).symm.trans ha)
    refine ⟨fun _ => none, ⟨fun b u z => (nomatch (show (none : Option HO) = some u from z)), fun z => absurd rfl z, .inr ⟨_, vs.toArray, _, e, rfl, rfl, rfl, ?_, ?_⟩⟩⟩
    · simpa using hl
    · simpa using r
  | none =>
    refine ⟨upd (fun _ => none) a (.frz { cls := .type "list", data := .seq vs.toArray } (.lst xs)), ⟨fun b u z => ?_, fun _ => e, .inl (.inr ⟨_, upd_same⟩)⟩⟩
    by_cases hb : b = a
    · rw [hb, upd_same] at z
      exact ⟨hb, (Option.some.inj z).symm⟩
    · rw [upd_ne hb] at z
      exact nomatch z
theorem Tracks.none_of {H : Hp} {a b : Addr} {o : Obj} {xs : List V} (T : Tracks K H a o xs) (h : b ≠ a) : H b = none := by
  cases e : H b with
  | none => rfl
  | some u => exact absurd (T.one b u e).1 h
theorem law_at {mb : Str → Option Value} {fa a : Addr} {s₁ : Shared} {vs : List Value} {ns : List Int}
    (KX : K.In s₁.heap) (glob : s₁.heap.Ns mainGlobals mg) (blt : s₁.heap.Ns builtinsNs mb) (boot : ∀ x : Str, x ≠ "__name__" → mb x = bootBuiltins x) (lim : s₁.heap.NoLimit) (gens : s₁.gens = #[])
    (ha : s₁.heap.get? a = some { cls := .type "list", data := .seq vs.toArray }) (areInts : IntsAre vs ns) (hl : ns.length ≤ sizeLine)
    (run : ∀ (base : Heap) (H : Hp), K.In base → base.Ns mainGlobals mg → Env0 P w K mg base callerA [] s₁ H → SqL K H a (ns.map V.int) →
      codeAny (model P w) callerA (.call (.ref fa) ⟨[.ref a], []⟩) (CR CX0 [] P w H s₁ (fun v _ => v = .bl true) E0) s₁) :
    codeAny (model P w) callerA (.call (.ref fa) ⟨[.ref a], []⟩) (fun r s' => r = .ok (.ret (.bool true)) ∧ OldK s₁.heap s'.heap ∧ s'.os = s₁.os ∧ AllBare s'.gens) s₁ := by
  have rv : Vals (ns.map V.int) vs := vals_ints areInts
  have len : vs.length ≤ sizeLine := by
    rw [areInts.length]
    exact hl
  obtain ⟨H, T⟩ := tracks_of KX ha rv len
  have good : HOk P w H s₁.heap := fun b u e => by
    obtain ⟨rfl, rfl⟩ := T.one b u e
    exact ⟨ha, by rw [rv.length]; exact len, vs, _, rv, ha⟩
  -- what stays in the base: all that is not tracked
  have dictBase : ∀ {b : Addr} {m : Str → Option Value}, s₁.heap.Ns b m → (hidT s₁.heap H).Ns b m := by
    rintro b m ⟨o, es, ep, e, d, rest⟩
    refine ⟨o, es, ep, hidT_get e (T.none_of fun z => ?_), d, rest⟩
    rw [z, ha] at e
    obtain rfl := Option.some.inj e
    exact nomatch d
  have kBase : K.In (hidT s₁.heap H) := fun b o e => hidT_get (KX b o e) (by
    cases z : H b with
    | none => rfl
    | some u =>
      obtain ⟨rfl, _⟩ := T.one b u z
      have := T.free (by rw [z]; exact Option.some_ne_none u)
      rw [this] at e
      exact nomatch e)
  have md : Mod K mg (hidT s₁.heap H) := by
    obtain ⟨mc, l1, l2⟩ := lim
    exact ⟨kBase, dictBase glob, ⟨mb, dictBase blt, boot⟩, ⟨mc, dictBase l1, l2⟩⟩
  have env : Env0 P w K mg (hidT s₁.heap H) callerA [] s₁ H :=
    { frames := rfl, mod := md, bs := fun b o e => of_hidT e, bsz := Nat.le_of_eq (hidT_size _ _), funs := trivial, frf := fun b z => absurd (show b ∈ ([] : List Addr) from z) (by simp), hok := good, bare := .of_eq gens }
  refine codeAny_mono (run _ H kBase (dictBase glob) env T.seen) ?_
  rintro (e | fl) s' res
  · exact False.elim res
  · match fl, res with
    | .next, res => exact False.elim res
    | .brk, res => exact False.elim res
    | .cont, res => exact False.elim res
    | .ret u, ⟨v, H', os, bare, un, ok', rel, q⟩ =>
      obtain rfl : v = .bl true := q
      obtain rfl : u = Value.bool true := rel
      refine ⟨rfl, OldK.of_keep fun b o e => ?_, os, bare⟩
      cases z : H b with
      | none => exact un.keep b o e z (fun m => absurd (show b ∈ ([] : List Addr) from m) (by simp)) (by simp)
      | some u =>
        obtain ⟨rfl, rfl⟩ := T.one b u z
        have now := (ok' b _ (un.frzs b _ _ z)).1
        rw [ha] at e
        rw [← e]
        exact now
end
end Wr
namespace Wr
open PySem PySem.Spec PyProof.Rows L2
/-! ### the law's mathematics -/
def dueOf (b m : Int) : Int := b + (if (decide (V.int b = V.int 0) && decide (V.int m = V.int 1)) = true then 1 else 0)
theorem dec_v (x y : Int) : decide (V.int x = V.int y) = decide (x = y) := by
  by_cases h : x = y
  · rw [h]
    simp
  · rw [decide_eq_false h, decide_eq_false fun e => h (V.int.inj e)]
theorem due_zero {b m : Int} (h : ¬ (b = 0 ∧ m = 1)) : dueOf b m = b := by
  unfold dueOf
  rw [dec_v, dec_v, if_neg (fun z => by
    rw [Bool.and_eq_true] at z
    exact h ⟨of_decide_eq_true z.1, of_decide_eq_true z.2⟩)]
  omega
theorem due_one : dueOf 0 1 = 1 := by decide
theorem sq_next (b : Int) : (b + 1) * (b + 1) = b * b + 2 * b + 1 := by
  rw [Int.add_mul, Int.mul_add, Int.mul_one, Int.one_mul]
  omega
theorem sq_prev (b : Int) : (b - 1) * (b - 1) = b * b - 2 * b + 1 := by
  rw [Int.sub_mul, Int.mul_sub, Int.mul_one, Int.one_mul]
  omega
/-- the root of the square and of what lies between it and the next one's -/
theorem due_root {b m r : Int} (hb : 0 ≤ b) (hm : 0 ≤ m) (hu : m ≤ 2 * b ∨ m = 1) (r0 : 0 ≤ r) (r1 : r * r ≤ b * b + m) (r2 : b * b + m < (r + 1) * (r + 1)) : r = dueOf b m := by
  by_cases z : b = 0 ∧ m = 1
  · obtain ⟨rfl, rfl⟩ := z
    rw [due_one]
    exact root_one r0 (by decide) r1 r2 (by decide) (by decide)
  · rw [due_zero z]
    have hs := sq_next b
    exact root_one r0 hb r1 r2 (by omega) (by omega)
theorem due_nn {b m : Int} (hb : 0 ≤ b) : 0 ≤ dueOf b m ∧ dueOf b m ≤ b + 1 := by
  unfold dueOf
  split <;> omega
theorem prev_root {b r : Int} (hb : 0 < b) (r0 : 0 ≤ r) (r1 : r * r ≤ b * b - 1) (r2 : b * b - 1 < (r + 1) * (r + 1)) : r = b - 1 := by
  have hs := sq_prev b
  refine root_one r0 (by omega) r1 r2 (by omega) ?_
  rw [show b - 1 + 1 = b by omega]
  omega
theorem next_root {b r : Int} (hb : 0 ≤ b) (r0 : 0 ≤ r) (r1 : r * r ≤ b * b + 2 * b + 1) (r2 : b * b + 2 * b + 1 < (r + 1) * (r + 1)) : r = b + 1 := by
  have hs := sq_next b
  have h2 := sq_next (b + 1)
  exact root_one r0 (by omega) r1 r2 (by omega) (by omega)
/-- the numbers' sizes -/
theorem sq_bound {b : Int} (h0 : 0 ≤ b) (h : b < 100000000000000000000) : b * b ≤ 10000000000000000000000000000000000000000 := by
  have := sq_le h0 (show b ≤ 100000000000000000000 by omega)
  omega
theorem root_le {r n : Int} (r0 : 0 ≤ r) (r1 : r * r ≤ n) : r ≤ n := by
  by_cases z : r = 0
  · rw [z] at r1 ⊢
    omega
  · have : r * 1 ≤ r * r := Int.mul_le_mul_of_nonneg_left (by omega) r0
    omega
theorem log_small {n : Int} {k : Nat} (hk : 0 < k) (h : n.natAbs < 2 ^ k) (h2 : k ≤ 1920) : n.natAbs.log2 < 1920 := Nat.lt_of_lt_of_le (PySem.Flt.log2_lt_of hk h) h2
/-- the first ten roots -/
def tenRoots : List Int := [0, 1, 1, 1, 2, 2, 2, 2, 2, 3]
theorem ten_at (i : Nat) (h : i < 10) : ∃ c : Int, tenRoots[i]? = some c ∧ 0 ≤ c ∧ c * c ≤ (i : Int) ∧ (i : Int) < (c + 1) * (c + 1) := by
  match i, h with
  | 0, _ => exact ⟨0, rfl, by decide, by decide, by decide⟩
  | 1, _ => exact ⟨1, rfl, by decide, by decide, by decide⟩
  | 2, _ => exact ⟨1, rfl, by decide, by decide, by decide⟩
  | 3, _ => exact ⟨1, rfl, by decide, by decide, by decide⟩
  | 4, _ => exact ⟨2, rfl, by decide, by decide, by decide⟩
  | 5, _ => exact ⟨2, rfl, by decide, by decide, by decide⟩
  | 6, _ => exact ⟨2, rfl, by decide, by decide, by decide⟩
  | 7, _ => exact ⟨2, rfl, by decide, by decide, by decide⟩
  | 8, _ => exact ⟨2, rfl, by decide, by decide, by decide⟩
  | 9, _ => exact ⟨3, rfl, by decide, by decide, by decide⟩
theorem five_at {d : Int} (h0 : 0 ≤ d) (h : d < 5) : ∃ c : Int, atI [V.int 1, V.int 10, V.int 100, V.int 1000, V.int 10000] d = some (V.int c) ∧ 1 ≤ c ∧ c ≤ 10000 := by
  obtain ⟨k, rfl⟩ := Int.eq_ofNat_of_zero_le h0
  have hk : k < 5 := by omega
  match k, hk with
  | 0, _ => exact ⟨1, rfl, by decide, by decide⟩
  | 1, _ => exact ⟨10, rfl, by decide, by decide⟩
  | 2, _ => exact ⟨100, rfl, by decide, by decide⟩
  | 3, _ => exact ⟨1000, rfl, by decide, by decide⟩
  | 4, _ => exact ⟨10000, rfl, by decide, by decide⟩
theorem ten_text : (asData tenRoots).shown.length ≤ sizeLine := by decide +kernel
theorem ten_show : (asData tenRoots).showable = true := by decide +kernel
theorem ten_dict : (asData tenRoots).hasDict = false := by decide +kernel
theorem ten_depth : (asData tenRoots).depth ≤ 10 := by decide +kernel
end Wr
namespace Wr
open PySem PySem.Spec PyProof.Rows L2
section
variable {P : Program} {w : World} {K : PySem.W.Frag} {mg : Str → Option Value} {base : Heap}
abbrev lawN : List Str := ["_law_script", "_law_k", "_law_pool_here", "_law_base_here", "_law_more", "_law_due", "_law_any_one", "_law_found", "_law_told", "_law_some"]
theorem scLaw : FnScope lawN ["_law_script"] (defScope sLaw) := ⟨rfl, rfl, rfl, by decide +kernel, rfl, by decide +kernel, by decide +kernel⟩
/-- a def that is called with one more by its name -/
structure Dk (K : PySem.W.Frag) (mg : Str → Option Value) (x : Str) (st : Stmt) (ps : List Str) (n : Nat) (ks : List Str) (f : Addr) (fd : FuncData) : Prop where
  F : Fun K x x st f fd
  g : mg x = some (.ref f)
  b : KBn K fd ps n ks (fun us ws => us ++ ws) (fun vs zs => vs ++ zs)
/-- a test that comes out False, nothing behind it otherwise -/
theorem if_false {tc : TT} {t : TS} {D : Ends} {σ : L2.St} {H : Hp} (h : ∀ Q : Bool → Hp → Prop, Q false H → tc σ H Q) (q : D.nx σ H) : tIfS tc t tNext D σ H := h _ (iteF q)
theorem seq_false {tc : TT} {t u : TS} {D : Ends} {σ : L2.St} {H : Hp} (h : ∀ Q : Bool → Hp → Prop, Q false H → tc σ H Q) (q : u D σ H) : tSeq (tIfS tc t tNext) u D σ H := h _ (iteF q)
theorem dec_self {v : V} : (!decide (v = v)) = false := by rw [decide_eq_true rfl]; rfl
/-- not _law_found * _law_found <= n < (_law_found + 1) * (_law_found + 1), n in slot i -/
theorem chain_reads {Q : Bool → Hp → Prop} {H : Hp} {σ : L2.St} {i : Nat} {n r : Int} (e7 : σ[7]? = some (some (.int r))) (ei : σ[i]? = some (some (.int n))) (r0 : 0 ≤ r) (hr : r.natAbs < 2 ^ 400) (r1 : r * r ≤ n) (r2 : n < (r + 1) * (r + 1)) (q : Q false H) :
    tNot (tTest (tChain (rI0 fun i j => V.bl (decide (i ≤ j))) (rI0 fun i j => V.bl (decide (i < j))) (tOp (rI CMulW fun i j => V.int (i * j)) (tVar 7) (tVar 7)) (tVar i)
      (tOp (rI CMulW fun i j => V.int (i * j)) (tOp (rI0 fun i j => V.int (i + j)) (tVar 7) (tC (V.int 1))) (tOp (rI0 fun i j => V.int (i + j)) (tVar 7) (tC (V.int 1)))))) σ H Q := by
  have hr1 : (r + 1).natAbs < 2 ^ 401 := by
    have : (2 : Nat) ^ 401 = 2 ^ 400 + 2 ^ 400 := by decide
    omega
  refine ⟨.int r, e7, .int r, e7, _, _, rfl, rfl, wide_mul hr hr (by decide) (by decide) (by decide), .int n, ei, _, _, rfl, rfl, _, rfl, ?_⟩
  rw [decide_eq_true r1]
  refine iteT ⟨.int r, e7, _, _, rfl, rfl, .int r, e7, _, _, rfl, rfl, _, _, rfl, rfl, wide_mul hr1 hr1 (by decide) (by decide) (by decide), _, _, rfl, rfl, _, rfl, ?_⟩
  rw [decide_eq_true r2]
  exact q
/-- _law_base_here == 0 and _law_more == 1 -/
theorem and_reads {Q : VK} {H : Hp} {σ : L2.St} {b m : Int} (e3 : σ[3]? = some (some (.int b))) (e4 : σ[4]? = some (some (.int m))) (q : Q (.bl (decide (V.int b = V.int 0) && decide (V.int m = V.int 1))) H) :
    tAndV (tOp rEq (tVar 3) (tC (.int 0))) (tOp rEq (tVar 4) (tC (.int 1))) σ H Q := by
  refine ⟨.int b, e3, rfl, _, rfl, ?_⟩
  cases z : decide (V.int b = V.int 0) with
  | true =>
    rw [z] at q
    exact ⟨.int m, e4, rfl, q⟩
  | false =>
    rw [z] at q
    exact q
theorem ok_law {fL f1 f2 f3 f4 f5 f6 a : Addr} {fdL fd1 fd2 fd3 fd4 fd5 fd6 : FuncData} {s : Shared} {H : Hp} {ns : List Int}
    (F : Fun K "law" "law" sLaw fL fdL) (bL : BindsTo s fdL ⟨[.ref a], []⟩ [("_law_script", .ref a)]) (B : Free mg)
    (D1 : Df K mg "_law_pool" sPool ["_law_script", "_law_k"] f1 fd1) (D2 : Df K mg "_law_take" sTake ["_law_pool_here", "_law_many"] f2 fd2) (D3 : Df K mg "_law_great" sGreat ["_law_pool_here"] f3 fd3) (D4 : Df K mg "_law_base" sBase ["_law_pool_here"] f4 fd4)
    (D5 : Df K mg "whole_root" sWholeRoot ["number"] f5 fd5) (D6 : Dk K mg "floor_of" sFloorOf ["fraction", "halvings"] 1 ["halvings"] f6 fd6)
    (G5 : FnOk P w K mg base CX0 2 f5 fd5 ["number"] spRoot) (G6 : FnOk P w K mg base CX0 6 f6 fd6 ["fraction", "halvings"] spFloorOf)
    (e0 : Env0 P w K mg base callerA [] s H) (hS : SqL K H a (ns.map V.int)) (hlen : ns.length ≤ 63) :
    codeAny (model P w) callerA (.call (.ref fL) ⟨[.ref a], []⟩) (CR CX0 [] P w H s (fun v _ => v = .bl true) E0) s := by
  have G1 : FnOk P w K mg base CX0 1 f1 fd1 ["_law_script", "_law_k"] (spPool K) := ok_pool D1 B
  have G2 : FnOk P w K mg base CX0 1 f2 fd2 ["_law_pool_here", "_law_many"] spTake := ok_take D2
  have G3 : FnOk P w K mg base CX0 2 f3 fd3 ["_law_pool_here"] spGreat := ok_great D3 B D2
  have G4 : FnOk P w K mg base CX0 3 f4 fd4 ["_law_pool_here"] spBase := ok_base D4 B D2 D3
  refine body_at (k := 6) (us := [.ref a]) (vs := [.ref a]) F scLaw ⟨rfl, by decide, by decide⟩ e0 bL (.cons rfl .nil) rfl fun cdv hr => ?_
  have hr1 := hr.mono (show 1 ≤ 6 by decide)
  have hr2 := hr.mono (show 2 ≤ 6 by decide)
  have hr3 := hr.mono (show 3 ≤ 6 by decide)
  refine ⟨_, pss_cons (ps_for PassesOwn.never rfl (pi_range1 (by rfl) B.rng (pa_cons (pe_callB (call_max2 rfl) (by rfl) B.max (by decide +kernel) (pa_cons pe_int (pa_cons (pe_callB (call_min2 rfl) (by rfl) B.min (by decide +kernel) (pa_cons pe_int (pa_cons (pe_callB call_len_seq (by rfl) B.len PySem.boot_len (pa_cons (pv 0) pa_nil)) pa_nil))) pa_nil))) pa_nil)) (pg_name (i := 1) scLaw.nd rfl (.inl rfl))
      -- _law_pool_here, _law_base_here
      (pss_cons (ps_set (i := 2) scLaw.nd rfl (.inl rfl) (pe_call G1 hr1 (by rfl) D1.g D1.F.kp D1.b .nil pass0 (pa_cons (pv 0) (pa_cons (pv 1) pa_nil))))
      (pss_cons (ps_set (i := 3) scLaw.nd rfl (.inl rfl) (pe_call G4 hr3 (by rfl) D4.g D4.F.kp D4.b .nil pass0 (pa_cons (pv 2) pa_nil)))
      -- for _law_more in (..)
      (pss_cons (ps_for PassesOwn.never rfl (pi_tup (pe_tup (pa_cons pe_int (pa_cons pe_int (pa_cons (pv 3) (pa_cons (pe_op op_mul pe_int (pv 3)) (pa_cons (pe_call G2 hr1 (by rfl) D2.g D2.F.kp D2.b .nil pass0 (pa_cons (pv 2) (pa_cons (pe_op op_add (pe_op op_mul pe_int (pv 3)) pe_int) pa_nil))) pa_nil))))))) (pg_name (i := 4) scLaw.nd rfl (.inl rfl))
        (pss_cons (ps_set (i := 5) scLaw.nd rfl (.inl rfl) (pe_op op_add (pv 3) (pe_callTy call_int1 (by rfl) B.int (by decide +kernel) (pa_cons (pe_and (pe_cmpR op_eq (pv 3) pe_int (nomark _)) (pe_one (pe_cmpR op_eq (pv 4) pe_int (nomark _)))) pa_nil))))
        (pss_one (ps_if (pt_cmpR op_ne (pe_callB SkE.call_repr_int (by rfl) B.repr (by decide +kernel) (pa_cons (pe_call G5 hr2 (by rfl) D5.g D5.F.kp D5.b .nil pass0 (pa_cons (pe_op op_add (pe_op op_mulW (pv 3) (pv 3)) (pv 4)) pa_nil)) pa_nil)) (pe_callB SkE.call_repr_int (by rfl) B.repr (by decide +kernel) (pa_cons (pv 5) pa_nil)) (nomark _)) (pss_one (ps_ret pe_bl)) pss_nil))))
      -- the square less one, the next square
      (pss_cons (ps_if (PW.pt (pw_and (pt_cmpR op_gt (pv 3) pe_int (nomark _)) (pw_and1 (pt_cmpR op_ne (pe_call G5 hr2 (by rfl) D5.g D5.F.kp D5.b .nil pass0 (pa_cons (pe_op op_sub (pe_op op_mulW (pv 3) (pv 3)) pe_int) pa_nil)) (pe_op op_sub (pv 3) pe_int) (nomark _))))) (pss_one (ps_ret pe_bl)) pss_nil)
      (pss_cons (ps_if (pt_cmpR op_ne (pe_call G5 hr2 (by rfl) D5.g D5.F.kp D5.b .nil pass0 (pa_cons (pe_op op_add (pe_op op_add (pe_op op_mulW (pv 3) (pv 3)) (pe_op op_mul pe_int (pv 3))) pe_int) pa_nil)) (pe_op op_add (pv 3) pe_int) (nomark _)) (pss_one (ps_ret pe_bl)) pss_nil)
      -- _law_any_one
      (pss_cons (ps_set (i := 6) scLaw.nd rfl (.inl rfl) (pe_op op_add (pe_op op_mul (pe_call G3 hr2 (by rfl) D3.g D3.F.kp D3.b .nil pass0 (pa_cons (pv 2) pa_nil)) (pe_op op_pow pe_int pe_int)) (pe_call G3 hr2 (by rfl) D3.g D3.F.kp D3.b .nil pass0 (pa_cons (pv 2) pa_nil))))
      (pss_cons (ps_set (i := 6) scLaw.nd rfl (.inl rfl) (pe_op op_mul (pv 6) (pe_ix ix_list (pe_lst (pa_cons pe_int (pa_cons pe_int (pa_cons pe_int (pa_cons pe_int (pa_cons pe_int pa_nil)))))) (pe_call G2 hr1 (by rfl) D2.g D2.F.kp D2.b .nil pass0 (pa_cons (pv 2) (pa_cons pe_int pa_nil))) (fun _ _ => rfl))))
      (pss_cons (ps_set (i := 6) scLaw.nd rfl (.inl rfl) (pe_op op_add (pv 6) (pe_call G2 hr1 (by rfl) D2.g D2.F.kp D2.b .nil pass0 (pa_cons (pv 2) (pa_cons pe_int pa_nil)))))
      -- _law_found
      (pss_cons (ps_set (i := 7) scLaw.nd rfl (.inl rfl) (pe_call G5 hr2 (by rfl) D5.g D5.F.kp D5.b .nil pass0 (pa_cons (pv 6) pa_nil)))
      (pss_cons (ps_if (pt_not (pt_chain op_le op_lt (pe_op op_mulW (pv 7) (pv 7)) (pv 6) (pe_op op_mulW (pe_op op_add (pv 7) pe_int) (pe_op op_add (pv 7) pe_int)))) (pss_one (ps_ret pe_bl)) pss_nil)
      (pss_cons (ps_if (pt_cmpR op_ne (pe_call G5 hr2 (by rfl) D5.g D5.F.kp D5.b .nil pass0 (pa_cons (pv 6) pa_nil)) (pv 7) (nomark _)) (pss_one (ps_ret pe_bl)) pss_nil)
      -- _law_told
      (pss_cons (ps_set (i := 8) scLaw.nd rfl (.inl rfl) (pe_callN G6 hr (by rfl) D6.g D6.F.kp D6.b pass0 (pa_cons (pe_tup (pa_cons (pv 6) (pa_cons pe_int pa_nil))) pa_nil) (pk_cons (pe_call G2 hr1 (by rfl) D2.g D2.F.kp D2.b .nil pass0 (pa_cons (pv 2) (pa_cons pe_int pa_nil))) pk_nil)))
      (pss_cons (ps_set (i := 7) scLaw.nd rfl (.inl rfl) (pe_call G5 hr2 (by rfl) D5.g D5.F.kp D5.b .nil pass0 (pa_cons (pv 8) pa_nil)))
      (pss_one (ps_if (pt_not (pt_chain op_le op_lt (pe_op op_mulW (pv 7) (pv 7)) (pv 8) (pe_op op_mulW (pe_op op_add (pv 7) pe_int) (pe_op op_add (pv 7) pe_int)))) (pss_one (ps_ret pe_bl)) pss_nil))))))))))))))))
    -- the ten
    (pss_cons (ps_set (i := 5) scLaw.nd rfl (.inl rfl) (pe_lst (pa_cons pe_int (pa_cons pe_int (pa_cons pe_int (pa_cons pe_int (pa_cons pe_int (pa_cons pe_int (pa_cons pe_int (pa_cons pe_int (pa_cons pe_int (pa_cons pe_int pa_nil))))))))))))
    (pss_one (ps_ret (pe_cmpR op_eq (pe_callB (call_reprL hr rfl) (by rfl) B.repr (by decide +kernel) (pa_cons
        (pe_lc (own := [("_law_some", 9)]) (g := gName 9) (tt := tYes) rfl scLaw.nd (pi_range1 (by rfl) B.rng (pa_cons pe_int pa_nil)) (blkOk_by (N := lawN) (sc := defScope sLaw) (by decide +kernel))
          (fun _ _ _ _ _ => pg_name (i := 9) scLaw.nd rfl (Or.inl rfl)) (fun _ _ _ _ _ => pts_nil) (fun _ _ _ _ _ => pe_call G5 hr2 (by rfl) D5.g D5.F.kp D5.b .nil pass0 (pa_cons (pv 9) pa_nil))) pa_nil))
      (pe_callB (call_reprL hr rfl) (by rfl) B.repr (by decide +kernel) (pa_cons (pv 5) pa_nil)) (nomark _))))), ?_⟩
  refine ⟨.ref a, rfl, a, _, rfl, .inl hS, _, _, rfl, _, _, rfl, _, rfl, ?_⟩
  have j1 : (if (if ((ns.map V.int).length : Int) < 9 then ((ns.map V.int).length : Int) else 9) > 1 then (if ((ns.map V.int).length : Int) < 9 then ((ns.map V.int).length : Int) else 9) else 1) ≤ 9 := by
    split <;> split <;> omega
  have j0 : 1 ≤ (if (if ((ns.map V.int).length : Int) < 9 then ((ns.map V.int).length : Int) else 9) > 1 then (if ((ns.map V.int).length : Int) < 9 then ((ns.map V.int).length : Int) else 9) else 1) := by
    split <;> split <;> omega
  generalize (if (if ((ns.map V.int).length : Int) < 9 then ((ns.map V.int).length : Int) else 9) > 1 then (if ((ns.map V.int).length : Int) < 9 then ((ns.map V.int).length : Int) else 9) else 1) = j at j0 j1
  refine ⟨by omega, by omega, for_range (lo := 0) (n := j.toNat) (fun i σ H' => Same H H' ∧ ∃ v1 v2 v3 v4 v5 v6 v7 v8 v9 : Option V, σ = [some (.ref a), v1, v2, v3, v4, v5, v6, v7, v8, v9])
    ⟨Same.refl _, none, none, none, none, none, none, none, none, none, rfl⟩ ?_ ?_⟩
  · rintro i σ H1 hi ⟨sm, v1, v2, v3, v4, v5, v6, v7, v8, v9, rfl⟩
    rw [show (0 : Int) + (i : Nat) = (i : Int) by omega]
    -- the pool, the base
    refine ⟨.ref a, rfl, .int (i : Int), rfl, a, ns, i, rfl, sm.seq hS, by omega, fun p H2 np s2 hp2 => ?_⟩
    refine ⟨.ref p, rfl, p, 0, rfl, hp2, by omega, fun b H3 b0 b1 hp3 k3 => ?_⟩
    have up : ∀ {Ha Hb : Hp}, Same H1 Ha → Kept p Ha Hb → Same H1 Hb := fun sa k c o e => k c o (ne_of_none e np) (sa c o e)
    have s3 := up s2 k3
    have hbb := sq_bound b0 b1
    have hbn : b.natAbs < 2 ^ 70 := by omega
    -- the tuple
    refine ⟨.int b, rfl, .int b, rfl, _, _, rfl, rfl, .inl ⟨by decide, by decide⟩, .ref p, rfl, .int b, rfl, _, _, rfl, rfl, .inl ⟨by decide, by decide⟩, _, _, rfl, rfl, p, 2 * b + 1, 4, rfl, hp3, by omega, by omega, by omega, fun d H4 d0 d1 hp4 k4 => ?_⟩
    have s4 := up s3 k4
    refine ⟨by show 5 ≤ sizeLine; decide, fun T nT => ?_⟩
    refine ⟨T, rfl, ⟨_, .inl (.inl upd_same)⟩, for_tup (K := K) (a := T) (xs := [.int 0, .int 1, .int b, .int (2 * b), .int d]) (fun l σ H' => H' = upd H4 T (.tup [.int 0, .int 1, .int b, .int (2 * b), .int d]) ∧
      ∃ v4 v5 : Option V, σ = [some (.ref a), some (.int (i : Int)), some (.ref p), some (.int b), v4, v5, v6, v7, v8, v9]) ⟨rfl, _, _, rfl⟩ (fun l σ H' _ h => by rw [h.1]; exact .inl (.inl upd_same)) ?_ ?_⟩
    · rintro l x σ H' hl ⟨rfl, v4', v5', rfl⟩
      obtain ⟨m, rfl, m0, m1⟩ : ∃ m : Int, x = .int m ∧ 0 ≤ m ∧ (m ≤ 2 * b ∨ m = 1) := by
        match l, hl with
        | 0, hl => exact ⟨0, (Option.some.inj hl).symm, by omega, by omega⟩
        | 1, hl => exact ⟨1, (Option.some.inj hl).symm, by omega, by omega⟩
        | 2, hl => exact ⟨b, (Option.some.inj hl).symm, by omega, by omega⟩
        | 3, hl => exact ⟨2 * b, (Option.some.inj hl).symm, by omega, by omega⟩
        | 4, hl => exact ⟨d, (Option.some.inj hl).symm, by omega, by omega⟩
        | l + 5, hl => exact absurd hl (by simp)
      refine ⟨.int b, rfl, and_reads (b := b) (m := m) rfl rfl (.inr ⟨_, rfl, _, _, rfl, rfl, ?_⟩)⟩
      have hq : 0 ≤ b * b := Int.mul_nonneg b0 b0
      obtain ⟨u0, u1⟩ := due_nn (m := m) b0
      refine ⟨.int b, rfl, .int b, rfl, _, _, rfl, rfl, wide_mul hbn hbn (by decide) (by decide) (by decide), .int m, rfl, _, _, rfl, rfl, b * b + m, rfl, by omega, by omega, fun r r0 r1 r2 => ?_⟩
      obtain rfl := due_root b0 m0 m1 r0 r1 r2
      have hlog : (dueOf b m).natAbs.log2 < 1920 := log_small (k := 70) (by decide) (by omega) (by decide)
      refine ⟨_, rfl, hlog, .int (dueOf b m), rfl, _, rfl, hlog, rfl, _, rfl, iteNS rfl ?_⟩
      exact ⟨rfl, _, _, rfl⟩
    · rintro σ H' ⟨rfl, v4', v5', rfl⟩
      -- base > 0 and whole_root(base * base - 1) != base - 1
      have hq : 0 ≤ b * b := Int.mul_nonneg b0 b0
      dsimp only
      refine seq_false (fun Q q => ?_) ?_
      · refine ⟨.int b, rfl, _, _, rfl, rfl, _, rfl, ite2 (fun e => ?_) (fun e => q)⟩
        have hb := of_decide_eq_true e
        refine ⟨.int b, rfl, .int b, rfl, _, _, rfl, rfl, wide_mul hbn hbn (by decide) (by decide) (by decide), _, _, rfl, rfl, b * b - 1, rfl, by have := root_le b0 (Int.le_refl (b * b)); omega, by omega, fun r r0 r1 r2 => ?_⟩
        obtain rfl := prev_root hb r0 r1 r2
        refine ⟨.int b, rfl, _, _, rfl, rfl, rfl, _, rfl, ?_⟩
        rw [dec_self]
        exact q
      -- the next square
      refine seq_false (fun Q q => ?_) ?_
      · refine ⟨.int b, rfl, .int b, rfl, _, _, rfl, rfl, wide_mul hbn hbn (by decide) (by decide) (by decide), .int b, rfl, _, _, rfl, rfl, .inl ⟨by decide, by decide⟩, _, _, rfl, rfl, _, _, rfl, rfl, b * b + 2 * b + 1, rfl, by omega, by omega, fun r r0 r1 r2 => ?_⟩
        obtain rfl := next_root b0 r0 r1 r2
        refine ⟨.int b, rfl, _, _, rfl, rfl, rfl, _, rfl, ?_⟩
        rw [dec_self]
        exact q
      -- _law_any_one
      generalize hH5 : upd H4 T (.tup [.int 0, .int 1, .int b, .int (2 * b), .int d]) = H5
      have nTp : p ≠ T := by
        obtain ⟨_, _, _, h1, _⟩ := hp4
        exact ne_of_none h1 nT
      have hp5 : Pool H5 p 5 := by
        obtain ⟨x, y, z, h1, h2⟩ := hp4
        exact ⟨x, y, z, by rw [← hH5, upd_ne nTp]; exact h1, h2⟩
      have s5 : Same H1 H5 := by
        rw [← hH5]
        exact s4.trans (same_new nT)
      refine ⟨.ref p, rfl, p, 5, rfl, hp5, by omega, fun g H6 g0 g1 hp6 k6 => ?_⟩
      refine ⟨_, _, rfl, rfl, ⟨by decide, by decide, by decide⟩, _, _, rfl, rfl, .inl ⟨by omega, by omega⟩, .ref p, rfl, p, 8, rfl, hp6, by omega, fun g' H7 g'0 g'1 hp7 k7 => ⟨_, _, rfl, rfl, ?_⟩⟩
      have s7 := up (up s5 k6) k7
      have ep : (10 : Int) ^ (18 : Int).toNat = 1000000000000000000 := by decide
      have A0 : 0 ≤ g * (10 : Int) ^ (18 : Int).toNat + g' := by rw [ep]; omega
      have A1 : g * (10 : Int) ^ (18 : Int).toNat + g' ≤ 1000000000000000000000000000000000000 := by rw [ep]; omega
      refine ⟨.int (g * (10 : Int) ^ (18 : Int).toNat + g'), rfl, by show 5 ≤ sizeLine; decide, fun l nl => ?_⟩
      have nlp : p ≠ l := by
        obtain ⟨_, _, _, h1, _⟩ := hp7
        exact ne_of_none h1 nl
      have hp8 : Pool (upd H7 l (.lst [.int 1, .int 10, .int 100, .int 1000, .int 10000])) p 11 := by
        obtain ⟨x, y, z, h1, h2⟩ := hp7
        exact ⟨x, y, z, by rw [upd_ne nlp]; exact h1, h2⟩
      refine ⟨.ref p, rfl, p, 5, 11, rfl, hp8, by omega, by decide, by decide, fun d5 H9 d50 d51 hp9 k9 => ?_⟩
      obtain ⟨c, ec, c0, c1⟩ := five_at d50 d51
      refine ⟨l, _, d5, .int c, rfl, rfl, .inl (.inl (k9 _ _ nlp.symm upd_same)), ec, _, _, rfl, rfl, .inr ⟨by omega, by omega⟩, ?_⟩
      have s9 := up (s7.trans (same_new nl)) k9
      have B0 : 0 ≤ (g * (10 : Int) ^ (18 : Int).toNat + g') * c := Int.mul_nonneg A0 (by omega)
      have B1 : (g * (10 : Int) ^ (18 : Int).toNat + g') * c ≤ 1000000000000000000000000000000000000 * 10000 := Int.mul_le_mul A1 c1 (by omega) (by decide)
      refine ⟨.int ((g * (10 : Int) ^ (18 : Int).toNat + g') * c), rfl, .ref p, rfl, p, 9, 12, rfl, hp9, by omega, by decide, by decide, fun t H10 t0 t1 hp10 k10 => ⟨_, _, rfl, rfl, ?_⟩⟩
      have s10 := up s9 k10
      have N0 : 0 ≤ (g * (10 : Int) ^ (18 : Int).toNat + g') * c + t := by omega
      have N1 : (g * (10 : Int) ^ (18 : Int).toNat + g') * c + t < 100000000000000000000000000000000000000000 := by omega
      dsimp only
      generalize (g * (10 : Int) ^ (18 : Int).toNat + g') * c + t = N at N0 N1
      have hN : N.natAbs < 2 ^ 150 := by omega
      -- _law_found
      refine ⟨.int N, rfl, N, rfl, N0, by omega, fun r r0 r1 r2 => ?_⟩
      have hr4 := root_le r0 r1
      dsimp only
      refine seq_false (fun Q q => chain_reads (i := 6) rfl rfl r0 (by omega) r1 r2 q) ?_
      refine seq_false (fun Q q => ?_) ?_
      · refine ⟨.int N, rfl, N, rfl, N0, by omega, fun r' r'0 r'1 r'2 => ?_⟩
        obtain rfl := root_one r'0 r0 r'1 r'2 r1 r2
        refine ⟨.int r', rfl, rfl, _, rfl, ?_⟩
        rw [dec_self]
        exact q
      -- _law_told
      refine ⟨.int N, rfl, by show 2 ≤ sizeLine; decide, fun U nU => ?_⟩
      have nUp : p ≠ U := by
        obtain ⟨_, _, _, h1, _⟩ := hp10
        exact ne_of_none h1 nU
      have hp11 : Pool (upd H10 U (.tup [.int N, .int 1])) p 13 := by
        obtain ⟨x, y, z, h1, h2⟩ := hp10
        exact ⟨x, y, z, by rw [upd_ne nUp]; exact h1, h2⟩
      refine ⟨.ref p, rfl, p, 201, 13, rfl, hp11, by omega, by decide, by decide, fun h H12 h0 h1 hp12 k12 => ?_⟩
      obtain ⟨k, rfl⟩ := Int.eq_ofNat_of_zero_le h0
      have s12 := up (s10.trans (same_new nU)) k12
      refine ⟨rfl, rfl, U, N, k, rfl, k12 _ _ nUp.symm upd_same, hN, by omega, fun H13 s13 => ?_⟩
      have M0 : 0 ≤ N * 2 ^ k := Int.mul_nonneg N0 (Int.le_of_lt (pow_pos2 k))
      have M1 : (N * 2 ^ k).natAbs < 2 ^ 400 := by
        have hk : ((2 : Int) ^ k).natAbs < 2 ^ 201 := by
          rw [Int.natAbs_pow]
          exact Nat.pow_lt_pow_right (by decide) (by omega)
        exact Nat.lt_of_lt_of_le (wide_lt hN hk) (by decide)
      refine ⟨.int (N * 2 ^ k), rfl, N * 2 ^ k, rfl, M0, M1, fun r' r'0 r'1 r'2 => ?_⟩
      have hr5 := root_le r'0 r'1
      dsimp only
      refine if_false (fun Q q => chain_reads (i := 8) rfl rfl r'0 (by omega) r'1 r'2 q) ?_
      exact ⟨(sm.trans s12).trans s13, _, _, _, _, _, _, _, _, _, rfl⟩
  · rintro σ H1 ⟨sm, v1, v2, v3, v4, v5, v6, v7, v8, v9, rfl⟩
    -- the ten
    refine ⟨by show 10 ≤ sizeLine; decide, fun L nL => ?_⟩
    have eL : (upd H1 L (.lst (tenRoots.map V.int))) L = some (.lst (tenRoots.map V.int)) := upd_same
    refine ⟨10, rfl, by decide, by decide, fun M nM => ?_⟩
    refine lc_range (lo := 0) (n := 10) (fun i H' => Same (upd H1 L (.lst (tenRoots.map V.int))) H' ∧ H' M = some (.lst ((tenRoots.take i).map V.int))) ⟨same_new nM, upd_same⟩ ?_ ?_
    · rintro i H' hi ⟨s1, e1⟩
      obtain ⟨c, ec, c0, c1, c2⟩ := ten_at i hi
      refine ⟨rfl, .int (0 + (i : Int)), rfl, 0 + (i : Int), rfl, by omega, by omega, fun r r0 r1 r2 => ?_⟩
      rw [show (0 : Int) + (i : Int) = (i : Int) by omega] at r1 r2
      obtain rfl := root_one r0 c0 r1 r2 c1 c2
      refine ⟨_, e1, ?_, fun b o e => ?_, ?_⟩
      · rw [List.length_map, List.length_take]
        exact small1000 (by omega)
      · rw [upd_ne (ne_of_none e nM)]
        exact s1 _ _ e
      · rw [upd_same, List.take_add_one, ec, List.map_append]
        rfl
    · rintro H' ⟨s1, e1⟩
      refine ⟨M, tenRoots, rfl, .inl (.inl e1), ten_show, ten_dict, ten_depth, ten_text, .ref L, rfl, L, tenRoots, rfl, .inl (.inl (s1 _ _ eL)), ten_show, ten_dict, ten_depth, ten_text, rfl, ?_⟩
      show V.bl _ = V.bl true
      rw [decide_eq_true rfl]
end
end Wr
namespace Wr
open PySem PySem.Spec PyProof.Rows L2
/-! ### what the top has written -/
/-- what a def of the text is behind the top -/
structure Says (K : PySem.W.Frag) (x : Str) (st : Stmt) (f : Addr) (kV : Value) (fd : FuncData) : Prop where
  at_ : PySem.W.nsIn K mainGlobals x = some (some (.ref f))
  fn : ∃ (oc : Value) (od : Option Addr) (doc pm : Value) (an : Option Addr) (cdv ct : Value) (osl : Array (Option Value)),
    fd = PySem.W.fnOf x x (defArgs st) (defBody st) (defScope st) .none kV doc pm an cdv ct ∧ K.lookup f = some ⟨oc, od, .func fd, osl⟩ ∧ PySem.W.codeIn K cdv x = true
  kp : PySem.W.keepIn K (.ref f) = true
theorem says_mk {K : PySem.W.Frag} {x : Str} {st : Stmt} {f : Addr} {oc : Value} {od an : Option Addr} {osl : Array (Option Value)} {kV doc pm cdv ct : Value} (a : PySem.W.nsIn K mainGlobals x = some (some (.ref f)))
    (l : K.lookup f = some ⟨oc, od, .func (PySem.W.fnOf x x (defArgs st) (defBody st) (defScope st) .none kV doc pm an cdv ct), osl⟩) (c : PySem.W.codeIn K cdv x = true) (k : PySem.W.keepIn K (.ref f) = true) :
    Says K x st f kV (PySem.W.fnOf x x (defArgs st) (defBody st) (defScope st) .none kV doc pm an cdv ct) := ⟨a, ⟨oc, od, doc, pm, an, cdv, ct, osl, rfl, l, c⟩, k⟩
section
variable {K : PySem.W.Frag} {mg : Str → Option Value} {h : Heap} {x : Str} {st : Stmt} {f : Addr} {kV : Value} {fd : FuncData} {ps : List Str}
theorem Says.fun_ (S : Says K x st f kV fd) : Fun K x x st f fd := by
  obtain ⟨a, ⟨oc, od, doc, pm, an, cdv, ct, osl, e, l, c⟩, k⟩ := S
  exact ⟨⟨oc, od, kV, doc, pm, an, cdv, ct, osl, e, l, c⟩, k⟩
theorem Says.df (S : Says K x st f kV fd) (X : K.In h) (G : h.Ns mainGlobals mg)
    (b : ∀ (kV doc pm : Value) (an : Option Addr) (cdv ct : Value) (us : List Value), us.length = ps.length → bindArgs (PySem.W.fnOf x x (defArgs st) (defBody st) (defScope st) .none kV doc pm an cdv ct) ⟨us, []⟩ = pure (ps.zip us)) : Df K mg x st ps f fd :=
  ⟨S.fun_, PySem.W.mg_of X G S.at_, S.fun_.binds b⟩
/-- floor_of(e, halvings=v) -/
theorem Says.dk (S : Says K "floor_of" sFloorOf f kV fd) (X : K.In h) (G : h.Ns mainGlobals mg) : Dk K mg "floor_of" sFloorOf ["fraction", "halvings"] 1 ["halvings"] f fd := by
  refine ⟨S.fun_, PySem.W.mg_of X G S.at_, ⟨fun s us ws _ l1 l2 => ?_, fun r1 r2 => r1.append r2⟩⟩
  obtain ⟨oc, od, doc, pm, an, cdv, ct, osl, rfl, _⟩ := S.fn
  match us, ws, l1, l2 with
  | [_], [_], _, _ => exact .of_eq rfl
/-- need_halvings(e): its keyword's default -/
theorem Says.kw {D : Addr} {t : Tok} (S : Says K "need_halvings" sNeedHalv f (.ref D) fd) (n : PySem.W.nsIn K D "upto" = some (some (.int 200 t))) : ∃ ds, Vals [V.int 200] ds ∧ Binds K fd ["thing", "upto"] ds := by
  obtain ⟨oc, od, doc, pm, an, cdv, ct, osl, e, l, c⟩ := S.fn
  have FD : FunD K "need_halvings" "need_halvings" (defArgs sNeedHalv) (defBody sNeedHalv) (defScope sNeedHalv) [] [("upto", .int 200)] f fd :=
    ⟨⟨oc, od, .none, .ref D, doc, pm, an, cdv, ct, osl, e, l, c, .inl ⟨rfl, rfl⟩, .inr ⟨D, rfl, fun q hq => by
      obtain rfl := List.mem_singleton.mp hq
      exact ⟨_, n, t, rfl⟩⟩⟩, S.kp⟩
  refine FD.binds0 (ps := ["thing", "upto"]) 1 (List.cons_ne_nil _ _) rfl fun D doc pm an cdv ct us ks l1 l2 => ?_
  match us, ks, l1, l2 with
  | [_], [_], _, _ => exact ⟨_, _, _, _, _, _, rfl, rfl, rfl⟩
end
/-- the law's goal behind the head, from the law's own call -/
theorem walk_at {l : PySem.W.OpenLaw} {q : Program} {loose : List Str} {XP : (Str → Option Value) → Heap → Prop} {YP : World → Heap → Prop} {d : DefRec} {K : Params → PySem.W.Frag} (hn : l.most = some 63) (hdf : d.params.defaults = [])
    (hY : ∀ (w : World) (h : Heap), YP w h → (K w.params).In h)
    (F : ∀ (w : World) (mg : Str → Option Value) (fa : Addr) (h : Heap), (K w.params).In h → h.Ns mainGlobals mg → mg d.name = some (.ref fa) →
      ∀ (base : Heap) (s : Shared) (H : Hp) (a : Addr) (ns : List Int), Env0 l.prog w (K w.params) mg base callerA [] s H → SqL (K w.params) H a (ns.map V.int) → ns.length ≤ 63 →
        codeAny (model l.prog w) callerA (.call (.ref fa) ⟨[.ref a], []⟩) (CR CX0 [] l.prog w H s (fun v _ => v = .bl true) E0) s) :
    PySem.W.WalkO q loose XP YP l.row.toRowW d [] (fun f vs => PySem.call f vs) := by
  refine Att.attach_call hn hdf ?_
  intro w s₀ s₁ mg mb fa o pm cd doc a vs ns G Y ho hd hcd hmg hobj hints hlen hg
  have KX := hY w _ Y
  exact law_at KX G.T.g G.T.b G.T.builtins G.T.nolimit hg hobj hints (Nat.le_trans hlen (by decide)) fun base H _ _ env hS => F w mg fa _ KX G.T.g hmg base s₁ H a ns env hS hlen

theorem all_mk {P : Program} {w : World} {K : PySem.W.Frag} {h : Heap} {mg : Str → Option Value} {fa D : Addr} {t : Tok} {f1 f2 f3 f4 f5 f6 f7 f8 f9 f10 f11 f12 f13 f14 f15 f16 f17 : Addr} {fd1 fd2 fd3 fd4 fd5 fd6 fd7 fd8 fd9 fd10 fd11 fd12 fd13 fd14 fd15 fd16 fd17 : FuncData} {kV1 kV2 kV3 kV4 kV5 kV6 kV7 kV9 kV10 kV11 kV12 kV13 kV14 kV15 kV16 kV17 : Value} (X : K.In h) (G : h.Ns mainGlobals mg) (hfa : mg "law" = some (.ref fa))
    (S1 : Says K "is_whole" sIsWhole f1 kV1 fd1)
    (S2 : Says K "are_whole" sAreWhole f2 kV2 fd2)
    (S3 : Says K "shared_part" sShared f3 kV3 fd3)
    (S4 : Says K "part_of_all" sPartAll f4 kV4 fd4)
    (S5 : Says K "is_lowest" sIsLowest f5 kV5 fd5)
    (S6 : Says K "is_fraction" sIsFrac f6 kV6 fd6)
    (S7 : Says K "need_fraction" sNeedFrac f7 kV7 fd7)
    (S8 : Says K "need_halvings" sNeedHalv f8 (.ref D) fd8)
    (S9 : Says K "root_by" sRootBy f9 kV9 fd9)
    (S10 : Says K "whole_root" sWholeRoot f10 kV10 fd10)
    (S11 : Says K "floor_by" sFloorBy f11 kV11 fd11)
    (S12 : Says K "floor_of" sFloorOf f12 kV12 fd12)
    (S13 : Says K "_law_pool" sPool f13 kV13 fd13)
    (S14 : Says K "_law_take" sTake f14 kV14 fd14)
    (S15 : Says K "_law_great" sGreat f15 kV15 fd15)
    (S16 : Says K "_law_base" sBase f16 kV16 fd16)
    (S17 : Says K "law" sLaw f17 kV17 fd17)
    (n8 : PySem.W.nsIn K D "upto" = some (some (.int 200 t))) (z1 : PySem.W.nsIn K mainGlobals "isinstance" = some none) (z2 : PySem.W.nsIn K mainGlobals "int" = some none) (z3 : PySem.W.nsIn K mainGlobals "bool" = some none) (z4 : PySem.W.nsIn K mainGlobals "tuple" = some none) (z5 : PySem.W.nsIn K mainGlobals "len" = some none) (z6 : PySem.W.nsIn K mainGlobals "all" = some none) (z7 : PySem.W.nsIn K mainGlobals "abs" = some none) (z8 : PySem.W.nsIn K mainGlobals "reversed" = some none) (z9 : PySem.W.nsIn K mainGlobals "range" = some none) (z10 : PySem.W.nsIn K mainGlobals "max" = some none) (z11 : PySem.W.nsIn K mainGlobals "min" = some none) (z12 : PySem.W.nsIn K mainGlobals "repr" = some none) :
    ∀ (base : Heap) (s : Shared) (H : Hp) (a : Addr) (ns : List Int), Env0 P w K mg base callerA [] s H → SqL K H a (ns.map V.int) → ns.length ≤ 63 → codeAny (model P w) callerA (.call (.ref fa) ⟨[.ref a], []⟩) (CR CX0 [] P w H s (fun v _ => v = .bl true) E0) s := by
  obtain rfl : fa = f17 := by
    have e := hfa.symm.trans (PySem.W.mg_of X G S17.at_)
    injection e with e
    injection e
  have B : Free mg := ⟨PySem.W.mg_none_of X G z1, PySem.W.mg_none_of X G z2, PySem.W.mg_none_of X G z3, PySem.W.mg_none_of X G z4, PySem.W.mg_none_of X G z5, PySem.W.mg_none_of X G z6, PySem.W.mg_none_of X G z7, PySem.W.mg_none_of X G z8, PySem.W.mg_none_of X G z9, PySem.W.mg_none_of X G z10, PySem.W.mg_none_of X G z11, PySem.W.mg_none_of X G z12⟩
  have D1 := S1.df (ps := ["thing"]) X G fun _ _ _ _ _ _ us hl => match us, hl with | [_], _ => rfl
  have D2 := S2.df (ps := ["thing", "many"]) X G fun _ _ _ _ _ _ us hl => match us, hl with | [_, _], _ => rfl
  have D3 := S3.df (ps := ["one", "other"]) X G fun _ _ _ _ _ _ us hl => match us, hl with | [_, _], _ => rfl
  have D4 := S4.df (ps := ["row"]) X G fun _ _ _ _ _ _ us hl => match us, hl with | [_], _ => rfl
  have D5 := S5.df (ps := ["thing", "many"]) X G fun _ _ _ _ _ _ us hl => match us, hl with | [_, _], _ => rfl
  have D6 := S6.df (ps := ["thing"]) X G fun _ _ _ _ _ _ us hl => match us, hl with | [_], _ => rfl
  have D7 := S7.df (ps := ["thing"]) X G fun _ _ _ _ _ _ us hl => match us, hl with | [_], _ => rfl
  have D9 := S9.df (ps := ["number"]) X G fun _ _ _ _ _ _ us hl => match us, hl with | [_], _ => rfl
  have D10 := S10.df (ps := ["number"]) X G fun _ _ _ _ _ _ us hl => match us, hl with | [_], _ => rfl
  have D11 := S11.df (ps := ["fraction", "halvings"]) X G fun _ _ _ _ _ _ us hl => match us, hl with | [_, _], _ => rfl
  have D13 := S13.df (ps := ["_law_script", "_law_k"]) X G fun _ _ _ _ _ _ us hl => match us, hl with | [_, _], _ => rfl
  have D14 := S14.df (ps := ["_law_pool_here", "_law_many"]) X G fun _ _ _ _ _ _ us hl => match us, hl with | [_, _], _ => rfl
  have D15 := S15.df (ps := ["_law_pool_here"]) X G fun _ _ _ _ _ _ us hl => match us, hl with | [_], _ => rfl
  have D16 := S16.df (ps := ["_law_pool_here"]) X G fun _ _ _ _ _ _ us hl => match us, hl with | [_], _ => rfl
  obtain ⟨ds, v8, b8⟩ := S8.kw n8
  have D12 := S12.dk X G
  intro base s H a ns env hS hl
  have G5 : FnOk P w K mg base CX0 3 f5 fd5 ["thing", "many"] spIsLowest := ok_isLowest D5 B D1 D2 D3 D4
  have G6 : FnOk P w K mg base CX0 4 f6 fd6 ["thing"] spIsFrac := ok_isFrac D6 D5 G5
  have G7 : FnOk P w K mg base CX0 5 f7 fd7 ["thing"] spNeedFrac := ok_needFrac D7 D6 G6
  have G8 : FnOk P w K mg base CX0 2 f8 fd8 ["thing", "upto"] spNeedHalv := ok_needHalv S8.fun_ B D1
  have G10 : FnOk P w K mg base CX0 2 f10 fd10 ["number"] spRoot := ok_wholeRoot D10 B D1 D9
  have G12 : FnOk P w K mg base CX0 6 f12 fd12 ["fraction", "halvings"] spFloorOf := ok_floorOf S12.fun_ D7 G7 S8.fun_ (PySem.W.mg_of X G S8.at_) b8 v8 G8 D11
  have bL : BindsTo s fd17 ⟨[.ref a], []⟩ [("_law_script", .ref a)] := by
    obtain ⟨oc, od, doc, pm, an, cdv, ct, osl, rfl, _⟩ := S17.fn
    exact .of_eq rfl
  exact ok_law S17.fun_ bL B D13 D14 D15 D16 D10 D12 G10 G12 env hS hl
end Wr
open PySem PySem.W PyProof.Rows
set_option maxRecDepth 100000 in
set_option maxHeartbeats 0 in
theorem PySem.Challenge.cw_leafglobe_k04_whole_roots_holds : PySem.Challenge.rw_leafglobe_k04_whole_roots.Holds := by
  w_on; o_law; k_head; (case hw => w_witness2)
  k_fill
  refine Wr.walk_at (l := PySem.Challenge.rw_leafglobe_k04_whole_roots) rfl rfl (fun w h Y => PySem.W.kIn_of Y) ?F
  case F =>
    intro w mg fa h KX G hmg
    refine' Wr.all_mk KX G hmg (Wr.says_mk ?a1 ?l1 ?c1 ?k1) (Wr.says_mk ?a2 ?l2 ?c2 ?k2) (Wr.says_mk ?a3 ?l3 ?c3 ?k3) (Wr.says_mk ?a4 ?l4 ?c4 ?k4) (Wr.says_mk ?a5 ?l5 ?c5 ?k5) (Wr.says_mk ?a6 ?l6 ?c6 ?k6) (Wr.says_mk ?a7 ?l7 ?c7 ?k7) (Wr.says_mk ?a8 ?l8 ?c8 ?k8) (Wr.says_mk ?a9 ?l9 ?c9 ?k9) (Wr.says_mk ?a10 ?l10 ?c10 ?k10) (Wr.says_mk ?a11 ?l11 ?c11 ?k11) (Wr.says_mk ?a12 ?l12 ?c12 ?k12) (Wr.says_mk ?a13 ?l13 ?c13 ?k13) (Wr.says_mk ?a14 ?l14 ?c14 ?k14) (Wr.says_mk ?a15 ?l15 ?c15 ?k15) (Wr.says_mk ?a16 ?l16 ?c16 ?k16) (Wr.says_mk ?a17 ?l17 ?c17 ?k17) ?n8 ?z1 ?z2 ?z3 ?z4 ?z5 ?z6 ?z7 ?z8 ?z9 ?z10 ?z11 ?z12
    (case a1 => k_is)
    (case l1 => k_is)
    (case c1 => k_is)
    (case k1 => k_is)
    (case a2 => k_is)
    (case l2 => k_is)
    (case c2 => k_is)
    (case k2 => k_is)
    (case a3 => k_is)
    (case l3 => k_is)
    (case c3 => k_is)
    (case k3 => k_is)
    (case a4 => k_is)
    (case l4 => k_is)
    (case c4 => k_is)
    (case k4 => k_is)
    (case a5 => k_is)
    (case l5 => k_is)
    (case c5 => k_is)
    (case k5 => k_is)
    (case a6 => k_is)
    (case l6 => k_is)
    (case c6 => k_is)
    (case k6 => k_is)
    (case a7 => k_is)
    (case l7 => k_is)
    (case c7 => k_is)
    (case k7 => k_is)
    (case a8 => k_is)
    (case l8 => k_is)
    (case c8 => k_is)
    (case k8 => k_is); (case n8 => k_is)
    (case a9 => k_is)
    (case l9 => k_is)
    (case c9 => k_is)
    (case k9 => k_is)
    (case a10 => k_is)
    (case l10 => k_is)
    (case c10 => k_is)
    (case k10 => k_is)
    (case a11 => k_is)
    (case l11 => k_is)
    (case c11 => k_is)
    (case k11 => k_is)
    (case a12 => k_is)
    (case l12 => k_is)
    (case c12 => k_is)
    (case k12 => k_is)
    (case a13 => k_is)
    (case l13 => k_is)
    (case c13 => k_is)
    (case k13 => k_is)
    (case a14 => k_is)
    (case l14 => k_is)
    (case c14 => k_is)
    (case k14 => k_is)
    (case a15 => k_is)
    (case l15 => k_is)
    (case c15 => k_is)
    (case k15 => k_is)
    (case a16 => k_is)
    (case l16 => k_is)
    (case c16 => k_is)
    (case k16 => k_is)
    (case a17 => k_is)
    (case l17 => k_is)
    (case c17 => k_is)
    (case k17 => k_is)
    (case z1 => k_is)
    (case z2 => k_is)
    (case z3 => k_is)
    (case z4 => k_is)
    (case z5 => k_is)
    (case z6 => k_is)
    (case z7 => k_is)
    (case z8 => k_is)
    (case z9 => k_is)
    (case z10 => k_is)
    (case z11 => k_is)
    (case z12 => k_is)
