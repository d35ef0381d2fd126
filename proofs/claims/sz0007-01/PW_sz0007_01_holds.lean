import PyProof.Rows.All
import Wide.All
import OpenK.AllK
import Wide.FinOn
import PySem.Challenge.RW_sz0007_01
open PySem PySem.W PyProof.Rows
set_option Elab.async false
set_option maxRecDepth 100000
set_option maxHeartbeats 8000000
namespace Mine
def holds0.tw13027221920650484588 : Unit := ()
def holds0.tw7775597484864299021 : Unit := ()
def holds0.tw16499972733464787732 : Unit := ()
def holds0.tw7253897074357538056 : Unit := ()
def holds0.tw11736741728475775071 : Unit := ()
def holds0.tw16058914769776015641 : Unit := ()
/-! the plain law: bits of small numbers -/
def popF : Nat → Nat → Nat
  | 0, _ => 0
  | f + 1, n => n % 2 + popF f (n / 2)
def unF : Nat → Nat → Nat
  | 0, _ => 0
  | f + 1, n => n ^^^ unF f (n / 2)
def xorI (x y : Int) : Int := ((x.toNat ^^^ y.toNat : Nat) : Int)
def andI (x y : Int) : Int := ((x.toNat &&& y.toNat : Nat) : Int)
def orI (x y : Int) : Int := ((x.toNat ||| y.toNat : Nat) : Int)
def popI (x : Int) : Int := (popF 8 x.toNat : Int)
def unI (x : Int) : Int := (unF 8 x.toNat : Int)
def grayI (m x : Int) : Int := if 2 < m then xorI x (x / 2) else x

structure PowM (m : Int) : Prop where
  pow : ∃ k : Nat, 1 ≤ k ∧ k ≤ 8 ∧ m = ((2 ^ k : Nat) : Int)
theorem PowM.lo {m : Int} (h : PowM m) : 2 ≤ m := by
  obtain ⟨k, h1, h2, e⟩ := h.pow
  have : (2 : Nat) ^ 1 ≤ 2 ^ k := Nat.pow_le_pow_right (by decide) h1
  omega
theorem PowM.hi {m : Int} (h : PowM m) : m ≤ 256 := by
  obtain ⟨k, h1, h2, e⟩ := h.pow
  have : (2 : Nat) ^ k ≤ 2 ^ 8 := Nat.pow_le_pow_right (by decide) h2
  omega

theorem popF_and_or : ∀ (f a b : Nat), popF f (a &&& b) + popF f (a ||| b) = popF f a + popF f b
  | 0, _, _ => rfl
  | f + 1, a, b => by
    have ih := popF_and_or f (a / 2) (b / 2)
    have h1 : (a &&& b) / 2 = a / 2 &&& b / 2 := Nat.and_div_two
    have h2 : (a ||| b) / 2 = a / 2 ||| b / 2 := Nat.or_div_two
    have h3 := @Nat.and_mod_two_eq_one a b
    have h4 := @Nat.or_mod_two_eq_one a b
    simp only [popF, h1, h2]
    omega
theorem popF_xor : ∀ (f a b : Nat), popF f (a ^^^ b) + popF f (a &&& b) = popF f (a ||| b)
  | 0, _, _ => rfl
  | f + 1, a, b => by
    have ih := popF_xor f (a / 2) (b / 2)
    have h1 : (a &&& b) / 2 = a / 2 &&& b / 2 := Nat.and_div_two
    have h2 : (a ||| b) / 2 = a / 2 ||| b / 2 := Nat.or_div_two
    have h5 : (a ^^^ b) / 2 = a / 2 ^^^ b / 2 := Nat.xor_div_two
    have h3 := @Nat.and_mod_two_eq_one a b
    have h4 := @Nat.or_mod_two_eq_one a b
    have h6 := @Nat.xor_mod_two_eq_one a b
    simp only [popF, h1, h2, h5]
    omega

theorem pop_and_or (x y : Int) : popI (andI x y) + popI (orI x y) = popI x + popI y := by
  have h := popF_and_or 8 x.toNat y.toNat
  unfold popI andI orI
  simp only [Int.toNat_natCast]
  omega
theorem pop_xor (x y : Int) : popI (xorI x y) = popI (orI x y) - popI (andI x y) := by
  have h := popF_xor 8 x.toNat y.toNat
  unfold popI andI orI xorI
  simp only [Int.toNat_natCast]
  omega
theorem pop_nonneg (x : Int) : 0 ≤ popI x := by unfold popI; omega
theorem pop_zero : popI 0 = 0 := by decide
theorem un_zero : unI 0 = 0 := by decide
theorem popF_halves : ∀ n : Fin 256, popF 8 n.val = n.val % 2 + popF 8 (n.val / 2) := by decide +kernel
theorem unF_halves : ∀ n : Fin 256, unF 8 n.val = n.val ^^^ unF 8 (n.val / 2) := by decide +kernel
theorem unF_lt1 : ∀ n : Fin 2, unF 8 n.val = n.val := by decide +kernel
theorem toNat_half (x : Int) (h : 0 ≤ x) : (x / 2).toNat = x.toNat / 2 := by omega
theorem pop_halves {x : Int} (h0 : 0 ≤ x) (h1 : x < 256) : popI x = x % 2 + popI (x / 2) := by
  have h := popF_halves ⟨x.toNat, by omega⟩
  simp only at h
  unfold popI
  rw [toNat_half x h0]
  omega
theorem pop_small {x : Int} (h0 : 0 ≤ x) : 2 ≤ x ∨ popI (x / 2) = 0 := by
  by_cases h : 2 ≤ x
  · exact .inl h
  · have e : x / 2 = 0 := by omega
    exact .inr (by rw [e]; exact pop_zero)
theorem un_halves {x : Int} (h0 : 0 ≤ x) (h1 : x < 256) : unI x = xorI x (unI (x / 2)) := by
  have h := unF_halves ⟨x.toNat, by omega⟩
  simp only at h
  unfold unI xorI
  rw [toNat_half x h0, Int.toNat_natCast, ← h]
theorem un_lt2 {x : Int} (h0 : 0 ≤ x) (h1 : x < 2) : unI x = x := by
  have h := unF_lt1 ⟨x.toNat, by omega⟩
  simp only at h
  unfold unI
  rw [h]
  omega
theorem xorI_assoc (a b c : Int) : xorI (xorI a b) c = xorI a (xorI b c) := by
  unfold xorI
  simp only [Int.toNat_natCast, Nat.xor_assoc]
theorem xorI_comm (a b : Int) : xorI a b = xorI b a := by
  unfold xorI
  rw [Nat.xor_comm]
theorem xorI_zero {a : Int} (h : 0 ≤ a) : xorI a 0 = a := by
  unfold xorI
  simp only [Int.toNat_zero, Nat.xor_zero]
  omega
theorem xorI_self (a : Int) : xorI a a = 0 := by
  unfold xorI
  simp only [Nat.xor_self]
  rfl
theorem xorI_back {x y : Int} (hx : 0 ≤ x) : xorI (xorI x y) y = x := by
  rw [xorI_assoc, xorI_self, xorI_zero hx]
theorem xorI_fwd {x y : Int} (hy : 0 ≤ y) : xorI (xorI x y) x = y := by
  rw [xorI_comm x y, xorI_back hy]
theorem xorI_lt {m x y : Int} (hm : PowM m) (h0 : 0 ≤ x) (h1 : x < m) (h2 : 0 ≤ y) (h3 : y < m) : 0 ≤ xorI x y ∧ xorI x y < m := by
  obtain ⟨k, _, _, e⟩ := hm.pow
  have h := @Nat.xor_lt_two_pow x.toNat y.toNat k (by omega) (by omega)
  unfold xorI
  omega
theorem orI_lt {m x y : Int} (hm : PowM m) (h0 : 0 ≤ x) (h1 : x < m) (h2 : 0 ≤ y) (h3 : y < m) : 0 ≤ orI x y ∧ orI x y < m := by
  obtain ⟨k, _, _, e⟩ := hm.pow
  have h := @Nat.or_lt_two_pow x.toNat y.toNat k (by omega) (by omega)
  unfold orI
  omega
theorem andI_lt {m x y : Int} (h0 : 0 ≤ x) (h1 : x < m) : 0 ≤ andI x y ∧ andI x y < m := by
  have h := @Nat.and_le_left x.toNat y.toNat
  unfold andI
  omega
theorem bitAnd_I {x y : Int} (h0 : 0 ≤ x) (h1 : 0 ≤ y) : Builtin.bitAnd x y = andI x y := bitAnd_pp h0 h1
theorem land_lor (a b : Nat) : ((a ||| b : Nat) : Int) = a + b - ((a &&& b : Nat) : Int) := by
  induction a using Nat.strongRecOn generalizing b with
  | ind a ih =>
    by_cases ha : a = 0
    · subst ha; simp
    · have ih' := ih (a / 2) (by omega) (b / 2)
      have h1 : (a &&& b) / 2 = a / 2 &&& b / 2 := Nat.and_div_two
      have h2 : (a ||| b) / 2 = a / 2 ||| b / 2 := Nat.or_div_two
      have h3 := @Nat.and_mod_two_eq_one a b
      have h4 := @Nat.or_mod_two_eq_one a b
      rw [← h1, ← h2] at ih'
      omega
theorem land_lxor (a b : Nat) : ((a ^^^ b : Nat) : Int) = a + b - 2 * ((a &&& b : Nat) : Int) := by
  induction a using Nat.strongRecOn generalizing b with
  | ind a ih =>
    by_cases ha : a = 0
    · subst ha; simp
    · have ih' := ih (a / 2) (by omega) (b / 2)
      have h1 : (a &&& b) / 2 = a / 2 &&& b / 2 := Nat.and_div_two
      have h2 : (a ^^^ b) / 2 = a / 2 ^^^ b / 2 := Nat.xor_div_two
      have h3 := @Nat.and_mod_two_eq_one a b
      have h4 := @Nat.xor_mod_two_eq_one a b
      rw [← h1, ← h2] at ih'
      omega
theorem bitOr_I {x y : Int} (h0 : 0 ≤ x) (h1 : 0 ≤ y) : Builtin.bitOr x y = orI x y := by
  rw [bitOr_and, bitAnd_I h0 h1]
  have h := land_lor x.toNat y.toNat
  unfold andI orI
  omega
theorem bitXor_I {x y : Int} (h0 : 0 ≤ x) (h1 : 0 ≤ y) : Builtin.bitXor x y = xorI x y := by
  rw [bitXor_and, bitAnd_I h0 h1]
  have h := land_lxor x.toNat y.toNat
  unfold andI xorI
  omega
theorem andI_one {x : Int} (h0 : 0 ≤ x) : andI x 1 = x % 2 := by
  have h : x.toNat &&& (1 : Int).toNat = x.toNat % 2 := Nat.and_two_pow_sub_one_eq_mod x.toNat 1
  unfold andI
  rw [h]
  omega
theorem xorI_mod {m x y : Int} (hm : PowM m) (h0 : 0 ≤ x) (h1 : x < m) (h2 : 0 ≤ y) (h3 : y < m) : Builtin.bitXor x y % m = xorI x y := by
  rw [bitXor_I h0 h2]
  have h := xorI_lt hm h0 h1 h2 h3
  exact Int.emod_eq_of_lt h.1 h.2
theorem orI_mod {m x y : Int} (hm : PowM m) (h0 : 0 ≤ x) (h1 : x < m) (h2 : 0 ≤ y) (h3 : y < m) : Builtin.bitOr x y % m = orI x y := by
  rw [bitOr_I h0 h2]
  have h := orI_lt hm h0 h1 h2 h3
  exact Int.emod_eq_of_lt h.1 h.2

theorem back_turn {f r z : Int} (h0 : 0 ≤ r) (h1 : r < 256) (h : xorI f (unI (r / 2)) = z) : xorI (xorI f (r / 2)) (unI (r / 2 / 2)) = z := by
  rw [xorI_assoc, ← un_halves (show 0 ≤ r / 2 by omega) (show r / 2 < 256 by omega)]
  exact h
/-! single numbers, decided -/
def lowOk (k x : Nat) : Bool := x == 0 || ((x &&& (2 ^ k - x)) != 0 && ((x &&& (2 ^ k - x)) ^^^ (x &&& (x - 1))) == x && ((x &&& (2 ^ k - x)) &&& ((x &&& (2 ^ k - x)) - 1)) == 0
  && popF 8 (x &&& (x - 1)) + 1 == popF 8 x && Nat.blt (x &&& (x - 1)) x)
theorem low_all : ∀ k : Fin 9, ∀ x : Fin (2 ^ k.val), lowOk k.val x.val = true := by decide +kernel
theorem low_facts {m x : Int} (hm : PowM m) (h0 : 0 < x) (h1 : x < m) :
    andI x (-x % m) ≠ 0 ∧ xorI (andI x (-x % m)) (andI x ((x - 1) % m)) = x ∧ andI (andI x (-x % m)) ((andI x (-x % m) - 1) % m) = 0 ∧ popI (andI x ((x - 1) % m)) = popI x - 1 ∧ 0 ≤ andI x ((x - 1) % m) ∧ andI x ((x - 1) % m) < x := by
  obtain ⟨k, _, h8, e⟩ := hm.pow
  have h := low_all ⟨k, by omega⟩ ⟨x.toNat, by show x.toNat < 2 ^ k; omega⟩
  simp only [lowOk, Bool.or_eq_true, Bool.and_eq_true, bne_iff_ne, beq_iff_eq, ne_eq, Nat.blt_eq] at h
  have e1 : -x % m = m - x := by rw [← Int.emod_eq_of_lt (show 0 ≤ m - x by omega) (show m - x < m by omega)]; simp [Int.sub_emod]
  have e2 : (x - 1) % m = x - 1 := Int.emod_eq_of_lt (by omega) (by omega)
  have e3 : (m - x).toNat = 2 ^ k - x.toNat := by omega
  have e4 : (x - 1).toNat = x.toNat - 1 := by omega
  rw [e1, e2]
  have hl := @andI_lt m x (m - x) (by omega) (by omega)
  rcases h with h | ⟨⟨⟨⟨a1, a2⟩, a3⟩, a4⟩, a5⟩
  · omega
  · have b1 : andI x (m - x) ≠ 0 := by unfold andI; rw [e3]; omega
    have e5 : (andI x (m - x) - 1) % m = andI x (m - x) - 1 := Int.emod_eq_of_lt (by omega) (by omega)
    have e6 : (andI x (m - x) - 1).toNat = (x.toNat &&& (2 ^ k - x.toNat)) - 1 := by unfold andI; rw [e3]; omega
    refine ⟨b1, ?_, ?_, ?_, ?_, ?_⟩
    · unfold xorI andI; rw [e3, e4]; simp only [Int.toNat_natCast]; rw [a2]; omega
    · rw [e5]; unfold andI at e6 ⊢; rw [e6, e3]; simp only [Int.toNat_natCast]; rw [a3]; rfl
    · unfold popI andI; rw [e4]; simp only [Int.toNat_natCast]; omega
    · unfold andI; omega
    · unfold andI; rw [e4]; omega
def grayN (k x : Nat) : Nat := if k > 1 then x ^^^ (x / 2) else x
def grayOk (k x : Nat) : Bool := unF 8 (grayN k x) == x && Nat.blt (grayN k x) (2 ^ k) && popF 8 (grayN k x ^^^ grayN k ((x + 1) % 2 ^ k)) == 1
theorem gray_all : ∀ k : Fin 9, k.val = 0 ∨ ∀ x : Fin (2 ^ k.val), grayOk k.val x.val = true := by decide +kernel
theorem gray_nat {k : Nat} {m x : Int} (hk : 1 ≤ k) (e : m = ((2 ^ k : Nat) : Int)) (h0 : 0 ≤ x) : grayI m x = ((grayN k x.toNat : Nat) : Int) := by
  have h2 : 2 < m ↔ k > 1 := by
    constructor
    · intro h
      by_cases hk1 : k = 1
      · subst hk1; omega
      · omega
    · intro h
      have : (2 : Nat) ^ 2 ≤ 2 ^ k := Nat.pow_le_pow_right (by decide) h
      omega
  unfold grayI grayN
  by_cases h : k > 1
  · rw [if_pos h, if_pos (h2.mpr h)]
    unfold xorI
    rw [toNat_half x h0]
  · rw [if_neg h, if_neg (fun q => h (h2.mp q))]
    omega
theorem gray_facts {m x : Int} (hm : PowM m) (h0 : 0 ≤ x) (h1 : x < m) :
    unI (grayI m x) = x ∧ 0 ≤ grayI m x ∧ grayI m x < m ∧ popI (xorI (grayI m x) (grayI m ((x + 1) % m))) = 1 := by
  obtain ⟨k, hk, h8, e⟩ := hm.pow
  have hx1 : 0 ≤ (x + 1) % m := Int.emod_nonneg _ (by have := hm.lo; omega)
  have e1 : ((x + 1) % m).toNat = (x.toNat + 1) % 2 ^ k := by
    have e2 : (x + 1) % m = (((x.toNat + 1) % 2 ^ k : Nat) : Int) := by
      rw [Int.natCast_emod, e]
      congr 1
      omega
    rw [e2]
    rfl
  rw [gray_nat hk e h0, gray_nat hk e hx1, e1]
  rcases gray_all ⟨k, by omega⟩ with h | h
  · simp only at h; omega
  · have h := h ⟨x.toNat, by show x.toNat < 2 ^ k; omega⟩
    simp only [grayOk, Bool.and_eq_true, beq_iff_eq, Nat.blt_eq] at h
    obtain ⟨⟨a1, a2⟩, a3⟩ := h
    refine ⟨?_, ?_, ?_, ?_⟩
    · unfold unI; rw [Int.toNat_natCast, a1]; omega
    · omega
    · omega
    · unfold popI xorI; simp only [Int.toNat_natCast]; rw [a3]; rfl
/-- one turn of the product -/
theorem prod_turn {m f x y : Int} (h0 : 0 ≤ x) : (x % 2 = 1 → ((f + y) % m + x / 2 * ((y + y) % m)) % m = (f + x * y) % m) ∧ (x % 2 ≠ 1 → (f + x / 2 * ((y + y) % m)) % m = (f + x * y) % m) := by
  have key : ∀ a q : Int, (a % m + q * ((y + y) % m)) % m = (a + q * (y + y)) % m := by
    intro a q
    rw [Int.add_emod, Int.emod_emod_of_dvd _ (Int.dvd_refl m), Int.mul_emod, Int.emod_emod_of_dvd _ (Int.dvd_refl m), ← Int.mul_emod, ← Int.add_emod]
  constructor
  · intro h
    rw [key]
    congr 1
    have e : x = 2 * (x / 2) + 1 := by omega
    generalize hq : x / 2 = q at *
    subst e
    rw [Int.add_mul, Int.one_mul, Int.mul_add, Int.mul_assoc]
    omega
  · intro h
    have e : x = 2 * (x / 2) := by omega
    rw [Int.add_emod, Int.mul_emod, Int.emod_emod_of_dvd _ (Int.dvd_refl m), ← Int.mul_emod, ← Int.add_emod]
    congr 1
    generalize hq : x / 2 = q at *
    subst e
    rw [Int.mul_add, Int.mul_assoc]
    omega
theorem prod_turn2 {m f x y : Int} (h0 : 0 ≤ x) : (x % 2 = 1 → x < 2 → ((f + y) % m + 0 * ((y + y) % m)) % m = (f + x * y) % m) ∧ (x % 2 ≠ 1 → x < 2 → (f + 0 * ((y + y) % m)) % m = (f + x * y) % m) := by
  have h := @prod_turn m f x y h0
  constructor
  · intro h1 h2
    have e : x / 2 = 0 := by omega
    rw [e] at h
    exact h.1 h1
  · intro h1 h2
    have e : x / 2 = 0 := by omega
    rw [e] at h
    exact h.2 h1
theorem args_min5 (a b c d e : Value) : argsOk "min" ⟨[a, b, c, d, e], []⟩ := by unfold argsOk; kernel_rfl
theorem min_five {prog : Program} {w : World} {A : Around} {E : Value → Shared → Prop} {s : Shared} {a b c d e : Int} {ta tb tc td te : Tok} {Q : Value → Shared → Prop} (hh : A.handled = none)
    (h : ∀ r u h' tk, (r = a ∨ r = b ∨ r = c ∨ r = d ∨ r = e) → (∀ q o, s.heap.get? q = some o → h'.get? q = some o) → Q (.int r u) { s with heap := h', toks := tk }) :
    wpAny (model prog w) A (call (.builtin "min") [.int a ta, .int b tb, .int c tc, .int d td, .int e te]) Q E s := by
  have hname : (toString "min" ++ toString ".loop" : String) = "min.loop" := by decide
  refine PySem.call_function_tree F.kind_min F.plain_min F.entry_min (args_min5 _ _ _ _ _) ?_
  show wpAny _ A.in1 (Builtin.Builtins.bindParams "min" ["key", "default"] 0 ⟨[], []⟩ >>= _) _ _ s
  refine PySem.wpAny_bind (PySem.wpAny_of_eq (show Builtin.Builtins.bindParams "min" ["key", "default"] 0 ⟨[], []⟩ = pure [none, none] from rfl) ?_)
  show wpAny _ A.in1 (newTuple [.int a ta, .int b tb, .int c tc, .int d td, .int e te] >>= _) _ _ s
  refine PySem.wpAny_bind (PySem.wpAny_newObj_type ?_)
  generalize ho : ({ cls := .type "tuple", data := .seq #[.int a ta, .int b tb, .int c tc, .int d td, .int e te] } : Obj) = ot
  have hT : (s.heap.push ot).IsTuple s.heap.objs.size (intItems #[(a, ta), (b, tb), (c, tc), (d, td), (e, te)]) := by
    subst ho
    exact ⟨_, Heap.get?_push_size _ rfl, rfl, 0, by simp [intItems]⟩
  have hcl : ot.cls ≠ .none := by subst ho; exact fun q => nomatch q
  have hsz : (s.heap.push ot).objs.size = s.heap.objs.size + 1 := Heap.size_push ..
  refine PySem.wpAny_bind (PySem.wpAny_pyIter_tuple hT ?_)
  refine PySem.wpAny_bind (PySem.wpAny_newObj_type ?_)
  have W := Walks.tuple (prog := prog) (w := w) (A := A.in1) hh (s.heap.push ot).objs.size s.heap.objs.size (by rw [hsz]; exact Nat.ne_of_lt (Nat.lt_succ_self _)) (intItems #[(a, ta), (b, tb), (c, tc), (d, td), (e, te)])
  rw [hname]
  refine PySem.wpAny_pure ⟨plainId_quiet F.plain_min_loop _, codeAny_min_loop_first W _ (CmpOf.ints_lt (numAt #[(a, ta), (b, tb), (c, tc), (d, td), (e, te)]) (fun _ _ => intItems_at)) _ ?_ (by simp [intItems]) ?_ (Heap.get?_push_size _ rfl) fun v h' tk hP hk => ?_⟩
  · intro hm
    simp only [Heap.size_push, List.mem_cons, List.not_mem_nil, or_false] at hm
    exact (show ∀ x : Nat, ¬ (x + 1 + 1 = x + 1 ∨ x + 1 + 1 = x) from fun x => by omega) _ hm
  · exact W.frame _ _ _ ⟨⟨_, Heap.get?_push_size _ rfl, rfl, rfl⟩, hT.push _⟩ fun q _ o e' => Heap.get?_push_of_some _ e'
  · obtain ⟨tv, rfl⟩ := intItems_at hP
    refine h _ tv h' tk ?_ fun q o e' => ?_
    · have hlt : ∀ k : Nat, (intItems #[(a, ta), (b, tb), (c, tc), (d, td), (e, te)])[k]? = some (Value.int (numAt #[(a, ta), (b, tb), (c, tc), (d, td), (e, te)] k) tv) → numAt #[(a, ta), (b, tb), (c, tc), (d, td), (e, te)] k = a ∨ numAt #[(a, ta), (b, tb), (c, tc), (d, td), (e, te)] k = b ∨ numAt #[(a, ta), (b, tb), (c, tc), (d, td), (e, te)] k = c ∨ numAt #[(a, ta), (b, tb), (c, tc), (d, td), (e, te)] k = d ∨ numAt #[(a, ta), (b, tb), (c, tc), (d, td), (e, te)] k = e := by
        intro k hk
        match k, hk with
        | 0, _ => exact .inl rfl
        | 1, _ => exact .inr (.inl rfl)
        | 2, _ => exact .inr (.inr (.inl rfl))
        | 3, _ => exact .inr (.inr (.inr (.inl rfl)))
        | 4, _ => exact .inr (.inr (.inr (.inr rfl)))
        | n + 5, hk => simp [intItems] at hk
      exact hlt _ hP
    · have hq := Heap.lt_size e'
      refine hk q o (fun hm => ?_) (fun hm => ?_) (Heap.get?_push_of_some _ (Heap.get?_push_of_some _ (Heap.get?_push_of_some _ e')))
      · simp only [List.mem_cons, List.not_mem_nil, or_false] at hm
        rw [hm, hsz] at hq
        exact (show ∀ x : Nat, ¬ x + 1 < x from fun x => by omega) _ hq
      · rw [hm] at hq
        simp only [Heap.size_push] at hq
        exact (show ∀ x : Nat, ¬ x + 1 + 1 < x from fun x => by omega) _ hq
theorem min_fiveN {prog : Program} {w : World} {A : Around} {E : Value → Shared → Prop} {s : Shared} {a b c d e : Int} {ta tb tc td te : Tok} {Q : Value → Shared → Prop} {h₀ : Heap} {L : Addr} {m : Str → Option Value} {news : List (Addr × Obj)} (hh : A.handled = none) (F : Fr h₀ L s.heap m) (N : News h₀ L s.heap news)
    (ha : 0 ≤ a) (hb : 0 ≤ b) (hc : 0 ≤ c) (hd : 0 ≤ d) (he : 0 ≤ e)
    (h : ∀ r u h' tk, 0 ≤ r → Fr h₀ L h' m → News h₀ L h' news → Q (.int r u) { s with heap := h', toks := tk }) :
    wpAny (model prog w) A (call (.builtin "min") [.int a ta, .int b tb, .int c tc, .int d td, .int e te]) Q E s :=
  min_five hh fun r u h' tk hr hk => h r u h' tk (by omega) (F.grownK hk) (N.grown hk)
abbrev Led := List (Addr × Obj)
abbrev PG : Program := PySem.Challenge.rw_sz0007_01.row.prog
structure TypeAt (news : Led) (t : Addr) (m : Int) : Prop where
  at_ : ∃ (dx : Addr) (es : List DictEntry) (n : Nat) (a b c d : Tok), (t, instObj 301 dx) ∈ news ∧ (dx, dictOf es n) ∈ news
    ∧ getL (Str.ofString "kind") es = some (some (.str (Str.ofString "mod") a)) ∧ getL (Str.ofString "modulus") es = some (some (.int m b))
    ∧ getL (Str.ofString "low") es = some (some (.int 0 c)) ∧ getL (Str.ofString "high") es = some (some (.int (m - 1) d))
  pow : PowM m

theorem TypeAt.tail {news : Led} {t : Addr} {m : Int} {q : Addr × Obj} (h : TypeAt news t m) : TypeAt (q :: news) t m := by
  obtain ⟨⟨dx, es, n, a, b, c, d, h1, h2, h3⟩, hp⟩ := h
  exact ⟨⟨dx, es, n, a, b, c, d, .tail _ h1, .tail _ h2, h3⟩, hp⟩
inductive SgOk : Str → Int → Int → Int → (Int → Prop) → Prop where
  | xor {m x y : Int} : 0 ≤ x → x < m → 0 ≤ y → y < m → SgOk (Str.ofString "xor") m x y (fun v => v = xorI x y ∧ 0 ≤ v ∧ v < m)
  | and {m x y : Int} : 0 ≤ x → x < m → 0 ≤ y → y < m → SgOk (Str.ofString "and") m x y (fun v => v = andI x y ∧ 0 ≤ v ∧ v < m)
  | or {m x y : Int} : 0 ≤ x → x < m → 0 ≤ y → y < m → SgOk (Str.ofString "or") m x y (fun v => v = orI x y ∧ 0 ≤ v ∧ v < m)
  | add {m x y : Int} : 0 ≤ x → x < m → 0 ≤ y → y < m → SgOk (Str.ofString "+") m x y (fun v => v = (x + y) % m ∧ 0 ≤ v ∧ v < m)
  | sub {m x y : Int} : 0 ≤ x → x < m → 0 ≤ y → y < m → SgOk (Str.ofString "-") m x y (fun v => v = (x - y) % m ∧ 0 ≤ v ∧ v < m)
  | mul {m x y : Int} : 0 ≤ x → x < m → 0 ≤ y → y < m → SgOk (Str.ofString "*") m x y (fun v => v = x * y % m ∧ 0 ≤ v ∧ v < m)
  | div {m x : Int} : 0 ≤ x → x < m → 2 < m → SgOk (Str.ofString "/") m x 2 (fun v => v = x / 2 ∧ 0 ≤ v ∧ v < m)

structure Room (dp : Nat) : Prop where
  h : dp + 6 < recursionLimit
theorem mem_of {α : Type} {x : α} {l : List α} (h : x ∈ l) : List.Mem x l := h

/-- what a call of def f at arguments vs hands back, whatever the frame and the ledger: an int of which P holds; the ledger stands -/
def Tells1 (K : Params → Frag) (f : Addr) (room : Nat) (Rel : Led → List Value → (Int → Prop) → Prop) : Prop :=
  ∀ (w : World) (p : Program) (loose : List Str) (mean : ExcName → Option Value) (mg mb : Str → Option Value)
    (dp un : Nat) (gd : Option (List Code)) (cn : Str) (cs : Scope) (a : Addr) (ccd : Value) (cl : List (Str × Addr)) (outer : List Env) (A₀ : Around) (base h₀ : Heap) (L : Addr) (mp : Str → Option Value) (news : Led) (s : Shared)
    (Q E : Value → Shared → Prop) (vs : List Value) (P : Int → Prop),
    Below A₀ base outer h₀ → Fr h₀ L s.heap mp → (K w.params).In h₀ → News h₀ L s.heap news → Top p loose mean mg mb h₀ → cs.kind = .function → dp + room < recursionLimit → Rel news vs P →
    (∀ v u h' tk', Fr h₀ L h' mp → News h₀ L h' news → P v → Q (.int v u) { s with heap := h', toks := tk' }) →
    wpAny (model PG w) (ktrTop dp un gd cn cs L a ccd cl outer) (call (.ref f) vs) Q E s
theorem Tells1.use {K : Params → Frag} {f : Addr} {room : Nat} {Rel : Led → List Value → (Int → Prop) → Prop} (C : Tells1 K f room Rel)
    {w : World} {p : Program} {loose : List Str} {mean : ExcName → Option Value} {mg mb : Str → Option Value}
    {dp un : Nat} {gd : Option (List Code)} {cn : Str} {cs : Scope} {a : Addr} {ccd : Value} {cl : List (Str × Addr)} {outer : List Env} {A₀ : Around} {base h₀ : Heap} {L : Addr} {mp : Str → Option Value} {news : Led} {s : Shared}
    {Q E : Value → Shared → Prop} {vs : List Value} {P : Int → Prop}
    (B : Below A₀ base outer h₀) (F : Fr h₀ L s.heap mp) (X : (K w.params).In h₀) (N : News h₀ L s.heap news) (T : Top p loose mean mg mb h₀) (hk : cs.kind = .function) (R : Rel news vs P) (hr : dp + room < recursionLimit)
    (ret : ∀ v u h' tk', Fr h₀ L h' mp → News h₀ L h' news → P v → Q (.int v u) { s with heap := h', toks := tk' }) :
    wpAny (model PG w) (ktrTop dp un gd cn cs L a ccd cl outer) (call (.ref f) vs) Q E s := C _ _ _ _ _ _ _ _ _ _ _ _ _ _ _ _ _ _ _ _ _ _ _ _ _ _ B F X N T hk hr R ret
theorem by_end {h₀ h' : Heap} {L : Addr} {mp : Str → Option Value} {news : Led} {s : Shared} {Q : Value → Shared → Prop} {P : Int → Prop} {v : Int} {u : Tok} {tk' : Nat}
    (hret : ∀ v u h' tk', Fr h₀ L h' mp → News h₀ L h' news → P v → Q (.int v u) { s with heap := h', toks := tk' }) (F : Fr h₀ L h' mp) (N : News h₀ L h' news) (e : P v) : Q (.int v u) { s with heap := h', toks := tk' } := hret _ _ _ _ F N e
theorem by_end1 {h₀ h' : Heap} {L : Addr} {mp : Str → Option Value} {news : Led} {q : Addr × Obj} {s : Shared} {Q : Value → Shared → Prop} {P : Int → Prop} {v : Int} {u : Tok} {tk' : Nat}
    (hret : ∀ v u h' tk', Fr h₀ L h' mp → News h₀ L h' news → P v → Q (.int v u) { s with heap := h', toks := tk' }) (F : Fr h₀ L h' mp) (N : News h₀ L h' (q :: news)) (e : P v) : Q (.int v u) { s with heap := h', toks := tk' } :=
  hret _ _ _ _ F (cb_drop N fun _ h => .tail _ h) e

-- _law_by
inductive ByRel : Led → List Value → (Int → Prop) → Prop where
  | mk {news : Led} {t : Addr} {m x y : Int} {sg : Str} {tk tx ty : Tok} {P : Int → Prop} : TypeAt news t m → SgOk sg m x y P → ByRel news [.ref t, .str sg tk, .int x tx, .int y ty] P
abbrev ByAll (K : Params → Frag) : Prop := Tells1 K 326 6 ByRel
-- _law_gray
inductive GrayRel : Led → List Value → (Int → Prop) → Prop where
  | mk {news : Led} {t : Addr} {m x : Int} {tx : Tok} : TypeAt news t m → 0 ≤ x → x < m → GrayRel news [.ref t, .int x tx] (fun v => v = grayI m x ∧ 0 ≤ v ∧ v < m ∧ unI v = x ∧ popI (xorI v (grayI m ((x + 1) % m))) = 1)
abbrev GrayAll (K : Params → Frag) : Prop := Tells1 K 333 8 GrayRel
-- _law_back
inductive BackRel : Led → List Value → (Int → Prop) → Prop where
  | mk {news : Led} {t : Addr} {m x : Int} {tx : Tok} : TypeAt news t m → 0 ≤ x → x < m → BackRel news [.ref t, .int x tx] (fun v => v = unI x)
abbrev BackAll (K : Params → Frag) : Prop := Tells1 K 340 8 BackRel
-- _law_bits
inductive BitsRel : Led → List Value → (Int → Prop) → Prop where
  | mk {news : Led} {t : Addr} {m x : Int} {tx : Tok} : TypeAt news t m → 0 ≤ x → x < m → BitsRel news [.ref t, .int x tx] (fun v => v = popI x)
abbrev BitsAll (K : Params → Frag) : Prop := Tells1 K 347 8 BitsRel
-- _law_product
inductive ProdRel : Led → List Value → (Int → Prop) → Prop where
  | mk {news : Led} {t : Addr} {m x y : Int} {tx ty : Tok} : TypeAt news t m → 0 ≤ x → x < m → 0 ≤ y → y < m → ProdRel news [.ref t, .int x tx, .int y ty] (fun v => v = x * y % m)
abbrev ProdAll (K : Params → Frag) : Prop := Tells1 K 354 8 ProdRel

-- _law_weigh: it turns the scales' second item
def WeighAll (K : Params → Frag) : Prop :=
  ∀ (w : World) (p : Program) (loose : List Str) (mean : ExcName → Option Value) (mg mb : Str → Option Value)
    (dp un : Nat) (gd : Option (List Code)) (cn : Str) (cs : Scope) (a : Addr) (ccd : Value) (cl : List (Str × Addr)) (outer : List Env) (A₀ : Around) (base h₀ : Heap) (L : Addr) (mp : Str → Option Value) (rest : Led) (s : Shared)
    (Q E : Value → Shared → Prop) (sa sl : Addr) (vs : List Value) (ns : List Int) (n1 n2 : Nat) (i many : Int) (ti tm : Tok),
    Below A₀ base outer h₀ → Fr h₀ L s.heap mp → (K w.params).In h₀ → News h₀ L s.heap ((sa, listOf #[.ref sl, .int i ti] n1) :: rest) → Top p loose mean mg mb h₀ → cs.kind = .function → dp + 8 < recursionLimit →
    (sl, listOf vs.toArray n2) ∈ rest → IntsAre vs ns → ns.length ≤ 3 → (∀ p ∈ rest, p.1 ≠ sa) → 0 ≤ i → i < 10 → 0 < many → many ≤ 256 →
    (∀ v u t' h' tk', Fr h₀ L h' mp → News h₀ L h' ((sa, listOf #[.ref sl, .int (i + 1) t'] n1) :: rest) → 0 ≤ v → v < many → Q (.int v u) { s with heap := h', toks := tk' }) →
    wpAny (model PG w) (ktrTop dp un gd cn cs L a ccd cl outer) (call (.ref 319) [.ref sa, .int many tm]) Q E s

-- mod_type('ring', m): a new object and its dict, above all that stood
def ModAll (K : Params → Frag) : Prop :=
  ∀ (w : World) (p : Program) (loose : List Str) (mean : ExcName → Option Value) (mg mb : Str → Option Value)
    (dp un : Nat) (gd : Option (List Code)) (cn : Str) (cs : Scope) (a : Addr) (ccd : Value) (cl : List (Str × Addr)) (outer : List Env) (A₀ : Around) (base h₀ : Heap) (L : Addr) (mp : Str → Option Value) (news : Led) (s : Shared)
    (Q E : Value → Shared → Prop) (m : Int) (tn tm : Tok),
    Below A₀ base outer h₀ → Fr h₀ L s.heap mp → (K w.params).In h₀ → News h₀ L s.heap news → Top p loose mean mg mb h₀ → cs.kind = .function → dp + 8 < recursionLimit →
    (∀ (t dx : Addr) (es : List DictEntry) (n : Nat) (ka kb kc kd : Tok) (h' : Heap) (tk' : Nat), Fr h₀ L h' mp → News h₀ L h' ((t, instObj 301 dx) :: (dx, dictOf es n) :: news) → (∀ q ∈ news, q.1 < dx) → dx < t →
      getL (Str.ofString "kind") es = some (some (.str (Str.ofString "mod") ka)) → getL (Str.ofString "modulus") es = some (some (.int m kb)) → getL (Str.ofString "low") es = some (some (.int 0 kc)) → getL (Str.ofString "high") es = some (some (.int (m - 1) kd)) →
      Q (.ref t) { s with heap := h', toks := tk' }) →
    wpAny (model PG w) (ktrTop dp un gd cn cs L a ccd cl outer) (call (.ref 312) [.str (Str.ofString "ring") tn, .int m tm]) Q E s
theorem mod_use {K : Params → Frag} (C : ModAll K) {w : World} {p : Program} {loose : List Str} {mean : ExcName → Option Value} {mg mb : Str → Option Value}
    {dp un : Nat} {gd : Option (List Code)} {cn : Str} {cs : Scope} {a : Addr} {ccd : Value} {cl : List (Str × Addr)} {outer : List Env} {A₀ : Around} {base h₀ : Heap} {L : Addr} {mp : Str → Option Value} {news : Led} {s : Shared}
    {Q E : Value → Shared → Prop} {m : Int} {tn tm : Tok}
    (B : Below A₀ base outer h₀) (F : Fr h₀ L s.heap mp) (X : (K w.params).In h₀) (N : News h₀ L s.heap news) (T : Top p loose mean mg mb h₀) (hk : cs.kind = .function) (hr : dp + 8 < recursionLimit)
    (ret : ∀ (t dx : Addr) (es : List DictEntry) (n : Nat) (ka kb kc kd : Tok) (h' : Heap) (tk' : Nat), Fr h₀ L h' mp → News h₀ L h' ((t, instObj 301 dx) :: (dx, dictOf es n) :: news) → (∀ q ∈ news, q.1 < dx) → dx < t →
      getL (Str.ofString "kind") es = some (some (.str (Str.ofString "mod") ka)) → getL (Str.ofString "modulus") es = some (some (.int m kb)) → getL (Str.ofString "low") es = some (some (.int 0 kc)) → getL (Str.ofString "high") es = some (some (.int (m - 1) kd)) →
      Q (.ref t) { s with heap := h', toks := tk' }) :
    wpAny (model PG w) (ktrTop dp un gd cn cs L a ccd cl outer) (call (.ref 312) [.str (Str.ofString "ring") tn, .int m tm]) Q E s :=
  C _ _ _ _ _ _ _ _ _ _ _ _ _ _ _ _ _ _ _ _ _ _ _ _ _ _ _ B F X N T hk hr ret
theorem mod_ret {h₀ : Heap} {L : Addr} {mp : Str → Option Value} {news big : Led} {s : Shared} {Q : Value → Shared → Prop} {m : Int}
    (hret : ∀ (t dx : Addr) (es : List DictEntry) (n : Nat) (ka kb kc kd : Tok) (h' : Heap) (tk' : Nat), Fr h₀ L h' mp → News h₀ L h' ((t, instObj 301 dx) :: (dx, dictOf es n) :: news) → (∀ q ∈ news, q.1 < dx) → dx < t →
      getL (Str.ofString "kind") es = some (some (.str (Str.ofString "mod") ka)) → getL (Str.ofString "modulus") es = some (some (.int m kb)) → getL (Str.ofString "low") es = some (some (.int 0 kc)) → getL (Str.ofString "high") es = some (some (.int (m - 1) kd)) →
      Q (.ref t) { s with heap := h', toks := tk' })
    {t dx : Addr} {es : List DictEntry} {n : Nat} {ka kb kc kd : Tok} {h' : Heap} {tk' : Nat} (F : Fr h₀ L h' mp) (N : News h₀ L h' big) (e1 : (t, instObj 301 dx) ∈ big) (e2 : (dx, dictOf es n) ∈ big) (e3 : ∀ p ∈ news, p ∈ big) (a : ∀ q ∈ news, q.1 < dx) (b : dx < t)
    (g1 : getL (Str.ofString "kind") es = some (some (.str (Str.ofString "mod") ka))) (g2 : getL (Str.ofString "modulus") es = some (some (.int m kb))) (g3 : getL (Str.ofString "low") es = some (some (.int 0 kc))) (g4 : getL (Str.ofString "high") es = some (some (.int (m - 1) kd))) :
    Q (.ref t) { s with heap := h', toks := tk' } := hret _ _ _ _ _ _ _ _ _ _ F (cb_drop N (List.forall_mem_cons.mpr ⟨e1, List.forall_mem_cons.mpr ⟨e2, e3⟩⟩)) a b g1 g2 g3 g4
theorem ne_of_above {news : Led} {dx : Addr} (h : ∀ q ∈ news, q.1 < dx) : ∀ q ∈ news, q.1 ≠ dx := fun q hq => Nat.ne_of_lt (h q hq)

/-- rest is the ledger l without the entry (a, o) -/
inductive Pick (a : Addr) (o : Obj) : Led → Led → Prop where
  | head {r : Led} : Pick a o ((a, o) :: r) r
  | tail {q : Addr × Obj} {l r : Led} : Pick a o l r → Pick a o (q :: l) (q :: r)
theorem Pick.sub {a : Addr} {o : Obj} : ∀ {l r : Led}, Pick a o l r → ∀ p ∈ (a, o) :: r, p ∈ l
  | _, _, .head, _, h => h
  | _, _, .tail k, _, h => by
    rcases List.mem_cons.mp h with rfl | h
    · exact .tail _ (k.sub _ (.head _))
    · rcases List.mem_cons.mp h with rfl | h
      · exact .head _
      · exact .tail _ (k.sub _ (.tail _ h))
theorem weigh_use {K : Params → Frag} (C : WeighAll K) {w : World} {p : Program} {loose : List Str} {mean : ExcName → Option Value} {mg mb : Str → Option Value}
    {dp un : Nat} {gd : Option (List Code)} {cn : Str} {cs : Scope} {a : Addr} {ccd : Value} {cl : List (Str × Addr)} {outer : List Env} {A₀ : Around} {base h₀ : Heap} {L : Addr} {mp : Str → Option Value} {news rest : Led} {s : Shared}
    {Q E : Value → Shared → Prop} {sa sl : Addr} {vs : List Value} {ns : List Int} {n1 n2 : Nat} {i many : Int} {ti tm : Tok}
    (B : Below A₀ base outer h₀) (F : Fr h₀ L s.heap mp) (X : (K w.params).In h₀) (N : News h₀ L s.heap news) (hp : Pick sa (listOf #[.ref sl, .int i ti] n1) news rest) (T : Top p loose mean mg mb h₀) (hk : cs.kind = .function) (hr : dp + 8 < recursionLimit)
    (hm : (sl, listOf vs.toArray n2) ∈ rest) (hI : IntsAre vs ns) (hn : ns.length ≤ 3) (hne : ∀ p ∈ rest, p.1 ≠ sa) (hi0 : 0 ≤ i) (hi1 : i < 10) (hm0 : 0 < many) (hm1 : many ≤ 256)
    (ret : ∀ v u t' h' tk', Fr h₀ L h' mp → News h₀ L h' ((sa, listOf #[.ref sl, .int (i + 1) t'] n1) :: rest) → 0 ≤ v → v < many → Q (.int v u) { s with heap := h', toks := tk' }) :
    wpAny (model PG w) (ktrTop dp un gd cn cs L a ccd cl outer) (call (.ref 319) [.ref sa, .int many tm]) Q E s :=
  C _ _ _ _ _ _ _ _ _ _ _ _ _ _ _ _ _ _ _ _ _ _ _ _ _ _ _ _ _ _ _ _ _ _ B F X (cb_drop N hp.sub) T hk hr hm hI hn hne hi0 hi1 hm0 hm1 ret
theorem take_three {ns : List Int} : (ns.take 3).length ≤ 3 := by rw [List.length_take]; omega

section
variable {prog : Program} {w : World} {A : Around} {E : Value → Shared → Prop} {s : Shared} {a b : Int} {t u : Tok}
theorem pow_two {Q : Value → Shared → Prop} (h0 : 0 ≤ b) (h1 : b < 8) (h : ∀ m u, PowM m → Q (.int m u) { s with toks := s.toks + 1 }) : wpAny (model prog w) A (binaryOp .Pow (.int 2 t) (.int (1 + b) u)) Q E s :=
  pow_int_small (by omega) (by omega) (by decide) (h _ _ ⟨(1 + b).toNat, by omega, by omega, by rw [kbt_cast]⟩)
theorem eq_gray {Q : Value → Shared → Prop} {m : Int} (ha : unI (grayI m a) = a) (hb : unI (grayI m b) = b) (h : Q (.bool (a == b)) s) : wpAny (model prog w) A (compareOp .Eq (.int (grayI m a) t) (.int (grayI m b) u)) Q E s := by
  have e : (grayI m a == grayI m b) = (a == b) := by
    rw [Bool.eq_iff_iff, beq_iff_eq, beq_iff_eq]
    exact ⟨fun q => by rw [← ha, ← hb, q], fun q => by rw [q]⟩
  refine eq_int ?_
  rw [e]
  exact h
theorem abs_nn {Q : Value → Shared → Prop} (h0 : 0 ≤ a) (h : ∀ u tk, Q (.int a u) { s with toks := tk }) : wpAny (model prog w) A (call (.builtin "abs") [.int a t]) Q E s :=
  call_abs_int (fun u tk => by rw [if_neg (by omega)]; exact h u tk)
theorem mod_pos {Q : Value → Shared → Prop} (hb : 0 < b) (h : Q (.int (a % b) s.toks) { s with toks := s.toks + 1 }) : wpAny (model prog w) A (binaryOp .Mod (.int a t) (.int b u)) Q E s :=
  mod_int' (by omega) (by rw [Int.fmod_eq_emod_of_nonneg _ (by omega)]; exact h)
theorem div_two {Q : Value → Shared → Prop} (h0 : 0 ≤ a) (h1 : a < 256) (h : Q (.int (a / 2) s.toks) { s with toks := s.toks + 1 }) : wpAny (model prog w) A (binaryOp .FloorDiv (.int a t) (.int 2 u)) Q E s :=
  floordiv_int (by decide) (by rw [Int.fdiv_eq_ediv_of_nonneg _ (by decide)]; exact h) (Or.inl (PyProof.noPylong_small (by omega)))
theorem len_rest {Q : Value → Shared → Prop} {h₀ : Heap} {L sl : Addr} {news : Led} {vs : List Value} {ns : List Int} {n : Nat} (N : News h₀ L s.heap news) (hm : (sl, listOf vs.toArray n) ∈ news) (hI : IntsAre vs ns) (hn : ns.length ≤ 3)
    (h : ∀ u tk, Q (.int (ns.length : Int) u) { s with toks := tk }) : wpAny (model prog w) A (call (.builtin "len") [.ref sl]) Q E s := by
  have e : vs.length = ns.length := IntsAre.length hI
  refine PyProof.Rows.len_list (N.isList hm) (by rw [List.size_toArray]; omega) ?_
  rw [List.size_toArray, e]
  exact h _ _
theorem prod_fits {m x y : Int} (hm : m ≤ 256) (h0 : 0 ≤ x) (h1 : x < m) (h2 : 0 ≤ y) (h3 : y < m) : 0 ≤ x * y ∧ x * y < 65536 := by
  refine ⟨Int.mul_nonneg h0 h2, ?_⟩
  have h := Int.mul_le_mul (show x ≤ 255 by omega) (show y ≤ 255 by omega) h2 (by decide)
  omega
end
theorem same_not_unlike (b : Bool) : ¬ ((b != b) = true) := by cases b <;> decide
theorem ne_and_or {x y : Int} : ¬ ((popI (andI x y) + popI (orI x y) != popI x + popI y) = true) := by rw [pop_and_or]; simp
theorem ne_xor {x y : Int} : ¬ ((popI (xorI x y) != popI (orI x y) - popI (andI x y)) = true) := by rw [pop_xor]; simp

-- a list comprehension over a tuple that stands in the ledger
def TupAt (ax : Addr) (its : Array Value) (news : Led) : Prop := False ∨ ∃ o, (ax, o) ∈ news ∧ o.cls = .type "tuple" ∧ ∃ n, o.data = .seq its n
theorem TupAt.tuple {h₀ h : Heap} {L ax : Addr} {its : Array Value} {news : Led} (x : TupAt ax its news) (N : News h₀ L h news) : h.IsTuple ax its := by
  rcases x with x | ⟨o, hm, r⟩
  · exact x.elim
  · exact ⟨o, (N _ hm).1, r⟩
def TupSrc (w : World) (A : Around) (h₀ : Heap) (L : Addr) (m : Str → Option Value) (env : Env) (elt : Expr) (x : Str) (scope : Scope) (cl : List (Str × Addr)) (Fin : Shared → List Value → Led → Prop) (xv : Value) (s₁ : Shared) : Prop :=
  ∃ ax its news, xv = .ref ax ∧ A.handled = none ∧ Fr h₀ L s₁.heap m ∧ News h₀ L s₁.heap news ∧ TupAt ax its news ∧ its.size ≤ sizeLine ∧
    ∀ s₂ : Shared, (∃ h, s₂ = { s₁ with heap := h }) → LCg.CompRest PG w A h₀ L m env elt x scope cl s₂ (TupAt ax its) (fun i v => its[i]? = some v) (Fin s₂) its.size 0 [] news
theorem TupSrc.mk {w : World} {A : Around} {h₀ : Heap} {L : Addr} {m : Str → Option Value} {env : Env} {elt : Expr} {x : Str} {scope : Scope} {cl : List (Str × Addr)} {Fin : Shared → List Value → Led → Prop} {s₁ : Shared} {ax : Addr} {its : Array Value} {k : Nat} {news : Led}
    (hh : A.handled = none) (F : Fr h₀ L s₁.heap m) (N : News h₀ L s₁.heap news) (hm : (ax, ({ cls := .type "tuple", data := .seq its k } : Obj)) ∈ news) (hz : its.size ≤ sizeLine)
    (h : ∀ g, LCg.CompRest PG w A h₀ L m env elt x scope cl { s₁ with heap := g } (TupAt ax its) (fun i v => its[i]? = some v) (Fin { s₁ with heap := g }) its.size 0 [] news) :
    TupSrc w A h₀ L m env elt x scope cl Fin (.ref ax) s₁ := ⟨ax, its, news, rfl, hh, F, N, .inr ⟨_, hm, rfl, _, rfl⟩, hz, fun _ ⟨g, e⟩ => e ▸ h g⟩
theorem ListComp_tup {w : World} {A : Around} {E : Value → Shared → Prop} {s : Shared} {h₀ : Heap} {L : Addr} {m : Str → Option Value} {env : Env}
    {elt iter : Expr} {x : Str} {px : Pos} {scope : Scope} {cl : List (Str × Addr)} {pos : Pos} {Q : Value → Shared → Prop}
    (_F₀ : Fr h₀ L s.heap m) (hclos : closureFor scope env = pure cl) (hcell : ∀ y ∈ scope.names, y.2 ≠ .cell) (hkind : scope.kind = .function)
    (hnames : ∀ y ∈ scope.names, y.2 = .local → scope.names.lookup y.1 = some .local) (hx : scope.names.lookup x = some .local)
    (h : wpAny (model PG w) A (eval iter env) (TupSrc w A h₀ L m env elt x scope cl (fun s₂ => LCg.FinE h₀ L m s₂ Q)) E s)
    (hs : ∀ x, foldedSetIterable iter env x = pure x := by intro _; rfl) :
    wpAny (model PG w) A (eval (.ListComp elt [⟨.Name x px, iter, [], 0⟩] scope pos) env) Q E s := by
  rw [eval_ListComp]
  refine wpAny_comprehension_free (use := none) rfl hs hclos hkind hnames (wpAny_mono h ?_ fun _ _ e => e)
  rintro xv s₁ ⟨ax, its, news, rfl, hh, F, N, S, hz, R⟩
  have ht := S.tuple N
  have hlt : ax < s₁.heap.objs.size := by obtain ⟨_, e, _⟩ := ht; exact Heap.lt_size e
  have hne : ax ≠ s₁.heap.objs.size := Nat.ne_of_lt hlt
  refine wpAny_pyIter_tuple ht ?_
  generalize hg : s₁.heap.push { cls := .type "tuple_iterator", data := .fields #[.ref ax, .int 0 0] } = g
  have up : ∀ b o, s₁.heap.get? b = some o → g.get? b = some o := fun b o e => hg ▸ Heap.get?_push_of_some _ e
  have top : g.IsTupleIter s₁.heap.objs.size ax 0 := hg ▸ ⟨_, Heap.get?_push_size _ rfl, rfl, rfl⟩
  have hsz : g.objs.size = s₁.heap.objs.size + 1 := by rw [← hg, Heap.size_push]
  refine LCg.block_U (Walks.tuple hh s₁.heap.objs.size ax hne its) hz (S := TupAt ax its) ?_ ?_ hcell hkind hx ⟨top, ht.at fun o e => up _ _ e⟩ ?_ (F.keeps up) (N.grown up) (Nat.ne_of_lt F.ns.lt) (next_is_new F)
    (fun p hp => Nat.ne_of_lt (Heap.lt_size (N p hp).1)) S (R _ ⟨_, rfl⟩) ?_
  · rintro i h ⟨⟨o, e, _⟩, _⟩
    exact ⟨o, e⟩
  · rintro i h h' o nw ⟨⟨o', q, r⟩, _⟩ e e' _ N' S'
    rw [e] at q
    cases q
    exact ⟨⟨o, e', r⟩, S'.tuple N'⟩
  · intro b hb
    show b < g.objs.size
    rw [hsz]
    simp only [List.mem_cons, List.not_mem_nil, or_false] at hb
    rcases hb with rfl | rfl
    · exact Nat.lt_succ_self _
    · exact Nat.lt_succ_of_lt hlt
  · intro D C h tk m' ys news' F' N' o1 hn hC₀ hD₀ hCL hDL hCD offC fin
    refine ⟨m', hn, fun h'' k => fin D h'' tk (F'.change k hCL hC₀) (fun p hp => ⟨k.extBut _ _ ?_ (N' p hp).1, (N' p hp).2⟩) o1⟩
    rcases List.mem_cons.mp hp with rfl | hp
    · exact fun e => hCD e.symm
    · exact offC p hp
theorem eq_same {w : World} {A : Around} {E : Value → Shared → Prop} {s : Shared} {a : Int} {t u : Tok} {Q : Value → Shared → Prop} (h : Q (.bool true) s) : wpAny (model PG w) A (compareOp .Eq (.int a t) (.int a u)) Q E s := by
  refine eq_int ?_
  rw [beq_self_eq_true]
  exact h
theorem unlike_of {a b : Int} (h : a = b) : ¬ ((a != b) = true) := by rw [h]; simp
section
local macro_rules | `(tactic| ktn_open) => `(tactic| first | with_reducible assumption | exact TypeAt.tail (by with_reducible assumption) | exact TypeAt.tail (TypeAt.tail (by with_reducible assumption)) | exact TypeAt.tail (TypeAt.tail (TypeAt.tail (by with_reducible assumption))))
local macro_rules | `(tactic| k_mem) => `(tactic| (refine mem_of ?_; ktr_member))
local macro_rules | `(tactic| k_room) => `(tactic| ((have hRm := Room.h (by assumption)); (try simp only [depth_mark, depth_under_make, depth_under_kw, depth_in1, depth_deeper, depth_caller]); (try dsimp only [ktrTop]); omega))
local macro_rules | `(tactic| ktr_room) => `(tactic| k_room)
local macro_rules | `(tactic| k_get) => `(tactic| with_reducible assumption)
local macro_rules | `(tactic| walk_at "eval Call") => `(tactic| (k_here; (have hRm := Room.h (by assumption)); clear hRm; k_dflt (refine Call_ ?_)))
local macro_rules | `(tactic| walk_at "call builtin:abs") => `(tactic| (k_here; k_dflt (refine abs_nn (by omega) ?_); intro _ _))
local macro_rules | `(tactic| walk_at "binaryOp Mod int int") => `(tactic| (k_here; k_dflt (refine mod_pos (by omega) ?_)))
local macro_rules | `(tactic| walk_at "binaryOp FloorDiv int int") => `(tactic| (k_here; k_dflt (refine div_two (by omega) (by omega) ?_)))
local macro_rules | `(tactic| walk_at "ite") => `(tactic| (k_here; k_openite; first | (refine PySem.W.ite_pos ?hc ?_; (case hc => (simp only [bi_beq, bi_bne, bi_and, bi_or, bi_not, bi_false, bi_tt, bi_ft, bi_ieq, bi_ine, bi_dec]; omega))) | (refine PySem.W.ite_neg ?hc ?_; (case hc => (simp only [bi_beq, bi_bne, bi_and, bi_or, bi_not, bi_false, bi_tt, bi_ft, bi_ieq, bi_ine, bi_dec]; omega)))))
local macro_rules | `(tactic| walk_at "call ref") => `(tactic| (k_here; (with_reducible show wpAny _ _ (call (Value.ref 326) _) _ _ _); k_dflt (refine' Tells1.use (f := 326) (Rel := ByRel) ?kC ?k1 ?k2 ?k3 ?k4 ?k5 ?kK ?kR ?kr ?_; (case kC => with_reducible assumption); (case k1 => k_asm); (case k2 => k_asm); (case k3 => k_asm); (case k4 => k_asm); (case k5 => k_asm); (case kK => first | exact rfl | assumption); (case kR => with_reducible (refine' ByRel.mk ?kA ?kB; (case kA => ktn_open); (case kB => first | exact SgOk.xor (by omega) (by omega) (by omega) (by omega) | exact SgOk.and (by omega) (by omega) (by omega) (by omega) | exact SgOk.div (by omega) (by omega) (by omega) | exact SgOk.sub (by omega) (by omega) (by omega) (by omega) | exact SgOk.add (by omega) (by omega) (by omega) (by omega) | exact SgOk.mul (by omega) (by omega) (by omega) (by omega) | exact SgOk.or (by omega) (by omega) (by omega) (by omega)))); (case kr => k_room)); intro v' u' h' tk' F' N' hv'; (try dsimp only at hv'); (obtain ⟨hv', hv0', hv1'⟩ := hv'); subst hv'; (try k_sweep); (try dsimp only); (try k_fold)))
local macro_rules | `(tactic| ktr_unf) => `(tactic| repeat' (first | (k_unfold; (try dsimp only)) | ((fail_if_success (with_reducible show wpAny _ _ (exec (Stmt.While _ _ _ _) _) _ _ _)); (fail_if_success (with_reducible show KswEnd _ _ _ _ _ _ _ _ _ _ _ _)); first | walk1 | (dsimp only; walk1)) | fail "no step"))
local macro_rules | `(tactic| kst_mem) => `(tactic| (intro p9 h9; repeat (first | exact h9 | refine List.Mem.tail _ ?_)))
local macro_rules | `(tactic| k_all) => `(tactic| with_reducible assumption)
local macro_rules | `(tactic| walk_at "call builtin:len") => `(tactic| (k_here; (with_reducible show wpAny _ _ (call (Value.builtin "len") [Value.ref _]) _ _ _); k_dflt (refine' len_rest ?kN ?kM ?kI ?kn ?_; (case kN => k_asm); (case kM => k_mem); (case kI => assumption); (case kn => assumption)); intro _ _))
local macro_rules | `(tactic| k_all) => `(tactic| exact ne_of_above (by with_reducible assumption))
local macro_rules | `(tactic| walk_at "binaryOp Pow int int") => `(tactic| (k_here; k_dflt (refine pow_two (by omega) (by omega) ?_); intro m' u' hM'; (have hMlo' := hM'.lo); (have hMhi' := hM'.hi); (try dsimp only)))
local macro_rules | `(tactic| walk_at "compareOp Eq int int") => `(tactic| (k_here; (with_reducible show wpAny _ _ (compareOp CmpOp.Eq (Value.int (grayI _ _) _) (Value.int (grayI _ _) _)) _ _ _); k_dflt (refine eq_gray (by assumption) (by assumption) ?_)))
local macro_rules | `(tactic| walk_at "call builtin:min") => `(tactic| (k_here; k_dflt (refine' min_fiveN ?kh ?kF ?kN ?ka ?kb ?kc ?kd ?ke ?_; (case kh => exact rfl); (case kF => k_asm); (case kN => k_asm); (case ka => exact pop_nonneg _); (case kb => exact pop_nonneg _); (case kc => exact pop_nonneg _); (case kd => exact pop_nonneg _); (case ke => exact pop_nonneg _)); intro r' u' h' tk' hr' F' N'; (try k_sweep); (try dsimp only); (try k_fold)))
local macro_rules | `(tactic| ktn_open) => `(tactic| first | with_reducible assumption | exact TypeAt.tail (by with_reducible assumption) | exact TypeAt.tail (TypeAt.tail (by with_reducible assumption)) | (refine' TypeAt.mk ⟨_, _, _, _, _, _, _, ?p1, ?p2, ?p3, ?p4, ?p5, ?p6⟩ ?p7; (case p1 => k_mem); (case p2 => k_mem); (case p3 => k_get); (case p4 => k_get); (case p5 => k_get); (case p6 => k_get); (case p7 => with_reducible assumption)))
local macro_rules | `(tactic| walk_at "call ref") => `(tactic| (k_here; (with_reducible show wpAny _ _ (call (Value.ref 333) _) _ _ _); k_dflt (refine' Tells1.use (f := 333) (Rel := GrayRel) ?kC ?k1 ?k2 ?k3 ?k4 ?k5 ?kK ?kR ?kr ?_; (case kC => with_reducible assumption); (case k1 => k_asm); (case k2 => k_asm); (case k3 => k_asm); (case k4 => k_asm); (case k5 => k_asm); (case kK => first | exact rfl | assumption); (case kR => (refine' GrayRel.mk ?kA ?_ ?_; (case kA => ktn_open); all_goals omega)); (case kr => ktr_room)); intro v' u' h' tk' F' N' hv'; (try dsimp only at hv'); (obtain ⟨hv', hv0', hv1', hv2', hv3'⟩ := hv'); subst hv'; (try k_sweep); (try dsimp only); (try k_fold)))
local macro_rules | `(tactic| walk_at "call ref") => `(tactic| (k_here; (with_reducible show wpAny _ _ (call (Value.ref 340) _) _ _ _); k_dflt (refine' Tells1.use (f := 340) (Rel := BackRel) ?kC ?k1 ?k2 ?k3 ?k4 ?k5 ?kK ?kR ?kr ?_; (case kC => with_reducible assumption); (case k1 => k_asm); (case k2 => k_asm); (case k3 => k_asm); (case k4 => k_asm); (case k5 => k_asm); (case kK => first | exact rfl | assumption); (case kR => (refine' BackRel.mk ?kA ?_ ?_; (case kA => ktn_open); all_goals omega)); (case kr => ktr_room)); intro v' u' h' tk' F' N' hv'; (try dsimp only at hv'); subst hv'; (try k_sweep); (try dsimp only); (try k_fold)))
local macro_rules | `(tactic| walk_at "call ref") => `(tactic| (k_here; (with_reducible show wpAny _ _ (call (Value.ref 347) _) _ _ _); k_dflt (refine' Tells1.use (f := 347) (Rel := BitsRel) ?kC ?k1 ?k2 ?k3 ?k4 ?k5 ?kK ?kR ?kr ?_; (case kC => with_reducible assumption); (case k1 => k_asm); (case k2 => k_asm); (case k3 => k_asm); (case k4 => k_asm); (case k5 => k_asm); (case kK => first | exact rfl | assumption); (case kR => (refine' BitsRel.mk ?kA ?_ ?_; (case kA => ktn_open); all_goals omega)); (case kr => ktr_room)); intro v' u' h' tk' F' N' hv'; (try dsimp only at hv'); subst hv'; (try k_sweep); (try dsimp only); (try k_fold)))
local macro_rules | `(tactic| walk_at "call ref") => `(tactic| (k_here; (with_reducible show wpAny _ _ (call (Value.ref 354) _) _ _ _); k_dflt (refine' Tells1.use (f := 354) (Rel := ProdRel) ?kC ?k1 ?k2 ?k3 ?k4 ?k5 ?kK ?kR ?kr ?_; (case kC => with_reducible assumption); (case k1 => k_asm); (case k2 => k_asm); (case k3 => k_asm); (case k4 => k_asm); (case k5 => k_asm); (case kK => first | exact rfl | assumption); (case kR => (refine' ProdRel.mk ?kA ?_ ?_ ?_ ?_; (case kA => ktn_open); all_goals omega)); (case kr => ktr_room)); intro v' u' h' tk' F' N' hv'; (try dsimp only at hv'); subst hv'; (try k_sweep); (try dsimp only); (try k_fold)))
local macro_rules | `(tactic| ktr_rel) => `(tactic| first | exact Pick.head | (refine Pick.tail ?_; ktr_rel))
local macro_rules | `(tactic| walk_at "call ref") => `(tactic| (k_here; (with_reducible show wpAny _ _ (call (Value.ref 319) _) _ _ _); k_dflt (refine' weigh_use ?kC ?k1 ?k2 ?k3 ?k4 ?kP ?k5 ?kK ?kr ?km ?kI ?kn ?ke ?ka ?kb ?kc ?kd ?_; (case kC => with_reducible assumption); (case k1 => k_asm); (case k2 => k_asm); (case k3 => k_asm); (case k4 => k_asm); (case kP => ktr_rel); (case k5 => k_asm); (case kK => first | exact rfl | assumption); (case kr => ktr_room); (case km => k_mem); (case kI => with_reducible assumption); (case kn => exact take_three); (case ke => k_all); (case ka => omega); (case kb => omega); (case kc => omega); (case kd => omega)); intro v' u' t' h' tk' F' N' hv0' hv1'; (try k_sweep); (try dsimp only); (try k_fold)))
local macro_rules | `(tactic| walk_at "call ref") => `(tactic| (k_here; (with_reducible show wpAny _ _ (call (Value.ref 312) _) _ _ _); k_dflt (refine' mod_use ?kC ?k1 ?k2 ?k3 ?k4 ?k5 ?kK ?kr ?_; (case kC => with_reducible assumption); (case k1 => k_asm); (case k2 => k_asm); (case k3 => k_asm); (case k4 => k_asm); (case k5 => k_asm); (case kK => first | exact rfl | assumption); (case kr => ktr_room)); intro t' d' es' n' ka' kb' kc' kd' h' tk' F' N' l1 l2 g1' g2' g3' g4'; (try k_lt l1); (try k_lt2 l2); (try k_sweep); (try dsimp only); (try k_fold)))
local macro_rules | `(tactic| walk_at "call ref") => `(tactic| (k_here; (with_reducible show wpAny _ _ (call (Value.ref 326) _) _ _ _); k_dflt (refine' Tells1.use (f := 326) (Rel := ByRel) ?kC ?k1 ?k2 ?k3 ?k4 ?k5 ?kK ?kR ?kr ?_; (case kC => with_reducible assumption); (case k1 => k_asm); (case k2 => k_asm); (case k3 => k_asm); (case k4 => k_asm); (case k5 => k_asm); (case kK => first | exact rfl | assumption); (case kR => (refine' ByRel.mk ?kA ?kB; (case kA => ktn_open); (case kB => with_reducible (first | exact SgOk.xor (by omega) (by omega) (by omega) (by omega) | exact SgOk.and (by omega) (by omega) (by omega) (by omega) | exact SgOk.div (by omega) (by omega) (by omega) | exact SgOk.sub (by omega) (by omega) (by omega) (by omega) | exact SgOk.add (by omega) (by omega) (by omega) (by omega) | exact SgOk.mul (by omega) (by omega) (by omega) (by omega) | exact SgOk.or (by omega) (by omega) (by omega) (by omega))))); (case kr => ktr_room)); intro v' u' h' tk' F' N' hv'; (try dsimp only at hv'); (obtain ⟨hv', hv0', hv1'⟩ := hv'); (try (first | rw [xorI_back (by with_reducible assumption)] at hv' | rw [xorI_fwd (by with_reducible assumption)] at hv')); subst v'; (try k_sweep); (try dsimp only); (try k_fold)))
local macro_rules | `(tactic| walk_at "ite") => `(tactic| (k_here; k_openite; first | refine PySem.W.ite_neg (same_not_unlike _) ?_ | refine PySem.W.ite_neg ne_and_or ?_ | refine PySem.W.ite_neg ne_xor ?_))
local macro_rules | `(tactic| walk_at "eval ListComp") => `(tactic| (k_here; k_dflt (refine ListComp_tup (by k_asm) (by with_unfolding_all rfl) (by decide) (by rfl) (by decide) (by rfl) ?_)))
local macro_rules | `(tactic| walk_at "TupSrc") => `(tactic| (k_here; k_dflt (refine TupSrc.mk (by rfl) (by k_asm) (by k_asm) (by k_mem) (by first | size_fits | exact Nat.le_of_ble_eq_true rfl) ?_; intro g'; lcg_lit)))
local macro_rules | `(tactic| lcg_off) => `(tactic| with_reducible assumption)
local macro_rules | `(tactic| walk_at "CompRest") => `(tactic| (with_unfolding_all first | (refine LCg.CompRest.succ ?_; intro v' I' oI' C' oC' D' m' h' tk' E' hv' hC' hx' F' N' off' ne'; lcg_open hv') | refine LCg.CompRest.zero ?_))
local macro_rules | `(tactic| walk_at "FinE") => `(tactic| ((unfold LCg.FinE); intro D' h' tk' F' N' o1'; clear o1'; (try simp only [List.nil_append, List.cons_append] at N'); (try dsimp only)))
local macro_rules | `(tactic| walk_at "compareOp Eq int int") => `(tactic| (k_here; refine eq_same ?_))
local macro_rules | `(tactic| walk_at "ite") => `(tactic| (k_here; k_openite; refine PySem.W.ite_neg (unlike_of ?hc) ?_; (case hc => with_reducible assumption)))
set_option Elab.async true in
theorem holds0 : PySem.Challenge.rw_sz0007_01.Holds := by
  w_on
  o_law
  k_head
  (case hw => w_witness2)
  have c_by : ByAll Mine.holds0.heap_1_39 := by
    as_aux_lemma =>
      intro w p loose mean mg mb dp un gd cn cs a ccd cl outer A₀ base h₀ L mp news s Q E vs P B F X N T hk hr hR hret
      have hd6 : Room dp := ⟨hr⟩
      clear hr
      cases hR with
      | mk ht ok =>
        obtain ⟨⟨dx, es, n, ta, tb, tc, td, hT1, hT2, hT3, hT4, hT5, hT6⟩, hpow⟩ := ht
        have hlo := hpow.lo
        have hhi := hpow.hi
        refine wpAny_call ?_
        k_dflt cell_enter
        k_steps
        cases ok with
        | xor h0 h1 h2 h3 =>
          k_steps
          have e := xorI_mod hpow h0 h1 h2 h3
          exact by_end1 hret (by k_asm) (by k_asm) ⟨e, e ▸ xorI_lt hpow h0 h1 h2 h3⟩
        | and h0 h1 h2 h3 =>
          k_steps
          have e := bitAnd_I h0 h2
          exact by_end1 hret (by k_asm) (by k_asm) ⟨e, e ▸ andI_lt h0 h1⟩
        | or h0 h1 h2 h3 =>
          k_steps
          have e := orI_mod hpow h0 h1 h2 h3
          exact by_end1 hret (by k_asm) (by k_asm) ⟨e, e ▸ orI_lt hpow h0 h1 h2 h3⟩
        | add h0 h1 h2 h3 =>
          k_steps
          exact by_end1 hret (by k_asm) (by k_asm) ⟨rfl, Int.emod_nonneg _ (by omega), Int.emod_lt_of_pos _ (by omega)⟩
        | sub h0 h1 h2 h3 =>
          k_steps
          exact by_end1 hret (by k_asm) (by k_asm) ⟨rfl, Int.emod_nonneg _ (by omega), Int.emod_lt_of_pos _ (by omega)⟩
        | mul h0 h1 h2 h3 =>
          have hp := prod_fits hhi h0 h1 h2 h3
          k_steps
          exact by_end1 hret (by k_asm) (by k_asm) ⟨rfl, Int.emod_nonneg _ (by omega), Int.emod_lt_of_pos _ (by omega)⟩
        | div h0 h1 h2 =>
          k_steps
          exact by_end1 hret (by k_asm) (by k_asm) ⟨rfl, by omega, by omega⟩
  have c_gray : GrayAll Mine.holds0.heap_1_39 := by
    as_aux_lemma =>
      intro w p loose mean mg mb dp un gd cn cs a ccd cl outer A₀ base h₀ L mp news s Q E vs P B F X N T hk hr hR hret
      have hd6 : Room (dp + 2) := ⟨hr⟩
      clear hr
      cases hR with
      | mk ht h0 h1 =>
        rename_i t m x tx
        have ht' := ht
        obtain ⟨⟨dx, es, n, ta, tb, tc, td, hT1, hT2, hT3, hT4, hT5, hT6⟩, hpow⟩ := ht'
        have hlo := hpow.lo
        have hhi := hpow.hi
        have hg := gray_facts hpow h0 h1
        have e1 : 2 < m → grayI m x = xorI x (x / 2) := fun h => if_pos h
        have e2 : ¬ 2 < m → grayI m x = x := fun h => if_neg h
        refine wpAny_call ?_
        k_dflt cell_enter
        k_steps
        · refine by_end hret (by k_asm) (by k_asm) ?_
          rw [← e1 (by omega)]
          exact ⟨rfl, hg.2.1, hg.2.2.1, hg.1, hg.2.2.2⟩
        · refine by_end hret (by k_asm) (by k_asm) ?_
          have e := e2 (by omega)
          obtain ⟨g1, g2, g3, g4⟩ := hg
          rw [e] at g1 g4
          exact ⟨e.symm, h0, h1, g1, g4⟩
  have c_back : BackAll Mine.holds0.heap_1_39 := by
    as_aux_lemma =>
      intro w p loose mean mg mb dp un gd cn cs a ccd cl outer A₀ base h₀ L mp news s Q E vs P B F X N T hk hr hR hret
      have hd6 : Room (dp + 2) := ⟨hr⟩
      clear hr
      cases hR with
      | mk ht h0 h1 =>
        rename_i t m x tx
        have ht' := ht
        obtain ⟨⟨dx, es, n, ta, tb, tc, td, hT1, hT2, hT3, hT4, hT5, hT6⟩, hpow⟩ := ht'
        have hlo := hpow.lo
        have hhi := hpow.hi
        have hx := un_halves h0 (show x < 256 by omega)
        refine wpAny_call ?_
        k_dflt cell_enter
        ktr_unf
        rename Fr _ _ _ _ => lF
        rename News _ _ _ _ => lN
        with_unfolding_all refine' ksw_while (σ := Int × Nat × Int × Nat) (fun _ => news) (fun c => [(Str.ofString "found", Value.int c.1 c.2.1), (Str.ofString "rest", Value.int c.2.2.1 c.2.2.2)]) (fun _ => True) [] (fun c => 0 ≤ c.1 ∧ c.1 < m ∧ 0 ≤ c.2.2.1 ∧ c.2.2.1 < m ∧ xorI c.1 (unI (c.2.2.1 / 2)) = unI x) (fun c => c.2.2.1.toNat) (_, _, _, _) lF (cb_drop lN fun _ h => .tail _ h) ?kf ?kk ?kp ?_
        (case kf => trivial)
        (case kk => kst_all)
        (case kp => exact ⟨h0, h1, h0, h1, hx.symm⟩)
        clear lF lN
        rintro ⟨f, ft, r, rt⟩ u hp tk _ ⟨i0, i1, i2, i3, i4⟩ lF lN
        dsimp only at i0 i1 i2 i3 i4
        simp only [kstB, List.contains_nil, Bool.false_eq_true, if_false] at lF
        all_goals (try k_fold)
        ktr_unf
        · skip
          refine' ksw_end (_, _, _, _) ?eF ?eN (fun _ h => h) trivial ?eK ?eR ?eP ?eM
          (case eF => k_asm)
          (case eN => k_asm)
          (case eK => kst_all)
          (case eR => (intro z h2 _; (have a2 := h2 _ (.head _)); (have b2 := h2 _ (.tail _ (.head _))); dsimp only at a2 b2; simp only [if_neg a2, if_neg b2]))
          (case eP => exact ⟨by assumption, by assumption, by assumption, by assumption, back_turn i2 (by omega) i4⟩)
          (case eM => dsimp only; omega)
        all_goals
          have hz : r / 2 = 0 := by omega
          rw [hz, un_zero, xorI_zero i0] at i4
          exact by_end hret (by k_asm) (by k_asm) i4
  have c_bits : BitsAll Mine.holds0.heap_1_39 := by
    as_aux_lemma =>
      intro w p loose mean mg mb dp un gd cn cs a ccd cl outer A₀ base h₀ L mp news s Q E vs P B F X N T hk hr hR hret
      have hd6 : Room (dp + 2) := ⟨hr⟩
      clear hr
      cases hR with
      | mk ht h0 h1 =>
        rename_i t m x tx
        have ht' := ht
        obtain ⟨⟨dx, es, n, ta, tb, tc, td, hT1, hT2, hT3, hT4, hT5, hT6⟩, hpow⟩ := ht'
        have hlo := hpow.lo
        have hhi := hpow.hi
        have hp0 := pop_zero
        refine wpAny_call ?_
        k_dflt cell_enter
        ktr_unf
        rename Fr _ _ _ _ => lF
        rename News _ _ _ _ => lN
        with_unfolding_all refine' ksw_while (σ := Int × Nat × Int × Nat) (fun _ => news) (fun c => [(Str.ofString "count", Value.int c.1 c.2.1), (Str.ofString "x", Value.int c.2.2.1 c.2.2.2)]) (fun _ => True) [Str.ofString "low", Str.ofString "less"] (fun c => 0 ≤ c.2.2.1 ∧ c.2.2.1 < m ∧ c.1 + popI c.2.2.1 = popI x) (fun c => c.2.2.1.toNat) (_, _, _, _) lF (cb_drop lN fun _ h => .tail _ h) ?kf ?kk ?kp ?_
        (case kf => trivial)
        (case kk => kst_all)
        (case kp => exact ⟨h0, h1, Int.zero_add _⟩)
        clear lF lN
        rintro ⟨f, ft, r, rt⟩ u hp tk _ ⟨i2, i3, i4⟩ lF lN
        dsimp only at i2 i3 i4
        simp only [kstB] at lF
        all_goals (try k_fold)
        by_cases hr0 : r = 0
        · subst hr0
          ktr_unf
          rename Fr _ _ _ _ => lF
          rename News _ _ _ _ => lN
          with_unfolding_all refine' ksw_while (σ := Int × Nat × Int × Nat) (fun _ => news) (fun c => [(Str.ofString "others", Value.int c.1 c.2.1), (Str.ofString "half", Value.int c.2.2.1 c.2.2.2)]) (fun _ => True) [] (fun c => 0 ≤ c.2.2.1 ∧ c.2.2.1 < m ∧ c.1 + popI c.2.2.1 = popI x) (fun c => c.2.2.1.toNat) (_, _, _, _) lF lN ?kf ?kk ?kp ?_
          (case kf => trivial)
          (case kk => kst_all)
          (case kp => exact ⟨h0, h1, Int.zero_add _⟩)
          clear lF lN
          rintro ⟨o, ot, z, zt⟩ u2 hp2 tk2 _ ⟨j2, j3, j4⟩ lF lN
          dsimp only at j2 j3 j4
          simp only [kstB, List.contains_nil, Bool.false_eq_true, if_false] at lF
          all_goals (try k_fold)
          have hz := pop_halves j2 (show z < 256 by omega)
          have hz2 := pop_small j2
          have hone := andI_one j2
          ktr_unf
          rotate_right
          · exact by_end hret (by k_asm) (by k_asm) (by omega)
          all_goals
            refine' ksw_end (_, _, _, _) ?eF ?eN ?eL trivial ?eK ?eR ?eP ?eM
            (case eF => k_asm)
            (case eN => k_asm)
            (case eL => kst_mem)
            (case eK => kst_all)
            (case eR => (intro z9 h9 _; (have a9 := h9 _ (.head _)); (have b9 := h9 _ (.tail _ (.head _))); dsimp only at a9 b9; simp only [if_neg a9, if_neg b9]))
            (case eP => dsimp only; refine ⟨by omega, by omega, by omega⟩)
            (case eM => dsimp only; omega)
        · have hlf := low_facts hpow (show 0 < r by omega) i3
          obtain ⟨l1, l2, l3, l4, l5, l6⟩ := hlf
          have n1 := Int.emod_nonneg (-r) (show m ≠ 0 by omega)
          have n2 := Int.emod_lt_of_pos (-r) (show 0 < m by omega)
          ktr_unf
          refine' ksw_end (_, _, _, _) ?eF ?eN ?eL trivial ?eK ?eR ?eP ?eM
          (case eF => k_asm)
          (case eN => k_asm)
          (case eL => kst_mem)
          (case eK => kst_all)
          (case eR => (intro z9 h9 g9; (have f9 := g9); (have a9 := h9 _ (.head _)); (have b9 := h9 _ (.tail _ (.head _))); simp only [List.contains_cons, List.contains_nil, Bool.or_false, Bool.or_eq_false_iff, beq_eq_false_iff_ne] at g9; dsimp only at a9 b9; simp only [if_neg a9, if_neg b9, if_neg g9.1, if_neg g9.2, f9, Bool.false_eq_true, if_false]))
          (case eP => dsimp only; refine ⟨by omega, by omega, by omega⟩)
          (case eM => dsimp only; omega)
  have c_prod : ProdAll Mine.holds0.heap_1_39 := by
    as_aux_lemma =>
      intro w p loose mean mg mb dp un gd cn cs a ccd cl outer A₀ base h₀ L mp news s Q E vs P B F X N T hk hr hR hret
      have hd6 : Room (dp + 2) := ⟨hr⟩
      clear hr
      cases hR with
      | mk ht h0 h1 h2 h3 =>
        rename_i t m x y tx ty
        have ht' := ht
        obtain ⟨⟨dx, es, n, ta, tb, tc, td, hT1, hT2, hT3, hT4, hT5, hT6⟩, hpow⟩ := ht'
        have hlo := hpow.lo
        have hhi := hpow.hi
        refine wpAny_call ?_
        k_dflt cell_enter
        ktr_unf
        rename Fr _ _ _ _ => lF
        rename News _ _ _ _ => lN
        with_unfolding_all refine' ksw_while (σ := Int × Nat × Int × Nat × Int × Nat) (fun _ => news) (fun c => [(Str.ofString "found", Value.int c.1 c.2.1), (Str.ofString "x", Value.int c.2.2.1 c.2.2.2.1), (Str.ofString "y", Value.int c.2.2.2.2.1 c.2.2.2.2.2)]) (fun _ => True) [] (fun c => 0 ≤ c.1 ∧ c.1 < m ∧ 0 ≤ c.2.2.1 ∧ c.2.2.1 < m ∧ 0 ≤ c.2.2.2.2.1 ∧ c.2.2.2.2.1 < m ∧ (c.1 + c.2.2.1 * c.2.2.2.2.1) % m = x * y % m) (fun c => c.2.2.1.toNat) (_, _, _, _, _, _) lF lN ?kf ?kk ?kp ?_
        (case kf => trivial)
        (case kk => kst_all)
        (case kp => exact ⟨Int.le_refl _, by omega, h0, h1, h2, h3, by rw [Int.zero_add]⟩)
        clear lF lN
        rintro ⟨f, ft, r, rt, z, zt⟩ u hp tk _ ⟨i0, i1, i2, i3, i4, i5, i6⟩ lF lN
        dsimp only at i0 i1 i2 i3 i4 i5 i6
        simp only [kstB, List.contains_nil, Bool.false_eq_true, if_false] at lF
        all_goals (try k_fold)
        have hone := andI_one i2
        have ht := @prod_turn m f r z i2
        have hu := @prod_turn2 m f r z i2
        have hb0 := Int.emod_nonneg (z + z) (show m ≠ 0 by omega)
        have hb1 := Int.emod_lt_of_pos (z + z) (show 0 < m by omega)
        ktr_unf
        rotate_right
        · have e : f + r * z = f := by
            have hr0 : r = 0 := by omega
            rw [hr0, Int.zero_mul, Int.add_zero]
          rw [e, Int.emod_eq_of_lt i0 i1] at i6
          exact by_end hret (by k_asm) (by k_asm) i6
        all_goals
          refine' ksw_end (_, _, _, _, _, _) ?eF ?eN ?eL trivial ?eK ?eR ?eP ?eM
          (case eF => k_asm)
          (case eN => k_asm)
          (case eL => kst_mem)
          (case eK => kst_all)
          (case eR => (intro z9 h9 _; (have a9 := h9 _ (.head _)); (have b9 := h9 _ (.tail _ (.head _))); (have c9 := h9 _ (.tail _ (.tail _ (.head _)))); dsimp only at a9 b9 c9; simp only [if_neg a9, if_neg b9, if_neg c9]))
          (case eP => dsimp only; first | exact ⟨by omega, by omega, by omega, by omega, by omega, by omega, (ht.1 (by omega)).trans i6⟩ | exact ⟨by omega, by omega, by omega, by omega, by omega, by omega, (ht.2 (by omega)).trans i6⟩ | exact ⟨by omega, by omega, by omega, by omega, by omega, by omega, (hu.1 (by omega) (by omega)).trans i6⟩ | exact ⟨by omega, by omega, by omega, by omega, by omega, by omega, (hu.2 (by omega) (by omega)).trans i6⟩)
          (case eM => dsimp only; omega)
  have c_weigh : WeighAll Mine.holds0.heap_1_39 := by
    as_aux_lemma =>
      intro w p loose mean mg mb dp un gd cn cs a ccd cl outer A₀ base h₀ L mp rest s Q E sa sl vs ns n1 n2 i many ti tm B F X N T hk hr hm hI hn hne hi0 hi1 hm0 hm1 hret
      have hd6 : Room (dp + 2) := ⟨hr⟩
      clear hr
      refine wpAny_call ?_
      k_dflt cell_enter
      ktr_unf
      all_goals exact hret _ _ _ _ _ (by k_asm) (by k_asm) (Int.emod_nonneg _ (by omega)) (Int.emod_lt_of_pos _ hm0)
  have c_mod : ModAll Mine.holds0.heap_1_39 := by
    as_aux_lemma =>
      intro w p loose mean mg mb dp un gd cn cs a ccd cl outer A₀ base h₀ L mp news s Q E m tn tm B F X N T hk hr hret
      have hd6 : Room (dp + 2) := ⟨hr⟩
      clear hr
      refine wpAny_call ?_
      k_dflt cell_enter
      ktr_unf
      k_dflt (refine' mod_ret hret ?eF ?eN ?e1 ?e2 ?e3 ?eA ?eB ?g1 ?g2 ?g3 ?g4)
      (case eF => k_asm)
      (case eN => k_asm)
      (case e1 => k_dflt k_mem)
      (case e2 => k_dflt k_mem)
      (case e3 => kst_mem)
      (case eA => with_reducible assumption)
      (case eB => with_reducible assumption)
      (case g1 => k_get)
      (case g2 => k_get)
      (case g3 => k_get)
      (case g4 => k_get)
  k_go0
  all_goals try k_fold
  k_steps
end
end Mine
theorem PySem.Challenge.cw_sz0007_01_holds : PySem.Challenge.rw_sz0007_01.Holds :=
  Mine.holds0
