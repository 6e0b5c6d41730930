import PyProof.Rows.All
import Wide.All
import OpenK.AllK
import Wide.FinOn
import PySem.Challenge.RW_ov0053_01
open PySem PySem.W PyProof.Rows PySem.Spec PySem.Calls
set_option Elab.async false
set_option rowWalk.seconds 0
set_option compiler.extract_closed false
namespace Mine
set_option synthInstance.maxSize 1 in
set_option maxRecDepth 100000 in
set_option maxHeartbeats 8000000 in
open_top hd for PySem.Challenge.rw_ov0053_01
abbrev Led := List (Addr × Obj)
abbrev P := Int × Int
abbrev tup (x : P) (t u : Tok) (c : Nat) : Obj := { cls := .type "tuple", data := .seq #[.int x.1 t, .int x.2 u] c }
def Tup (news : Led) (v : Value) (x : P) : Prop := ∃ a t u c, v = .ref a ∧ (a, tup x t u c) ∈ news
theorem Tup.mk {news : Led} {a : Addr} {n d : Int} {t u : Tok} {c : Nat} {x : P} (h : (a, ({ cls := .type "tuple", data := .seq #[.int n t, .int d u] c } : Obj)) ∈ news) (e : (n, d) = x) : Tup news (.ref a) x := by
  subst e; exact ⟨a, t, u, c, rfl, h⟩
theorem Tup.up {news news' : Led} {v : Value} {x : P} (h : Tup news v x) (k : ∀ p ∈ news, p ∈ news') : Tup news' v x := by
  obtain ⟨a, t, u, c, e, h⟩ := h; exact ⟨a, t, u, c, e, k _ h⟩
theorem Tup.is {news : Led} {v : Value} {x y : P} (h : Tup news v x) (e : x = y) : Tup news v y := e ▸ h

def Con (w : World) (mean : ExcName → Option Value) (mg mb : Str → Option Value) (f : Addr) (k : Nat) (vs : List Value) (pre : Led → Prop) (Out : Led → Value → Prop) : Prop :=
  ∀ (dp un : Nat) (gd : Option (List Code)) (cn : Str) (cs : Scope) (a : Addr) (ccd : Value) (cl : List (Str × Addr)) (outer : List Env) (A₀ : Around) (base h₀ : Heap) (L : Addr) (m : Str → Option Value) (news : Led) (s : Shared)
    (Q E : Value → Shared → Prop),
    Below A₀ base outer h₀ → Fr h₀ L s.heap m → (hd.heap_39 w.params).In h₀ → News h₀ L s.heap news → Top hd.view_39 (looseW hd.view_39 []) mean mg mb h₀ → cs.kind = .function → pre news → dp + k + 200 < recursionLimit → un + 8 * k + 200 < cLine →
    (∀ r news' h' tk', Fr h₀ L h' m → News h₀ L h' news' → (∀ p ∈ news, p ∈ news') → Out news' r → Q r { s with heap := h', toks := tk' }) →
    wpAny (model PySem.Challenge.rw_ov0053_01.row.prog w) (ktrTop dp un gd cn cs L a ccd cl outer) (call (.ref f) vs) Q E s

theorem Con.use {w : World} {mean : ExcName → Option Value} {mg mb : Str → Option Value} {f : Addr} {k : Nat} {vs : List Value} {pre : Led → Prop} {Out : Led → Value → Prop}
    {dp un : Nat} {gd : Option (List Code)} {cn : Str} {cs : Scope} {a : Addr} {ccd : Value} {cl : List (Str × Addr)} {outer : List Env} {A₀ : Around} {base h₀ : Heap} {L : Addr} {m : Str → Option Value} {news : Led} {s : Shared}
    {Q E : Value → Shared → Prop}
    (B : Below A₀ base outer h₀) (F : Fr h₀ L s.heap m) (X : (hd.heap_39 w.params).In h₀) (N : News h₀ L s.heap news) (T : Top hd.view_39 (looseW hd.view_39 []) mean mg mb h₀) (hk : cs.kind = .function) (C : Con w mean mg mb f k vs pre Out) (hp : pre news) (hd : dp + k + 200 < recursionLimit) (hu : un + 8 * k + 200 < cLine)
    (ret : ∀ r news' h' tk', Fr h₀ L h' m → News h₀ L h' news' → (∀ p ∈ news, p ∈ news') → Out news' r → Q r { s with heap := h', toks := tk' }) :
    wpAny (model PySem.Challenge.rw_ov0053_01.row.prog w) (ktrTop dp un gd cn cs L a ccd cl outer) (call (.ref f) vs) Q E s :=
  C _ _ _ _ _ _ _ _ _ _ _ _ _ _ _ _ _ _ B F X N T hk hp hd hu ret


def Use6 (f : Addr) (w : World) (mean : ExcName → Option Value) (mg mb : Str → Option Value) (vs : List Value) (dp un : Nat) (h₀ : Heap) (L : Addr) (m : Str → Option Value) (news : Led) (s : Shared) (Q : Value → Shared → Prop) : Prop :=
  ∃ (k : Nat) (pre : Led → Prop) (Out : Led → Value → Prop), Con w mean mg mb f k vs pre Out ∧ pre news ∧ dp + k + 200 < recursionLimit ∧ un + 8 * k + 200 < cLine ∧
      ∀ r news' h' tk', Fr h₀ L h' m → News h₀ L h' news' → (∀ p ∈ news, p ∈ news') → Out news' r → Q r { s with heap := h', toks := tk' }
theorem Use6.mk {w : World} {mean : ExcName → Option Value} {mg mb : Str → Option Value} {f : Addr} {vs : List Value} {dp un : Nat} {h₀ : Heap} {L : Addr} {m : Str → Option Value} {news : Led} {s : Shared} {Q : Value → Shared → Prop}
    {k : Nat} {pre : Led → Prop} {Out : Led → Value → Prop} (C : Con w mean mg mb f k vs pre Out) (hp : pre news) (hd : dp + k + 200 < recursionLimit) (hu : un + 8 * k + 200 < cLine)
    (ret : ∀ r news' h' tk', Fr h₀ L h' m → News h₀ L h' news' → (∀ p ∈ news, p ∈ news') → Out news' r → Q r { s with heap := h', toks := tk' }) : Use6 f w mean mg mb vs dp un h₀ L m news s Q :=
  ⟨k, pre, Out, C, hp, hd, hu, ret⟩
theorem Con.six {w : World} {mean : ExcName → Option Value} {mg mb : Str → Option Value} {f : Addr} {vs : List Value}
    {dp un : Nat} {gd : Option (List Code)} {cn : Str} {cs : Scope} {a : Addr} {ccd : Value} {cl : List (Str × Addr)} {outer : List Env} {A₀ : Around} {base h₀ : Heap} {L : Addr} {m : Str → Option Value} {news : Led} {s : Shared}
    {Q E : Value → Shared → Prop}
    (B : Below A₀ base outer h₀) (F : Fr h₀ L s.heap m) (X : (hd.heap_39 w.params).In h₀) (N : News h₀ L s.heap news) (T : Top hd.view_39 (looseW hd.view_39 []) mean mg mb h₀) (hk : cs.kind = .function)
    (R : Use6 f w mean mg mb vs dp un h₀ L m news s Q) :
    wpAny (model PySem.Challenge.rw_ov0053_01.row.prog w) (ktrTop dp un gd cn cs L a ccd cl outer) (call (.ref f) vs) Q E s := by
  obtain ⟨k, pre, Out, C, hp, hd, hu, ret⟩ := R
  exact C.use B F X N T hk hp hd hu ret

theorem seer_c {h₀ : Heap} {mg mb : Str → Option Value} {mean : ExcName → Option Value} (T : Top hd.view_39 (looseW hd.view_39 []) mean mg mb h₀) : h₀.NoSeer := Top.seer T (by decide +kernel)
section
variable {w : World} {A : Around} {E : Value → Shared → Prop} {s : Shared} {a b : Int} {t u : Tok} {Q : Value → Shared → Prop} {h₀ : Heap} {L : Addr} {m mg mb : Str → Option Value} {mean : ExcName → Option Value} {env : Env} {l : List Env}
theorem fdiv_c (T : Top hd.view_39 (looseW hd.view_39 []) mean mg mb h₀) (F : Fr h₀ L s.heap m) (hdp : A.depth + 100 < recursionLimit) (hb : 0 < b)
    (hs : SeerAt (model PySem.Challenge.rw_ov0053_01.row.prog w) A s.heap) (h : Q (.int (a / b) s.toks) { s with toks := s.toks + 1 }) :
    wpAny (model PySem.Challenge.rw_ov0053_01.row.prog w) A (binaryOp .FloorDiv (.int a t) (.int b u)) Q E s := by
  refine floordiv_int (by omega) ?_ (Or.inr (PySem.PylongRoom.of (PySem.Heap.NoLimit.keeps (Top.nolimit T) (Fr.keep F)) hdp hs))
  rw [Int.fdiv_eq_ediv_of_nonneg _ (by omega)]; exact h
theorem fmod_c (hb : 0 < b) (h : Q (.int (a % b) s.toks) { s with toks := s.toks + 1 }) :
    wpAny (model PySem.Challenge.rw_ov0053_01.row.prog w) A (binaryOp .Mod (.int a t) (.int b u)) Q E s := by
  refine mod_int' (by omega) ?_
  rw [Int.fmod_eq_emod_of_nonneg _ (by omega)]; exact h
end
/-! sizes -/
def Sz (k : Nat) (n : Int) : Prop := n.natAbs < 2 ^ k
def Sm (k : Nat) (x : P) : Prop := Sz k x.1 ∧ Sz k x.2
theorem Sm.l {k : Nat} {x : P} (h : Sm k x) : Sz k x.1 := h.1
theorem Sm.r {k : Nat} {x : P} (h : Sm k x) : Sz k x.2 := h.2
theorem Sz.le {a b : Nat} {n : Int} (h : Sz a n) (k : a ≤ b) : Sz b n := Nat.lt_of_lt_of_le h (Nat.pow_le_pow_right (by decide) k)
theorem Sz.mul {a b : Nat} {n m : Int} (h : Sz a n) (k : Sz b m) : Sz (a + b) (n * m) := by
  unfold Sz at *
  rw [Int.natAbs_mul, Nat.pow_add]
  exact Nat.mul_lt_mul'' h k
theorem Sz.add {a b : Nat} {n m : Int} (h : Sz a n) (k : Sz b m) : Sz (a + b + 1) (n + m) := by
  have h' := Sz.le h (b := a + b) (by omega)
  have k' := Sz.le k (b := a + b) (by omega)
  unfold Sz at *
  rw [Nat.pow_succ]
  have := Int.natAbs_add_le n m
  omega
theorem Sz.neg {a : Nat} {n : Int} (h : Sz a n) : Sz a (0 - n) := by
  unfold Sz at *; rw [show (0 - n).natAbs = n.natAbs by omega]; exact h
theorem Sz.sub {a b : Nat} {n m : Int} (h : Sz a n) (k : Sz b m) : Sz (a + b + 1) (n - m) := by
  have := Sz.add h k.neg
  rwa [show n + (0 - m) = n - m by omega] at this
theorem Sz.of {a : Nat} {n m : Int} (h : Sz a n) (k : m.natAbs ≤ n.natAbs) : Sz a m := Nat.lt_of_le_of_lt k h
theorem mulOk {a b : Nat} {n m : Int} (h : Sz a n) (k : Sz b m) (z : a + b ≤ 100000000) : IntMulOk n m := by
  exact IntMulOk.of_le (intBits_le_iff.mpr h) (intBits_le_iff.mpr k) (by omega)

/-! what the functions give -/
def sg (a b : Int) : Int := if a = b then 0 else if a < b then -1 else 1
def lft (x y : P) : Int := if x.2 = 0 then x.1 else if y.2 = 0 then 0 else x.1 * y.2
def rgt (x y : P) : Int := if y.2 = 0 then y.1 else if x.2 = 0 then 0 else y.1 * x.2
def ordP (x y : P) : Int := sg (lft x y) (rgt x y)
def makeP (n d : Int) : P :=
  if d = 0 then (if 0 < n then (1, 0) else (-1, 0))
  else if d < 0 then ((0 - n) / Int.gcd n d, (0 - d) / Int.gcd n d)
  else (n / Int.gcd n d, d / Int.gcd n d)
def negP (x : P) : P := (0 - x.1, x.2)
def addP (x y : P) : P := if x.2 = 0 then x else if y.2 = 0 then y else makeP (x.1 * y.2 + y.1 * x.2) (x.2 * y.2)
def subP (x y : P) : P := addP x (negP y)
def mulP (x y : P) : P := makeP (x.1 * y.1) (x.2 * y.2)
def divP (x y : P) : P := if x.2 = 0 then (if y.1 < 0 then negP x else x) else makeP (x.1 * y.2) (x.2 * y.1)
def floorP (x : P) : P := if 0 < x.2 then (x.1 / x.2, 1) else x
def ceilP (x : P) : P := negP (floorP (negP x))
def toWhole (x : P) : Int := if 0 ≤ x.1 then x.1 / x.2 else 0 - -x.1 / x.2
def truncP (x : P) : P := if 0 < x.2 then (toWhole x, 1) else x
def nearI (n d : Int) : Int := if d < 2 * (n - n / d * d) ∨ (2 * (n - n / d * d) = d ∧ n / d % 2 = 1) then n / d + 1 else n / d
def tenP (k : Int) : Int := 10 ^ k.toNat
def roundP (x : P) (p : Int) : P := if 0 ≤ p then makeP (nearI (x.1 * tenP p) x.2) (tenP p) else (nearI x.1 (x.2 * tenP (0 - p)) * tenP (0 - p), 1)
def rheP (x : P) (p : Int) : P := if 0 < x.2 then roundP x p else x
/-- 10^e ≤ |x| < 10^(e+1) -/
def ExpIs (x : P) (e : Int) : Prop :=
  if 0 ≤ e then x.2 * tenP e ≤ x.1.natAbs ∧ x.1.natAbs < 10 * (x.2 * tenP e)
  else x.2 ≤ x.1.natAbs * tenP (0 - e) ∧ x.1.natAbs * tenP (0 - e) < 10 * x.2
open Classical in
noncomputable def expP (x : P) : Int := if h : ∃ e, ExpIs x e then Classical.choose h else 0
noncomputable def sigP (x : P) (digits : Int) : P := if x.2 = 0 ∨ x.1 = 0 then x else roundP x (digits - 1 - expP x)
def idivP (x y : P) : P := floorP (divP x y)
def remP (x y : P) : P := subP x (mulP (floorP (divP x y)) y)
def sgn (n : Int) : Int := if n = 0 then 0 else if 0 < n then 1 else -1

/-- a value that is no NA and no NaN -/
def W (x : P) : Prop := 0 < x.2 ∨ (x.2 = 0 ∧ (x.1 = 1 ∨ x.1 = -1))

/-- abs, as the walk has it -/
abbrev ab (n : Int) : Int := if n < 0 then -n else n
def Ex1 (i : Nat) (x : P) (d e : Int) : Prop := 0 ≤ e ∧ 0 < d ∧ Sz i d ∧ d = x.2 * tenP e ∧ (e = 0 ∨ d ≤ ab x.1)
def Ex2 (i : Nat) (x : P) (d n e : Int) : Prop := 0 < d ∧ 0 < n ∧ n < 10 * d ∧ Sz i d ∧
  ((0 ≤ e ∧ n = ab x.1 ∧ d = x.2 * tenP e ∧ (e = 0 ∨ d ≤ ab x.1)) ∨ (e < 0 ∧ d = x.2 ∧ n = ab x.1 * tenP (0 - e)))
theorem gcd_step {p q : Int} : Int.gcd q (p % q) = Int.gcd p q := by
  rw [Int.gcd_comm q]
  conv => rhs; rw [← Int.emod_add_mul_ediv p q]
  exact (Int.gcd_add_mul_left_left ..).symm
theorem gcd_st {p q a b : Int} (h : (Int.gcd p q : Int) = Int.gcd a b) (h1 : 0 < q) : 0 ≤ q ∧ 0 ≤ p % q ∧ (Int.gcd q (p % q) : Int) = Int.gcd a b :=
  ⟨by omega, Int.emod_nonneg _ (by omega), by rw [← h, gcd_step]⟩
theorem gcd_me {p q : Int} (h1 : 0 < q) : (p % q).toNat < q.toNat := by
  have := Int.emod_lt_of_pos p h1
  have := Int.emod_nonneg p (b := q) (by omega)
  omega
theorem gcd_end {p q a b : Int} (h : (Int.gcd p q : Int) = Int.gcd a b) (hp : 0 ≤ p) (hq : 0 ≤ q) (hn : ¬ 0 < q) : p = Int.gcd a b := by
  have : q = 0 := by omega
  subst this
  rw [Int.gcd_zero] at h
  omega
theorem gcd_ab (n d : Int) : Int.gcd (if n < 0 then -n else n) d = Int.gcd n d := by
  split
  · simp
  · rfl
theorem gcd_pos' (n : Int) {d : Int} (h : 0 < d) : 0 < (Int.gcd n d : Int) := by
  have := Int.gcd_pos_of_ne_zero_right n (b := d) (by omega)
  omega
theorem fdivI {n g : Int} (h : 0 < g) : n.fdiv g = n / g := Int.fdiv_eq_ediv_of_nonneg _ (by omega)
theorem sub_mem {α : Type} {l l' : List α} (S : ∀ p ∈ l, p ∈ l') {x : α} (h : x ∈ l) : x ∈ l' := S x h
theorem outP {news : Led} {r : Value} {z y : P} {R : P → Prop} (h : Tup news r z) (e : z = y) (q : R y) : ∃ z : P, Tup news r z ∧ z = y ∧ R z := ⟨z, h, e, e ▸ q⟩
theorem outI {r : Value} {z y : Int} {t : Tok} {R : Int → Prop} (h : r = .int z t) (e : z = y) (q : R y) : ∃ (z : Int) (t : Tok), r = .int z t ∧ z = y ∧ R z := ⟨z, t, h, e, e ▸ q⟩
/-! lemmas on makeP -/
theorem gpos {n d : Int} (h : n ≠ 0 ∨ d ≠ 0) : 0 < (Int.gcd n d : Int) := by
  have : 0 < Int.gcd n d := by
    rcases h with h | h
    · exact Int.gcd_pos_of_ne_zero_left _ h
    · exact Int.gcd_pos_of_ne_zero_right _ h
  omega
/-- d > 0: the made fraction is n / d in lowest terms -/
theorem makeP_spec {n d : Int} (h : 0 < d) : 0 < (makeP n d).2 ∧ (makeP n d).1 * d = n * (makeP n d).2 ∧ Int.gcd (makeP n d).1 (makeP n d).2 = 1 ∧
    ∃ g : Int, 0 < g ∧ n = g * (makeP n d).1 ∧ d = g * (makeP n d).2 := by
  have hg := gpos (n := n) (d := d) (Or.inr (by omega))
  have e : makeP n d = (n / Int.gcd n d, d / Int.gcd n d) := by unfold makeP; rw [if_neg (by omega), if_neg (by omega)]
  rw [e]
  dsimp only
  have h1 : (Int.gcd n d : Int) * (n / Int.gcd n d) = n := Int.mul_ediv_cancel' (Int.gcd_dvd_left n d)
  have h2 : (Int.gcd n d : Int) * (d / Int.gcd n d) = d := Int.mul_ediv_cancel' (Int.gcd_dvd_right n d)
  refine ⟨?_, ?_, ?_, (Int.gcd n d : Int), hg, h1.symm, h2.symm⟩
  · exact Int.ediv_pos_of_pos_of_dvd h (by omega) (Int.gcd_dvd_right n d)
  · generalize n / (Int.gcd n d : Int) = a at *
    generalize d / (Int.gcd n d : Int) = b at *
    generalize (Int.gcd n d : Int) = g at *
    grind
  · have := Int.gcd_ediv (a := n) (b := d) (c := Int.gcd n d) (Int.gcd_dvd_left n d) (Int.gcd_dvd_right n d)
    rw [this]
    simp only [Int.natAbs_natCast]
    exact Nat.div_self (by omega)
theorem dvd_cop {k n m : Int} (h : Int.gcd k n = 1) (d : k ∣ n * m) : k ∣ m := by
  have := Int.dvd_gcd_mul_iff_dvd_mul.mpr d
  rwa [h, show ((1 : Nat) : Int) * m = m by omega] at this
/-- two fractions in lowest terms with one value are one -/
theorem lowest_unique {a b c d : Int} (hb : 0 < b) (hd : 0 < d) (h1 : Int.gcd a b = 1) (h2 : Int.gcd c d = 1) (h : a * d = c * b) : a = c ∧ b = d := by
  have hbd : b ∣ d := by
    have : b ∣ a * d := ⟨c, by rw [h, Int.mul_comm]⟩
    exact dvd_cop (by rw [Int.gcd_comm]; exact h1) this
  have hdb : d ∣ b := by
    have : d ∣ c * b := ⟨a, by rw [← h, Int.mul_comm]⟩
    exact dvd_cop (by rw [Int.gcd_comm]; exact h2) this
  have e : b = d := Int.dvd_antisymm (by omega) (by omega) hbd hdb
  subst e
  exact ⟨Int.eq_of_mul_eq_mul_right (by omega) h, rfl⟩
theorem makeP_unique {n d : Int} (h : 0 < d) {x : P} (hx : 0 < x.2) (hg : Int.gcd x.1 x.2 = 1) (e : x.1 * d = n * x.2) : makeP n d = x := by
  obtain ⟨h1, h2, h3, _⟩ := makeP_spec (n := n) h
  have := lowest_unique h1 hx h3 hg (by
    have hd : (d : Int) ≠ 0 := by omega
    refine Int.eq_of_mul_eq_mul_right hd ?_
    grind)
  exact Prod.ext this.1 this.2
theorem makeP_neg {n d : Int} (h : d < 0) : makeP n d = makeP (-n) (-d) := by
  unfold makeP
  rw [if_neg (by omega), if_pos h, if_neg (by omega), if_neg (by omega)]
  rw [show Int.gcd (-n) (-d) = Int.gcd n d by simp]
  rw [show 0 - n = -n by omega, show 0 - d = -d by omega]
theorem natAbs_le_of_mul {g a n : Int} (hg : 0 < g) (h : n = g * a) : a.natAbs ≤ n.natAbs := by
  rw [h, Int.natAbs_mul]
  have : 1 ≤ g.natAbs := by omega
  exact Nat.le_mul_of_pos_left _ this
theorem makeP_ok {i j : Nat} {n d : Int} (h : 0 < d) (hn : Sz i n) (hd : Sz j d) : W (makeP n d) ∧ Sm (i + j) (makeP n d) := by
  obtain ⟨h1, _, _, g, hg, e1, e2⟩ := makeP_spec (n := n) h
  exact ⟨Or.inl h1, (hn.of (natAbs_le_of_mul hg e1)).le (by omega), (hd.of (natAbs_le_of_mul hg e2)).le (by omega)⟩
/-! order -/
theorem sg_scale {k a b : Int} (h : 0 < k) : sg (k * a) (k * b) = sg a b := by
  unfold sg
  have e1 : (k * a = k * b) ↔ a = b := ⟨fun e => Int.eq_of_mul_eq_mul_left (by omega) e, fun e => by rw [e]⟩
  have e2 : (k * a < k * b) ↔ a < b := ⟨fun e => Int.lt_of_mul_lt_mul_left e (by omega), fun e => Int.mul_lt_mul_of_pos_left e h⟩
  simp only [e1, e2]
theorem sg_shift (a b k : Int) : sg (a + k) (b + k) = sg a b := by unfold sg; split <;> split <;> (try split) <;> (try split) <;> omega
theorem sg_neg (a b : Int) : sg (-a) (-b) = sg b a := by unfold sg; split <;> split <;> (try split) <;> (try split) <;> omega
theorem sg_swap (a b : Int) : sg b a = - sg a b := by unfold sg; split <;> split <;> (try split) <;> (try split) <;> omega
theorem sg_cross {p q a b r s c d : Int} (hq : 0 < q) (hb : 0 < b) (hs : 0 < s) (hd : 0 < d) (h1 : p * b = a * q) (h2 : r * d = c * s) : sg (p * s) (r * q) = sg (a * d) (c * b) := by
  have k1 : 0 < b * d := Int.mul_pos hb hd
  have k2 : 0 < q * s := Int.mul_pos hq hs
  rw [← sg_scale k1, ← sg_scale (a := a * d) k2]
  congr 1 <;> grind
theorem ordP_fin {x y : P} (hx : 0 < x.2) (hy : 0 < y.2) : ordP x y = sg (x.1 * y.2) (y.1 * x.2) := by
  unfold ordP lft rgt; rw [if_neg (by omega), if_neg (by omega), if_neg (by omega), if_neg (by omega)]
theorem ordP_make {a b c d : Int} (hb : 0 < b) (hd : 0 < d) : ordP (makeP a b) (makeP c d) = sg (a * d) (c * b) := by
  obtain ⟨h1, h2, _, _⟩ := makeP_spec (n := a) hb
  obtain ⟨k1, k2, _, _⟩ := makeP_spec (n := c) hd
  rw [ordP_fin h1 k1]
  exact sg_cross h1 hb k1 hd h2 k2
theorem ordP_ii {x y : P} (hx : x.2 = 0) (hy : y.2 = 0) : ordP x y = sg x.1 y.1 := by
  unfold ordP lft rgt; rw [if_pos hx, if_pos hy]
theorem ordP_if {x y : P} (hx : x.2 = 0) (hy : 0 < y.2) : ordP x y = sg x.1 0 := by
  unfold ordP lft rgt; rw [if_pos hx, if_neg (by omega), if_pos hx]
theorem ordP_fi {x y : P} (hx : 0 < x.2) (hy : y.2 = 0) : ordP x y = sg 0 y.1 := by
  unfold ordP lft rgt; rw [if_neg (by omega), if_pos hy, if_pos hy]
def V (x : P) : Prop := W x ∧ Int.gcd x.1 x.2 = 1
theorem sgn_eq (n : Int) : sgn n = sg n 0 := by unfold sgn sg; omega
theorem sg_le {a b : Int} : sg a b ≤ 0 ↔ a ≤ b := by unfold sg; split <;> (try split) <;> omega
theorem sg_pos {a b : Int} : 0 < sg a b ↔ b < a := by unfold sg; split <;> (try split) <;> omega
theorem sg_lt {a b : Int} : sg a b < 0 ↔ a < b := by unfold sg; split <;> (try split) <;> omega
theorem sg_ge {a b : Int} : 0 ≤ sg a b ↔ b ≤ a := by unfold sg; split <;> (try split) <;> omega
theorem ord_swap (x y : P) : ordP y x = - ordP x y := sg_swap (lft x y) (rgt x y)
theorem ord_neg (x y : P) : ordP (negP x) (negP y) = - ordP x y := by
  rw [← ord_swap]
  have e1 : ∀ a b : P, lft (negP a) (negP b) = - lft a b := by
    intro a b; unfold lft negP; dsimp only
    split
    · omega
    · split
      · omega
      · rw [show 0 - a.1 = -a.1 by omega, Int.neg_mul]
  show sg (lft (negP x) (negP y)) (lft (negP y) (negP x)) = sg (lft y x) (lft x y)
  rw [e1, e1, sg_neg]
theorem addP_inf {x : P} (y : P) (h : x.2 = 0) : addP x y = x := by unfold addP; rw [if_pos h]
theorem addP_fi {x y : P} (h : 0 < x.2) (k : y.2 = 0) : addP x y = y := by unfold addP; rw [if_neg (by omega), if_pos k]
theorem addP_ff {x y : P} (h : 0 < x.2) (k : 0 < y.2) : addP x y = makeP (x.1 * y.2 + y.1 * x.2) (x.2 * y.2) := by unfold addP; rw [if_neg (by omega), if_neg (by omega)]
theorem sgn_make {n d : Int} (h : 0 < d) : sgn (makeP n d).1 = sgn n := by
  obtain ⟨_, _, _, g, hg, e, _⟩ := makeP_spec (n := n) h
  rw [sgn_eq, sgn_eq]; conv => rhs; rw [e]
  have := sg_scale (a := (makeP n d).1) (b := 0) hg
  rw [Int.mul_zero] at this; exact this.symm
theorem sgn_sub {x y : P} (hx : W x) (hy : W y) : (¬ 0 < x.2 ∧ ¬ 0 < y.2) ∨ sgn (subP x y).1 = ordP x y := by
  by_cases fx : 0 < x.2
  · by_cases fy : 0 < y.2
    · right
      unfold subP
      rw [addP_ff fx (show 0 < (negP y).2 from fy), sgn_make (Int.mul_pos fx (show 0 < (negP y).2 from fy)), sgn_eq, ordP_fin fx fy]
      refine Eq.trans (sg_shift _ _ (y.1 * x.2)).symm ?_
      unfold negP; dsimp only
      congr 1 <;> grind
    · right
      have k : y.2 = 0 := by unfold W at hy; omega
      unfold subP
      rw [addP_fi fx (show (negP y).2 = 0 from k), sgn_eq, ordP_fi fx k]
      unfold negP; dsimp only
      unfold sg; omega
  · have k : x.2 = 0 := by unfold W at hx; omega
    by_cases fy : 0 < y.2
    · right
      unfold subP
      rw [addP_inf _ k, sgn_eq, ordP_if k fy]
    · exact Or.inl ⟨fx, fy⟩
theorem W.cases {x : P} (h : W x) : 0 < x.2 ∨ (x.2 = 0 ∧ (x.1 = 1 ∨ x.1 = -1)) := h
theorem ord_trans {x y z : P} (hx : W x) (hy : W y) (hz : W z) : 0 < ordP x y ∨ 0 < ordP y z ∨ ¬ 0 < ordP x z := by
  rcases hx.cases with fx | ⟨ix, jx⟩ <;> rcases hy.cases with fy | ⟨iy, jy⟩ <;> rcases hz.cases with fz | ⟨iz, jz⟩
  · rw [ordP_fin fx fy, ordP_fin fy fz, ordP_fin fx fz]
    simp only [sg_pos]
    by_cases h1 : y.1 * x.2 < x.1 * y.2
    · exact .inl h1
    by_cases h2 : z.1 * y.2 < y.1 * z.2
    · exact .inr (.inl h2)
    refine .inr (.inr ?_)
    have a : x.1 * y.2 * z.2 ≤ y.1 * x.2 * z.2 := Int.mul_le_mul_of_nonneg_right (by omega) (by omega)
    have b : y.1 * z.2 * x.2 ≤ z.1 * y.2 * x.2 := Int.mul_le_mul_of_nonneg_right (by omega) (by omega)
    have c : x.1 * z.2 * y.2 ≤ z.1 * x.2 * y.2 := by grind
    have := Int.le_of_mul_le_mul_right c fy
    omega
  all_goals (first
    | (rw [ordP_fin fx fy, ordP_fi fy iz, ordP_fi fx iz])
    | (rw [ordP_fi fx iy, ordP_if iy fz, ordP_fin fx fz])
    | (rw [ordP_fi fx iy, ordP_ii iy iz, ordP_fi fx iz])
    | (rw [ordP_if ix fy, ordP_fin fy fz, ordP_if ix fz])
    | (rw [ordP_if ix fy, ordP_fi fy iz, ordP_ii ix iz])
    | (rw [ordP_ii ix iy, ordP_if iy fz, ordP_if ix fz])
    | (rw [ordP_ii ix iy, ordP_ii iy iz, ordP_ii ix iz]))
  all_goals (simp only [sg_pos]; omega)
theorem makeP_pos {n d : Int} (h : 0 < d) : 0 < (makeP n d).2 := (makeP_spec h).1
theorem ord_add {x y z : P} (hx : W x) (hy : W y) (hz : 0 < z.2) : ordP (addP x z) (addP y z) = ordP x y := by
  rcases hx.cases with fx | ⟨ix, jx⟩ <;> rcases hy.cases with fy | ⟨iy, jy⟩
  · rw [addP_ff fx hz, addP_ff fy hz, ordP_make (Int.mul_pos fx hz) (Int.mul_pos fy hz), ordP_fin fx fy]
    have k : 0 < z.2 * z.2 := Int.mul_pos hz hz
    refine Eq.trans ?_ (sg_scale (a := x.1 * y.2) (b := y.1 * x.2) k)
    refine Eq.trans ?_ (sg_shift _ _ (z.1 * x.2 * y.2 * z.2))
    congr 1 <;> grind
  · rw [addP_ff fx hz, addP_inf _ iy, ordP_fi (makeP_pos (Int.mul_pos fx hz)) iy, ordP_fi fx iy]
  · rw [addP_inf _ ix, addP_ff fy hz, ordP_if ix (makeP_pos (Int.mul_pos fy hz)), ordP_if ix fy]
  · rw [addP_inf _ ix, addP_inf _ iy]
theorem ord_sub {x y z : P} (hx : W x) (hy : W y) (hz : 0 < z.2) : ordP (subP x z) (subP y z) = ordP x y := ord_add hx hy (z := negP z) hz
theorem ord_01 {z : P} (hz : 0 < z.2) : ordP z (0, 1) = sgn z.1 := by
  rw [ordP_fin hz (show 0 < ((0 : Int), (1 : Int)).2 by decide), sgn_eq]; simp
theorem makeP_zero {d : Int} (h : d ≠ 0) : makeP 0 d = (0, 1) := by
  unfold makeP
  rw [if_neg h, Int.gcd_zero_left]
  split
  · rw [show ((d.natAbs : Nat) : Int) = 0 - d by omega, Int.ediv_self (by omega)]; simp
  · rw [show ((d.natAbs : Nat) : Int) = d by omega, Int.ediv_self (by omega)]; simp
theorem mul_zero_eq (x y : P) {z : P} (hz : 0 < z.2) : x.2 = 0 ∨ y.2 = 0 ∨ z.1 ≠ 0 ∨ ((mulP x z).1 = (mulP y z).1 ∧ (mulP x z).2 = (mulP y z).2) := by
  by_cases h1 : x.2 = 0
  · exact .inl h1
  by_cases h2 : y.2 = 0
  · exact .inr (.inl h2)
  by_cases h3 : z.1 = 0
  · refine .inr (.inr (.inr ?_))
    unfold mulP
    rw [h3, Int.mul_zero, Int.mul_zero, makeP_zero (Int.mul_ne_zero h1 (by omega)), makeP_zero (Int.mul_ne_zero h2 (by omega))]
    exact ⟨rfl, rfl⟩
  · exact .inr (.inr (.inl h3))
theorem sg_times {k a b : Int} (h : k ≠ 0) : sg (k * a) (k * b) = sg a b * sgn k := by
  by_cases hk : 0 < k
  · rw [sg_scale hk]; unfold sgn; rw [if_neg h, if_pos hk, Int.mul_one]
  · have : sg (k * a) (k * b) = sg (-k * b) (-k * a) := by
      rw [← sg_neg]; congr 1 <;> grind
    rw [this, sg_scale (by omega), sg_swap]
    unfold sgn; rw [if_neg h, if_neg hk]; omega
theorem makeP_inf {n : Int} (h : n ≠ 0) : makeP n 0 = (sgn n, 0) := by
  unfold makeP sgn; rw [if_pos rfl, if_neg h]; split <;> rfl
theorem sgn_pm {n : Int} (h : n = 1 ∨ n = -1) (k : Int) : sgn (n * k) = n * sgn k := by
  unfold sgn; rcases h with rfl | rfl
  · omega
  · omega
theorem mulP_fin {x z : P} (hx : 0 < x.2) (hz : 0 < z.2) : 0 < (mulP x z).2 := makeP_pos (Int.mul_pos hx hz)
theorem mulP_inf {x z : P} (ix : x.2 = 0) (jx : x.1 = 1 ∨ x.1 = -1) (h : z.1 ≠ 0) : mulP x z = (x.1 * sgn z.1, 0) := by
  unfold mulP
  rw [ix, Int.zero_mul, makeP_inf (Int.mul_ne_zero (by omega) h), sgn_pm jx]
theorem sgn_mul_pos (a : Int) {b : Int} (h : 0 < b) : sgn (a * b) = sgn a := by
  rw [sgn_eq, sgn_eq, Int.mul_comm]; have := sg_scale (a := a) (b := 0) h; rwa [Int.mul_zero] at this
theorem ord_mul {x y z : P} (hx : W x) (hy : W y) (hz : 0 < z.2) : z.1 = 0 ∨ ordP (mulP x z) (mulP y z) = ordP x y * ordP z (0, 1) := by
  by_cases h : z.1 = 0
  · exact .inl h
  right
  rw [ord_01 hz]
  rcases hx.cases with fx | ⟨ix, jx⟩ <;> rcases hy.cases with fy | ⟨iy, jy⟩
  · unfold mulP
    rw [ordP_make (Int.mul_pos fx hz) (Int.mul_pos fy hz), ordP_fin fx fy]
    have := sg_times (k := z.1 * z.2) (a := x.1 * y.2) (b := y.1 * x.2) (Int.mul_ne_zero h (by omega))
    rw [sgn_mul_pos _ hz] at this
    rw [← this]
    congr 1 <;> grind
  all_goals (have hs : sgn z.1 = 1 ∨ sgn z.1 = -1 := by unfold sgn; omega)
  · rw [mulP_inf iy jy h, ordP_fi (mulP_fin fx hz) rfl, ordP_fi fx iy]
    dsimp only
    rcases hs with hs | hs <;> rcases jy with e | e <;> rw [hs, e] <;> decide
  · rw [mulP_inf ix jx h, ordP_if rfl (mulP_fin fy hz), ordP_if ix fy]
    dsimp only
    rcases hs with hs | hs <;> rcases jx with e | e <;> rw [hs, e] <;> decide
  · rw [mulP_inf ix jx h, mulP_inf iy jy h, ordP_ii rfl rfl, ordP_ii ix iy]
    dsimp only
    rcases hs with hs | hs <;> rcases jx with e | e <;> rcases jy with e' | e' <;> rw [hs, e, e'] <;> decide
theorem divP_fin {x z : P} (fx : 0 < x.2) : divP x z = makeP (x.1 * z.2) (x.2 * z.1) := by unfold divP; rw [if_neg (by omega)]
theorem divP_inf {x z : P} (ix : x.2 = 0) (h : z.1 ≠ 0) : divP x z = (x.1 * sgn z.1, 0) := by
  unfold divP sgn negP; rw [if_pos ix, if_neg h]
  split
  · rw [if_neg (by omega), ix]; ext <;> simp
  · rw [if_pos (by omega), Int.mul_one]; exact Prod.ext rfl ix
/-- any denominator but nought -/
theorem makeP_any {n d : Int} (h : d ≠ 0) : 0 < (makeP n d).2 ∧ (makeP n d).1 * d = n * (makeP n d).2 ∧ Int.gcd (makeP n d).1 (makeP n d).2 = 1 := by
  by_cases k : 0 < d
  · obtain ⟨a, b, c, _⟩ := makeP_spec (n := n) k; exact ⟨a, b, c⟩
  · rw [makeP_neg (by omega)]
    obtain ⟨a, b, c, _⟩ := makeP_spec (n := -n) (d := -d) (by omega)
    exact ⟨a, by grind, c⟩
theorem makeP_is {n d : Int} (h : d ≠ 0) {x : P} (hx : 0 < x.2) (hg : Int.gcd x.1 x.2 = 1) (e : x.1 * d = n * x.2) : makeP n d = x := by
  by_cases k : 0 < d
  · exact makeP_unique k hx hg e
  · rw [makeP_neg (by omega)]; exact makeP_unique (by omega) hx hg (by grind)
theorem divP_fin2 {x z : P} (fx : 0 < x.2) (h : z.1 ≠ 0) : 0 < (divP x z).2 := by rw [divP_fin fx]; exact (makeP_any (Int.mul_ne_zero (by omega) h)).1
theorem ord_div {x y z : P} (hx : W x) (hy : W y) (hz : 0 < z.2) : z.1 = 0 ∨ ordP (divP x z) (divP y z) = ordP x y * ordP z (0, 1) := by
  by_cases h : z.1 = 0
  · exact .inl h
  right
  rw [ord_01 hz]
  rcases hx.cases with fx | ⟨ix, jx⟩ <;> rcases hy.cases with fy | ⟨iy, jy⟩
  · rw [divP_fin fx, divP_fin fy, ordP_fin fx fy]
    have key := sg_times (k := z.1 * z.2) (a := x.1 * y.2) (b := y.1 * x.2) (Int.mul_ne_zero h (by omega))
    rw [sgn_mul_pos _ hz] at key
    rw [← key]
    by_cases k : 0 < z.1
    · rw [ordP_make (Int.mul_pos fx k) (Int.mul_pos fy k)]
      congr 1 <;> grind
    · have k1 : 0 < -(x.2 * z.1) := by have := Int.mul_pos fx (show 0 < -z.1 by omega); grind
      have k2 : 0 < -(y.2 * z.1) := by have := Int.mul_pos fy (show 0 < -z.1 by omega); grind
      rw [makeP_neg (by omega), makeP_neg (n := y.1 * z.2) (by omega), ordP_make k1 k2]
      congr 1 <;> grind
  all_goals (have hs : sgn z.1 = 1 ∨ sgn z.1 = -1 := by unfold sgn; omega)
  · rw [divP_inf iy h, ordP_fi (divP_fin2 fx h) rfl, ordP_fi fx iy]
    dsimp only
    rcases hs with hs | hs <;> rcases jy with e | e <;> rw [hs, e] <;> decide
  · rw [divP_inf ix h, ordP_if rfl (divP_fin2 fy h), ordP_if ix fy]
    dsimp only
    rcases hs with hs | hs <;> rcases jx with e | e <;> rw [hs, e] <;> decide
  · rw [divP_inf ix h, divP_inf iy h, ordP_ii rfl rfl, ordP_ii ix iy]
    dsimp only
    rcases hs with hs | hs <;> rcases jx with e | e <;> rcases jy with e' | e' <;> rw [hs, e, e'] <;> decide
theorem sgn_sq {n : Int} (h : n ≠ 0) : sgn n * sgn n = 1 := by
  have hs : sgn n = 1 ∨ sgn n = -1 := by unfold sgn; omega
  rcases hs with e | e <;> rw [e] <;> decide
theorem sgn_pm' {a n : Int} (h : a = 1 ∨ a = -1) (k : n ≠ 0) : a * sgn n = 1 ∨ a * sgn n = -1 := by
  have hs : sgn n = 1 ∨ sgn n = -1 := by unfold sgn; omega
  rcases hs with e | e <;> rcases h with e' | e' <;> rw [e, e'] <;> decide
theorem div_mul {x z : P} (hx : V x) (hz : 0 < z.2) : z.1 = 0 ∨ ((divP (mulP x z) z).1 = x.1 ∧ (divP (mulP x z) z).2 = x.2) := by
  by_cases h : z.1 = 0
  · exact .inl h
  right
  suffices e : divP (mulP x z) z = x by rw [e]; exact ⟨rfl, rfl⟩
  rcases hx.1.cases with fx | ⟨ix, jx⟩
  · have fm := mulP_fin fx hz
    rw [divP_fin fm]
    have hm : (mulP x z).1 * (x.2 * z.2) = x.1 * z.1 * (mulP x z).2 := (makeP_spec (n := x.1 * z.1) (Int.mul_pos fx hz)).2.1
    refine makeP_is (Int.mul_ne_zero (by omega) h) fx hx.2 ?_
    grind
  · rw [mulP_inf ix jx h, divP_inf rfl h]
    dsimp only
    refine Prod.ext ?_ ix.symm
    dsimp only
    rw [Int.mul_assoc, sgn_sq h, Int.mul_one]
theorem mul_div {x z : P} (hx : V x) (hz : 0 < z.2) : z.1 = 0 ∨ ((mulP (divP x z) z).1 = x.1 ∧ (mulP (divP x z) z).2 = x.2) := by
  by_cases h : z.1 = 0
  · exact .inl h
  right
  suffices e : mulP (divP x z) z = x by rw [e]; exact ⟨rfl, rfl⟩
  rcases hx.1.cases with fx | ⟨ix, jx⟩
  · have fd := divP_fin2 (z := z) fx h
    have hd : (divP x z).1 * (x.2 * z.1) = x.1 * z.2 * (divP x z).2 := by rw [divP_fin fx]; exact (makeP_any (Int.mul_ne_zero (by omega) h)).2.1
    unfold mulP
    refine makeP_unique (Int.mul_pos fd hz) fx hx.2 ?_
    grind
  · rw [divP_inf ix h, mulP_inf rfl (sgn_pm' jx h) h]
    dsimp only
    refine Prod.ext ?_ ix.symm
    dsimp only
    rw [Int.mul_assoc, sgn_sq h, Int.mul_one]
/-! W and sizes -/
theorem W_add {x y : P} (h : W x) (k : W y) (f : 0 < x.2 ∨ 0 < y.2) : W (addP x y) := by
  rcases h.cases with fx | ⟨ix, jx⟩
  · rcases k.cases with fy | ⟨iy, jy⟩
    · rw [addP_ff fx fy]; exact Or.inl (makeP_pos (Int.mul_pos fx fy))
    · rw [addP_fi fx iy]; exact k
  · rw [addP_inf _ ix]; exact h
theorem Sm.le {i j : Nat} {x : P} (h : Sm i x) (k : i ≤ j) : Sm j x := ⟨h.1.le k, h.2.le k⟩
theorem Sm_makeP {i j : Nat} {n d : Int} (hn : Sz i n) (hd : Sz j d) (hi : 1 ≤ i) : Sm (max i j) (makeP n d) := by
  by_cases h : d = 0
  · have one : ∀ k : Nat, 1 ≤ k → Sz k 1 ∧ Sz k (-1) ∧ Sz k 0 := by
      intro k hk
      have : (1 : Nat) < 2 ^ k := Nat.one_lt_two_pow (by omega)
      unfold Sz; exact ⟨this, this, by omega⟩
    obtain ⟨a, b, c⟩ := one (max i j) (by omega)
    unfold makeP; rw [if_pos h]; split
    · exact ⟨a, c⟩
    · exact ⟨b, c⟩
  · have key : ∀ {n d : Int}, Sz i n → Sz j d → 0 < d → Sm (max i j) (makeP n d) := by
      intro n d hn hd h
      obtain ⟨h1, _, _, g, hg, e1, e2⟩ := makeP_spec (n := n) h
      exact ⟨(hn.of (natAbs_le_of_mul hg e1)).le (by omega), (hd.of (natAbs_le_of_mul hg e2)).le (by omega)⟩
    by_cases k : 0 < d
    · exact key hn hd k
    · rw [makeP_neg (by omega)]
      exact key (hn.of (by omega)) (hd.of (by omega)) (by omega)
theorem Sz_pos {i : Nat} {n : Int} (h : Sz i n) (k : n ≠ 0) : 1 ≤ i := by
  unfold Sz at h
  rcases Nat.eq_zero_or_pos i with e | e
  · subst e; simp at h; omega
  · exact e
theorem W_neg {x : P} (h : W x) : W (negP x) := by unfold W negP at *; dsimp only at *; omega
theorem Sm_neg {i : Nat} {x : P} (h : Sm i x) : Sm i (negP x) := ⟨h.1.neg, h.2⟩
theorem Sz.add' {a : Nat} {n m : Int} (h : Sz a n) (k : Sz a m) : Sz (a + 1) (n + m) := by
  unfold Sz at *
  rw [Nat.pow_succ]
  have := Int.natAbs_add_le n m
  omega
theorem Sm_make {i j : Nat} {n d : Int} (hn : Sz i n) (hd : Sz j d) (h : d ≠ 0) {k : Nat} (hi : i ≤ k) (hj : j ≤ k) : Sm k (makeP n d) := by
  have key : ∀ {n d : Int}, Sz i n → Sz j d → 0 < d → Sm k (makeP n d) := by
    intro n d hn hd h
    obtain ⟨h1, _, _, g, hg, e1, e2⟩ := makeP_spec (n := n) h
    exact ⟨(hn.of (natAbs_le_of_mul hg e1)).le hi, (hd.of (natAbs_le_of_mul hg e2)).le hj⟩
  by_cases k : 0 < d
  · exact key hn hd k
  · rw [makeP_neg (by omega)]
    exact key (hn.of (by omega)) (hd.of (by omega)) (by omega)
theorem Sm_add {i j : Nat} {x y : P} (h : Sm i x) (k : Sm j y) : Sm (i + j + 1) (addP x y) := by
  unfold addP
  split
  · exact h.le (by omega)
  rename_i h1
  split
  · exact k.le (by omega)
  rename_i h2
  have k2 : Sz (i + j) (y.1 * x.2) := by have := k.1.mul h.2; rwa [Nat.add_comm] at this
  exact Sm_make (Sz.add' (h.1.mul k.2) k2) (h.2.mul k.2) (Int.mul_ne_zero h1 h2) (Nat.le_refl _) (by omega)
theorem W_make {n d : Int} : W (makeP n d) := by
  by_cases h : d = 0
  · unfold makeP W; rw [if_pos h]; split <;> simp
  · exact Or.inl (makeP_any h).1
theorem W_mul {x y : P} (h : W x) (k : W y) (f : x.2 ≠ 0 ∨ y.1 ≠ 0) (g : y.2 ≠ 0 ∨ x.1 ≠ 0) : W (mulP x y) := W_make
theorem one_pow (k : Nat) (hk : 1 ≤ k) : Sz k 1 ∧ Sz k (-1) ∧ Sz k 0 := by
  have : (1 : Nat) < 2 ^ k := Nat.one_lt_two_pow (by omega)
  unfold Sz; exact ⟨this, this, by omega⟩
theorem Sm_make0 {n : Int} {k : Nat} (hk : 1 ≤ k) : Sm k (makeP n 0) := by
  obtain ⟨a, b, c⟩ := one_pow k hk
  unfold makeP; rw [if_pos rfl]; split
  · exact ⟨a, c⟩
  · exact ⟨b, c⟩
theorem Sm_one {i : Nat} {x : P} (hx : W x) (h : Sm i x) : 1 ≤ i := by
  rcases hx.cases with fx | ⟨ix, jx⟩
  · exact Sz_pos h.2 (by omega)
  · exact Sz_pos h.1 (by omega)
theorem Sm_mul {i j : Nat} {x y : P} (hx : W x) (hy : W y) (h : Sm i x) (k : Sm j y) : Sm (i + j) (mulP x y) := by
  unfold mulP
  have := Sm_one hx h
  by_cases e : x.2 * y.2 = 0
  · rw [e]; exact Sm_make0 (by omega)
  · exact Sm_make (h.1.mul k.1) (h.2.mul k.2) e (Nat.le_refl _) (Nat.le_refl _)
theorem W_div {x y : P} (h : W x) (k : 0 < y.2) (g : y.1 ≠ 0) : W (divP x y) := by
  unfold divP
  split
  · split
    · exact W_neg h
    · exact h
  · exact W_make
theorem Sm_div {i j : Nat} {x y : P} (hx : W x) (hy : 0 < y.2) (h : Sm i x) (k : Sm j y) : Sm (i + j) (divP x y) := by
  have := Sm_one hx h
  unfold divP
  split
  · split
    · exact (Sm_neg h).le (by omega)
    · exact h.le (by omega)
  · by_cases e : x.2 * y.1 = 0
    · rw [e]; exact Sm_make0 (by omega)
    · exact Sm_make (h.1.mul k.2) (h.2.mul k.1) e (Nat.le_refl _) (Nat.le_refl _)
theorem Sz_ediv {i : Nat} {n : Int} (d : Int) (h : Sz i n) : Sz i (n / d) := h.of (Int.natAbs_ediv_le_natAbs n d)
theorem W_floor {x : P} (h : W x) : W (floorP x) := by
  unfold floorP; split
  · exact Or.inl Int.one_pos
  · exact h
theorem Sm_floor {i : Nat} {x : P} (h : Sm i x) : Sm i (floorP x) := by
  unfold floorP; split
  · exact ⟨Sz_ediv _ h.1, (one_pow i (Sz_pos h.2 (by omega))).1⟩
  · exact h
theorem W_trunc {x : P} (h : W x) : W (truncP x) := by
  unfold truncP; split
  · exact Or.inl Int.one_pos
  · exact h
theorem Sm_trunc {i : Nat} {x : P} (h : Sm i x) : Sm i (truncP x) := by
  unfold truncP; split
  · refine ⟨?_, (one_pow i (Sz_pos h.2 (by omega))).1⟩
    unfold toWhole; dsimp only
    split
    · exact Sz_ediv _ h.1
    · have : Sz i (-x.1 / x.2) := Sz_ediv _ (h.1.of (by omega))
      exact this.neg
  · exact h
theorem Sz_rest {i j : Nat} {n d : Int} (hd : 0 < d) (h : Sz i n) (k : Sz j d) : Sz j (n - n / d * d) := by
  have e : n - n / d * d = n % d := by rw [Int.mul_comm]; have := Int.emod_add_mul_ediv n d; omega
  rw [e]
  have := Int.emod_nonneg n (b := d) (by omega)
  have := Int.emod_lt_of_pos n hd
  exact k.of (by omega)
theorem Sz_near {i : Nat} {n d : Int} (hd : 0 < d) (h : Sz i n) : Sz (i + 1) (nearI n d) := by
  have h1 : Sz i (n / d) := Sz_ediv d h
  have h3 : (n / d).natAbs + 1 ≤ 2 ^ i := h1
  unfold nearI; split
  · unfold Sz; rw [Nat.pow_succ]; omega
  · exact h1.le (by omega)
theorem ten_pos (p : Int) : 0 < tenP p := Int.pow_pos (by decide)
theorem Sz_tenN (k : Nat) : Sz (4 * k + 1) (10 ^ k) := by
  unfold Sz
  rw [Int.natAbs_pow, Nat.pow_add, Nat.pow_mul]
  have : (10 : Nat) ^ k ≤ 16 ^ k := Nat.pow_le_pow_left (by decide) k
  have h1 : 0 < (16 : Nat) ^ k := Nat.pow_pos (by decide)
  simp only [show (2 : Nat) ^ 4 = 16 from rfl, show (Int.natAbs 10) = 10 from rfl]
  omega
theorem Sz_ten {i : Nat} {p : Int} (h : p ≤ i + 9) : Sz (4 * i + 37) (tenP p) := (Sz_tenN p.toNat).le (by omega)
theorem div_fin {x y : P} (h : 0 < x.2) (k : 0 < y.2) (g : y.1 ≠ 0) : 0 < (divP x y).2 := divP_fin2 h g
theorem floor_fin {x : P} (h : 0 < x.2) : 0 < (floorP x).2 := by unfold floorP; rw [if_pos h]; exact Int.one_pos
theorem W_round {x : P} {p : Int} (h : 0 < x.2) : W (roundP x p) := by
  unfold roundP; split
  · exact W_make
  · exact Or.inl Int.one_pos
theorem Sm_round {x : P} {p : Int} {i : Nat} (h : 0 < x.2) (hS : Sm i x) (h1 : -(i + 9 : Int) ≤ p) (h2 : p ≤ i + 9) : Sm (9 * i + 80) (roundP x p) := by
  unfold roundP
  have t := ten_pos p
  have t' := ten_pos (0 - p)
  split
  · exact Sm_make (Sz_near h (hS.1.mul (Sz_ten h2))) (Sz_ten h2) (by omega) (by omega) (by omega)
  · have hs := Sz_ten (i := i) (p := 0 - p) (by omega)
    exact ⟨((Sz_near (Int.mul_pos h t') hS.1).mul hs).le (by omega), (one_pow _ (by omega)).1⟩
theorem W_rhe {x : P} {p : Int} {i : Nat} (h : W x) (hS : Sm i x) (h1 : -2 ≤ p) (h2 : p ≤ 4) : W (rheP x p) ∧ Sm (9 * i + 80) (rheP x p) := by
  unfold rheP; split
  · exact ⟨W_round (by assumption), Sm_round (by assumption) hS (by omega) (by omega)⟩
  · exact ⟨h, hS.le (by omega)⟩
/-! the exponent -/
theorem ex1_start {i : Nat} {x : P} (h : 0 < x.2) (hS : Sm i x) : Ex1 i x x.2 0 := ⟨by omega, h, hS.2, by simp [tenP], .inl rfl⟩
theorem ab_eq (n : Int) : ab n = (n.natAbs : Int) := by unfold ab; omega
theorem Sz_ab {i : Nat} {n : Int} (h : Sz i n) : Sz i (ab n) := h.of (by rw [ab_eq]; omega)
theorem tenP_succ {e : Int} (h : 0 ≤ e) : tenP (e + 1) = 10 * tenP e := by
  unfold tenP; rw [show (e + 1).toNat = e.toNat + 1 by omega, Int.pow_succ, Int.mul_comm]
theorem ex1_turn {i : Nat} {x : P} {d e : Int} (hS : Sm i x) (h : Ex1 i x d e) (c : 10 * d ≤ ab x.1) : Ex1 i x (d * 10) (e + 1) := by
  obtain ⟨h1, h2, h3, h4, h5⟩ := h
  have := Sz_ab hS.1
  refine ⟨by omega, by omega, this.of (by omega), ?_, .inr (by omega)⟩
  rw [tenP_succ h1, h4]; grind
theorem ex1_meas {i : Nat} {x : P} {d e : Int} (h : Ex1 i x d e) (c : 10 * d ≤ ab x.1) : (ab x.1 - d * 10).toNat < (ab x.1 - d).toNat := by
  obtain ⟨h1, h2, h3, h4, h5⟩ := h
  generalize ab x.1 = a at *
  omega
theorem ex2_start {i : Nat} {x : P} {d e : Int} (h : 0 < x.2) (h' : x.1 ≠ 0) (hS : Sm i x) (k : Ex1 i x d e) (c : ¬ 10 * d ≤ ab x.1) : Ex2 i x d (ab x.1) e := by
  obtain ⟨h1, h2, h3, h4, h5⟩ := k
  exact ⟨h2, by unfold ab; omega, by omega, h3, .inl ⟨h1, rfl, h4, h5⟩⟩
theorem ex2_turn {i : Nat} {x : P} {d n e : Int} (h : Ex2 i x d n e) (c : n < d) : Ex2 i x d (n * 10) (e - 1) := by
  obtain ⟨h1, h2, h3, h4, h5⟩ := h
  refine ⟨h1, by omega, by omega, h4, .inr ?_⟩
  rcases h5 with ⟨a, b, c', d'⟩ | ⟨a, b, c'⟩
  · have e0 : e = 0 := by omega
    subst e0
    refine ⟨by omega, by rw [c']; simp [tenP], ?_⟩
    rw [b]; rfl
  · refine ⟨by omega, b, ?_⟩
    rw [c', show 0 - (e - 1) = (0 - e) + 1 by omega, tenP_succ (by omega)]; grind
theorem ex2_meas {i : Nat} {x : P} {d n e : Int} (h : Ex2 i x d n e) (c : n < d) : (d - n * 10).toNat < (d - n).toNat := by
  obtain ⟨h1, h2, h3, h4, h5⟩ := h; omega
theorem tenP_le {a b : Int} (h : a ≤ b) : tenP a ≤ tenP b := by
  unfold tenP
  have := Nat.pow_le_pow_right (n := 10) (by decide) (show a.toNat ≤ b.toNat by omega)
  exact_mod_cast this
/-- e is the one exponent -/
theorem ExpIs_unique {x : P} (hx2 : 0 < x.2) (hx1 : x.1 ≠ 0) {e f : Int} (h : ExpIs x e) (k : ExpIs x f) : e = f := by
  have key : ∀ e f : Int, ExpIs x e → ExpIs x f → ¬ e < f := by
    intro e f h k l
    unfold ExpIs at h k
    have n0 : 0 < (x.1.natAbs : Int) := by omega
    generalize (x.1.natAbs : Int) = n at *
    by_cases he : 0 ≤ e
    · rw [if_pos he] at h; rw [if_pos (by omega)] at k
      have t1 : tenP (e + 1) ≤ tenP f := tenP_le (by omega)
      rw [tenP_succ he] at t1
      have := Int.mul_le_mul_of_nonneg_left t1 (show 0 ≤ x.2 by omega)
      have e1 : x.2 * (10 * tenP e) = 10 * (x.2 * tenP e) := by grind
      omega
    · rw [if_neg he] at h
      by_cases hf : 0 ≤ f
      · rw [if_pos hf] at k
        have t1 : tenP 0 ≤ tenP f := tenP_le hf
        have t2 : tenP 1 ≤ tenP (0 - e) := tenP_le (by omega)
        have z : tenP 0 = 1 := rfl
        have z' : tenP 1 = 10 := rfl
        have a := Int.mul_le_mul_of_nonneg_left t1 (show 0 ≤ x.2 by omega)
        have b := Int.mul_le_mul_of_nonneg_left t2 (show 0 ≤ n by omega)
        rw [z] at a; rw [z'] at b
        omega
      · rw [if_neg hf] at k
        have t1 : tenP ((0 - f) + 1) ≤ tenP (0 - e) := tenP_le (by omega)
        rw [tenP_succ (by omega)] at t1
        have := Int.mul_le_mul_of_nonneg_left t1 (show 0 ≤ n by omega)
        have e1 : n * (10 * tenP (0 - f)) = 10 * (n * tenP (0 - f)) := by grind
        omega
  have := key e f h k
  have := key f e k h
  omega
theorem expP_eq {x : P} (hx2 : 0 < x.2) (hx1 : x.1 ≠ 0) {e : Int} (h : ExpIs x e) : e = expP x := by
  unfold expP
  have hex : ∃ e, ExpIs x e := ⟨e, h⟩
  rw [dif_pos hex]
  exact ExpIs_unique hx2 hx1 h (Classical.choose_spec hex)
theorem two_lt_ten (k : Nat) : (2 : Int) ^ k ≤ 10 ^ k := by
  have := Nat.pow_le_pow_left (show 2 ≤ 10 by decide) k
  exact_mod_cast this
theorem exp_out {i : Nat} {x : P} {d n e : Int} {t : Tok} (hx2 : 0 < x.2) (hx1 : x.1 ≠ 0) (hS : Sm i x) (h : Ex2 i x d n e) (c : ¬ n < d) : ∃ (z : Int) (t' : Tok), Value.int e t = .int z t' ∧ z = expP x ∧ -(i : Int) ≤ z ∧ z ≤ i := by
  obtain ⟨h1, h2, h3, h4, h5⟩ := h
  have he : ExpIs x e := by
    unfold ExpIs
    rw [← ab_eq]
    rcases h5 with ⟨a, b, c', d'⟩ | ⟨a, b, c'⟩
    · rw [if_pos a, ← c', ← b]; omega
    · rw [if_neg (by omega), ← c', ← b]; omega
  have pw : ∀ k : Nat, i < k → (2 : Int) ^ i ≤ 10 ^ k := fun k hk => Int.le_trans (two_lt_ten i) (by
    have := Nat.pow_le_pow_right (n := 10) (by decide) (show i ≤ k by omega)
    exact_mod_cast this)
  have s1 : ab x.1 < 2 ^ i := by have h := Sz_ab hS.1; unfold Sz at h; have := ab_eq x.1; have h' : ((ab x.1).natAbs : Int) < ((2 ^ i : Nat) : Int) := by exact_mod_cast h
                                 simp at h'; omega
  have s2 : x.2 < 2 ^ i := by have h := hS.2; unfold Sz at h; have h' : (x.2.natAbs : Int) < ((2 ^ i : Nat) : Int) := by exact_mod_cast h
                              simp at h'; omega
  refine ⟨e, t, rfl, expP_eq hx2 hx1 he, ?_, ?_⟩
  · rcases h5 with ⟨a, b, c', d'⟩ | ⟨a, b, c'⟩
    · omega
    · apply Int.not_lt.mp
      intro l
      have t1 : tenP ((i : Int) + 1) ≤ tenP (0 - e) := tenP_le (by omega)
      rw [tenP_succ (by omega)] at t1
      have t2 : (2 : Int) ^ i ≤ tenP (i : Int) := two_lt_ten i
      have p := ten_pos (0 - e)
      have m : 1 * tenP (0 - e) ≤ ab x.1 * tenP (0 - e) := Int.mul_le_mul_of_nonneg_right (by have := ab_eq x.1; omega) (by omega)
      omega
  · rcases h5 with ⟨a, b, c', d'⟩ | ⟨a, b, c'⟩
    · apply Int.not_lt.mp
      intro l
      have := pw e.toNat (by omega)
      rcases d' with d' | d'
      · omega
      · have m : 1 * tenP e ≤ x.2 * tenP e := Int.mul_le_mul_of_nonneg_right (by omega) (by have := ten_pos e; omega)
        unfold tenP at *
        omega
    · omega
theorem negP_negP (x : P) : negP (negP x) = x := by unfold negP; ext <;> dsimp only <;> omega
theorem neg_neg (x : P) : (negP (negP x)).1 = x.1 ∧ (negP (negP x)).2 = x.2 := by rw [negP_negP]; exact ⟨rfl, rfl⟩
theorem floorP_fin {x : P} (h : 0 < x.2) : floorP x = (x.1 / x.2, 1) := by unfold floorP; rw [if_pos h]
theorem floorP_inf {x : P} (h : x.2 = 0) : floorP x = x := by unfold floorP; rw [if_neg (by omega)]
theorem truncP_fin {x : P} (h : 0 < x.2) : truncP x = (toWhole x, 1) := by unfold truncP; rw [if_pos h]
theorem truncP_inf {x : P} (h : x.2 = 0) : truncP x = x := by unfold truncP; rw [if_neg (by omega)]
theorem ceilP_fin {x : P} (h : 0 < x.2) : ceilP x = (-(-x.1 / x.2), 1) := by
  unfold ceilP; rw [floorP_fin (show 0 < (negP x).2 from h)]; unfold negP; ext <;> dsimp only
  rw [show 0 - x.1 = -x.1 by omega]; omega
theorem ceilP_inf {x : P} (h : x.2 = 0) : ceilP x = x := by
  unfold ceilP; rw [floorP_inf (show (negP x).2 = 0 from h), negP_negP]
theorem near_inf {x : P} (hx : W x) : 0 < x.2 ∨ (((floorP x).1 = x.1 ∧ (floorP x).2 = x.2) ∧ ((ceilP x).1 = x.1 ∧ (ceilP x).2 = x.2) ∧ (truncP x).1 = x.1 ∧ (truncP x).2 = x.2) := by
  rcases hx.cases with fx | ⟨ix, jx⟩
  · exact .inl fx
  · right; rw [floorP_inf ix, ceilP_inf ix, truncP_inf ix]; simp
theorem near_fin {x : P} (hx : V x) : ¬ 0 < x.2 ∨ ((floorP x).2 = 1 ∧ (ceilP x).2 = 1 ∧ (truncP x).2 = 1 ∧ (¬ 0 < x.1 ∨ (truncP x).1 = (floorP x).1) ∧ (0 < x.1 ∨ (truncP x).1 = (ceilP x).1) ∧
  (floorP x).1 * x.2 ≤ x.1 ∧ x.1 < ((floorP x).1 + 1) * x.2 ∧ (ceilP x).1 - (floorP x).1 = (if x.2 = 1 then 0 else 1)) := by
  by_cases fx : 0 < x.2
  · right
    rw [floorP_fin fx, ceilP_fin fx, truncP_fin fx]
    dsimp only
    refine ⟨rfl, rfl, rfl, ?_, ?_, Int.ediv_mul_le _ (by omega), ?_, ?_⟩
    · by_cases h : 0 < x.1
      · right; unfold toWhole; rw [if_pos (by omega)]
      · exact .inl h
    · by_cases h : 0 < x.1
      · exact .inl h
      · right; unfold toWhole
        by_cases h0 : x.1 = 0
        · rw [if_pos (by omega), h0]; simp
        · rw [if_neg (by omega)]; omega
    · exact Int.lt_ediv_add_one_mul_self _ fx
    · have e := Int.emod_add_mul_ediv x.1 x.2
      have r0 := Int.emod_nonneg x.1 (b := x.2) (by omega)
      have r1 := Int.emod_lt_of_pos x.1 fx
      by_cases h : x.2 = 1
      · rw [if_pos h, h]; simp
      · rw [if_neg h]
        have hr : x.1 % x.2 ≠ 0 := by
          intro z
          have hd : x.2 ∣ x.1 := Int.dvd_of_emod_eq_zero z
          have hg := hx.2
          have : (Int.gcd x.1 x.2 : Int) = x.2 := Int.gcd_eq_right (by omega) hd
          rw [hg] at this
          omega
        have : -x.1 / x.2 = -(x.1 / x.2) - 1 := by
          have e2 : -x.1 = (x.2 - x.1 % x.2) + x.2 * (-(x.1 / x.2) - 1) := by grind
          rw [e2, Int.add_mul_ediv_left _ _ (by omega), Int.ediv_eq_zero_of_lt (by omega) (by omega)]
          omega
        rw [this]; omega
  · exact .inl fx
theorem ediv_le_ediv {a b c d : Int} (hb : 0 < b) (hd : 0 < d) (h : a * d ≤ c * b) : a / b ≤ c / d := by
  apply Int.le_ediv_of_mul_le hd
  have h1 : a / b * b ≤ a := Int.ediv_mul_le _ (by omega)
  have h2 : a / b * b * d ≤ a * d := Int.mul_le_mul_of_nonneg_right h1 (by omega)
  have h3 : a / b * d * b ≤ c * b := by grind
  exact Int.le_of_mul_le_mul_right h3 hb
theorem ord_floor {x y : P} (hx : W x) (hy : W y) : 0 < ordP x y ∨ ordP (floorP x) (floorP y) ≤ 0 := by
  by_cases h : 0 < ordP x y
  · exact .inl h
  right
  rcases hx.cases with fx | ⟨ix, jx⟩ <;> rcases hy.cases with fy | ⟨iy, jy⟩
  · rw [ordP_fin fx fy, sg_pos] at h
    rw [ordP_fin (floor_fin fx) (floor_fin fy), sg_le, floorP_fin fx, floorP_fin fy]
    dsimp only
    have := ediv_le_ediv fx fy (a := x.1) (c := y.1) (by omega)
    omega
  · rw [ordP_fi fx iy, sg_pos] at h
    rw [floorP_inf iy, ordP_fi (floor_fin fx) iy, sg_le]; omega
  · rw [ordP_if ix fy, sg_pos] at h
    rw [floorP_inf ix, ordP_if ix (floor_fin fy), sg_le]; omega
  · rw [floorP_inf ix, floorP_inf iy]; omega
theorem ord_ceil {x y : P} (hx : W x) (hy : W y) : 0 < ordP x y ∨ ordP (ceilP x) (ceilP y) ≤ 0 := by
  have := ord_floor (W_neg hy) (W_neg hx)
  rw [ord_neg, ← ord_swap] at this
  rcases this with h | h
  · exact .inl h
  · right; unfold ceilP; rw [ord_neg, ← ord_swap]; exact h
theorem ord_trunc {x y : P} (hx : W x) (hy : W y) : 0 < ordP x y ∨ ordP (truncP x) (truncP y) ≤ 0 := by
  by_cases h : 0 < ordP x y
  · exact .inl h
  right
  have tf : ∀ {x : P}, 0 < x.2 → 0 < (truncP x).2 := fun h => by rw [truncP_fin h]; exact Int.one_pos
  rcases hx.cases with fx | ⟨ix, jx⟩ <;> rcases hy.cases with fy | ⟨iy, jy⟩
  · rw [ordP_fin fx fy, sg_pos] at h
    rw [ordP_fin (tf fx) (tf fy), sg_le, truncP_fin fx, truncP_fin fy]
    dsimp only
    unfold toWhole
    by_cases h1 : 0 ≤ x.1 <;> by_cases h2 : 0 ≤ y.1
    · rw [if_pos h1, if_pos h2]
      have := ediv_le_ediv fx fy (a := x.1) (c := y.1) (by omega)
      omega
    · have a1 : 0 ≤ x.1 * y.2 := Int.mul_nonneg h1 (by omega)
      have a2 : 0 < -y.1 * x.2 := Int.mul_pos (by omega) fx
      rw [Int.neg_mul] at a2
      omega
    · rw [if_neg h1, if_pos h2]
      have a1 : 0 ≤ -x.1 / x.2 := Int.ediv_nonneg (by omega) (by omega)
      have a2 : 0 ≤ y.1 / y.2 := Int.ediv_nonneg (by omega) (by omega)
      omega
    · rw [if_neg h1, if_neg h2]
      have := ediv_le_ediv fy fx (a := -y.1) (c := -x.1) (by rw [Int.neg_mul, Int.neg_mul]; omega)
      omega
  · rw [ordP_fi fx iy, sg_pos] at h
    rw [truncP_inf iy, ordP_fi (tf fx) iy, sg_le]; omega
  · rw [ordP_if ix fy, sg_pos] at h
    rw [truncP_inf ix, ordP_if ix (tf fy), sg_le]; omega
  · rw [truncP_inf ix, truncP_inf iy]; omega
theorem floor_make {n d : Int} (h : 0 < d) : (makeP n d).1 / (makeP n d).2 = n / d := by
  obtain ⟨h1, _, _, g, hg, e1, e2⟩ := makeP_spec (n := n) h
  have q := Int.mul_ediv_mul_of_pos (makeP n d).1 (makeP n d).2 hg
  rw [← e1, ← e2] at q
  exact q.symm
theorem divided {x y : P} (hx : V x) (hy : V y) : x.2 = 0 ∨ y.2 = 0 ∨ y.1 = 0 ∨ ((idivP x y).2 = 1 ∧ 0 < (mulP (idivP x y) y).2 ∧ 0 < (remP x y).2 ∧ ((addP (mulP (idivP x y) y) (remP x y)).1 = x.1 ∧ (addP (mulP (idivP x y) y) (remP x y)).2 = x.2) ∧
  (y.1 ≤ 0 ∨ (0 ≤ ordP (remP x y) (0, 1) ∧ ordP (remP x y) y < 0)) ∧ (0 < y.1 ∨ (ordP (remP x y) (0, 1) ≤ 0 ∧ 0 < ordP (remP x y) y))) := by
  rcases hx.1.cases with fx | ⟨ix, jx⟩
  case inr => exact .inl ix
  rcases hy.1.cases with fy | ⟨iy, jy⟩
  case inr => exact .inr (.inl iy)
  by_cases h : y.1 = 0
  · exact .inr (.inr (.inl h))
  refine .inr (.inr (.inr ?_))
  have fd := divP_fin2 (z := y) fx h
  -- the quotient
  obtain ⟨k, hk⟩ : ∃ k, (divP x y).1 / (divP x y).2 = k := ⟨_, rfl⟩
  have ei : idivP x y = (k, 1) := by unfold idivP; rw [floorP_fin fd, hk]
  have em : mulP (idivP x y) y = makeP (k * y.1) (1 * y.2) := by rw [ei]; rfl
  have er : remP x y = subP x (mulP (idivP x y) y) := rfl
  obtain ⟨m, hm⟩ : ∃ m, mulP (idivP x y) y = m := ⟨_, rfl⟩
  rw [hm] at em er
  rw [hm, er, ei]
  have sm := makeP_spec (n := k * y.1) (d := 1 * y.2) (by omega)
  rw [← em] at sm
  obtain ⟨m2, mx, _, _⟩ := sm
  have e1 : subP x m = makeP (x.1 * m.2 + (negP m).1 * x.2) (x.2 * (negP m).2) := addP_ff fx (show 0 < (negP m).2 from m2)
  have r0 : 0 < x.2 * (negP m).2 := Int.mul_pos fx m2
  have sr := makeP_spec (n := x.1 * m.2 + (negP m).1 * x.2) r0
  have or1 := ordP_make (a := x.1 * m.2 + (negP m).1 * x.2) (c := 0) r0 (show (0 : Int) < 1 by decide)
  have or2 : ordP (subP x m) y = sg ((x.1 * m.2 + (negP m).1 * x.2) * y.2) (y.1 * (x.2 * (negP m).2)) := by
    have s2 := sr.1
    rw [e1, ordP_fin s2 fy]
    exact sg_cross s2 r0 fy fy sr.2.1 rfl
  rw [← e1] at sr
  obtain ⟨s1, s2, _, _⟩ := sr
  have z1 : makeP 0 1 = (0, 1) := makeP_zero (by decide)
  rw [z1, ← e1] at or1
  refine ⟨rfl, m2, s1, ?_, ?_⟩
  · suffices e : addP m (subP x m) = x by rw [e]; exact ⟨rfl, rfl⟩
    rw [addP_ff m2 s1]
    refine makeP_unique (Int.mul_pos m2 s1) fx hx.2 ?_
    unfold negP at s2
    dsimp only at s2
    generalize subP x m = r at *
    grind
  · rw [or1, or2]
    -- n = N - k D, against D, both scaled by m.2
    have eN : (x.1 * m.2 + (negP m).1 * x.2) * y.2 = m.2 * (x.1 * y.2 - k * (x.2 * y.1)) := by unfold negP; dsimp only; grind
    have eD : y.1 * (x.2 * (negP m).2) = m.2 * (x.2 * y.1) := by unfold negP; dsimp only; grind
    rw [eN, eD, sg_scale m2]
    have e0 : sg ((x.1 * m.2 + (negP m).1 * x.2) * 1) (0 * (x.2 * (negP m).2)) = sg (x.1 * y.2 - k * (x.2 * y.1)) 0 := by
      have a := sg_scale (a := (x.1 * m.2 + (negP m).1 * x.2)) (b := 0) fy
      have b := sg_scale (a := x.1 * y.2 - k * (x.2 * y.1)) (b := 0) m2
      rw [← b, ← eN, Int.mul_one, Int.zero_mul, ← a, Int.mul_zero, Int.mul_zero, Int.mul_comm y.2]
    rw [e0]
    simp only [sg_le, sg_pos, sg_ge, sg_lt]
    have ek : (makeP (x.1 * y.2) (x.2 * y.1)).1 / (makeP (x.1 * y.2) (x.2 * y.1)).2 = k := by rw [← divP_fin fx]; exact hk
    by_cases p : 0 < y.1
    · have D := Int.mul_pos fx p
      rw [floor_make D] at ek
      have a := Int.emod_add_mul_ediv (x.1 * y.2) (x.2 * y.1)
      have b := Int.emod_nonneg (x.1 * y.2) (b := x.2 * y.1) (by omega)
      have c := Int.emod_lt_of_pos (x.1 * y.2) D
      rw [ek, Int.mul_comm (x.2 * y.1) k] at a
      refine ⟨.inr ⟨?_, ?_⟩, .inl p⟩ <;> omega
    · have D : 0 < -(x.2 * y.1) := by have := Int.mul_pos fx (show 0 < -y.1 by omega); grind
      rw [makeP_neg (by omega), floor_make D] at ek
      have a := Int.emod_add_mul_ediv (-(x.1 * y.2)) (-(x.2 * y.1))
      have b := Int.emod_nonneg (-(x.1 * y.2)) (b := -(x.2 * y.1)) (by omega)
      have c := Int.emod_lt_of_pos (-(x.1 * y.2)) D
      rw [ek, Int.mul_comm (-(x.2 * y.1)) k, Int.mul_neg] at a
      refine ⟨.inl (by omega), .inr ⟨?_, ?_⟩⟩ <;> omega
/-- N is the nearest whole number to n / d, a half to the even one -/
def Near (n d N : Int) : Prop := 2 * (N * d - n) ≤ d ∧ -d ≤ 2 * (N * d - n) ∧ ((2 * (N * d - n) = d ∨ 2 * (N * d - n) = -d) → N % 2 = 0)
theorem near_spec (n : Int) {d : Int} (hd : 0 < d) : Near n d (nearI n d) := by
  have a := Int.emod_add_mul_ediv n d
  have b := Int.emod_nonneg n (b := d) (by omega)
  have c := Int.emod_lt_of_pos n hd
  unfold Near nearI
  generalize n % d = r at *
  generalize hq : n / d = q at *
  rw [Int.mul_comm d q] at a
  split
  · rename_i h
    have e : (q + 1) * d = q * d + d := by rw [Int.add_mul]; omega
    rw [e]
    refine ⟨by omega, by omega, ?_⟩
    intro k; omega
  · rename_i h
    refine ⟨by omega, by omega, ?_⟩
    intro k; omega
/-- the nearest one grows with its number -/
theorem near_le {n d n' d' N M : Int} (hd : 0 < d) (hd' : 0 < d') (h : Near n d N) (k : Near n' d' M) (l : n * d' ≤ n' * d) : N ≤ M := by
  apply Int.not_lt.mp
  intro lt
  obtain ⟨h1, h2, h3⟩ := h
  obtain ⟨k1, k2, k3⟩ := k
  -- (2N - 1) d <= 2n, 2n' <= (2M + 1) d'
  have a1 : (2 * N - 1) * d ≤ 2 * n := by grind
  have a2 : 2 * n' ≤ (2 * M + 1) * d' := by grind
  have b1 : (2 * N - 1) * d * d' ≤ 2 * n * d' := Int.mul_le_mul_of_nonneg_right a1 (by omega)
  have b2 : 2 * n' * d ≤ (2 * M + 1) * d' * d := Int.mul_le_mul_of_nonneg_right a2 (by omega)
  have b3 : (2 * N - 1) * (d * d') ≤ (2 * M + 1) * (d * d') := by grind
  have pd : 0 < d * d' := Int.mul_pos hd hd'
  have b4 := Int.le_of_mul_le_mul_right b3 pd
  have e : N = M + 1 := by omega
  subst e
  -- all are equations
  have q1 : (2 * (M + 1) - 1) * d * d' = 2 * (M * (d * d')) + d * d' := by grind
  have q2 : (2 * M + 1) * d' * d = 2 * (M * (d * d')) + d * d' := by grind
  have q3 : 2 * n * d' = 2 * (n * d') := by grind
  have q4 : 2 * n' * d = 2 * (n' * d) := by grind
  have d1 : (2 * (M + 1) - 1) * d * d' = 2 * n * d' := by omega
  have d2 : 2 * n' * d = (2 * M + 1) * d' * d := by omega
  have e1 : (2 * (M + 1) - 1) * d = 2 * n := Int.eq_of_mul_eq_mul_right (by omega) d1
  have e2 : 2 * n' = (2 * M + 1) * d' := Int.eq_of_mul_eq_mul_right (by omega) d2
  have g1 : (2 * (M + 1) - 1) * d = 2 * (M * d) + d := by grind
  have g2 : (M + 1) * d = M * d + d := by grind
  have g3 : (2 * M + 1) * d' = 2 * (M * d') + d' := by grind
  have f1 := h3 (.inl (by omega))
  have f2 := k3 (.inr (by omega))
  omega
theorem near_uniq {n d n' d' N M : Int} (hd : 0 < d) (hd' : 0 < d') (h : Near n d N) (k : Near n' d' M) (l : n * d' = n' * d) : N = M := by
  have := near_le hd hd' h k (by omega)
  have := near_le hd' hd k h (by omega)
  omega
theorem near_whole (m : Int) {d : Int} (hd : 0 < d) : Near (m * d) d m := by
  unfold Near; refine ⟨by omega, by omega, by intro h; omega⟩
theorem near_neg {n d N : Int} (h : Near n d N) : Near (-n) d (-N) := by
  obtain ⟨a, b, c⟩ := h
  unfold Near
  rw [show -N * d - -n = -(N * d - n) by grind]
  exact ⟨by omega, by omega, fun h => by have := c (by omega); omega⟩
/-- 10^-p as A / B -/
def tA (p : Int) : Int := tenP (0 - p)
def tB (p : Int) : Int := tenP p
theorem tA_pos (p : Int) : 0 < tA p := ten_pos _
theorem tB_pos (p : Int) : 0 < tB p := ten_pos _
theorem tAB (p : Int) : tA p = 1 ∨ tB p = 1 := by
  unfold tA tB tenP
  by_cases h : 0 ≤ p
  · left; rw [show (0 - p).toNat = 0 by omega]; rfl
  · right; rw [show p.toNat = 0 by omega]; rfl
theorem makeP_one (n : Int) : makeP n 1 = (n, 1) := makeP_unique (by decide) (x := (n, 1)) Int.one_pos (Int.gcd_one) (by simp)
theorem roundP_AB (x : P) (p : Int) : roundP x p = makeP (nearI (x.1 * tB p) (x.2 * tA p) * tA p) (tB p) := by
  unfold roundP
  by_cases h : 0 ≤ p
  · rw [if_pos h]
    have e : tA p = 1 := by unfold tA tenP; rw [show (0 - p).toNat = 0 by omega]; rfl
    rw [e, Int.mul_one, Int.mul_one]; rfl
  · rw [if_neg h]
    have e : tB p = 1 := by unfold tB tenP; rw [show p.toNat = 0 by omega]; rfl
    rw [e, Int.mul_one, makeP_one]; rfl
/-- the rounded value by its whole number -/
theorem round_of {x : P} {p N : Int} (hx : 0 < x.2) (h : Near (x.1 * tB p) (x.2 * tA p) N) : roundP x p = makeP (N * tA p) (tB p) := by
  have d := Int.mul_pos hx (tA_pos p)
  rw [roundP_AB, near_uniq d d (near_spec _ d) h rfl]
theorem round_near (x : P) (p : Int) (hx : 0 < x.2) : Near (x.1 * tB p) (x.2 * tA p) (nearI (x.1 * tB p) (x.2 * tA p)) := near_spec _ (Int.mul_pos hx (tA_pos p))
theorem round_pos (x : P) (p : Int) : 0 < (roundP x p).2 := by rw [roundP_AB]; exact makeP_pos (tB_pos p)
/-- what lies on the grid already stays -/
theorem round_grid {x : P} {p m : Int} (hx : 0 < x.2) (hg : Int.gcd x.1 x.2 = 1) (h : x.1 * tB p = m * (x.2 * tA p)) : roundP x p = x := by
  have d := Int.mul_pos hx (tA_pos p)
  rw [round_of hx (N := m) (by rw [h]; exact near_whole m d)]
  exact makeP_unique (tB_pos p) hx hg (by grind)
theorem round_idem {x : P} {p : Int} : roundP (roundP x p) p = roundP x p := by
  have hp := round_pos x p
  obtain ⟨N, hN⟩ : ∃ N, nearI (x.1 * tB p) (x.2 * tA p) = N := ⟨_, rfl⟩
  have e := roundP_AB x p
  rw [hN] at e
  have s := makeP_spec (n := N * tA p) (tB_pos p)
  rw [← e] at s
  exact round_grid hp s.2.2.1 (m := N) (by have := s.2.1; grind)
theorem makeP_negN {n d : Int} (h : 0 < d) : makeP (-n) d = negP (makeP n d) := by
  obtain ⟨a, b, c, _⟩ := makeP_spec (n := n) h
  refine makeP_unique h (x := negP (makeP n d)) a ?_ ?_
  · unfold negP; dsimp only; rw [show 0 - (makeP n d).1 = -(makeP n d).1 by omega]; simpa using c
  · unfold negP; dsimp only; grind
theorem round_neg {x : P} {p : Int} (hx : 0 < x.2) : roundP (negP x) p = negP (roundP x p) := by
  have h := near_neg (round_near x p hx)
  rw [round_of (x := negP x) (p := p) hx (N := -nearI (x.1 * tB p) (x.2 * tA p)) (by
    show Near ((0 - x.1) * tB p) _ _
    rw [show (0 - x.1) * tB p = -(x.1 * tB p) by grind]; exact h)]
  rw [roundP_AB x, Int.neg_mul, makeP_negN (tB_pos p)]
theorem round_mono {x y : P} {p : Int} (hx : 0 < x.2) (hy : 0 < y.2) (h : x.1 * y.2 ≤ y.1 * x.2) : ordP (roundP x p) (roundP y p) ≤ 0 := by
  have hn : nearI (x.1 * tB p) (x.2 * tA p) ≤ nearI (y.1 * tB p) (y.2 * tA p) := by
    refine near_le (Int.mul_pos hx (tA_pos p)) (Int.mul_pos hy (tA_pos p)) (round_near x p hx) (round_near y p hy) ?_
    have := Int.mul_le_mul_of_nonneg_right h (show 0 ≤ tA p * tB p from Int.le_of_lt (Int.mul_pos (tA_pos p) (tB_pos p)))
    grind
  rw [roundP_AB x, roundP_AB y, ordP_make (tB_pos p) (tB_pos p), sg_le]
  have := Int.mul_le_mul_of_nonneg_right hn (show 0 ≤ tA p * tB p from Int.le_of_lt (Int.mul_pos (tA_pos p) (tB_pos p)))
  grind
theorem rheP_fin {x : P} {p : Int} (h : 0 < x.2) : rheP x p = roundP x p := by unfold rheP; rw [if_pos h]
theorem rheP_inf {x : P} {p : Int} (h : x.2 = 0) : rheP x p = x := by unfold rheP; rw [if_neg (by omega)]
theorem rounded_so {x y : P} {p : Int} (hx : V x) (hy : V y) (h1 : -2 ≤ p) (h2 : p ≤ 4) :
    (0 < x.2 ∨ ((rheP x p).1 = x.1 ∧ (rheP x p).2 = x.2)) ∧ ((rheP (rheP x p) p).1 = (rheP x p).1 ∧ (rheP (rheP x p) p).2 = (rheP x p).2) ∧
    ((rheP (negP x) p).1 = (negP (rheP x p)).1 ∧ (rheP (negP x) p).2 = (negP (rheP x p)).2) ∧ (0 < ordP x y ∨ ¬ 0 < ordP (rheP x p) (rheP y p)) := by
  refine ⟨?_, ?_, ?_, ?_⟩
  · rcases hx.1.cases with fx | ⟨ix, _⟩
    · exact .inl fx
    · right; rw [rheP_inf ix]; exact ⟨rfl, rfl⟩
  · rcases hx.1.cases with fx | ⟨ix, _⟩
    · rw [rheP_fin fx, rheP_fin (round_pos x p), round_idem]; exact ⟨rfl, rfl⟩
    · rw [rheP_inf ix, rheP_inf ix]; exact ⟨rfl, rfl⟩
  · rcases hx.1.cases with fx | ⟨ix, _⟩
    · rw [rheP_fin fx, rheP_fin (x := negP x) fx, round_neg fx]; exact ⟨rfl, rfl⟩
    · rw [rheP_inf ix, rheP_inf (x := negP x) ix]; exact ⟨rfl, rfl⟩
  · by_cases h : 0 < ordP x y
    · exact .inl h
    right
    rcases hx.1.cases with fx | ⟨ix, _⟩ <;> rcases hy.1.cases with fy | ⟨iy, _⟩
    · rw [ordP_fin fx fy, sg_pos] at h
      rw [rheP_fin fx, rheP_fin fy]
      have := round_mono (p := p) fx fy (by omega)
      omega
    · rw [rheP_fin fx, rheP_inf iy, ordP_fi (round_pos x p) iy]; rwa [ordP_fi fx iy] at h
    · rw [rheP_inf ix, rheP_fin fy, ordP_if ix (round_pos y p)]; rwa [ordP_if ix fy] at h
    · rw [rheP_inf ix, rheP_inf iy]; exact h
def abZ (n : Int) : Int := if n < 0 then -n else n
def mxZ (a b : Int) : Int := if b > a then b else a
abbrev ta (p : Int) : Int := 10 ^ (mxZ (-p) 0).toNat
abbrev tb (p : Int) : Int := 10 ^ (mxZ p 0).toNat
theorem ta_eq (p : Int) : ta p = tA p := by unfold ta tA tenP mxZ; congr 1; omega
theorem tb_eq (p : Int) : tb p = tB p := by unfold tb tB tenP mxZ; congr 1; omega
theorem unit_sz {p : Int} (h1 : -2 ≤ p) (h2 : p ≤ 4) : (0 ≤ mxZ (-p) 0 ∧ mxZ (-p) 0 ≤ 4) ∧ (0 ≤ mxZ p 0 ∧ mxZ p 0 ≤ 4) ∧ 0 < ta p ∧ 0 < tb p ∧ Sz 40 (ta p) ∧ Sz 40 (tb p) := by
  refine ⟨by unfold mxZ; omega, by unfold mxZ; omega, by rw [ta_eq]; exact tA_pos p, by rw [tb_eq]; exact tB_pos p, ?_, ?_⟩
  · rw [ta_eq]; exact Sz_ten (i := 0) (by omega) |>.le (by omega)
  · rw [tb_eq]; exact Sz_ten (i := 0) (by omega) |>.le (by omega)
theorem abZ_le {a b : Int} : abZ a ≤ b ↔ (a ≤ b ∧ -a ≤ b) := by unfold abZ; omega
theorem abZ_mul {a k : Int} (h : 0 < k) : abZ a * k = abZ (a * k) := by
  unfold abZ
  have : a * k < 0 ↔ a < 0 := by
    constructor
    · intro l; apply Int.not_le.mp; intro q; have := Int.mul_nonneg q (show 0 ≤ k by omega); omega
    · intro l; exact Int.mul_neg_of_neg_of_pos l h
  by_cases l : a < 0
  · rw [if_pos l, if_pos (this.mpr l), Int.neg_mul]
  · rw [if_neg l, if_neg (fun q => l (this.mp q))]
theorem Sz_abZ {i : Nat} {n : Int} (h : Sz i n) : Sz i (abZ n) := h.of (by unfold abZ; omega)
theorem rounded_at {x : P} {p : Int} {i : Nat} (hx : V x) (hx2 : 0 < x.2) (hS : Sm i x) (h1 : -2 ≤ p) (h2 : p ≤ 4) {f u : P} (hf : rheP x p = f) (hu : makeP (ta p) (tb p) = u) :
    (0 < f.2 * u.1 ∧ Sz (9 * i + 160) (f.1 * u.2) ∧ Sz (9 * i + 160) (-f.1 * u.2) ∧ Sz (9 * i + 160) (f.2 * u.1) ∧
    Sz (30 * i + 400) (abZ (f.1 * x.2 - x.1 * f.2)) ∧ Sz (30 * i + 402) (abZ (f.1 * x.2 - x.1 * f.2) * 2) ∧ Sz (10 * i + 80) (f.2 * x.2)) ∧
    (abZ (f.1 * x.2 - x.1 * f.2) * 2 * u.2 ≤ f.2 * x.2 * u.1 ∧
    (0 ≤ f.1 → (makeP (f.1 * u.2) (f.2 * u.1)).2 = 1 ∧ (abZ (f.1 * x.2 - x.1 * f.2) * 2 * u.2 < f.2 * x.2 * u.1 ∨ (makeP (f.1 * u.2) (f.2 * u.1)).1 % 2 = 0)) ∧
    (¬ 0 ≤ f.1 → (makeP (-f.1 * u.2) (f.2 * u.1)).2 = 1 ∧ (abZ (f.1 * x.2 - x.1 * f.2) * 2 * u.2 < f.2 * x.2 * u.1 ∨ (makeP (-f.1 * u.2) (f.2 * u.1)).1 % 2 = 0))) := by
  obtain ⟨_, _, _, _, z3, z4⟩ := unit_sz h1 h2
  have sf : Sm (9 * i + 80) f := by rw [← hf]; exact (W_rhe hx.1 hS h1 h2).2
  have eu : u = (tA p, tB p) := by
    rw [← hu, ta_eq, tb_eq]
    refine makeP_unique (tB_pos p) (x := (tA p, tB p)) (tB_pos p) ?_ rfl
    rcases tAB p with e | e <;> dsimp only <;> rw [e]
    · exact Int.gcd_one_left _
    · exact Int.gcd_one
  rw [ta_eq] at z3; rw [tb_eq] at z4
  have u1 : u.1 = tA p := by rw [eu]
  have u2 : u.2 = tB p := by rw [eu]
  rw [u1, u2]
  obtain ⟨N, hN⟩ : ∃ N, nearI (x.1 * tB p) (x.2 * tA p) = N := ⟨_, rfl⟩
  have nr := round_near x p hx2
  rw [hN] at nr
  have ef : f = makeP (N * tA p) (tB p) := by rw [← hf, rheP_fin hx2, roundP_AB, hN]
  have s := makeP_spec (n := N * tA p) (tB_pos p)
  rw [← ef] at s
  obtain ⟨s1, s2, s3, _⟩ := s
  have pa := tA_pos p
  have pb := tB_pos p
  generalize tA p = A at *
  generalize tB p = B at *
  have pfa := Int.mul_pos s1 pa
  have cnt : makeP (f.1 * B) (f.2 * A) = (N, 1) := makeP_unique pfa (x := (N, 1)) Int.one_pos Int.gcd_one (by dsimp only; grind)
  have cnt' : makeP (-f.1 * B) (f.2 * A) = (-N, 1) := makeP_unique pfa (x := (-N, 1)) Int.one_pos Int.gcd_one (by dsimp only; grind)
  have gap : abZ (f.1 * x.2 - x.1 * f.2) * 2 * B = f.2 * abZ (2 * (N * (x.2 * A) - x.1 * B)) := by
    rw [Int.mul_assoc, abZ_mul (by omega), Int.mul_comm f.2, abZ_mul s1]
    congr 1; grind
  refine ⟨⟨pfa, (sf.1.mul z4).le (by omega), ?_, (sf.2.mul z3).le (by omega), ?_, ?_, (sf.2.mul hS.2).le (by omega)⟩, ?_, ?_, ?_⟩
  · have : Sz (9 * i + 80) (-f.1) := sf.1.of (by omega)
    exact (this.mul z4).le (by omega)
  · exact (Sz_abZ ((sf.1.mul hS.2).sub (hS.1.mul sf.2))).le (by omega)
  · have h := (Sz_abZ ((sf.1.mul hS.2).sub (hS.1.mul sf.2)))
    have two : Sz 2 2 := by unfold Sz; decide
    exact (h.mul two).le (by omega)
  all_goals (obtain ⟨n1, n2, n3⟩ := nr)
  · rw [gap, Int.mul_assoc]
    refine Int.mul_le_mul_of_nonneg_left ?_ (by omega)
    rw [abZ_le]; omega
  all_goals (intro _; (first | rw [cnt] | rw [cnt']); dsimp only; refine ⟨rfl, ?_⟩; rw [gap, Int.mul_assoc])
  all_goals (
    by_cases e : 2 * (N * (x.2 * A) - x.1 * B) = x.2 * A ∨ 2 * (N * (x.2 * A) - x.1 * B) = -(x.2 * A)
    · right; have := n3 e; omega
    · left
      refine Int.mul_lt_mul_of_pos_left ?_ s1
      unfold abZ; omega)
theorem tA_nn {p : Int} (h : 0 ≤ p) : tA p = 1 := by unfold tA tenP; rw [show (0 - p).toNat = 0 by omega]; rfl
theorem tens (j k : Int) : tB j * tB k * tA (j + k) = tB (j + k) * tA j * tA k := by
  unfold tA tB tenP
  rw [← Int.pow_add, ← Int.pow_add, ← Int.pow_add, ← Int.pow_add]
  congr 1; omega
theorem exists_up (n : Int) : ∀ (m : Nat) (d : Int), 0 < d → d ≤ n → (n - d).toNat ≤ m → ∃ k : Nat, d * 10 ^ k ≤ n ∧ n < 10 * (d * 10 ^ k) := by
  intro m
  induction m with
  | zero => intro d h1 h2 h3; exact ⟨0, by simp; omega, by simp; omega⟩
  | succ m ih =>
    intro d h1 h2 h3
    by_cases c : n < 10 * d
    · exact ⟨0, by simp; omega, by simp; omega⟩
    · obtain ⟨k, a, b⟩ := ih (10 * d) (by omega) (by omega) (by omega)
      have e : d * 10 ^ (k + 1) = 10 * d * 10 ^ k := by rw [Int.pow_succ]; grind
      exact ⟨k + 1, by omega, by omega⟩
theorem exists_down (d : Int) : ∀ (m : Nat) (n : Int), 0 < n → n < 10 * d → (d - n).toNat ≤ m → ∃ k : Nat, d ≤ n * 10 ^ k ∧ n * 10 ^ k < 10 * d := by
  intro m
  induction m with
  | zero => intro n h1 h2 h3; exact ⟨0, by simp; omega, by simp; omega⟩
  | succ m ih =>
    intro n h1 h2 h3
    by_cases c : d ≤ n
    · exact ⟨0, by simp; omega, by simp; omega⟩
    · obtain ⟨k, a, b⟩ := ih (10 * n) (by omega) (by omega) (by omega)
      have e : n * 10 ^ (k + 1) = 10 * n * 10 ^ k := by rw [Int.pow_succ]; grind
      exact ⟨k + 1, by omega, by omega⟩
theorem ExpIs_exists {x : P} (hx2 : 0 < x.2) (hx1 : x.1 ≠ 0) : ∃ e, ExpIs x e := by
  have n0 : 0 < (x.1.natAbs : Int) := by omega
  unfold ExpIs
  generalize (x.1.natAbs : Int) = n at *
  by_cases h : x.2 ≤ n
  · obtain ⟨k, a, b⟩ := exists_up n _ x.2 hx2 h (Nat.le_refl _)
    refine ⟨(k : Int), ?_⟩
    rw [if_pos (by omega)]; exact ⟨a, b⟩
  · obtain ⟨k, a, b⟩ := exists_down x.2 _ n n0 (by omega) (Nat.le_refl _)
    by_cases k0 : k = 0
    · subst k0; simp at a; omega
    · refine ⟨-(k : Int), ?_⟩
      rw [if_neg (by omega), show 0 - -(k : Int) = k by omega]; exact ⟨a, b⟩
theorem expP_is {x : P} (hx2 : 0 < x.2) (hx1 : x.1 ≠ 0) : ExpIs x (expP x) := by
  obtain ⟨e, h⟩ := ExpIs_exists hx2 hx1
  rw [← expP_eq hx2 hx1 h]; exact h
/-- the exponent, by the tens' fractions -/
theorem ExpIs_iff {x : P} {e : Int} : ExpIs x e ↔ (x.2 * tB e ≤ x.1.natAbs * tA e ∧ x.1.natAbs * tA e < 10 * (x.2 * tB e)) := by
  unfold ExpIs tA tB
  by_cases h : 0 ≤ e
  · rw [if_pos h]
    have : tenP (0 - e) = 1 := by unfold tenP; rw [show (0 - e).toNat = 0 by omega]; rfl
    rw [this, Int.mul_one]
  · rw [if_neg h]
    have : tenP e = 1 := by unfold tenP; rw [show e.toNat = 0 by omega]; rfl
    rw [this, Int.mul_one]
theorem exp_bound {i : Nat} {x : P} {e : Int} (hx2 : 0 < x.2) (hx1 : x.1 ≠ 0) (hS : Sm i x) (h : ExpIs x e) : -(i : Int) ≤ e ∧ e ≤ i := by
  have s1 : (x.1.natAbs : Int) < 2 ^ i := by have h := hS.1; unfold Sz at h; exact_mod_cast h
  have s2 : x.2 < 2 ^ i := by have h := hS.2; unfold Sz at h; have h' : (x.2.natAbs : Int) < ((2 ^ i : Nat) : Int) := by exact_mod_cast h
                              simp at h'; omega
  have n0 : 0 < (x.1.natAbs : Int) := by omega
  unfold ExpIs at h
  generalize (x.1.natAbs : Int) = n at *
  by_cases he : 0 ≤ e
  · rw [if_pos he] at h
    refine ⟨by omega, Int.not_lt.mp fun l => ?_⟩
    have t1 : tenP (i : Int) ≤ tenP e := tenP_le (by omega)
    have t2 : (2 : Int) ^ i ≤ tenP (i : Int) := two_lt_ten i
    have m : 1 * tenP e ≤ x.2 * tenP e := Int.mul_le_mul_of_nonneg_right (by omega) (by have := ten_pos e; omega)
    omega
  · rw [if_neg he] at h
    refine ⟨Int.not_lt.mp fun l => ?_, by omega⟩
    have t1 : tenP ((i : Int) + 1) ≤ tenP (0 - e) := tenP_le (by omega)
    rw [tenP_succ (by omega)] at t1
    have t2 : (2 : Int) ^ i ≤ tenP (i : Int) := two_lt_ten i
    have m : 1 * tenP (0 - e) ≤ n * tenP (0 - e) := Int.mul_le_mul_of_nonneg_right (by omega) (by have := ten_pos (0 - e); omega)
    omega
theorem W_sig {x : P} {p : Int} {i : Nat} (h : W x) (hS : Sm i x) (h1 : 1 ≤ p) (h2 : p ≤ 9) : W (sigP x p) ∧ Sm (9 * i + 80) (sigP x p) := by
  unfold sigP
  split
  · exact ⟨h, hS.le (by omega)⟩
  · rename_i c
    have fx : 0 < x.2 := by unfold W at h; omega
    have b := exp_bound fx (by omega) hS (expP_is fx (by omega))
    exact ⟨W_round fx, Sm_round fx hS (by omega) (by omega)⟩
/-! what signif gives of a number that is no nought -/
/-- T ≤ |N| ≤ 10 T for the whole number N of the rounding, its sign that of x -/
theorem sig_whole {x : P} {g e : Int} (hx : 0 < x.2) (hg : 1 ≤ g) (h : ExpIs x e) (hs : 0 < x.1) :
    tB (g - 1) ≤ nearI (x.1 * tB (g - 1 - e)) (x.2 * tA (g - 1 - e)) ∧ nearI (x.1 * tB (g - 1 - e)) (x.2 * tA (g - 1 - e)) ≤ 10 * tB (g - 1) := by
  rw [ExpIs_iff, show (x.1.natAbs : Int) = x.1 by omega] at h
  have tn := tens (g - 1 - e) e
  rw [show g - 1 - e + e = g - 1 by omega, tA_nn (by omega), Int.mul_one] at tn
  have a := tA_pos (g - 1 - e)
  have b := tB_pos (g - 1 - e)
  have c := tA_pos e
  have d := tB_pos e
  have t := tB_pos (g - 1)
  generalize tA (g - 1 - e) = A at *
  generalize tB (g - 1 - e) = B at *
  generalize tA e = a' at *
  generalize tB e = b' at *
  generalize tB (g - 1) = T at *
  have D := Int.mul_pos hx a
  -- T D ≤ x1 B < 10 T D
  have l1 : T * (x.2 * A) ≤ x.1 * B := by
    have m := Int.mul_le_mul_of_nonneg_right h.1 (show 0 ≤ B by omega)
    have e1 : T * (x.2 * A) * a' = x.2 * (B * b') := by rw [tn]; grind
    have e2 : x.2 * b' * B = x.2 * (B * b') := by grind
    have e3 : x.1 * B * a' = x.1 * a' * B := by grind
    have : T * (x.2 * A) * a' ≤ x.1 * B * a' := by omega
    exact Int.le_of_mul_le_mul_right this c
  have l2 : x.1 * B ≤ 10 * T * (x.2 * A) := by
    have m := Int.mul_le_mul_of_nonneg_right (Int.le_of_lt h.2) (show 0 ≤ B by omega)
    have e1 : 10 * T * (x.2 * A) * a' = 10 * x.2 * (B * b') := by rw [tn]; grind
    have e2 : 10 * (x.2 * b') * B = 10 * x.2 * (B * b') := by grind
    have e3 : x.1 * B * a' = x.1 * a' * B := by grind
    have : x.1 * B * a' ≤ 10 * T * (x.2 * A) * a' := by omega
    exact Int.le_of_mul_le_mul_right this c
  constructor
  · exact near_le D D (near_whole T D) (near_spec _ D) (Int.mul_le_mul_of_nonneg_right l1 (by omega))
  · exact near_le D D (near_spec _ D) (near_whole (10 * T) D) (Int.mul_le_mul_of_nonneg_right l2 (by omega))
theorem sig_fin {x : P} {g : Int} (hx2 : x.2 ≠ 0) (hx1 : x.1 ≠ 0) : sigP x g = roundP x (g - 1 - expP x) := by
  unfold sigP; rw [if_neg (by omega)]
theorem expP_neg {x : P} (hx2 : 0 < x.2) (hx1 : x.1 ≠ 0) : expP (negP x) = expP x := by
  refine (expP_eq (x := negP x) hx2 (by unfold negP; dsimp only; omega) ?_).symm
  have h := expP_is hx2 hx1
  unfold ExpIs negP at *
  dsimp only
  rw [show (0 - x.1).natAbs = x.1.natAbs by omega]
  exact h
theorem sig_neg {x : P} {g : Int} (hx : W x) : sigP (negP x) g = negP (sigP x g) := by
  rcases hx.cases with fx | ⟨ix, jx⟩
  · by_cases h : x.1 = 0
    · have e : negP x = x := by unfold negP; ext <;> dsimp only; omega
      have s : sigP x g = x := by unfold sigP; rw [if_pos (.inr h)]
      rw [e, s, e]
    · rw [sig_fin (x := negP x) (show x.2 ≠ 0 by omega) (by unfold negP; dsimp only; omega), sig_fin (by omega) h, expP_neg fx h, round_neg fx]
  · have s : ∀ y : P, y.2 = 0 → sigP y g = y := fun y hy => by unfold sigP; rw [if_pos (.inl hy)]
    rw [s x ix, s (negP x) ix]
/-- the rounded value of a positive number: its place between the tens, and the grid -/
theorem sig_pos {x : P} {g : Int} (hx : 0 < x.2) (hg : 1 ≤ g) (hs : 0 < x.1) :
    0 < (sigP x g).2 ∧ 0 < (sigP x g).1 ∧ Int.gcd (sigP x g).1 (sigP x g).2 = 1 ∧
    (sigP x g).2 * tB (expP x) ≤ (sigP x g).1 * tA (expP x) ∧ (sigP x g).1 * tA (expP x) ≤ 10 * ((sigP x g).2 * tB (expP x)) ∧ sigP (sigP x g) g = sigP x g := by
  have h := expP_is hx (show x.1 ≠ 0 by omega)
  have hw := sig_whole (g := g) hx hg h hs
  have ef := sig_fin (x := x) (g := g) (by omega) (by omega)
  have er := roundP_AB x (g - 1 - expP x)
  obtain ⟨e, he⟩ : ∃ e, expP x = e := ⟨_, rfl⟩
  obtain ⟨N, hN⟩ : ∃ N, nearI (x.1 * tB (g - 1 - expP x)) (x.2 * tA (g - 1 - expP x)) = N := ⟨_, rfl⟩
  rw [hN] at hw er
  rw [← ef] at er
  have hid := round_idem (x := x) (p := g - 1 - expP x)
  rw [← ef] at hid
  obtain ⟨f, hf⟩ : ∃ f, sigP x g = f := ⟨_, rfl⟩
  rw [hf] at er hid ⊢
  rw [he] at er hid ⊢
  have s := makeP_spec (n := N * tA (g - 1 - e)) (tB_pos (g - 1 - e))
  rw [← er] at s
  obtain ⟨f2, fx, fg, _⟩ := s
  have tn := tens (g - 1 - e) e
  rw [show g - 1 - e + e = g - 1 by omega, tA_nn (p := g - 1) (by omega), Int.mul_one] at tn
  have tn1 := tens e 1
  rw [tA_nn (p := 1) (by decide), Int.mul_one, show tB 1 = 10 from rfl] at tn1
  have tn2 := tens (g - 1 - e - 1) 1
  rw [tA_nn (p := 1) (by decide), Int.mul_one, show tB 1 = 10 from rfl, show g - 1 - e - 1 + 1 = g - 1 - e by omega] at tn2
  have a := tA_pos (g - 1 - e)
  have b := tB_pos (g - 1 - e)
  have c := tA_pos e
  have d := tB_pos e
  have t := tB_pos (g - 1)
  have c1 := tA_pos (e + 1)
  have d1 := tB_pos (e + 1)
  have a1 := tA_pos (g - 1 - e - 1)
  have N0 : 0 < N := by omega
  have f1 : 0 < f.1 := by
    have : 0 < N * tA (g - 1 - e) * f.2 := Int.mul_pos (Int.mul_pos N0 a) f2
    rw [← fx] at this
    exact Int.pos_of_mul_pos_left this b |> fun q => q
  have lo : f.2 * tB e ≤ f.1 * tA e := by
    have m := Int.mul_le_mul_of_nonneg_right hw.1 (show 0 ≤ tA (g - 1 - e) * f.2 * tA e from Int.le_of_lt (Int.mul_pos (Int.mul_pos a f2) c))
    have e1 : f.2 * tB e * tB (g - 1 - e) = f.2 * (tB (g - 1 - e) * tB e) := by grind
    have e2 : f.1 * tA e * tB (g - 1 - e) = (f.1 * tB (g - 1 - e)) * tA e := by grind
    have e3 : f.2 * (tB (g - 1) * tA (g - 1 - e) * tA e) = tB (g - 1) * (tA (g - 1 - e) * f.2 * tA e) := by grind
    have e4 : N * tA (g - 1 - e) * f.2 * tA e = N * (tA (g - 1 - e) * f.2 * tA e) := by grind
    rw [tn, e3] at e1
    rw [fx, e4] at e2
    have : f.2 * tB e * tB (g - 1 - e) ≤ f.1 * tA e * tB (g - 1 - e) := by rw [e1, e2]; exact m
    exact Int.le_of_mul_le_mul_right this b
  have hi : f.1 * tA e ≤ 10 * (f.2 * tB e) := by
    have m := Int.mul_le_mul_of_nonneg_right hw.2 (show 0 ≤ tA (g - 1 - e) * f.2 * tA e from Int.le_of_lt (Int.mul_pos (Int.mul_pos a f2) c))
    have e1 : 10 * (f.2 * tB e) * tB (g - 1 - e) = 10 * f.2 * (tB (g - 1 - e) * tB e) := by grind
    have e2 : f.1 * tA e * tB (g - 1 - e) = (f.1 * tB (g - 1 - e)) * tA e := by grind
    have e3 : 10 * f.2 * (tB (g - 1) * tA (g - 1 - e) * tA e) = 10 * tB (g - 1) * (tA (g - 1 - e) * f.2 * tA e) := by grind
    have e4 : N * tA (g - 1 - e) * f.2 * tA e = N * (tA (g - 1 - e) * f.2 * tA e) := by grind
    rw [tn, e3] at e1
    rw [fx, e4] at e2
    have : f.1 * tA e * tB (g - 1 - e) ≤ 10 * (f.2 * tB e) * tB (g - 1 - e) := by rw [e1, e2]; exact m
    exact Int.le_of_mul_le_mul_right this b
  refine ⟨f2, f1, fg, lo, hi, ?_⟩
  by_cases top : f.1 * tA e < 10 * (f.2 * tB e)
  · have : e = expP f := expP_eq f2 (by omega) (ExpIs_iff.mpr (by rw [show (f.1.natAbs : Int) = f.1 by omega]; exact ⟨lo, top⟩))
    rw [sig_fin (by omega) (by omega), ← this]; exact hid
  · have eqt : f.1 * tA e = 10 * (f.2 * tB e) := by omega
    have k1 : f.1 * tA (e + 1) = f.2 * tB (e + 1) := by
      refine Int.eq_of_mul_eq_mul_right (show tA e ≠ 0 by omega) ?_
      grind
    have : e + 1 = expP f := expP_eq f2 (by omega) (ExpIs_iff.mpr (by
      rw [show (f.1.natAbs : Int) = f.1 by omega, k1]
      have := Int.mul_pos f2 d1
      omega))
    rw [sig_fin (by omega) (by omega), ← this, show g - 1 - (e + 1) = g - 1 - e - 1 by omega]
    -- N = 10 T
    have eN : N = 10 * tB (g - 1) := by
      refine Int.eq_of_mul_eq_mul_right (show tA (g - 1 - e) * f.2 * tA e ≠ 0 from Int.ne_of_gt (Int.mul_pos (Int.mul_pos a f2) c)) ?_
      grind
    refine round_grid f2 fg (m := tB (g - 1)) ?_
    refine Int.eq_of_mul_eq_mul_right (show 10 * tA (g - 1 - e) ≠ 0 by omega) ?_
    grind
theorem tens_lt {e f : Int} (h : e < f) : 10 * (tB e * tA f) ≤ tB f * tA e := by
  have t := tens e (f - e)
  rw [show e + (f - e) = f by omega, tA_nn (p := f - e) (by omega), Int.mul_one] at t
  have k : tB 1 ≤ tB (f - e) := tenP_le (by omega)
  rw [show tB 1 = 10 from rfl] at k
  have p : 0 < tB e * tA f := Int.mul_pos (tB_pos e) (tA_pos f)
  have m := Int.mul_le_mul_of_nonneg_right k (show 0 ≤ tB e * tA f by omega)
  have e1 : tB (f - e) * (tB e * tA f) = tB e * tB (f - e) * tA f := by grind
  rw [e1, t] at m
  exact m
/-- signif keeps the order of positive numbers -/
theorem sig_mono_pos {x y : P} {g : Int} (hx : 0 < x.2) (hy : 0 < y.2) (hg : 1 ≤ g) (px : 0 < x.1) (py : 0 < y.1) (h : x.1 * y.2 ≤ y.1 * x.2) : ordP (sigP x g) (sigP y g) ≤ 0 := by
  have hex := ExpIs_iff.mp (expP_is hx (show x.1 ≠ 0 by omega))
  have hey := ExpIs_iff.mp (expP_is hy (show y.1 ≠ 0 by omega))
  rw [show (x.1.natAbs : Int) = x.1 by omega] at hex
  rw [show (y.1.natAbs : Int) = y.1 by omega] at hey
  have sx := sig_pos (g := g) hx hg px
  have sy := sig_pos (g := g) hy hg py
  have fx := sig_fin (x := x) (g := g) (by omega) (by omega)
  have fy := sig_fin (x := y) (g := g) (by omega) (by omega)
  obtain ⟨e, he⟩ : ∃ e, expP x = e := ⟨_, rfl⟩
  obtain ⟨f, hf⟩ : ∃ f, expP y = f := ⟨_, rfl⟩
  rw [he] at hex sx fx
  rw [hf] at hey sy fy
  rcases Int.lt_trichotomy e f with l | l | l
  · obtain ⟨a2, _, _, _, a5, _⟩ := sx
    obtain ⟨b2, _, _, b4, _, _⟩ := sy
    rw [ordP_fin a2 b2, sg_le]
    have t := tens_lt l
    have A := tA_pos e
    have B := tA_pos f
    generalize sigP x g = u at *
    generalize sigP y g = v at *
    have AB := Int.mul_pos A B
    refine Int.le_of_mul_le_mul_right ?_ AB
    -- u1 v2 A B <= 10 u2 tBe v2 B <= u2 v2 tBf A <= v1 B u2 A
    have m1 := Int.mul_le_mul_of_nonneg_right a5 (show 0 ≤ v.2 * tA f from Int.le_of_lt (Int.mul_pos b2 B))
    have m2 := Int.mul_le_mul_of_nonneg_right t (show 0 ≤ u.2 * v.2 from Int.le_of_lt (Int.mul_pos a2 b2))
    have m3 := Int.mul_le_mul_of_nonneg_right b4 (show 0 ≤ u.2 * tA e from Int.le_of_lt (Int.mul_pos a2 A))
    have e1 : u.1 * v.2 * (tA e * tA f) = u.1 * tA e * (v.2 * tA f) := by grind
    have e2 : 10 * (u.2 * tB e) * (v.2 * tA f) = 10 * (tB e * tA f) * (u.2 * v.2) := by grind
    have e3 : tB f * tA e * (u.2 * v.2) = v.2 * tB f * (u.2 * tA e) := by grind
    have e4 : v.1 * u.2 * (tA e * tA f) = v.1 * tA f * (u.2 * tA e) := by grind
    omega
  · subst l
    rw [fx, fy]; exact round_mono hx hy h
  · exfalso
    have t := tens_lt l
    have A := tA_pos e
    have B := tA_pos f
    have m0 := Int.mul_le_mul_of_nonneg_right h (show 0 ≤ tA e * tA f from Int.le_of_lt (Int.mul_pos A B))
    have m1 := Int.mul_le_mul_of_nonneg_right hex.1 (show 0 ≤ y.2 * tA f from Int.le_of_lt (Int.mul_pos hy B))
    have m2 := Int.mul_le_mul_of_nonneg_right t (show 0 ≤ x.2 * y.2 from Int.le_of_lt (Int.mul_pos hx hy))
    have m3 := Int.mul_lt_mul_of_pos_right hey.2 (show 0 < x.2 * tA e from Int.mul_pos hx A)
    have e1 : x.1 * y.2 * (tA e * tA f) = x.1 * tA e * (y.2 * tA f) := by grind
    have e2 : x.2 * tB e * (y.2 * tA f) = tB e * tA f * (x.2 * y.2) := by grind
    have e3 : 10 * (tB f * tA e) * (x.2 * y.2) = 10 * (y.2 * tB f) * (x.2 * tA e) := by grind
    have e4 : y.1 * x.2 * (tA e * tA f) = y.1 * tA f * (x.2 * tA e) := by grind
    omega
theorem negP_W {x : P} (h : 0 < x.2) : 0 < (negP x).2 := h
/-- the sign of what signif gives -/
theorem sig_sign {x : P} {g : Int} (hx : 0 < x.2) (hg : 1 ≤ g) : 0 < (sigP x g).2 ∧ (0 < x.1 → 0 < (sigP x g).1) ∧ (x.1 < 0 → (sigP x g).1 < 0) ∧ (x.1 = 0 → (sigP x g).1 = 0) := by
  by_cases z : x.1 = 0
  · have s : sigP x g = x := by unfold sigP; rw [if_pos (.inr z)]
    rw [s]; exact ⟨hx, by omega, by omega, by omega⟩
  by_cases p : 0 < x.1
  · have s := sig_pos (g := g) hx hg p
    exact ⟨s.1, fun _ => s.2.1, by omega, by omega⟩
  · have s := sig_pos (x := negP x) (g := g) hx hg (by unfold negP; dsimp only; omega)
    rw [sig_neg (Or.inl hx)] at s
    have s1 : 0 < (sigP x g).2 := s.1
    have s2 : 0 < 0 - (sigP x g).1 := s.2.1
    exact ⟨s1, by omega, by omega, by omega⟩
theorem sig_inf {x : P} {g : Int} (h : x.2 = 0) : sigP x g = x := by unfold sigP; rw [if_pos (.inl h)]
theorem sig_mono {x y : P} {g : Int} (hx : W x) (hy : W y) (hg : 1 ≤ g) (h : ¬ 0 < ordP x y) : ordP (sigP x g) (sigP y g) ≤ 0 := by
  rcases hx.cases with fx | ⟨ix, jx⟩ <;> rcases hy.cases with fy | ⟨iy, jy⟩
  · obtain ⟨a1, a2, a3, a4⟩ := sig_sign (g := g) fx hg
    obtain ⟨b1, b2, b3, b4⟩ := sig_sign (g := g) fy hg
    rw [ordP_fin fx fy, sg_pos] at h
    by_cases pp : 0 < x.1 ∧ 0 < y.1
    · exact sig_mono_pos fx fy hg pp.1 pp.2 (by omega)
    by_cases nn : x.1 < 0 ∧ y.1 < 0
    · have q := sig_mono_pos (x := negP y) (y := negP x) (g := g) fy fx hg (by unfold negP; dsimp only; omega) (by unfold negP; dsimp only; omega) (by
        unfold negP; dsimp only
        have e1 : (0 - y.1) * x.2 = -(y.1 * x.2) := by grind
        have e2 : (0 - x.1) * y.2 = -(x.1 * y.2) := by grind
        omega)
      rw [sig_neg hx, sig_neg hy, ord_neg, ← ord_swap] at q
      exact q
    -- x <= 0 <= y
    have xs : x.1 ≤ 0 := by
      apply Int.not_lt.mp; intro l
      have y0 : y.1 ≤ 0 := by omega
      have m := Int.mul_pos l fy
      have m' := Int.mul_nonneg (show 0 ≤ -y.1 by omega) (show 0 ≤ x.2 by omega)
      rw [Int.neg_mul] at m'; omega
    have ys : 0 ≤ y.1 := by
      apply Int.not_lt.mp; intro l
      have x0 : x.1 = 0 := by omega
      have m := Int.mul_pos (show 0 < -y.1 by omega) fx
      rw [Int.neg_mul] at m
      rw [x0, Int.zero_mul] at h; omega
    have us : (sigP x g).1 ≤ 0 := by
      rcases Int.lt_or_eq_of_le xs with l | l
      · have := a3 l; omega
      · have := a4 l; omega
    have vs : 0 ≤ (sigP y g).1 := by
      rcases Int.lt_or_eq_of_le ys with l | l
      · have := b2 l; omega
      · have := b4 l.symm; omega
    rw [ordP_fin a1 b1, sg_le]
    have m := Int.mul_nonneg (show 0 ≤ -(sigP x g).1 by omega) (show 0 ≤ (sigP y g).2 by omega)
    have m' := Int.mul_nonneg vs (show 0 ≤ (sigP x g).2 by omega)
    rw [Int.neg_mul] at m; omega
  · rw [sig_inf iy, ordP_fi (sig_sign fx hg).1 iy]; rw [ordP_fi fx iy] at h; omega
  · rw [sig_inf ix, ordP_if ix (sig_sign fy hg).1]; rw [ordP_if ix fy] at h; omega
  · rw [sig_inf ix, sig_inf iy]; omega
theorem sig_idem {x : P} {g : Int} (hx : W x) (hg : 1 ≤ g) : sigP (sigP x g) g = sigP x g := by
  rcases hx.cases with fx | ⟨ix, jx⟩
  · by_cases z : x.1 = 0
    · have s : sigP x g = x := by unfold sigP; rw [if_pos (.inr z)]
      rw [s, s]
    by_cases p : 0 < x.1
    · exact (sig_pos fx hg p).2.2.2.2.2
    · have s := sig_pos (x := negP x) (g := g) fx hg (by unfold negP; dsimp only; omega)
      have q := s.2.2.2.2.2
      rw [sig_neg hx, sig_neg (Or.inl (sig_sign fx hg).1)] at q
      have := congrArg negP q
      rwa [negP_negP, negP_negP] at this
  · rw [sig_inf ix, sig_inf ix]
theorem signif_so {x y : P} {p : Int} (hx : V x) (hy : V y) (h1 : 1 ≤ p) (h2 : p ≤ 9) :
    ((sigP (sigP x p) p).1 = (sigP x p).1 ∧ (sigP (sigP x p) p).2 = (sigP x p).2) ∧
    ((sigP (negP x) p).1 = (negP (sigP x p)).1 ∧ (sigP (negP x) p).2 = (negP (sigP x p)).2) ∧ (0 < ordP x y ∨ ordP (sigP x p) (sigP y p) ≤ 0) := by
  rw [sig_idem hx.1 h1, sig_neg hx.1]
  refine ⟨⟨rfl, rfl⟩, ⟨rfl, rfl⟩, ?_⟩
  by_cases h : 0 < ordP x y
  · exact .inl h
  · exact .inr (sig_mono hx.1 hy.1 h1 h)
theorem sz10 : Sz 4 10 := by unfold Sz; decide
theorem nz_mul (a b : Int) : a = 0 ∨ b = 0 ∨ a * b ≠ 0 := by
  by_cases h : a = 0
  · exact .inl h
  · by_cases k : b = 0
    · exact .inr (.inl k)
    · exact .inr (.inr (Int.mul_ne_zero h k))
theorem makeP_i {n d : Int} (h : d = 0) (k : 0 < n) : (1, 0) = makeP n d := by unfold makeP; rw [if_pos h, if_pos k]
theorem makeP_j {n d : Int} (h : d = 0) (k : ¬ 0 < n) : (-1, 0) = makeP n d := by unfold makeP; rw [if_pos h, if_neg k]
theorem makeP_n {n d : Int} (h : d < 0) {g : Int} (e : g = Int.gcd (0 - n) (0 - d)) : ((0 - n) / g, (0 - d) / g) = makeP n d := by
  unfold makeP; rw [if_neg (by omega), if_pos h, e]
  rw [show Int.gcd (0 - n) (0 - d) = Int.gcd n d by simp]
theorem makeP_p {n d : Int} (h : ¬ d < 0) (h' : d ≠ 0) {g : Int} (e : g = Int.gcd n d) : (n / g, d / g) = makeP n d := by
  unfold makeP; rw [if_neg h', if_neg h, e]
theorem sg_b2i (a b : Int) : b2i (decide (b < a)) - b2i (decide (a < b)) = sg a b := by
  unfold sg b2i; simp only [decide_eq_true_eq]; omega
theorem Ex1.sz {i : Nat} {x : P} {d e : Int} (h : Ex1 i x d e) : Sz i d := h.2.2.1
theorem Ex2.sz {i : Nat} {x : P} {d n e : Int} (h : Ex2 i x d n e) (c : n < d) : Sz i n := by
  obtain ⟨h1, h2, _, h3, _⟩ := h
  exact Sz.of h3 (by omega)
theorem W01 : W ((0 : Int), (1 : Int)) := Or.inl (by decide)
theorem Sm01 : Sm 1 ((0 : Int), (1 : Int)) := by unfold Sm Sz; decide
theorem sz1 : Sz 1 1 := by unfold Sz; decide
theorem sz2 : Sz 2 2 := by unfold Sz; decide
theorem sgn_iff (n : Int) : (n = 0 ∧ sgn n = 0) ∨ (n ≠ 0 ∧ sgn n ≠ 0) := by unfold sgn; omega
theorem Sz_ord (x y : P) : Sz 1 (ordP x y) := by unfold Sz ordP sg; omega
def LpEnd (h₀ : Heap) (L : Addr) (s : Shared) (news : Led) (names : List Str) (m₀ : Str → Option Value) (s₃ : Shared) : Prop :=
  ∃ (h' : Heap) (tk' : Nat) (m' : Str → Option Value) (news' : Led), s₃ = { s with heap := h', toks := tk' } ∧ Fr h₀ L h' m' ∧ News h₀ L h' news' ∧ (∀ p ∈ news, p ∈ news') ∧ (∀ z, names.contains z = false → m' z = m₀ z)
theorem LpEnd.mk' {h₀ : Heap} {L : Addr} {s : Shared} {news news' : Led} {names : List Str} {m₀ m' : Str → Option Value} {h' : Heap} {tk' : Nat}
    (F : Fr h₀ L h' m') (N : News h₀ L h' news') (k : ∀ p ∈ news, p ∈ news') (a : ∀ z, names.contains z = false → m' z = m₀ z) : LpEnd h₀ L s news names m₀ { s with heap := h', toks := tk' } := ⟨h', tk', m', news', rfl, F, N, k, a⟩
def LpPost (h₀ : Heap) (L : Addr) (s : Shared) (news : Led) (names : List Str) (m₀ : Str → Option Value) (Q : Flow → Shared → Prop) (f : Flow) (s₃ : Shared) : Prop :=
  match f with
  | .ret v => Q (.ret v) s₃
  | .brk => Q .next s₃
  | _ => LpEnd h₀ L s news names m₀ s₃

section
variable {prog : Program} {w : World} {A : Around} {E : Value → Shared → Prop} {s : Shared} {env : Env} {h₀ : Heap} {target : PySem.Expr} {body : List Stmt} {Q : Flow → Shared → Prop}
theorem lp_fr {L : Addr} {h : Heap} {names : List Str} {m₀ m₁ : Str → Option Value} (h2 : ∀ z, names.contains z = false → m₁ z = m₀ z)
    (F : Fr h₀ L h m₁) : Fr h₀ L h (fun z => if names.contains z = true then m₁ z else m₀ z) := by
  have em : (fun z => if names.contains z = true then m₁ z else m₀ z) = m₁ := by
    funext y
    cases h3 : names.contains y with
    | true => simp
    | false => simp only [Bool.false_eq_true, if_false]; exact (h2 y h3).symm
  rw [em]; exact F
theorem loop_items {ax : Addr} {lo : Obj} {vs : List Value} {n : Nat} {m₀ : Str → Option Value} {news : Led} (names : List Str) (G : Value → Prop)
    (hh : A.handled = none) (F : Fr h₀ env.locals s.heap m₀) (N : News h₀ env.locals s.heap news) (hm : (ax, lo) ∈ news) (hc : lo.cls = .type "list") (hd : lo.data = .seq vs.toArray n) (hG : ∀ v ∈ vs, G v)
    (turn : ∀ (v : Value) (u : Str → Option Value) (news₁ : Led) h tk, G v → (∀ p ∈ news, p ∈ news₁) → Fr h₀ env.locals h (fun z => if names.contains z = true then u z else m₀ z) → News h₀ env.locals h news₁ →
      wpAny (model prog w) A (assign target env v) (fun _ s₂ => wpAny (model prog w) A (execs body env) (LpPost h₀ env.locals s news₁ names m₀ Q) E s₂) E { s with heap := h, toks := tk })
    (done : ∀ (u : Str → Option Value) (news₁ : Led) h tk, (∀ p ∈ news, p ∈ news₁) → Fr h₀ env.locals h (fun z => if names.contains z = true then u z else m₀ z) → News h₀ env.locals h news₁ → Q .next { s with heap := h, toks := tk }) :
    wpAny (model prog w) A (pyIter (.ref ax)) (fun it s₂ => TurnsAt prog w A h₀ env target body Q E it s₂) E s := by
  refine iter_listTurns hh F N hm hc hd fun I hI => ?_
  have key : ∀ (xs : List Value), (∀ v ∈ xs, G v) → ∀ (m : Str → Option Value) (news₁ : Led), (∀ p ∈ news, p ∈ news₁) → (∀ z, names.contains z = false → m z = m₀ z) →
      ItemsRest prog w A E h₀ env target body Q s [(I, "list_iterator")] [(ax, lo)] (xs.map .val) m news₁ := by
    intro xs
    induction xs with
    | nil =>
      intro _ m news₁ hs ha h tk F₁ N₁
      exact done m news₁ h tk hs (lp_fr ha F₁) N₁
    | cons v r ih =>
      intro hg m news₁ hs ha
      refine ItemsRest.val fun h tk F₁ => AllObj.cons fun o ho => AllObj.nil fun N₁ => ?_
      refine wpAny_mono (turn v m ([(I, o)] ++ news₁) h tk (hg v (.head _)) (fun p hp => List.mem_append_right _ (hs p hp)) (lp_fr ha F₁) N₁) (fun _ s₂ h₂ => wpAny_mono h₂ (fun f s₃ p => ?_) fun _ _ e => e) fun _ _ e => e
      have fin : LpEnd h₀ env.locals s ([(I, o)] ++ news₁) names m₀ s₃ → UnrEndW h₀ env.locals { s with heap := h, toks := tk } [(I, o)] (fun m' n' => SubL [(ax, lo)] n' ∧ ItemsRest prog w A E h₀ env target body Q s [(I, "list_iterator")] [(ax, lo)] (r.map .val) m' n') s₃ := by
        rintro ⟨h', tk', m', news', e, F', N', k, a⟩
        have low : ∀ p ∈ news, p ∈ news'.filter (fun p => p.1 != I) := fun p hp => by
          refine List.mem_filter.mpr ⟨k p (List.mem_append_right _ (hs p hp)), ?_⟩
          have : p.1 < I := hI p hp
          simp only [bne_iff_ne, ne_eq]
          exact fun e => by rw [e] at this; exact Nat.lt_irrefl _ this
        refine ⟨h', tk', m', news'.filter (fun p => p.1 != I), e, F', fun p hp => ?_, fun p hp q hq => ?_, ⟨low _ hm, trivial⟩, ih (fun v hv => hg v (.tail _ hv)) m' _ low a⟩
        · rcases List.mem_append.mp hp with hp | hp
          · exact N' p (k p (List.mem_append_left _ hp))
          · exact N' p (List.mem_filter.mp hp).1
        · rw [List.mem_singleton.mp hq]
          have := (List.mem_filter.mp hp).2
          simpa using this
      cases f with
      | ret v => exact p
      | brk => exact p
      | next => exact fin p
      | cont => exact fin p
  exact key vs hG m₀ news (fun _ h => h) fun _ _ => rfl
theorem abs_c {a : Int} {t : Tok} {Q : Value → Shared → Prop} (h : ∀ u tk, Q (.int (abZ a) u) { s with toks := tk }) : wpAny (model prog w) A (call (.builtin "abs") [.int a t]) Q E s := by
  refine call_abs_int fun u tk => ?_
  exact h u tk
theorem max_c {L : Addr} {m : Str → Option Value} {news : Led} {a b : Int} {t u : Tok} {Q : Value → Shared → Prop} (hh : A.handled = none) (F : Fr h₀ L s.heap m) (N : News h₀ L s.heap news)
    (h : ∀ v h' tk, Fr h₀ L h' m → News h₀ L h' news → Q (.int (mxZ a b) v) { s with heap := h', toks := tk }) :
    wpAny (model prog w) A (call (.builtin "max") [.int a t, .int b u]) Q E s := by
  refine max_two_N hh F N fun h' tk F' N' => ?_
  exact h _ h' tk F' N'
/-- two tuples of two ints compared -/
theorem tup_eq {L : Addr} {news : Led} {a b : Addr} {x y : P} {t u t' u' : Tok} {c c' : Nat} {Q : Value → Shared → Prop} (N : News h₀ L s.heap news) (ha : (a, tup x t u c) ∈ news) (hb : (b, tup y t' u' c') ∈ news) (hu : A.units + 64 < cLine)
    (h : Q (.bool (decide (x.1 = y.1 ∧ x.2 = y.2))) s) : wpAny (model prog w) A (compareOp .Eq (.ref a) (.ref b)) Q E s := by
  refine eq_dataH (da := .tuple [.int x.1, .int x.2]) (db := .tuple [.int y.1, .int y.2]) (reads_tuple_at (N _ ha).1 rfl rfl (ReadsAll.cons (Reads.int _ _) (ReadsAll.cons (Reads.int _ _) ReadsAll.nil))) (reads_tuple_at (N _ hb).1 rfl rfl (ReadsAll.cons (Reads.int _ _) (ReadsAll.cons (Reads.int _ _) ReadsAll.nil))) rfl rfl hu ?_
  have e : PyData.eqv (.tuple [.int x.1, .int x.2]) (.tuple [.int y.1, .int y.2]) = decide (x.1 = y.1 ∧ x.2 = y.2) := by
    rw [Bool.eq_iff_iff]; simp [PyData.eqv, PyData.eqvAll]
  rw [e]; exact h
theorem tup_ne {L : Addr} {news : Led} {a b : Addr} {x y : P} {t u t' u' : Tok} {c c' : Nat} {Q : Value → Shared → Prop} (N : News h₀ L s.heap news) (ha : (a, tup x t u c) ∈ news) (hb : (b, tup y t' u' c') ∈ news) (hu : A.units + 64 < cLine)
    (h : Q (.bool (decide (¬ (x.1 = y.1 ∧ x.2 = y.2)))) s) : wpAny (model prog w) A (compareOp .NotEq (.ref a) (.ref b)) Q E s := by
  refine ne_dataH (da := .tuple [.int x.1, .int x.2]) (db := .tuple [.int y.1, .int y.2]) (reads_tuple_at (N _ ha).1 rfl rfl (ReadsAll.cons (Reads.int _ _) (ReadsAll.cons (Reads.int _ _) ReadsAll.nil))) (reads_tuple_at (N _ hb).1 rfl rfl (ReadsAll.cons (Reads.int _ _) (ReadsAll.cons (Reads.int _ _) ReadsAll.nil))) rfl rfl hu ?_
  have e : (!PyData.eqv (.tuple [.int x.1, .int x.2]) (.tuple [.int y.1, .int y.2])) = decide (¬ (x.1 = y.1 ∧ x.2 = y.2)) := by
    rw [Bool.eq_iff_iff]; simp [PyData.eqv, PyData.eqvAll]
  rw [e]; exact h
end
def Hold (p : Prop) : Prop := p
theorem hold {p : Prop} (h : Hold p) : p := h
abbrev ledOf {h₀ : Heap} {L : Addr} {h : Heap} {news : Led} (_ : News h₀ L h news) : Led := news
/-- a pair of two numbers of the law, as the loops' lists hold it -/
def PairG (news : Led) (i : Nat) (v : Value) : Prop :=
  ∃ (p a : Addr) (X : P) (t u : Tok) (c : Nat) (b : Addr) (Y : P) (t' u' : Tok) (c' k : Nat), v = .ref p ∧ (p, ({ cls := .type "tuple", data := .seq #[.ref a, .ref b] k } : Obj)) ∈ news ∧
    (a, tup X t u c) ∈ news ∧ (b, tup Y t' u' c') ∈ news ∧ V X ∧ V Y ∧ Sm i X ∧ Sm i Y
theorem PairG.mk' {news : Led} {i : Nat} {p a : Addr} {X : P} {t u : Tok} {c : Nat} {b : Addr} {Y : P} {t' u' : Tok} {c' k : Nat} (hp : (p, ({ cls := .type "tuple", data := .seq #[.ref a, .ref b] k } : Obj)) ∈ news)
    (ha : (a, tup X t u c) ∈ news) (hb : (b, tup Y t' u' c') ∈ news) (h1 : V X) (h2 : V Y) (h3 : Sm i X) (h4 : Sm i Y) : PairG news i (.ref p) := ⟨p, a, X, t, u, c, b, Y, t', u', c', k, rfl, hp, ha, hb, h1, h2, h3, h4⟩
section
variable {prog : Program} {w : World} {A : Around} {E : Value → Shared → Prop} {s : Shared} {h₀ : Heap} {L a : Addr} {news : Led} {v0 v1 : Value} {c : Nat} {value slice : PySem.Expr} {k : Tok} {Q : Value → Shared → Prop}
theorem sub0 (N : News h₀ L s.heap news) (ha : (a, ({ cls := .type "tuple", data := .seq #[v0, v1] c } : Obj)) ∈ news) (h : Q v0 s)
    (hs : subscripted slice false (.ref a) (.int 0 k) = operate [.ref a, .int 0 k] (getItem (.ref a) (.int 0 k)) := by with_unfolding_all rfl) :
    wpAny (model prog w) A (subscriptTail value slice (.ref a) (.int 0 k)) Q E s :=
  item_tupleT (⟨_, (N _ ha).1, rfl, c, rfl⟩ : IsTup s.heap a [v0, v1].toArray) (by decide) (by decide) (j := 0) rfl rfl h hs
theorem sub1 (N : News h₀ L s.heap news) (ha : (a, ({ cls := .type "tuple", data := .seq #[v0, v1] c } : Obj)) ∈ news) (h : Q v1 s)
    (hs : subscripted slice false (.ref a) (.int 1 k) = operate [.ref a, .int 1 k] (getItem (.ref a) (.int 1 k)) := by with_unfolding_all rfl) :
    wpAny (model prog w) A (subscriptTail value slice (.ref a) (.int 1 k)) Q E s :=
  item_tupleT (⟨_, (N _ ha).1, rfl, c, rfl⟩ : IsTup s.heap a [v0, v1].toArray) (by decide) (by decide) (j := 1) rfl rfl h hs
end
/-- the end of a statement that was cut off: it goes on, the frame as it was, the ledger grown -/
def CutF (h₀ : Heap) (L : Addr) (s : Shared) (news : Led) (m : Str → Option Value) (f : Flow) (s₃ : Shared) : Prop :=
  f = .next ∧ ∃ (h' : Heap) (tk' : Nat) (news' : Led), s₃ = { s with heap := h', toks := tk' } ∧ Fr h₀ L h' m ∧ News h₀ L h' news' ∧ ∀ p ∈ news, p ∈ news'
theorem CutF.mk {h₀ : Heap} {L : Addr} {s : Shared} {news news' : Led} {m : Str → Option Value} {h' : Heap} {tk' : Nat}
    (F : Fr h₀ L h' m) (N : News h₀ L h' news') (k : ∀ p ∈ news, p ∈ news') : CutF h₀ L s news m .next { s with heap := h', toks := tk' } := ⟨rfl, h', tk', news', rfl, F, N, k⟩
theorem if_cut {prog : Program} {w : World} {A : Around} {E : Value → Shared → Prop} {s : Shared} {env : Env} {h₀ : Heap} {test : PySem.Expr} {body orelse : List Stmt} {pos : Pos} {Q : Flow → Shared → Prop} {m : Str → Option Value} {news : Led}
    (F : Fr h₀ env.locals s.heap m) (N : News h₀ env.locals s.heap news)
    (t : wpAny (model prog w) A (isTrue test env (eval test env)) (fun b s₂ => if b then wpAny (model prog w) A (execs body env) (CutF h₀ env.locals s news m) E s₂ else wpAny (model prog w) A (execs orelse env) (CutF h₀ env.locals s news m) E s₂) E s)
    (rest : ∀ h' tk' news', Fr h₀ env.locals h' m → News h₀ env.locals h' news' → (∀ p ∈ news, p ∈ news') → Q .next { s with heap := h', toks := tk' }) :
    wpAny (model prog w) A (exec (.If test body orelse pos) env) Q E s := by
  refine wpAny_If (wpAny_mono t (fun b s₂ h₂ => ?_) fun _ _ x => x)
  have up : ∀ f s₃, CutF h₀ env.locals s news m f s₃ → Q f s₃ := by
    rintro f s₃ ⟨rfl, h', tk', news', rfl, F', N', k⟩
    exact rest h' tk' news' F' N' k
  cases b
  · exact wpAny_mono h₂ up fun _ _ x => x
  · exact wpAny_mono h₂ up fun _ _ x => x
theorem ite_ne_same {a : Int} {p q : Prop} (h : q) : if (a != a) = true then p else q := by rw [if_neg (by simp)]; exact h
theorem ite_eq_same {a : Int} {p q : Prop} (h : p) : if (a == a) = true then p else q := by rw [if_pos (by simp)]; exact h
/-- a def that takes from the list at S: the ledger holds it, all else stays -/
def ConS (w : World) (mean : ExcName → Option Value) (mg mb : Str → Option Value) (f : Addr) (k : Nat) (S : Addr) (vs : List Value) (Out : Led → Value → Prop) : Prop :=
  ∀ (dp un : Nat) (gd : Option (List Code)) (cn : Str) (cs : Scope) (a : Addr) (ccd : Value) (cl : List (Str × Addr)) (outer : List Env) (A₀ : Around) (base h₀ : Heap) (L : Addr) (m : Str → Option Value) (news : Led) (s : Shared) (us : List Value) (ns : List Int) (c : Nat)
    (Q E : Value → Shared → Prop),
    Below A₀ base outer h₀ → Fr h₀ L s.heap m → (hd.heap_39 w.params).In h₀ → News h₀ L s.heap news → Top hd.view_39 (looseW hd.view_39 []) mean mg mb h₀ → cs.kind = .function →
    (S, W.listOf us.toArray c) ∈ news → IntsAre us ns → us.length ≤ 1000 → dp + k + 200 < recursionLimit → un + 8 * k + 200 < cLine →
    (∀ r us' ns' c' news' h' tk', Fr h₀ L h' m → News h₀ L h' news' → (S, W.listOf us'.toArray c') ∈ news' → IntsAre us' ns' → us'.length ≤ 1000 → (∀ p ∈ news, p.1 ≠ S → p ∈ news') → Out news' r → Q r { s with heap := h', toks := tk' }) →
    wpAny (model PySem.Challenge.rw_ov0053_01.row.prog w) (ktrTop dp un gd cn cs L a ccd cl outer) (call (.ref f) vs) Q E s
theorem ConS.use {w : World} {mean : ExcName → Option Value} {mg mb : Str → Option Value} {f : Addr} {k : Nat} {S : Addr} {vs : List Value} {Out : Led → Value → Prop}
    {dp un : Nat} {gd : Option (List Code)} {cn : Str} {cs : Scope} {a : Addr} {ccd : Value} {cl : List (Str × Addr)} {outer : List Env} {A₀ : Around} {base h₀ : Heap} {L : Addr} {m : Str → Option Value} {news : Led} {s : Shared} {us : List Value} {ns : List Int} {c : Nat}
    {Q E : Value → Shared → Prop}
    (B : Below A₀ base outer h₀) (F : Fr h₀ L s.heap m) (X : (hd.heap_39 w.params).In h₀) (N : News h₀ L s.heap news) (T : Top hd.view_39 (looseW hd.view_39 []) mean mg mb h₀) (hk : cs.kind = .function) (C : ConS w mean mg mb f k S vs Out)
    (hS : (S, W.listOf us.toArray c) ∈ news) (hI : IntsAre us ns) (hl : us.length ≤ 1000) (hd : dp + k + 200 < recursionLimit) (hu : un + 8 * k + 200 < cLine)
    (ret : ∀ r us' ns' c' news' h' tk', Fr h₀ L h' m → News h₀ L h' news' → (S, W.listOf us'.toArray c') ∈ news' → IntsAre us' ns' → us'.length ≤ 1000 → (∀ p ∈ news, p.1 ≠ S → p ∈ news') → Out news' r → Q r { s with heap := h', toks := tk' }) :
    wpAny (model PySem.Challenge.rw_ov0053_01.row.prog w) (ktrTop dp un gd cn cs L a ccd cl outer) (call (.ref f) vs) Q E s :=
  C _ _ _ _ _ _ _ _ _ _ _ _ _ _ _ _ _ _ _ _ _ B F X N T hk hS hI hl hd hu ret
/-- the ledger with S ahead -/
theorem led_first {h₀ h : Heap} {L S : Addr} {o : Obj} {news : Led} (N : News h₀ L h news) (hS : (S, o) ∈ news) :
    News h₀ L h ((S, o) :: news.filter (fun p => p.1 != S)) ∧ (∀ p ∈ news.filter (fun p => p.1 != S), p.1 ≠ S) ∧ ∀ p ∈ news, p.1 ≠ S → p ∈ news.filter (fun p => p.1 != S) := by
  refine ⟨fun p hp => ?_, fun p hp => by simpa using (List.mem_filter.mp hp).2, fun p hp h => List.mem_filter.mpr ⟨hp, by simpa using h⟩⟩
  rcases List.mem_cons.mp hp with rfl | hp
  · exact N _ hS
  · exact N _ (List.mem_filter.mp hp).1
theorem tup_ne_list {h₀ h : Heap} {L S a : Addr} {x : P} {t u : Tok} {c c' : Nat} {us : List Value} {news : Led} (N : News h₀ L h news) (hS : (S, W.listOf us.toArray c) ∈ news) (ha : (a, tup x t u c') ∈ news) : a ≠ S := by
  intro e
  subst e
  have h1 := (N _ hS).1
  have h2 := (N _ ha).1
  dsimp only at h1 h2
  rw [h1] at h2
  have := congrArg Obj.cls (Option.some.inj h2)
  exact absurd (Value.type.inj this) (by decide)
theorem len_c {prog : Program} {w : World} {A : Around} {E : Value → Shared → Prop} {s : Shared} {h₀ : Heap} {L S : Addr} {us : List Value} {c : Nat} {news : Led} {Q : Value → Shared → Prop} (N : News h₀ L s.heap news) (hS : (S, W.listOf us.toArray c) ∈ news) (hl : us.length ≤ 1000)
    (h : ∀ t tk, Q (.int us.length t) { s with toks := tk }) : wpAny (model prog w) A (call (.builtin "len") [.ref S]) Q E s :=
  kun_lenL (k := us.length) (N.isList hS) (by simp) (by omega) (h _ _)
theorem item3 {prog : Program} {w : World} {A : Around} {E : Value → Shared → Prop} {s : Shared} {h₀ : Heap} {L l : Addr} {c : Nat} {news : Led} {Q : Value → Shared → Prop} {value slice : PySem.Expr} {k : Int} {u : Tok} {v0 v1 v2 : Value}
    (N : News h₀ L s.heap news) (hm : (l, W.listOf #[v0, v1, v2] c) ∈ news) (h0 : 0 ≤ k) (h1 : k < 3) (q0 : Q v0 s) (q1 : Q v1 s) (q2 : Q v2 s)
    (hs : subscripted slice false (.ref l) (.int k u) = operate [.ref l, .int k u] (getItem (.ref l) (.int k u)) := by with_unfolding_all rfl) :
    wpAny (model prog w) A (subscriptTail value slice (.ref l) (.int k u)) Q E s := by
  have hl : s.heap.IsList l #[v0, v1, v2] := N.isList hm
  have key : ∀ v, #[v0, v1, v2][k.toNat]? = some v → Q v s → wpAny (model prog w) A (subscriptTail value slice (.ref l) (.int k u)) Q E s := fun v hx h =>
    tail_any hl.typeIs slot_list_getitem.lookup (wpAny_getItem_list hl h0 (by omega) (by simpa using hx) h) hs
  rcases (show k = 0 ∨ k = 1 ∨ k = 2 by omega) with rfl | rfl | rfl
  · exact key v0 rfl q0
  · exact key v1 rfl q1
  · exact key v2 rfl q2
theorem allLt_ne {d S : Addr} {o : Obj} : ∀ {l : Led}, AllLt d l → (S, o) ∈ l → d ≠ S
  | [], _, h => nomatch h
  | p :: r, h, hm => by
    rcases List.mem_cons.mp hm with e | hm
    · have h1 := h.1
      rw [← e] at h1
      exact fun q => by rw [q] at h1; exact Nat.lt_irrefl _ h1
    · exact allLt_ne h.2 hm
theorem allLt_ne4 {d S a b c : Nat} {o : Obj} {l : Led} (h : a < d ∧ b < d ∧ c < d ∧ AllLt d l) (hm : (S, o) ∈ l) : d ≠ S := allLt_ne h.2.2.2 hm
theorem allLt_ne3 {d S a b : Nat} {o : Obj} {l : Led} (h : a < d ∧ b < d ∧ AllLt d l) (hm : (S, o) ∈ l) : d ≠ S := allLt_ne h.2.2 hm
theorem allLt_ne2 {d S a : Nat} {o : Obj} {l : Led} (h : a < d ∧ AllLt d l) (hm : (S, o) ∈ l) : d ≠ S := allLt_ne h.2 hm
theorem allLt_ne1 {d S : Nat} {o : Obj} {l : Led} (h : ∀ p ∈ l, p.1 < d) (hm : (S, o) ∈ l) : d ≠ S := fun e => by have := h _ hm; rw [e] at this; exact Nat.lt_irrefl _ this
theorem sub_memS {l l' : Led} {S : Addr} (K : ∀ p ∈ l, p.1 ≠ S → p ∈ l') {x : Addr × Obj} (h : x ∈ l) (n : x.1 ≠ S) : x ∈ l' := K x h n
theorem Sz50 {n : Int} (h : -1125899906842624 < n) (k : n < 1125899906842624) : Sz 50 n := by unfold Sz; rw [show (2 : Nat) ^ 50 = 1125899906842624 from rfl]; omega
theorem Sz31 {n : Int} (h : -2147483648 < n) (k : n < 2147483648) : Sz 31 n := by unfold Sz; rw [show (2 : Nat) ^ 31 = 2147483648 from rfl]; omega
theorem ten4 {z : Int} (h : 0 ≤ z) (k : z < 4) : 0 < (10 : Int) ^ z.toNat ∧ (10 : Int) ^ z.toNat ≤ 1000 := by
  rcases (show z = 0 ∨ z = 1 ∨ z = 2 ∨ z = 3 by omega) with rfl | rfl | rfl | rfl <;> decide
theorem ten4p {z : Int} (h : 0 ≤ z) (k : z < 4) : 0 < (10 : Int) ^ z.toNat := (ten4 h k).1
theorem ten4s {z : Int} (h : 0 ≤ z) (k : z < 4) : Sz 31 ((10 : Int) ^ z.toNat) := by have := ten4 h k; exact Sz31 (by omega) (by omega)
theorem ten12 : (10 : Int) ^ Int.toNat 12 = 1000000000000 := rfl
theorem ten9 : (10 : Int) ^ Int.toNat 9 = 1000000000 := rfl
theorem V_of {n d : Int} {z : P} (h : 0 < d) (e : z = makeP n d) : V z := by
  obtain ⟨h1, _, h2, _⟩ := makeP_spec (n := n) h
  rw [e]; exact ⟨Or.inl h1, h2⟩
theorem V_inf : V ((1 : Int), (0 : Int)) ∧ V ((-1 : Int), (0 : Int)) ∧ V ((0 : Int), (1 : Int)) := by unfold V W; decide
theorem Sm_inf : Sm 81 ((1 : Int), (0 : Int)) ∧ Sm 81 ((-1 : Int), (0 : Int)) ∧ Sm 81 ((0 : Int), (1 : Int)) := by unfold Sm Sz; decide
theorem rev_c {prog : Program} {w : World} {A : Around} {E : Value → Shared → Prop} {s : Shared} {h₀ : Heap} {L D : Addr} {m : Str → Option Value} {news news' : Led} {us : List Value} {ns : List Int} {n : Nat} {Q : Value → Shared → Prop}
    (F : Fr h₀ L s.heap m) (N : News h₀ L s.heap news) (hI : IntsAre us ns) (hl : us.length ≤ 1000) (U : Upd D (W.listOf us.toArray n) (W.listOf us.reverse.toArray n) news news')
    (h : ∀ h', Fr h₀ L h' m → News h₀ L h' news' → IntsAre us.reverse ns.reverse → us.reverse.length ≤ 1000 → Q .none { s with heap := h' }) : wpAny (model prog w) A (call (.builtin "list.reverse") [.ref D]) Q E s :=
  kl_reverse F N (by simp) U (by rw [sizeLine_eq]; simp; omega) fun h' F' N' => h h' F' N' hI.reverse (by rw [List.length_reverse]; exact hl)
theorem fillmeA : (fun (_ : OpenLaw) (_ : Params → Frag) => True) PySem.Challenge.rw_ov0053_01 hd.heap_39 := by k_fill; trivial
set_option maxRecDepth 100000
set_option maxHeartbeats 8000000
local macro_rules | `(tactic| ktd_rel) => `(tactic| first | with_reducible assumption | (refine' sub_mem ?S ?h; (case S => with_reducible assumption); (case h => ktd_rel)) | exact List.mem_cons_self | (refine List.mem_cons_of_mem _ ?_; ktd_rel))
local macro_rules | `(tactic| k_mem) => `(tactic| ((with_reducible show _ ∈ _); ktd_rel))
local macro_rules | `(tactic| mul_fits) => `(tactic| exact mulOk (by first | with_reducible assumption | exact Sm.l (by with_reducible assumption) | exact Sm.r (by with_reducible assumption)) (by first | with_reducible assumption | exact Sm.l (by with_reducible assumption) | exact Sm.r (by with_reducible assumption)) (by omega))
local macro_rules | `(tactic| mul_fits) => `(tactic| first | exact mulOk sz10 (Ex1.sz (by with_reducible assumption)) (by omega) | exact mulOk (Ex1.sz (by with_reducible assumption)) sz10 (by omega) | exact mulOk (Ex2.sz (by with_reducible assumption) (by with_reducible assumption)) sz10 (by omega))
local macro_rules | `(tactic| walk_at "compareOp Eq ref ref") => `(tactic| (k_here; (with_reducible show wpAny _ _ (compareOp CmpOp.Eq (Value.ref _) (Value.ref _)) _ _ _); k_dflt (refine' tup_eq ?N ?a ?b ?u ?_; (case N => k_asm); (case a => ktd_rel); (case b => ktd_rel); (case u => ktr_units))))
local macro_rules | `(tactic| walk_at "compareOp NotEq ref ref") => `(tactic| (k_here; (with_reducible show wpAny _ _ (compareOp CmpOp.NotEq (Value.ref _) (Value.ref _)) _ _ _); k_dflt (refine' tup_ne ?N ?a ?b ?u ?_; (case N => k_asm); (case a => ktd_rel); (case b => ktd_rel); (case u => ktr_units))))
local macro_rules | `(tactic| walk_at "exec For Name List cons nil") => `(tactic| (k_here; (rename Fr _ _ _ _ => lF'); (with_unfolding_all refine' For_turns lF' ?_; k_whole)))
local macro_rules | `(tactic| walk_at "exec For Tuple List cons nil") => `(tactic| (k_here; (rename Fr _ _ _ _ => lF'); (with_unfolding_all refine' For_turns lF' ?_; k_whole)))
local macro_rules | `(tactic| walk_at "pyIter ref") => `(tactic| (k_here; (with_reducible show wpAny _ _ (pyIter (Value.ref _)) (fun it s₂ => TurnsAt _ _ _ _ _ _ _ _ _ it s₂) _ _); refine hold ?_))
local macro_rules | `(tactic| walk_at "subscriptTail") => `(tactic| (k_here; first | ((with_reducible show wpAny _ _ (subscriptTail _ _ (Value.ref _) (Value.int 0 _)) _ _ _); k_dflt (refine' sub0 ?N ?a ?_ ?s; (case N => k_asm); (case a => ktd_rel); (case s => with_unfolding_all rfl))) | ((with_reducible show wpAny _ _ (subscriptTail _ _ (Value.ref _) (Value.int 1 _)) _ _ _); k_dflt (refine' sub1 ?N ?a ?_ ?s; (case N => k_asm); (case a => ktd_rel); (case s => with_unfolding_all rfl)))))
local macro_rules | `(tactic| walk_at "mine six") => `(tactic| k_dflt (refine' Con.six ?k1 ?k2 ?k3 ?k4 ?k5 ?kK ?R; (case k1 => k_asm); (case k2 => k_asm); (case k3 => k_asm); (case k4 => k_asm); (case k5 => k_asm); (case kK => first | exact rfl | assumption)))
local macro_rules | `(tactic| walk_at "call ref") => `(tactic| (k_here; (with_reducible show wpAny _ _ (call (Value.ref _) _) _ _ _); walk_at "mine six"; k_dflt (refine' Use6.mk ?_ ?kp ?kd ?ku ?_; rotate_left 3; walk_at "mine con"; (case kp => walk_at "mine pre"); (case kd => ktr_room); (case ku => ktr_units); intro r9 news9 h9 tk9 F9 N9 S9 O9; (first | (subst O9) | (obtain ⟨z9, O9, P9⟩ := O9; subst O9; subst P9) | (obtain ⟨z9, t9, O9, P9⟩ := O9; subst O9; first | (subst P9) | (obtain ⟨e9, m9⟩ := P9; subst e9)) | (obtain ⟨z9, ⟨a9, t9, u9, c9, O9, M9⟩, P9⟩ := O9; subst O9; first | (subst P9) | (obtain ⟨e9, w9, m9⟩ := P9; first | (replace e9 := e9.trans (by with_reducible assumption); subst e9) | subst e9))); walk_at "mine end")))
local macro_rules | `(tactic| walk_at "mine pre") => `(tactic| ((try dsimp only); (repeat' (with_reducible refine And.intro ?_ ?_)); all_goals (first | k_mem | with_reducible assumption | omega | assumption)))
local macro_rules | `(tactic| walk_at "mine end") => `(tactic| ((try dsimp only); (try k_sweep); (try k_fold)))
local macro_rules | `(tactic| walk_at "LpPost") => `(tactic| (dsimp only [LpPost]))
local macro_rules | `(tactic| walk_at "binaryOp Add int int") => `(tactic| (k_here; k_dflt (refine P.add_int ?_); (try dsimp only)))
local macro_rules | `(tactic| walk_at "binaryOp Sub int int") => `(tactic| (k_here; k_dflt (refine P.sub_int ?_); (try dsimp only)))
local macro_rules | `(tactic| walk_at "binaryOp Mult int int") => `(tactic| (k_here; k_dflt (refine P.mul_int ?_ (by mul_fits)); (try dsimp only)))
local macro_rules | `(tactic| walk_at "eval Call") => `(tactic| (k_here; k_dflt (refine Call_ ?_)))
local macro_rules | `(tactic| walk_at "binaryOp FloorDiv int int") => `(tactic| (k_here; k_dflt (refine' fdiv_c ?k1 ?k2 ?k3 ?k4 ?k5 ?_; (case k1 => k_asm); (case k2 => k_asm); (case k3 => ktr_room); (case k4 => omega); (case k5 => exact SeerAt.of (PySem.Heap.NoSeer.keeps (seer_c (by k_asm)) (Fr.keep (by k_asm))) rfl rfl rfl rfl rfl rfl))))
local macro_rules | `(tactic| walk_at "binaryOp Mod int int") => `(tactic| (k_here; k_dflt (refine' fmod_c ?k4 ?_; (case k4 => omega))))
local macro_rules | `(tactic| walk_at "ite") => `(tactic| (k_here; (with_reducible show ite _ _ _); first | with_reducible refine ite_ne_same ?_ | with_reducible refine ite_eq_same ?_ | (refine ite_pos (by (try simp only [beq_iff_eq, bne_iff_ne, decide_eq_true_eq, ne_eq]); first | done | omega) ?_; (try dsimp only)) | (refine ite_neg (by (try simp only [beq_iff_eq, bne_iff_ne, decide_eq_true_eq, ne_eq]); first | done | omega) ?_; (try dsimp only))))
theorem gcd_ok (w : World) (mean : ExcName → Option Value) (mg mb : Str → Option Value) (a : Int) (ta : Tok) (b : Int) (tb : Tok) : Con w mean mg mb 23 1 [.int a ta, .int b tb] (fun news => (0 ≤ a) ∧ (0 < b)) (fun news r => ∃ (z : Int) (t : Tok), r = .int z t ∧ z = Int.gcd a b ∧ 0 < z) := by
  unfold Con
  intro dp un gd cn cs a₁ ccd cl outer A₀ base h₀ L m news s Q E B F X N T hk hR hd hu hret
  obtain ⟨ha, hb⟩ := hR
  refine wpAny_call ?_
  k_dflt ktr_enter
  k_with_none
  k_with "exec While Compare cons nil" => k_while (fun (_ : List Int) p q => 0 ≤ p ∧ 0 ≤ q ∧ (Int.gcd p q : Int) = Int.gcd a b) (fun (_ : List Int) _ q => q.toNat) "a" "b"
  k_with "state" => first | exact gcd_st (by assumption) (by assumption) | exact ⟨ha, by omega, rfl⟩
  k_with "measure" => exact gcd_me (by assumption)
  k_steps
  all_goals try dsimp only
  all_goals (refine hret _ _ _ _ (by k_asm) (by k_asm) (fun p hp => (by k_mem)) ?_)
  have hg := gcd_pos' a hb
  have he := gcd_end (by assumption) (by assumption) (by assumption) (by assumption)
  exact ⟨_, _, rfl, he, he ▸ hg⟩
local macro_rules | `(tactic| walk_at "call ref") => `(tactic| (k_here; (with_reducible show wpAny _ _ (call (Value.ref 23) _) _ _ _); walk_at "mine six"; k_dflt (refine' Use6.mk (gcd_ok _ _ _ _ _ _ _ _) ?kp ?kd ?ku ?_; (case kp => walk_at "mine pre"); (case kd => ktr_room); (case ku => ktr_units); intro r9 news9 h9 tk9 F9 N9 S9 O9; obtain ⟨z9, t9, O9, P9⟩ := O9; subst O9; (obtain ⟨e9, p9⟩ := P9; (try rw [gcd_ab] at e9)); walk_at "mine end")))
theorem make_ok (w : World) (mean : ExcName → Option Value) (mg mb : Str → Option Value) (n : Int) (tn : Tok) (d : Int) (td : Tok) : Con w mean mg mb 30 2 [.int n tn, .int d td] (fun news => (n ≠ 0 ∨ d ≠ 0)) (fun news r => ∃ z : P, Tup news r z ∧ z = makeP n d) := by
  unfold Con
  intro dp un gd cn cs a₁ ccd cl outer A₀ base h₀ L m news s Q E B F X N T hk hR hd hu hret
  obtain ⟨hnd, -⟩ := And.intro hR trivial
  refine wpAny_call ?_
  k_dflt ktr_enter
  k_with_none
  k_steps
  all_goals try dsimp only
  all_goals (refine hret _ _ _ _ (by k_asm) (by k_asm) (fun p hp => (by k_mem)) ?_)
  all_goals (refine ⟨_, Tup.mk (by k_mem) rfl, ?_⟩)
  all_goals (first | exact makeP_i (by assumption) (by assumption) | exact makeP_j (by assumption) (by omega) | (subst_vars; exact makeP_n (by assumption) rfl) | (subst_vars; exact makeP_p (by assumption) (by assumption) rfl))
local macro_rules | `(tactic| walk_at "mine con") => `(tactic| (with_reducible apply make_ok))
theorem is_na_ok (w : World) (mean : ExcName → Option Value) (mg mb : Str → Option Value) (ax : Addr) (x : P) (tx ux : Tok) (cx : Nat) : Con w mean mg mb 37 1 [.ref ax] (fun news => ((ax, tup x tx ux cx) ∈ news) ∧ (W x)) (fun news r => ∃ z : Bool, r = .bool z ∧ z = false) := by
  unfold Con
  intro dp un gd cn cs a₁ ccd cl outer A₀ base h₀ L m news s Q E B F X N T hk hR hd hu hret
  obtain ⟨hmx, hWx⟩ := hR
  have hWx' := hWx; unfold W at hWx'
  refine wpAny_call ?_
  k_dflt ktr_enter
  k_with_none
  k_steps
  all_goals try dsimp only
  all_goals (refine hret _ _ _ _ (by k_asm) (by k_asm) (fun p hp => (by k_mem)) ?_)
  all_goals exact ⟨_, rfl, by (try simp only [beq_eq_false_iff_ne, ne_eq]); omega⟩
local macro_rules | `(tactic| walk_at "mine con") => `(tactic| (with_reducible apply is_na_ok))
theorem is_finite_ok (w : World) (mean : ExcName → Option Value) (mg mb : Str → Option Value) (ax : Addr) (x : P) (tx ux : Tok) (cx : Nat) : Con w mean mg mb 44 1 [.ref ax] (fun news => ((ax, tup x tx ux cx) ∈ news) ∧ (W x)) (fun news r => ∃ z : Bool, r = .bool z ∧ z = decide (0 < x.2)) := by
  unfold Con
  intro dp un gd cn cs a₁ ccd cl outer A₀ base h₀ L m news s Q E B F X N T hk hR hd hu hret
  obtain ⟨hmx, hWx⟩ := hR
  have hWx' := hWx; unfold W at hWx'
  refine wpAny_call ?_
  k_dflt ktr_enter
  k_with_none
  k_steps
  all_goals try dsimp only
  all_goals (refine hret _ _ _ _ (by k_asm) (by k_asm) (fun p hp => (by k_mem)) ?_)
  all_goals exact ⟨_, rfl, rfl⟩
local macro_rules | `(tactic| walk_at "mine con") => `(tactic| (with_reducible apply is_finite_ok))
theorem sign_ok (w : World) (mean : ExcName → Option Value) (mg mb : Str → Option Value) (ax : Addr) (x : P) (tx ux : Tok) (cx : Nat) : Con w mean mg mb 51 2 [.ref ax] (fun news => ((ax, tup x tx ux cx) ∈ news) ∧ (W x)) (fun news r => ∃ (z : Int) (t : Tok), r = .int z t ∧ z = sgn x.1) := by
  unfold Con
  intro dp un gd cn cs a₁ ccd cl outer A₀ base h₀ L m news s Q E B F X N T hk hR hd hu hret
  obtain ⟨hmx, hWx⟩ := hR
  have hWx' := hWx; unfold W at hWx'
  refine wpAny_call ?_
  k_dflt ktr_enter
  k_with_none
  k_steps
  all_goals try dsimp only
  all_goals (refine hret _ _ _ _ (by k_asm) (by k_asm) (fun p hp => (by k_mem)) ?_)
  all_goals exact ⟨_, _, rfl, by unfold sgn; (repeat (first | rw [if_pos (by omega)] | rw [if_neg (by omega)]))⟩
local macro_rules | `(tactic| walk_at "mine con") => `(tactic| (with_reducible apply sign_ok))
theorem neg_ok (w : World) (mean : ExcName → Option Value) (mg mb : Str → Option Value) (ax : Addr) (x : P) (tx ux : Tok) (cx : Nat) (i : Nat) : Con w mean mg mb 65 1 [.ref ax] (fun news => ((ax, tup x tx ux cx) ∈ news) ∧ (W x) ∧ (Sm i x)) (fun news r => ∃ z : P, Tup news r z ∧ z = negP x ∧ W z ∧ Sm i z) := by
  unfold Con
  intro dp un gd cn cs a₁ ccd cl outer A₀ base h₀ L m news s Q E B F X N T hk hR hd hu hret
  obtain ⟨hmx, hWx, hSx⟩ := hR
  refine wpAny_call ?_
  k_dflt ktr_enter
  k_with_none
  k_steps
  all_goals try dsimp only
  all_goals (refine hret _ _ _ _ (by k_asm) (by k_asm) (fun p hp => (by k_mem)) ?_)
  all_goals (refine ⟨_, Tup.mk (by k_mem) rfl, ?_⟩)
  all_goals exact ⟨rfl, W_neg hWx, Sm_neg hSx⟩
local macro_rules | `(tactic| walk_at "mine con") => `(tactic| (with_reducible apply neg_ok))
theorem add_ok (w : World) (mean : ExcName → Option Value) (mg mb : Str → Option Value) (ax : Addr) (x : P) (tx ux : Tok) (cx : Nat) (ay : Addr) (y : P) (ty uy : Tok) (cy : Nat) (i : Nat) (j : Nat) : Con w mean mg mb 72 3 [.ref ax, .ref ay] (fun news => ((ax, tup x tx ux cx) ∈ news) ∧ ((ay, tup y ty uy cy) ∈ news) ∧ (W x) ∧ (W y) ∧ (0 < x.2 ∨ 0 < y.2) ∧ (Sm i x) ∧ (Sm j y) ∧ (i + j ≤ 10000000)) (fun news r => ∃ z : P, Tup news r z ∧ z = addP x y ∧ W z ∧ Sm (i + j + 1) z) := by
  unfold Con
  intro dp un gd cn cs a₁ ccd cl outer A₀ base h₀ L m news s Q E B F X N T hk hR hd hu hret
  obtain ⟨hmx, hmy, hWx, hWy, hf, hSx, hSy, hij⟩ := hR
  have hWx' := hWx; unfold W at hWx'
  have hWy' := hWy; unfold W at hWy'
  have hpr := nz_mul x.2 y.2
  refine wpAny_call ?_
  k_dflt ktr_enter
  k_with_none
  k_steps
  all_goals try dsimp only
  all_goals (refine hret _ _ _ _ (by k_asm) (by k_asm) (fun p hp => (by k_mem)) ?_)
  all_goals have hz : W (addP x y) ∧ Sm (i + j + 1) (addP x y) := ⟨W_add hWx hWy hf, Sm_add hSx hSy⟩
  all_goals exact outP (Tup.mk (by k_mem) rfl) (by unfold addP; (repeat (first | rw [if_pos (by omega)] | rw [if_neg (by omega)]))) hz
local macro_rules | `(tactic| walk_at "mine con") => `(tactic| (with_reducible apply add_ok))
theorem sub_ok (w : World) (mean : ExcName → Option Value) (mg mb : Str → Option Value) (ax : Addr) (x : P) (tx ux : Tok) (cx : Nat) (ay : Addr) (y : P) (ty uy : Tok) (cy : Nat) (i : Nat) (j : Nat) : Con w mean mg mb 79 4 [.ref ax, .ref ay] (fun news => ((ax, tup x tx ux cx) ∈ news) ∧ ((ay, tup y ty uy cy) ∈ news) ∧ (W x) ∧ (W y) ∧ (0 < x.2 ∨ 0 < y.2) ∧ (Sm i x) ∧ (Sm j y) ∧ (i + j ≤ 10000000)) (fun news r => ∃ z : P, Tup news r z ∧ z = subP x y ∧ W z ∧ Sm (i + j + 1) z) := by
  unfold Con
  intro dp un gd cn cs a₁ ccd cl outer A₀ base h₀ L m news s Q E B F X N T hk hR hd hu hret
  obtain ⟨hmx, hmy, hWx, hWy, hf, hSx, hSy, hij⟩ := hR
  have hf' : 0 < x.2 ∨ 0 < (negP y).2 := hf
  refine wpAny_call ?_
  k_dflt ktr_enter
  k_with_none
  k_steps
  all_goals try dsimp only
  all_goals (refine hret _ _ _ _ (by k_asm) (by k_asm) (fun p hp => (by k_mem)) ?_)
  all_goals (refine ⟨_, Tup.mk (by k_mem) rfl, ?_⟩)
  all_goals exact ⟨rfl, by assumption, by assumption⟩
local macro_rules | `(tactic| walk_at "mine con") => `(tactic| (with_reducible apply sub_ok))
theorem mul_ok (w : World) (mean : ExcName → Option Value) (mg mb : Str → Option Value) (ax : Addr) (x : P) (tx ux : Tok) (cx : Nat) (ay : Addr) (y : P) (ty uy : Tok) (cy : Nat) (i : Nat) (j : Nat) : Con w mean mg mb 86 3 [.ref ax, .ref ay] (fun news => ((ax, tup x tx ux cx) ∈ news) ∧ ((ay, tup y ty uy cy) ∈ news) ∧ (W x) ∧ (W y) ∧ (x.2 ≠ 0 ∨ y.1 ≠ 0) ∧ (y.2 ≠ 0 ∨ x.1 ≠ 0) ∧ (Sm i x) ∧ (Sm j y) ∧ (i + j ≤ 10000000)) (fun news r => ∃ z : P, Tup news r z ∧ z = mulP x y ∧ W z ∧ Sm (i + j) z) := by
  unfold Con
  intro dp un gd cn cs a₁ ccd cl outer A₀ base h₀ L m news s Q E B F X N T hk hR hd hu hret
  obtain ⟨hmx, hmy, hWx, hWy, hf, hg, hSx, hSy, hij⟩ := hR
  have hWx' := hWx; unfold W at hWx'
  have hWy' := hWy; unfold W at hWy'
  have hpr := nz_mul x.2 y.2
  have hpr1 := nz_mul x.1 y.1
  refine wpAny_call ?_
  k_dflt ktr_enter
  k_with_none
  k_steps
  all_goals try dsimp only
  all_goals (refine hret _ _ _ _ (by k_asm) (by k_asm) (fun p hp => (by k_mem)) ?_)
  all_goals (refine ⟨_, Tup.mk (by k_mem) rfl, ?_⟩)
  all_goals exact ⟨rfl, W_mul hWx hWy hf hg, Sm_mul hWx hWy hSx hSy⟩
local macro_rules | `(tactic| walk_at "mine con") => `(tactic| (with_reducible apply mul_ok))
theorem div_ok (w : World) (mean : ExcName → Option Value) (mg mb : Str → Option Value) (ax : Addr) (x : P) (tx ux : Tok) (cx : Nat) (ay : Addr) (y : P) (ty uy : Tok) (cy : Nat) (i : Nat) (j : Nat) : Con w mean mg mb 93 3 [.ref ax, .ref ay] (fun news => ((ax, tup x tx ux cx) ∈ news) ∧ ((ay, tup y ty uy cy) ∈ news) ∧ (W x) ∧ (0 < y.2) ∧ (y.1 ≠ 0) ∧ (Sm i x) ∧ (Sm j y) ∧ (i + j ≤ 10000000)) (fun news r => ∃ z : P, Tup news r z ∧ z = divP x y ∧ W z ∧ Sm (i + j) z) := by
  unfold Con
  intro dp un gd cn cs a₁ ccd cl outer A₀ base h₀ L m news s Q E B F X N T hk hR hd hu hret
  obtain ⟨hmx, hmy, hWx, hWy, hy0, hSx, hSy, hij⟩ := hR
  have hWx' := hWx; unfold W at hWx'
  have hwy : W y := Or.inl hWy
  have hpr := nz_mul x.2 y.1
  refine wpAny_call ?_
  k_dflt ktr_enter
  k_with_none
  k_steps
  all_goals try dsimp only
  all_goals (refine hret _ _ _ _ (by k_asm) (by k_asm) (fun p hp => (by k_mem)) ?_)
  all_goals have hz : W (divP x y) ∧ Sm (i + j) (divP x y) := ⟨W_div hWx hWy hy0, Sm_div hWx hWy hSx hSy⟩
  all_goals exact outP (Tup.mk (by k_mem) rfl) (by unfold divP; (repeat (first | rw [if_pos (by omega)] | rw [if_neg (by omega)]))) hz
local macro_rules | `(tactic| walk_at "mine con") => `(tactic| (with_reducible apply div_ok))
theorem floor_ok (w : World) (mean : ExcName → Option Value) (mg mb : Str → Option Value) (ax : Addr) (x : P) (tx ux : Tok) (cx : Nat) (i : Nat) : Con w mean mg mb 100 2 [.ref ax] (fun news => ((ax, tup x tx ux cx) ∈ news) ∧ (W x) ∧ (Sm i x)) (fun news r => ∃ z : P, Tup news r z ∧ z = floorP x ∧ W z ∧ Sm i z) := by
  unfold Con
  intro dp un gd cn cs a₁ ccd cl outer A₀ base h₀ L m news s Q E B F X N T hk hR hd hu hret
  obtain ⟨hmx, hWx, hSx⟩ := hR
  have hWx' := hWx; unfold W at hWx'
  refine wpAny_call ?_
  k_dflt ktr_enter
  k_with_none
  k_steps
  all_goals try dsimp only
  all_goals (refine hret _ _ _ _ (by k_asm) (by k_asm) (fun p hp => (by k_mem)) ?_)
  all_goals have hz : W (floorP x) ∧ Sm i (floorP x) := ⟨W_floor hWx, Sm_floor hSx⟩
  all_goals exact outP (Tup.mk (by k_mem) rfl) (by unfold floorP; (repeat (first | rw [if_pos (by omega)] | rw [if_neg (by omega)]))) hz
local macro_rules | `(tactic| walk_at "mine con") => `(tactic| (with_reducible apply floor_ok))
theorem ceiling_ok (w : World) (mean : ExcName → Option Value) (mg mb : Str → Option Value) (ax : Addr) (x : P) (tx ux : Tok) (cx : Nat) (i : Nat) : Con w mean mg mb 107 3 [.ref ax] (fun news => ((ax, tup x tx ux cx) ∈ news) ∧ (W x) ∧ (Sm i x)) (fun news r => ∃ z : P, Tup news r z ∧ z = ceilP x ∧ W z ∧ Sm i z) := by
  unfold Con
  intro dp un gd cn cs a₁ ccd cl outer A₀ base h₀ L m news s Q E B F X N T hk hR hd hu hret
  obtain ⟨hmx, hWx, hSx⟩ := hR
  refine wpAny_call ?_
  k_dflt ktr_enter
  k_with_none
  k_steps
  all_goals try dsimp only
  all_goals (refine hret _ _ _ _ (by k_asm) (by k_asm) (fun p hp => (by k_mem)) ?_)
  all_goals (refine ⟨_, Tup.mk (by k_mem) rfl, ?_⟩)
  all_goals exact ⟨rfl, by assumption, by assumption⟩
local macro_rules | `(tactic| walk_at "mine con") => `(tactic| (with_reducible apply ceiling_ok))
theorem to_whole_ok (w : World) (mean : ExcName → Option Value) (mg mb : Str → Option Value) (ax : Addr) (x : P) (tx ux : Tok) (cx : Nat) : Con w mean mg mb 121 2 [.ref ax] (fun news => ((ax, tup x tx ux cx) ∈ news) ∧ (W x) ∧ (0 < x.2)) (fun news r => ∃ (z : Int) (t : Tok), r = .int z t ∧ z = toWhole x) := by
  unfold Con
  intro dp un gd cn cs a₁ ccd cl outer A₀ base h₀ L m news s Q E B F X N T hk hR hd hu hret
  obtain ⟨hmx, hWx, hx2⟩ := hR
  refine wpAny_call ?_
  k_dflt ktr_enter
  k_with_none
  k_steps
  all_goals try dsimp only
  all_goals (refine hret _ _ _ _ (by k_asm) (by k_asm) (fun p hp => (by k_mem)) ?_)
  all_goals exact ⟨_, _, rfl, (by unfold toWhole; (repeat (first | rw [if_pos (by omega)] | rw [if_neg (by omega)])))⟩
local macro_rules | `(tactic| walk_at "mine con") => `(tactic| (with_reducible apply to_whole_ok))
theorem trunc_ok (w : World) (mean : ExcName → Option Value) (mg mb : Str → Option Value) (ax : Addr) (x : P) (tx ux : Tok) (cx : Nat) (i : Nat) : Con w mean mg mb 114 3 [.ref ax] (fun news => ((ax, tup x tx ux cx) ∈ news) ∧ (W x) ∧ (Sm i x)) (fun news r => ∃ z : P, Tup news r z ∧ z = truncP x ∧ W z ∧ Sm i z) := by
  unfold Con
  intro dp un gd cn cs a₁ ccd cl outer A₀ base h₀ L m news s Q E B F X N T hk hR hd hu hret
  obtain ⟨hmx, hWx, hSx⟩ := hR
  have hWx' := hWx; unfold W at hWx'
  refine wpAny_call ?_
  k_dflt ktr_enter
  k_with_none
  k_steps
  all_goals try dsimp only
  all_goals (refine hret _ _ _ _ (by k_asm) (by k_asm) (fun p hp => (by k_mem)) ?_)
  all_goals have hz : W (truncP x) ∧ Sm i (truncP x) := ⟨W_trunc hWx, Sm_trunc hSx⟩
  all_goals exact outP (Tup.mk (by k_mem) rfl) (by unfold truncP; (repeat (first | rw [if_pos (by omega)] | rw [if_neg (by omega)]))) hz
local macro_rules | `(tactic| walk_at "mine con") => `(tactic| (with_reducible apply trunc_ok))
theorem nearest_whole_ok (w : World) (mean : ExcName → Option Value) (mg mb : Str → Option Value) (n : Int) (tn : Tok) (d : Int) (td : Tok) (i : Nat) (j : Nat) : Con w mean mg mb 128 1 [.int n tn, .int d td] (fun news => (0 < d) ∧ (Sz i n) ∧ (Sz j d) ∧ (i + j ≤ 10000000)) (fun news r => ∃ (z : Int) (t : Tok), r = .int z t ∧ z = nearI n d ∧ Sz (i + 1) z) := by
  unfold Con
  intro dp un gd cn cs a₁ ccd cl outer A₀ base h₀ L m news s Q E B F X N T hk hR hd hu hret
  obtain ⟨hd0, hSn, hSd, hij⟩ := hR
  have hs1 := Sz_ediv d hSn
  have hs2 := Sz_rest hd0 hSn hSd
  have hs3 : Sz 2 2 := (by unfold Sz; decide)
  refine wpAny_call ?_
  k_dflt ktr_enter
  k_with_none
  k_steps
  all_goals try dsimp only
  all_goals (refine hret _ _ _ _ (by k_asm) (by k_asm) (fun p hp => (by k_mem)) ?_)
  all_goals have hz := Sz_near hd0 hSn
  all_goals exact outI rfl (by unfold nearI; first | rw [if_pos (by omega)] | rw [if_neg (by omega)]) hz
local macro_rules | `(tactic| walk_at "mine con") => `(tactic| (with_reducible apply nearest_whole_ok))
theorem compare_ok (w : World) (mean : ExcName → Option Value) (mg mb : Str → Option Value) (ax : Addr) (x : P) (tx ux : Tok) (cx : Nat) (ay : Addr) (y : P) (ty uy : Tok) (cy : Nat) (i : Nat) (j : Nat) : Con w mean mg mb 177 2 [.ref ax, .ref ay] (fun news => ((ax, tup x tx ux cx) ∈ news) ∧ ((ay, tup y ty uy cy) ∈ news) ∧ (W x) ∧ (W y) ∧ (Sm i x) ∧ (Sm j y) ∧ (i + j ≤ 10000000)) (fun news r => ∃ (z : Int) (t : Tok), r = .int z t ∧ z = ordP x y) := by
  unfold Con
  intro dp un gd cn cs a₁ ccd cl outer A₀ base h₀ L m news s Q E B F X N T hk hR hd hu hret
  obtain ⟨hmx, hmy, hWx, hWy, hSx, hSy, hij⟩ := hR
  have hWx' := hWx; unfold W at hWx'
  have hWy' := hWy; unfold W at hWy'
  refine wpAny_call ?_
  k_dflt ktr_enter
  k_with_none
  k_steps
  all_goals try dsimp only
  all_goals (refine hret _ _ _ _ (by k_asm) (by k_asm) (fun p hp => (by k_mem)) ?_)
  all_goals exact ⟨_, _, rfl, by unfold ordP lft rgt; (repeat (first | rw [if_pos (by omega)] | rw [if_neg (by omega)])); unfold sg; (repeat (first | rw [if_pos (by omega)] | rw [if_neg (by omega)]))⟩
local macro_rules | `(tactic| walk_at "mine con") => `(tactic| (with_reducible apply compare_ok))
theorem rounded_ok (w : World) (mean : ExcName → Option Value) (mg mb : Str → Option Value) (ax : Addr) (x : P) (tx ux : Tok) (cx : Nat) (p : Int) (tp : Tok) (i : Nat) : Con w mean mg mb 135 3 [.ref ax, .int p tp] (fun news => ((ax, tup x tx ux cx) ∈ news) ∧ (0 < x.2) ∧ (Sm i x) ∧ (i ≤ 10000) ∧ (-(i + 9 : Int) ≤ p) ∧ (p ≤ i + 9)) (fun news r => ∃ z : P, Tup news r z ∧ z = roundP x p ∧ W z ∧ Sm (9 * i + 80) z) := by
  unfold Con
  intro dp un gd cn cs a₁ ccd cl outer A₀ base h₀ L m news s Q E B F X N T hk hR hd hu hret
  obtain ⟨hmx, hx2, hSx, hi, hp1, hp2⟩ := hR
  have ht := ten_pos p
  have ht' := ten_pos (0 - p)
  have hst : Sz (4 * i + 37) (tenP p) := Sz_ten hp2
  have hst' : Sz (4 * i + 37) (tenP (0 - p)) := Sz_ten (by omega)
  have hm1 := Sz.mul hSx.1 hst
  have hm2 := Sz.mul hSx.2 hst'
  have hm3 : 0 < x.2 * tenP (0 - p) := Int.mul_pos hx2 ht'
  have hsl := hSx.1
  have hsr := hSx.2
  unfold tenP at ht ht' hst hst' hm1 hm2 hm3
  refine wpAny_call ?_
  k_dflt ktr_enter
  k_with_none
  k_steps
  all_goals try dsimp only
  all_goals (refine hret _ _ _ _ (by k_asm) (by k_asm) (fun p hp => (by k_mem)) ?_)
  all_goals have hz : W (roundP x p) ∧ Sm (9 * i + 80) (roundP x p) := ⟨W_round hx2, Sm_round hx2 hSx hp1 hp2⟩
  all_goals exact outP (Tup.mk (by k_mem) rfl) (by unfold roundP; (repeat (first | rw [if_pos (by omega)] | rw [if_neg (by omega)])); rfl) hz
local macro_rules | `(tactic| walk_at "mine con") => `(tactic| (with_reducible apply rounded_ok))
theorem round_half_even_ok (w : World) (mean : ExcName → Option Value) (mg mb : Str → Option Value) (ax : Addr) (x : P) (tx ux : Tok) (cx : Nat) (p : Int) (tp : Tok) (i : Nat) : Con w mean mg mb 142 4 [.ref ax, .int p tp] (fun news => ((ax, tup x tx ux cx) ∈ news) ∧ (W x) ∧ (Sm i x) ∧ (i ≤ 10000) ∧ (-2 ≤ p) ∧ (p ≤ 4)) (fun news r => ∃ z : P, Tup news r z ∧ z = rheP x p ∧ W z ∧ Sm (9 * i + 80) z) := by
  unfold Con
  intro dp un gd cn cs a₁ ccd cl outer A₀ base h₀ L m news s Q E B F X N T hk hR hd hu hret
  obtain ⟨hmx, hWx, hSx, hi, hp1, hp2⟩ := hR
  have hWx' := hWx; unfold W at hWx'
  refine wpAny_call ?_
  k_dflt ktr_enter
  k_with_none
  k_steps
  all_goals try dsimp only
  all_goals (refine hret _ _ _ _ (by k_asm) (by k_asm) (fun p hp => (by k_mem)) ?_)
  all_goals have hz : W (rheP x p) ∧ Sm (9 * i + 80) (rheP x p) := W_rhe hWx hSx hp1 hp2
  all_goals exact outP (Tup.mk (by k_mem) rfl) (by unfold rheP; (repeat (first | rw [if_pos (by omega)] | rw [if_neg (by omega)]))) hz
local macro_rules | `(tactic| walk_at "mine con") => `(tactic| (with_reducible apply round_half_even_ok))
theorem exponent_ok (w : World) (mean : ExcName → Option Value) (mg mb : Str → Option Value) (ax : Addr) (x : P) (tx ux : Tok) (cx : Nat) (i : Nat) : Con w mean mg mb 149 1 [.ref ax] (fun news => ((ax, tup x tx ux cx) ∈ news) ∧ (0 < x.2) ∧ (x.1 ≠ 0) ∧ (Sm i x) ∧ (i ≤ 10000)) (fun news r => ∃ (z : Int) (t : Tok), r = .int z t ∧ z = expP x ∧ -(i : Int) ≤ z ∧ z ≤ i) := by
  unfold Con
  intro dp un gd cn cs a₁ ccd cl outer A₀ base h₀ L m news s Q E B F X N T hk hR hd hu hret
  obtain ⟨hmx, hx2, hx1, hSx, hi⟩ := hR
  refine wpAny_call ?_
  k_dflt ktr_enter
  k_with_none
  k_with "exec While Compare cons nil" => k_while (fun (_ : List Int) d e => Ex1 i x d e) (fun (_ : List Int) d _ => (ab x.1 - d).toNat) "d" "e"
  k_with "exec While Compare cons nil" => k_while_given ["d"] (fun (d : Int) (_ : List Int) n e => Ex2 i x d n e) (fun (d : Int) (_ : List Int) n _ => (d - n).toNat) "n" "e"
  k_with "state" => first | exact ex1_start hx2 hSx | exact ex1_turn hSx (by assumption) (by assumption) | exact ex2_start hx2 hx1 hSx (by assumption) (by assumption) | exact ex2_turn (by assumption) (by assumption)
  k_with "measure" => first | exact ex1_meas (by assumption) (by assumption) | exact ex2_meas (by assumption) (by assumption)
  k_steps
  all_goals try dsimp only
  all_goals (refine hret _ _ _ _ (by k_asm) (by k_asm) (fun p hp => (by k_mem)) ?_)
  all_goals exact exp_out hx2 hx1 hSx (by assumption) (by assumption)
local macro_rules | `(tactic| walk_at "mine con") => `(tactic| (with_reducible apply exponent_ok))
theorem signif_ok (w : World) (mean : ExcName → Option Value) (mg mb : Str → Option Value) (ax : Addr) (x : P) (tx ux : Tok) (cx : Nat) (digits : Int) (tdigits : Tok) (i : Nat) : Con w mean mg mb 156 4 [.ref ax, .int digits tdigits] (fun news => ((ax, tup x tx ux cx) ∈ news) ∧ (W x) ∧ (Sm i x) ∧ (i ≤ 10000) ∧ (1 ≤ digits) ∧ (digits ≤ 9)) (fun news r => ∃ z : P, Tup news r z ∧ z = sigP x digits ∧ W z ∧ Sm (9 * i + 80) z) := by
  unfold Con
  intro dp un gd cn cs a₁ ccd cl outer A₀ base h₀ L m news s Q E B F X N T hk hR hd hu hret
  obtain ⟨hmx, hWx, hSx, hi, hd1, hd2⟩ := hR
  have hWx' := hWx; unfold W at hWx'
  refine wpAny_call ?_
  k_dflt ktr_enter
  k_with_none
  k_steps
  all_goals try dsimp only
  all_goals (refine hret _ _ _ _ (by k_asm) (by k_asm) (fun p hp => (by k_mem)) ?_)
  all_goals have hz : W (sigP x digits) ∧ Sm (9 * i + 80) (sigP x digits) := W_sig hWx hSx hd1 hd2
  all_goals exact outP (Tup.mk (by k_mem) rfl) (by unfold sigP; (repeat (first | rw [if_pos (by omega)] | rw [if_neg (by omega)]))) hz
local macro_rules | `(tactic| walk_at "mine con") => `(tactic| (with_reducible apply signif_ok))
theorem int_div_ok (w : World) (mean : ExcName → Option Value) (mg mb : Str → Option Value) (ax : Addr) (x : P) (tx ux : Tok) (cx : Nat) (ay : Addr) (y : P) (ty uy : Tok) (cy : Nat) (i : Nat) (j : Nat) : Con w mean mg mb 163 4 [.ref ax, .ref ay] (fun news => ((ax, tup x tx ux cx) ∈ news) ∧ ((ay, tup y ty uy cy) ∈ news) ∧ (0 < x.2) ∧ (0 < y.2) ∧ (y.1 ≠ 0) ∧ (Sm i x) ∧ (Sm j y) ∧ (i + j ≤ 10000000)) (fun news r => ∃ z : P, Tup news r z ∧ z = idivP x y ∧ W z ∧ Sm (i + j) z) := by
  unfold Con
  intro dp un gd cn cs a₁ ccd cl outer A₀ base h₀ L m news s Q E B F X N T hk hR hd hu hret
  obtain ⟨hmx, hmy, hx2, hy2, hy0, hSx, hSy, hij⟩ := hR
  have hWx : W x := Or.inl hx2
  have hWy : W y := Or.inl hy2
  have hq := div_fin hx2 hy2 hy0
  refine wpAny_call ?_
  k_dflt ktr_enter
  k_with_none
  k_steps
  all_goals try dsimp only
  all_goals (refine hret _ _ _ _ (by k_asm) (by k_asm) (fun p hp => (by k_mem)) ?_)
  all_goals (refine ⟨_, Tup.mk (by k_mem) rfl, ?_⟩)
  all_goals exact ⟨rfl, by assumption, by assumption⟩
local macro_rules | `(tactic| walk_at "mine con") => `(tactic| (with_reducible apply int_div_ok))
theorem remainder_ok (w : World) (mean : ExcName → Option Value) (mg mb : Str → Option Value) (ax : Addr) (x : P) (tx ux : Tok) (cx : Nat) (ay : Addr) (y : P) (ty uy : Tok) (cy : Nat) (i : Nat) (j : Nat) : Con w mean mg mb 170 5 [.ref ax, .ref ay] (fun news => ((ax, tup x tx ux cx) ∈ news) ∧ ((ay, tup y ty uy cy) ∈ news) ∧ (0 < x.2) ∧ (0 < y.2) ∧ (y.1 ≠ 0) ∧ (Sm i x) ∧ (Sm j y) ∧ (i + j + j ≤ 1000000)) (fun news r => ∃ z : P, Tup news r z ∧ z = remP x y ∧ W z ∧ Sm (i + (i + j + j) + 1) z) := by
  unfold Con
  intro dp un gd cn cs a₁ ccd cl outer A₀ base h₀ L m news s Q E B F X N T hk hR hd hu hret
  obtain ⟨hmx, hmy, hx2, hy2, hy0, hSx, hSy, hij⟩ := hR
  have hWx : W x := Or.inl hx2
  have hWy : W y := Or.inl hy2
  have hq := floor_fin (div_fin hx2 hy2 hy0)
  refine wpAny_call ?_
  k_dflt ktr_enter
  k_with_none
  k_steps
  all_goals try dsimp only
  all_goals (refine hret _ _ _ _ (by k_asm) (by k_asm) (fun p hp => (by k_mem)) ?_)
  all_goals (refine ⟨_, Tup.mk (by k_mem) rfl, ?_⟩)
  all_goals exact ⟨rfl, by assumption, by assumption⟩
local macro_rules | `(tactic| walk_at "mine con") => `(tactic| (with_reducible apply remainder_ok))
theorem law_fraction_ok (w : World) (mean : ExcName → Option Value) (mg mb : Str → Option Value) (n : Int) (tn : Tok) (d : Int) (td : Tok) (i : Nat) (j : Nat) : Con w mean mg mb 198 1 [.int n tn, .int d td] (fun news => (0 < d) ∧ (Sz i n) ∧ (Sz j d)) (fun news r => ∃ z : P, Tup news r z ∧ z = makeP n d ∧ W z ∧ Sm (i + j) z) := by
  unfold Con
  intro dp un gd cn cs a₁ ccd cl outer A₀ base h₀ L m news s Q E B F X N T hk hR hd hu hret
  obtain ⟨hd0, hSn, hSd⟩ := hR
  refine wpAny_call ?_
  k_dflt ktr_enter
  k_with_none
  k_with "exec While Compare cons nil" => k_while (fun (_ : List Int) p q => (0 ≤ p ∧ 0 ≤ q ∧ (Int.gcd p q : Int) = Int.gcd n d) ∧ (0 < p ∨ 0 < q)) (fun (_ : List Int) _ q => q.toNat) "one" "two"
  k_with "state" => first | exact ⟨gcd_st (by assumption) (by omega), by omega⟩ | exact ⟨⟨by omega, by omega, by rw [gcd_ab]⟩, by omega⟩
  k_with "measure" => exact gcd_me (by omega)
  k_steps
  all_goals try dsimp only
  all_goals (refine hret _ _ _ _ (by k_asm) (by k_asm) (fun p hp => (by k_mem)) ?_)
  have hz : W (makeP n d) ∧ Sm (i + j) (makeP n d) := makeP_ok hd0 hSn hSd
  have he := gcd_end (by assumption) (by assumption) (by assumption) (by omega)
  exact outP (Tup.mk (by k_mem) rfl) (makeP_p (by omega) (by omega) he) hz
local macro_rules | `(tactic| walk_at "mine con") => `(tactic| (with_reducible apply law_fraction_ok))
theorem law_order_ok (w : World) (mean : ExcName → Option Value) (mg mb : Str → Option Value) (ax : Addr) (x : P) (tx ux : Tok) (cx : Nat) (ay : Addr) (y : P) (ty uy : Tok) (cy : Nat) (i : Nat) (j : Nat) : Con w mean mg mb 212 1 [.ref ax, .ref ay] (fun news => ((ax, tup x tx ux cx) ∈ news) ∧ ((ay, tup y ty uy cy) ∈ news) ∧ (W x) ∧ (W y) ∧ (Sm i x) ∧ (Sm j y) ∧ (i + j ≤ 10000000)) (fun news r => ∃ (z : Int) (t : Tok), r = .int z t ∧ z = ordP x y) := by
  unfold Con
  intro dp un gd cn cs a₁ ccd cl outer A₀ base h₀ L m news s Q E B F X N T hk hR hd hu hret
  obtain ⟨hmx, hmy, hWx, hWy, hSx, hSy, hij⟩ := hR
  have hWx' := hWx; unfold W at hWx'
  have hWy' := hWy; unfold W at hWy'
  refine wpAny_call ?_
  k_dflt ktr_enter
  k_with_none
  k_steps
  all_goals try dsimp only
  all_goals (refine hret _ _ _ _ (by k_asm) (by k_asm) (fun p hp => (by k_mem)) ?_)
  all_goals exact ⟨_, _, rfl, by unfold ordP lft rgt; (repeat (first | rw [if_pos (by omega)] | rw [if_neg (by omega)])); first | exact sg_b2i _ _ | (rw [Int.mul_comm y.1 x.2]; exact sg_b2i _ _)⟩
local macro_rules | `(tactic| walk_at "mine con") => `(tactic| (with_reducible apply law_order_ok))
section
local macro_rules | `(tactic| walk_at "call ref") => `(tactic| (k_here; (with_reducible show wpAny _ _ (call (Value.ref 212) _) _ _ _); walk_at "mine six"; k_dflt (refine' Use6.mk (law_order_ok _ _ _ _ _ _ _ _ _ _ ((0 : Int), (1 : Int)) _ _ _ _ _) ?kp ?kd ?ku ?_; (case kp => walk_at "mine pre"); (case kd => ktr_room); (case ku => ktr_units); intro r9 news9 h9 tk9 F9 N9 S9 O9; obtain ⟨z9, t9, O9, P9⟩ := O9; subst O9; (subst P9); walk_at "mine end")))
theorem law_kept_okA (w : World) (mean : ExcName → Option Value) (mg mb : Str → Option Value) (ax : Addr) (x : P) (tx ux : Tok) (cx : Nat) (ay : Addr) (y : P) (ty uy : Tok) (cy : Nat) (az : Addr) (z : P) (tz uz : Tok) (cz : Nat) (i : Nat) : Con w mean mg mb 226 6 [.ref ax, .ref ay, .ref az] (fun news => ((ax, tup x tx ux cx) ∈ news) ∧ ((ay, tup y ty uy cy) ∈ news) ∧ ((az, tup z tz uz cz) ∈ news) ∧ (V x) ∧ (V y) ∧ (V z) ∧ (0 < z.2) ∧ (Sm i x) ∧ (Sm i y) ∧ (Sm i z) ∧ (i ≤ 100) ∧ (z.1 = 0)) (fun news r => r = .bool true) := by
  unfold Con
  intro dp un gd cn cs a₁ ccd cl outer A₀ base h₀ L m news s Q E B F X N T hk hR hd hu hret
  obtain ⟨hmx, hmy, hmz, hVx, hVy, hVz, hz2, hSx, hSy, hSz, hi, hz1⟩ := hR
  have hWx : W x := hVx.1
  have hWy : W y := hVy.1
  have hWz : W z := hVz.1
  have hW01 := W01
  have hS01 := Sm01
  have k1 := ord_add hWx hWy hz2
  have k2 := ord_sub hWx hWy hz2
  have k3 := Sz_ord x y
  have k4 := Sz_ord z (0, 1)
  have k5 : ordP z (0, 1) = 0 := by rw [ord_01 hz2, hz1]; rfl
  have k6 : x.2 = 0 ∨ y.2 = 0 ∨ ((mulP x z).1 = (mulP y z).1 ∧ (mulP x z).2 = (mulP y z).2) := by have := mul_zero_eq x y hz2; omega
  refine wpAny_call ?_
  k_dflt ktr_enter
  k_with_none
  k_steps
  all_goals try dsimp only
  all_goals (refine hret _ _ _ _ (by k_asm) (by k_asm) (fun p hp => (by k_mem)) ?_)
  all_goals (first | rfl | (refine congrArg Value.bool ?_; (try simp only [beq_iff_eq, decide_eq_true_eq]); omega) | (exfalso; omega))
theorem law_kept_okB (w : World) (mean : ExcName → Option Value) (mg mb : Str → Option Value) (ax : Addr) (x : P) (tx ux : Tok) (cx : Nat) (ay : Addr) (y : P) (ty uy : Tok) (cy : Nat) (az : Addr) (z : P) (tz uz : Tok) (cz : Nat) (i : Nat) : Con w mean mg mb 226 6 [.ref ax, .ref ay, .ref az] (fun news => ((ax, tup x tx ux cx) ∈ news) ∧ ((ay, tup y ty uy cy) ∈ news) ∧ ((az, tup z tz uz cz) ∈ news) ∧ (V x) ∧ (V y) ∧ (V z) ∧ (0 < z.2) ∧ (Sm i x) ∧ (Sm i y) ∧ (Sm i z) ∧ (i ≤ 100) ∧ (z.1 ≠ 0)) (fun news r => r = .bool true) := by
  unfold Con
  intro dp un gd cn cs a₁ ccd cl outer A₀ base h₀ L m news s Q E B F X N T hk hR hd hu hret
  obtain ⟨hmx, hmy, hmz, hVx, hVy, hVz, hz2, hSx, hSy, hSz, hi, hz1⟩ := hR
  have hWx : W x := hVx.1
  have hWy : W y := hVy.1
  have hWz : W z := hVz.1
  have hW01 := W01
  have hS01 := Sm01
  have k1 := ord_add hWx hWy hz2
  have k2 := ord_sub hWx hWy hz2
  have k3 := Sz_ord x y
  have k4 := Sz_ord z (0, 1)
  have k5 : ordP z (0, 1) ≠ 0 := by rw [ord_01 hz2]; have := sgn_iff z.1; omega
  have k6 := (ord_mul hWx hWy hz2).resolve_left hz1
  have k7 := (ord_div hWx hWy hz2).resolve_left hz1
  obtain ⟨k8, k9⟩ := (div_mul hVx hz2).resolve_left hz1
  obtain ⟨k10, k11⟩ := (mul_div hVy hz2).resolve_left hz1
  refine wpAny_call ?_
  k_dflt ktr_enter
  k_with_none
  k_steps
  all_goals try dsimp only
  all_goals (refine hret _ _ _ _ (by k_asm) (by k_asm) (fun p hp => (by k_mem)) ?_)
  all_goals (first | rfl | (refine congrArg Value.bool ?_; (try simp only [beq_iff_eq, decide_eq_true_eq]); omega) | (exfalso; omega))
theorem law_kept_ok (w : World) (mean : ExcName → Option Value) (mg mb : Str → Option Value) (ax : Addr) (x : P) (tx ux : Tok) (cx : Nat) (ay : Addr) (y : P) (ty uy : Tok) (cy : Nat) (az : Addr) (z : P) (tz uz : Tok) (cz : Nat) (i : Nat) : Con w mean mg mb 226 6 [.ref ax, .ref ay, .ref az] (fun news => ((ax, tup x tx ux cx) ∈ news) ∧ ((ay, tup y ty uy cy) ∈ news) ∧ ((az, tup z tz uz cz) ∈ news) ∧ (V x) ∧ (V y) ∧ (V z) ∧ (0 < z.2) ∧ (Sm i x) ∧ (Sm i y) ∧ (Sm i z) ∧ (i ≤ 100)) (fun news r => r = .bool true) := by
  unfold Con
  intro dp un gd cn cs a₁ ccd cl outer A₀ base h₀ L m news s Q E B F X N T hk hR hd hu hret
  obtain ⟨hmx, hmy, hmz, hVx, hVy, hVz, hz2, hSx, hSy, hSz, hi⟩ := hR
  by_cases hc : z.1 = 0
  · exact (law_kept_okA _ _ _ _ _ _ _ _ _ _ _ _ _ _ _ _ _ _ _ _).use B F X N T hk ⟨hmx, hmy, hmz, hVx, hVy, hVz, hz2, hSx, hSy, hSz, hi, hc⟩ hd hu hret
  · exact (law_kept_okB _ _ _ _ _ _ _ _ _ _ _ _ _ _ _ _ _ _ _ _).use B F X N T hk ⟨hmx, hmy, hmz, hVx, hVy, hVz, hz2, hSx, hSy, hSz, hi, hc⟩ hd hu hret
end
local macro_rules | `(tactic| walk_at "mine con") => `(tactic| (with_reducible apply law_kept_ok))
theorem law_near_wholes_okA (w : World) (mean : ExcName → Option Value) (mg mb : Str → Option Value) (ax : Addr) (x : P) (tx ux : Tok) (cx : Nat) (ay : Addr) (y : P) (ty uy : Tok) (cy : Nat) (i : Nat) : Con w mean mg mb 233 6 [.ref ax, .ref ay] (fun news => ((ax, tup x tx ux cx) ∈ news) ∧ ((ay, tup y ty uy cy) ∈ news) ∧ (V x) ∧ (V y) ∧ (Sm i x) ∧ (Sm i y) ∧ (i ≤ 100) ∧ (0 < x.2)) (fun news r => r = .bool true) := by
  unfold Con
  intro dp un gd cn cs a₁ ccd cl outer A₀ base h₀ L m news s Q E B F X N T hk hR hd hu hret
  obtain ⟨hmx, hmy, hVx, hVy, hSx, hSy, hi, hx2⟩ := hR
  have hWx : W x := hVx.1
  have hWy : W y := hVy.1
  obtain ⟨n1, n2, n3, n4, n5, n6, n7, n8⟩ := (near_fin hVx).resolve_left (not_not_intro hx2)
  have hsf := Sz.add (Sm_floor hSx).1 sz1
  refine wpAny_call ?_
  k_dflt ktr_enter
  k_with_none
  k_steps
  all_goals try dsimp only
  all_goals (try ((with_reducible show Q _ _); refine hret _ _ _ _ (by k_asm) (by k_asm) (fun p hp => (by k_mem)) ?_; rfl))
  all_goals (have ho1 : ordP (floorP x) (floorP y) ≤ 0 := by have := ord_floor hWx hWy; omega)
  all_goals (have ho2 : ordP (ceilP x) (ceilP y) ≤ 0 := by have := ord_ceil hWx hWy; omega)
  all_goals (have ho3 : ordP (truncP x) (truncP y) ≤ 0 := by have := ord_trunc hWx hWy; omega)
  all_goals (
    unfold Hold
    rename Fr _ _ _ _ => lF0
    rename News _ _ _ _ => lN0
    refine' loop_items [Str.ofString "deed"] (fun v => v = .ref 100 ∨ v = .ref 107 ∨ v = .ref 114) ?hh lF0 lN0 ?hm ?hc ?hd ?hG ?turn ?done
    case hh => with_unfolding_all rfl
    case hm => exact List.mem_cons_self
    case hc => exact rfl
    case hd => exact rfl
    case hG =>
      intro v hv
      simp only [List.mem_cons, List.not_mem_nil, or_false] at hv
      rcases hv with rfl | rfl | rfl <;> simp
    case turn =>
      intro v u news₁ h tk hv hs lF9 lN9
      skip
      try k_sweep
      rcases hv with rfl | rfl | rfl
      all_goals try k_fold
      all_goals k_steps
      all_goals try dsimp only
      all_goals exact LpEnd.mk' (by k_asm) (by (rename News _ _ _ _ => kN9; exact kN9)) (fun p hp => (by k_mem)) (by intro z hz; simp only [List.contains_cons, List.contains_nil, Bool.or_false, Bool.or_eq_false_iff, beq_eq_false_iff_ne, ne_eq] at hz; simp [hz])
    case done =>
      intro u news₁ h tk hs lF9 lN9
      skip
      try k_sweep
      try k_fold
      k_steps
      all_goals try dsimp only
      all_goals (refine hret _ _ _ _ (by k_asm) (by k_asm) (fun p hp => (by k_mem)) ?_)
      all_goals (first | rfl | (refine congrArg Value.bool ?_; (try simp only [beq_iff_eq, decide_eq_true_eq]); omega) | (exfalso; omega))
    )
theorem law_near_wholes_okB (w : World) (mean : ExcName → Option Value) (mg mb : Str → Option Value) (ax : Addr) (x : P) (tx ux : Tok) (cx : Nat) (ay : Addr) (y : P) (ty uy : Tok) (cy : Nat) (i : Nat) : Con w mean mg mb 233 6 [.ref ax, .ref ay] (fun news => ((ax, tup x tx ux cx) ∈ news) ∧ ((ay, tup y ty uy cy) ∈ news) ∧ (V x) ∧ (V y) ∧ (Sm i x) ∧ (Sm i y) ∧ (i ≤ 100) ∧ (x.2 = 0)) (fun news r => r = .bool true) := by
  unfold Con
  intro dp un gd cn cs a₁ ccd cl outer A₀ base h₀ L m news s Q E B F X N T hk hR hd hu hret
  obtain ⟨hmx, hmy, hVx, hVy, hSx, hSy, hi, hx2⟩ := hR
  have hWx : W x := hVx.1
  have hWy : W y := hVy.1
  obtain ⟨⟨n1, n2⟩, ⟨n3, n4⟩, n5, n6⟩ := (near_inf hWx).resolve_left (by omega)
  refine wpAny_call ?_
  k_dflt ktr_enter
  k_with_none
  k_steps
  all_goals try dsimp only
  all_goals (refine hret _ _ _ _ (by k_asm) (by k_asm) (fun p hp => (by k_mem)) ?_)
  all_goals (first | rfl | (refine congrArg Value.bool ?_; (try simp only [beq_iff_eq, decide_eq_true_eq]); omega) | (exfalso; omega))
theorem law_near_wholes_ok (w : World) (mean : ExcName → Option Value) (mg mb : Str → Option Value) (ax : Addr) (x : P) (tx ux : Tok) (cx : Nat) (ay : Addr) (y : P) (ty uy : Tok) (cy : Nat) (i : Nat) : Con w mean mg mb 233 6 [.ref ax, .ref ay] (fun news => ((ax, tup x tx ux cx) ∈ news) ∧ ((ay, tup y ty uy cy) ∈ news) ∧ (V x) ∧ (V y) ∧ (Sm i x) ∧ (Sm i y) ∧ (i ≤ 100)) (fun news r => r = .bool true) := by
  unfold Con
  intro dp un gd cn cs a₁ ccd cl outer A₀ base h₀ L m news s Q E B F X N T hk hR hd hu hret
  obtain ⟨hmx, hmy, hVx, hVy, hSx, hSy, hi⟩ := hR
  by_cases hc : 0 < x.2
  · exact (law_near_wholes_okA _ _ _ _ _ _ _ _ _ _ _ _ _ _ _).use B F X N T hk ⟨hmx, hmy, hVx, hVy, hSx, hSy, hi, hc⟩ hd hu hret
  · exact (law_near_wholes_okB _ _ _ _ _ _ _ _ _ _ _ _ _ _ _).use B F X N T hk ⟨hmx, hmy, hVx, hVy, hSx, hSy, hi, (by have := hVx.1; unfold W at this; omega)⟩ hd hu hret
local macro_rules | `(tactic| walk_at "mine con") => `(tactic| (with_reducible apply law_near_wholes_ok))
section
local macro_rules | `(tactic| walk_at "call ref") => `(tactic| (k_here; (with_reducible show wpAny _ _ (call (Value.ref 212) _) _ _ _); walk_at "mine six"; k_dflt (refine' Use6.mk (law_order_ok _ _ _ _ _ _ _ _ _ _ ((0 : Int), (1 : Int)) _ _ _ _ _) ?kp ?kd ?ku ?_; (case kp => walk_at "mine pre"); (case kd => ktr_room); (case ku => ktr_units); intro r9 news9 h9 tk9 F9 N9 S9 O9; obtain ⟨z9, t9, O9, P9⟩ := O9; subst O9; (subst P9); walk_at "mine end")))
theorem law_divided_ok (w : World) (mean : ExcName → Option Value) (mg mb : Str → Option Value) (ax : Addr) (x : P) (tx ux : Tok) (cx : Nat) (ay : Addr) (y : P) (ty uy : Tok) (cy : Nat) (i : Nat) : Con w mean mg mb 240 6 [.ref ax, .ref ay] (fun news => ((ax, tup x tx ux cx) ∈ news) ∧ ((ay, tup y ty uy cy) ∈ news) ∧ (V x) ∧ (V y) ∧ (Sm i x) ∧ (Sm i y) ∧ (i ≤ 100)) (fun news r => r = .bool true) := by
  unfold Con
  intro dp un gd cn cs a₁ ccd cl outer A₀ base h₀ L m news s Q E B F X N T hk hR hd hu hret
  obtain ⟨hmx, hmy, hVx, hVy, hSx, hSy, hi⟩ := hR
  have hWx : W x := hVx.1
  have hWx' := hWx; unfold W at hWx'
  have hWy : W y := hVy.1
  have hWy' := hWy; unfold W at hWy'
  have hW01 := W01
  have hS01 := Sm01
  have := divided hVx hVy
  refine wpAny_call ?_
  k_dflt ktr_enter
  k_with_none
  k_steps
  all_goals try dsimp only
  all_goals (refine hret _ _ _ _ (by k_asm) (by k_asm) (fun p hp => (by k_mem)) ?_)
  all_goals (first | rfl | (refine congrArg Value.bool ?_; (try simp only [beq_iff_eq, decide_eq_true_eq]); omega) | (exfalso; omega))
end
local macro_rules | `(tactic| walk_at "mine con") => `(tactic| (with_reducible apply law_divided_ok))
theorem law_significant_ok (w : World) (mean : ExcName → Option Value) (mg mb : Str → Option Value) (ax : Addr) (x : P) (tx ux : Tok) (cx : Nat) (ay : Addr) (y : P) (ty uy : Tok) (cy : Nat) (p : Int) (tp : Tok) (i : Nat) : Con w mean mg mb 254 6 [.ref ax, .ref ay, .int p tp] (fun news => ((ax, tup x tx ux cx) ∈ news) ∧ ((ay, tup y ty uy cy) ∈ news) ∧ (V x) ∧ (V y) ∧ (1 ≤ p) ∧ (p ≤ 9) ∧ (Sm i x) ∧ (Sm i y) ∧ (i ≤ 100)) (fun news r => r = .bool true) := by
  unfold Con
  intro dp un gd cn cs a₁ ccd cl outer A₀ base h₀ L m news s Q E B F X N T hk hR hd hu hret
  obtain ⟨hmx, hmy, hVx, hVy, hp1, hp2, hSx, hSy, hi⟩ := hR
  have hWx : W x := hVx.1
  have hWx' := hWx; unfold W at hWx'
  have hWy : W y := hVy.1
  have hWy' := hWy; unfold W at hWy'
  have := signif_so hVx hVy hp1 hp2
  refine wpAny_call ?_
  k_dflt ktr_enter
  k_with_none
  k_steps
  all_goals try dsimp only
  all_goals (refine hret _ _ _ _ (by k_asm) (by k_asm) (fun p hp => (by k_mem)) ?_)
  all_goals (first | rfl | (refine congrArg Value.bool ?_; (try simp only [beq_iff_eq, decide_eq_true_eq]); omega) | (exfalso; omega))
local macro_rules | `(tactic| walk_at "mine con") => `(tactic| (with_reducible apply law_significant_ok))
section
local macro_rules | `(tactic| walk_at "exec If BoolOp cons nil") => `(tactic| (k_here; k_dflt (refine' if_cut ?F ?N ?_ ?_; (case F => k_asm); (case N => k_asm); rotate_left; intro h9 tk9 news9 F9 N9 K9; walk_at "mine end"; rotate_left)))
local macro_rules | `(tactic| walk_at "CutF") => `(tactic| k_dflt (refine' CutF.mk ?F ?N ?K; (case F => k_asm); (case N => (rename News _ _ _ _ => kN9; exact kN9)); (case K => (intro p hp; k_mem))))
theorem law_ordered_ok (w : World) (mean : ExcName → Option Value) (mg mb : Str → Option Value) (ax : Addr) (x : P) (tx ux : Tok) (cx : Nat) (ay : Addr) (y : P) (ty uy : Tok) (cy : Nat) (az : Addr) (z : P) (tz uz : Tok) (cz : Nat) (i : Nat) : Con w mean mg mb 219 6 [.ref ax, .ref ay, .ref az] (fun news => ((ax, tup x tx ux cx) ∈ news) ∧ ((ay, tup y ty uy cy) ∈ news) ∧ ((az, tup z tz uz cz) ∈ news) ∧ (V x) ∧ (V y) ∧ (V z) ∧ (Sm i x) ∧ (Sm i y) ∧ (Sm i z) ∧ (i ≤ 100)) (fun news r => r = .bool true) := by
  unfold Con
  intro dp un gd cn cs a₁ ccd cl outer A₀ base h₀ L m news s Q E B F X N T hk hR hd hu hret
  obtain ⟨hmx, hmy, hmz, hVx, hVy, hVz, hSx, hSy, hSz, hi⟩ := hR
  have hWx : W x := hVx.1
  have hWx' := hWx; unfold W at hWx'
  have hWy : W y := hVy.1
  have hWy' := hWy; unfold W at hWy'
  have hWz : W z := hVz.1
  have hWz' := hWz; unfold W at hWz'
  have := ord_trans hWx hWy hWz
  have hnn := neg_neg x
  refine wpAny_call ?_
  k_dflt ktr_enter
  k_with_none
  k_steps
  all_goals try dsimp only
  unfold Hold
  rename Fr _ _ _ _ => lF0
  rename News _ _ _ _ => lN0
  refine' loop_items [Str.ofString "one", Str.ofString "two", Str.ofString "due"] (PairG (ledOf lN0) i) ?hh lF0 lN0 ?hm ?hc ?hd ?hG ?turn ?done
  case hh => with_unfolding_all rfl
  case hm => exact List.mem_cons_self
  case hc => exact rfl
  case hd => exact rfl
  case hG =>
    intro v hv
    simp only [List.mem_cons, List.not_mem_nil, or_false] at hv
    rcases hv with rfl | rfl | rfl | rfl <;> exact PairG.mk' (by k_mem) (by k_mem) (by k_mem) (by assumption) (by assumption) (by assumption) (by assumption)
  case turn =>
    intro v u news₁ h tk hv hs lF9 lN9
    obtain ⟨p9, a9, X, tX, uX, cX, b9, Y, tY, uY, cY, k9, rfl, hp9, ha9, hb9, hVX, hVY, hSX, hSY⟩ := hv
    replace hp9 := hs _ hp9
    replace ha9 := hs _ ha9
    replace hb9 := hs _ hb9
    try k_sweep
    have hWX : W X := hVX.1
    have hWX' := hWX; unfold W at hWX'
    have hWY : W Y := hVY.1
    have hWY' := hWY; unfold W at hWY'
    have := ord_swap X Y
    have := ord_neg X Y
    have := sgn_sub hWX hWY
    try k_fold
    k_steps
    all_goals try dsimp only
    all_goals exact LpEnd.mk' (by k_asm) (by (rename News _ _ _ _ => kN9; exact kN9)) (fun p hp => (by k_mem)) (by intro z hz; simp only [List.contains_cons, List.contains_nil, Bool.or_false, Bool.or_eq_false_iff, beq_eq_false_iff_ne, ne_eq] at hz; simp [hz])
  case done =>
    intro u news₁ h tk hs lF9 lN9
    skip
    try k_sweep
    try k_fold
    k_steps
    all_goals try dsimp only
    all_goals (refine hret _ _ _ _ (by k_asm) (by k_asm) (fun p hp => (by k_mem)) ?_)
    all_goals (first | rfl | (refine congrArg Value.bool ?_; (try simp only [beq_iff_eq, decide_eq_true_eq]); omega) | (exfalso; omega))
local macro_rules | `(tactic| walk_at "mine con") => `(tactic| (with_reducible apply law_ordered_ok))
section
local macro_rules | `(tactic| walk_at "call builtin:abs") => `(tactic| (k_here; k_dflt (refine abs_c ?_; intro _ _; (try dsimp only))))
local macro_rules | `(tactic| walk_at "call builtin:max") => `(tactic| (k_here; k_dflt (refine' max_c ?h ?F ?N ?_; (case h => with_unfolding_all rfl); (case F => k_asm); (case N => k_asm); intro _ _ _ F' N'; (try dsimp only); (try k_sweep))))
theorem law_rounded_so_okA (w : World) (mean : ExcName → Option Value) (mg mb : Str → Option Value) (ax : Addr) (x : P) (tx ux : Tok) (cx : Nat) (ay : Addr) (y : P) (ty uy : Tok) (cy : Nat) (p : Int) (tp : Tok) (i : Nat) : Con w mean mg mb 247 6 [.ref ax, .ref ay, .int p tp] (fun news => ((ax, tup x tx ux cx) ∈ news) ∧ ((ay, tup y ty uy cy) ∈ news) ∧ (V x) ∧ (V y) ∧ (-2 ≤ p) ∧ (p ≤ 4) ∧ (Sm i x) ∧ (Sm i y) ∧ (i ≤ 100) ∧ (x.2 = 0)) (fun news r => r = .bool true) := by
  unfold Con
  intro dp un gd cn cs a₁ ccd cl outer A₀ base h₀ L m news s Q E B F X N T hk hR hd hu hret
  obtain ⟨hmx, hmy, hVx, hVy, hp1, hp2, hSx, hSy, hi, hx2⟩ := hR
  have hWx : W x := hVx.1
  have hWy : W y := hVy.1
  obtain ⟨hr1, ⟨hr2, hr2b⟩, ⟨hr3, hr3b⟩, hr4⟩ := rounded_so hVx hVy hp1 hp2
  obtain ⟨hr1, hr1b⟩ := hr1.resolve_left (by omega)
  refine wpAny_call ?_
  k_dflt ktr_enter
  k_with_none
  k_steps
  all_goals try dsimp only
  all_goals (refine hret _ _ _ _ (by k_asm) (by k_asm) (fun p hp => (by k_mem)) ?_)
  all_goals (first | rfl | (refine congrArg Value.bool ?_; (try simp only [beq_iff_eq, decide_eq_true_eq]); omega) | (exfalso; omega))
theorem law_rounded_so_okB (w : World) (mean : ExcName → Option Value) (mg mb : Str → Option Value) (ax : Addr) (x : P) (tx ux : Tok) (cx : Nat) (ay : Addr) (y : P) (ty uy : Tok) (cy : Nat) (p : Int) (tp : Tok) (i : Nat) : Con w mean mg mb 247 6 [.ref ax, .ref ay, .int p tp] (fun news => ((ax, tup x tx ux cx) ∈ news) ∧ ((ay, tup y ty uy cy) ∈ news) ∧ (V x) ∧ (V y) ∧ (-2 ≤ p) ∧ (p ≤ 4) ∧ (Sm i x) ∧ (Sm i y) ∧ (i ≤ 100) ∧ (0 < x.2)) (fun news r => r = .bool true) := by
  unfold Con
  intro dp un gd cn cs a₁ ccd cl outer A₀ base h₀ L m news s Q E B F X N T hk hR hd hu hret
  obtain ⟨hmx, hmy, hVx, hVy, hp1, hp2, hSx, hSy, hi, hx2⟩ := hR
  have hWx : W x := hVx.1
  have hWy : W y := hVy.1
  obtain ⟨hr1, ⟨hr2, hr2b⟩, ⟨hr3, hr3b⟩, hr4⟩ := rounded_so hVx hVy hp1 hp2
  obtain ⟨⟨hm1, hm1b⟩, ⟨hm2, hm2b⟩, hu1, hu2, hu3, hu4⟩ := unit_sz hp1 hp2
  clear hr1
  have hwf := (W_rhe hWx hSx hp1 hp2).1
  have hsf := (W_rhe hWx hSx hp1 hp2).2
  have hwu := (makeP_ok hu2 hu3 hu4).1
  have hsu := (makeP_ok hu2 hu3 hu4).2
  obtain ⟨f, hf⟩ : ∃ f, rheP x p = f := ⟨_, rfl⟩
  obtain ⟨uu, hu⟩ : ∃ u, makeP (ta p) (tb p) = u := ⟨_, rfl⟩
  obtain ⟨⟨hz1, hz2, hz3, hz4, hz5, hz6, hz7⟩, hg, hf1, hf2⟩ := rounded_at hVx hx2 hSx hp1 hp2 hf hu
  rw [hf] at hr2 hr2b hr3 hr3b hr4 hwf hsf
  rw [hu] at hwu hsu
  obtain ⟨c, hc⟩ : ∃ c, makeP (f.1 * uu.2) (f.2 * uu.1) = c := ⟨_, rfl⟩
  obtain ⟨d, hd9⟩ : ∃ c, makeP (-f.1 * uu.2) (f.2 * uu.1) = c := ⟨_, rfl⟩
  have hsn : Sz (9 * i + 80) (-f.1) := by have := hsf.1.neg; rwa [show 0 - f.1 = -f.1 by omega] at this
  rw [hc] at hf1
  rw [hd9] at hf2
  refine wpAny_call ?_
  k_dflt ktr_enter
  k_with_none
  k_steps
  all_goals try dsimp only
  all_goals (refine hret _ _ _ _ (by k_asm) (by k_asm) (fun p hp => (by k_mem)) ?_)
  all_goals (first | rfl | (refine congrArg Value.bool ?_; (try simp only [beq_iff_eq, decide_eq_true_eq]); omega) | (exfalso; omega))
theorem law_rounded_so_ok (w : World) (mean : ExcName → Option Value) (mg mb : Str → Option Value) (ax : Addr) (x : P) (tx ux : Tok) (cx : Nat) (ay : Addr) (y : P) (ty uy : Tok) (cy : Nat) (p : Int) (tp : Tok) (i : Nat) : Con w mean mg mb 247 6 [.ref ax, .ref ay, .int p tp] (fun news => ((ax, tup x tx ux cx) ∈ news) ∧ ((ay, tup y ty uy cy) ∈ news) ∧ (V x) ∧ (V y) ∧ (-2 ≤ p) ∧ (p ≤ 4) ∧ (Sm i x) ∧ (Sm i y) ∧ (i ≤ 100)) (fun news r => r = .bool true) := by
  unfold Con
  intro dp un gd cn cs a₁ ccd cl outer A₀ base h₀ L m news s Q E B F X N T hk hR hd hu hret
  obtain ⟨hmx, hmy, hVx, hVy, hp1, hp2, hSx, hSy, hi⟩ := hR
  rcases (show x.2 = 0 ∨ 0 < x.2 from (by have := hVx.1; unfold W at this; omega)) with hc | hc
  · exact (law_rounded_so_okA _ _ _ _ _ _ _ _ _ _ _ _ _ _ _ _ _).use B F X N T hk ⟨hmx, hmy, hVx, hVy, hp1, hp2, hSx, hSy, hi, hc⟩ hd hu hret
  · exact (law_rounded_so_okB _ _ _ _ _ _ _ _ _ _ _ _ _ _ _ _ _).use B F X N T hk ⟨hmx, hmy, hVx, hVy, hp1, hp2, hSx, hSy, hi, hc⟩ hd hu hret
end
local macro_rules | `(tactic| walk_at "mine con") => `(tactic| (with_reducible apply law_rounded_so_ok))
local macro_rules | `(tactic| walk_at "call ref") => `(tactic| (k_here; (first | (with_reducible show wpAny _ _ (call (Value.ref 191) _) _ _ _) | (with_reducible show wpAny _ _ (call (Value.ref 205) _) _ _ _)); k_dflt (refine' ConS.use ?k1 ?k2 ?k3 ?k4 ?k5 ?kK ?C ?hS ?hI ?hl ?kd ?ku ?_; (case k1 => k_asm); (case k2 => k_asm); (case k3 => k_asm); (case k4 => k_asm); (case k5 => k_asm); (case kK => first | exact rfl | assumption); (case C => walk_at "mine con"); (case hS => ktd_rel); (case hI => assumption); (case hl => assumption); (case kd => ktr_room); (case ku => ktr_units); intro r9 us9 ns9 c9 news9 h9 tk9 F9 N9 hS9 hI9 hl9 K9 O9; (first | (obtain ⟨z9, ⟨a9, t9, u9, c9, O9, M9⟩, v9, m9⟩ := O9; subst O9; have ne9 := tup_ne_list N9 hS9 M9) | (obtain ⟨z9, t9, O9, p9, q9⟩ := O9; subst O9)); (try dsimp only); (try k_fold))))
section
local macro_rules | `(tactic| walk_at "call builtin:len") => `(tactic| (k_here; k_dflt (refine' len_c ?N ?S ?l ?_; (case N => k_asm); (case S => k_mem); (case l => assumption)); intro _ _; (try dsimp only)))
local macro_rules | `(tactic| k_upd) => `(tactic| exact Upd.head (by with_reducible assumption))
theorem law_draw_ok (w : World) (mean : ExcName → Option Value) (mg mb : Str → Option Value) (S : Addr) (many : Int) (t : Tok) (hm : 0 < many) : ConS w mean mg mb 191 1 S [.ref S, .int many t] (fun _ r => ∃ (z : Int) (t : Tok), r = .int z t ∧ 0 ≤ z ∧ z < many) := by
  unfold ConS
  intro dp un gd cn cs a₁ ccd cl outer A₀ base h₀ L m news s us ns c Q E B F X N T hk hS hI hl hd hu hret
  obtain ⟨N1, hoff, hsub⟩ := led_first N hS
  clear N
  generalize hrest : news.filter (fun p => p.1 != S) = rest at N1 hoff hsub
  refine wpAny_call ?_
  k_dflt ktr_enter
  k_with_none
  k_steps
  all_goals try dsimp only
  · exact hret _ us ns c _ _ _ (by k_asm) (by k_asm) List.mem_cons_self hI hl (fun p hp h => List.mem_cons_of_mem _ (hsub p hp h)) ⟨_, _, rfl, by omega, hm⟩
  · exact hret _ us.dropLast ns.dropLast (c + 1) _ _ _ (by k_asm) (by k_asm) List.mem_cons_self (by assumption) (by rw [List.length_dropLast]; omega) (fun p hp h => List.mem_cons_of_mem _ (hsub p hp h)) ⟨_, _, rfl, Int.emod_nonneg _ (by omega), Int.emod_lt_of_pos _ hm⟩
end
local macro_rules | `(tactic| ktd_rel) => `(tactic| first | with_reducible assumption | (refine' sub_memS ?K ?h ?n; (case K => with_reducible assumption); (case h => ktd_rel); (case n => first | with_reducible assumption | exact tup_ne_list (by with_reducible assumption) (by with_reducible assumption) (by with_reducible assumption) | exact allLt_ne4 (by with_reducible assumption) (by with_reducible assumption) | exact allLt_ne3 (by with_reducible assumption) (by with_reducible assumption) | exact allLt_ne2 (by with_reducible assumption) (by with_reducible assumption) | exact allLt_ne1 (by with_reducible assumption) (by with_reducible assumption))) | fail "no way")
local macro_rules | `(tactic| walk_at "mine con") => `(tactic| exact law_draw_ok _ _ _ _ _ _ _ (by omega))
section
local macro_rules | `(tactic| walk_at "call ref") => `(tactic| (k_here; (with_reducible show wpAny _ _ (call (Value.ref 198) _) _ _ _); walk_at "mine six"; k_dflt (refine' Use6.mk (law_fraction_ok _ _ _ _ _ _ _ _ 50 31) ?kp ?kd ?ku ?_; (case kp => walk_at "mine pre"); (case kd => ktr_room); (case ku => ktr_units); intro r9 news9 h9 tk9 F9 N9 S9 O9; obtain ⟨z9, ⟨a9, t9, u9, c9, O9, M9⟩, P9⟩ := O9; subst O9; (obtain ⟨e9, w9, m9⟩ := P9; have v9 := V_of (by (try simp only [ten9, ten12]); first | with_reducible exact ten4p (by assumption) (by assumption) | omega) e9; clear w9 e9); walk_at "mine end")))
local macro_rules | `(tactic| walk_at "mine pre") => `(tactic| (refine ⟨?_, ?_, ?_⟩; (try simp only [ten9, ten12]); (first | with_reducible exact ten4p (by assumption) (by assumption) | omega); (try simp only [ten9, ten12]); (with_reducible refine Sz50 ?_ ?_) <;> omega; (try simp only [ten9, ten12]); (first | with_reducible exact ten4s (by assumption) (by assumption) | ((with_reducible refine Sz31 ?_ ?_) <;> omega))))
local macro_rules | `(tactic| walk_at "subscriptTail") => `(tactic| (k_here; (with_reducible show wpAny _ _ (subscriptTail (Expr.List _ _) _ (Value.ref _) (Value.int _ _)) _ _ _); k_dflt (refine' item3 ?N ?m ?a ?b ?_ ?_ ?_; (case N => k_asm); (case m => k_mem); (case a => omega); (case b => omega))))
theorem law_number_ok (w : World) (mean : ExcName → Option Value) (mg mb : Str → Option Value) (S : Addr) : ConS w mean mg mb 205 4 S [.ref S] (fun news r => ∃ x : P, Tup news r x ∧ V x ∧ Sm 81 x) := by
  unfold ConS
  intro dp un gd cn cs a₁ ccd cl outer A₀ base h₀ L m news s us ns c Q E B F X N T hk hS hI hl hd hu hret
  refine wpAny_call ?_
  k_dflt ktr_enter
  k_with_none
  k_steps
  all_goals try dsimp only
  all_goals first | exact hret _ _ _ _ _ _ _ (by k_asm) (by (rename News _ _ _ _ => kN9; exact kN9)) (by ktd_rel) (by assumption) (by assumption) (fun p hp hne => (by k_mem)) ⟨_, Tup.mk (by ktd_rel) rfl, by with_reducible assumption, by with_reducible assumption⟩ | (refine hret _ _ _ _ _ _ _ (by k_asm) (by (rename News _ _ _ _ => kN9; exact kN9)) (by ktd_rel) (by assumption) (by assumption) (fun p hp hne => (by k_mem)) ⟨_, Tup.mk (by ktd_rel) rfl, ?_, ?_⟩; (first | exact V_inf.1 | exact V_inf.2.1 | exact V_inf.2.2); (first | exact Sm_inf.1 | exact Sm_inf.2.1 | exact Sm_inf.2.2)) | fail "number"
end
local macro_rules | `(tactic| walk_at "mine con") => `(tactic| exact law_number_ok _ _ _ _ _)
local macro_rules | `(tactic| walk_at "call builtin:list.reverse") => `(tactic| (k_here; (with_reducible show wpAny _ _ (call (Value.builtin _) [Value.ref _]) _ _ _); k_dflt (refine' rev_c ?F ?N ?I ?l ?U ?_; (case F => k_asm); (case N => k_asm); (case I => with_reducible assumption); (case U => k_upd); (case l => omega)); intro h' F' N' hI9 hl9; (try dsimp only)))
theorem holds : PySem.Challenge.rw_ov0053_01.Holds := by
  (k_with "pyIter ref" => (k_of "cell" => k_state (fun pre items => items.length = 16 * pre.length) "stock"))
  (k_with "pyIter ref" => (k_of "lap" => k_state_given ["stock!"] (fun st pre items (heap : Int) => items.length = st.length + pre.length) "stock" "heap"))
  refine hd ?_
  k_go0
  all_goals try k_fold
  k_steps
  all_goals (
    unfold Hold
    rename Fr _ _ _ _ => lF0
    rename News _ _ _ _ => lN0
    refine' loop_items [Str.ofString "one", Str.ofString "two"] (PairG (ledOf lN0) 81) ?hh lF0 lN0 ?hm ?hc ?hd ?hG ?turn ?done
    case hh => with_unfolding_all rfl
    case hm => exact List.mem_cons_self
    case hc => exact rfl
    case hd => exact rfl
    case hG =>
      intro v hv
      simp only [List.mem_cons, List.not_mem_nil, or_false] at hv
      rcases hv with rfl | rfl | rfl <;> exact PairG.mk' (by k_mem) (by k_mem) (by k_mem) (by assumption) (by assumption) (by assumption) (by assumption)
    case turn =>
      intro v u news₁ h tk hv hs lF9 lN9
      obtain ⟨p9, a9, X, tX, uX, cX, b9, Y, tY, uY, cY, k9, rfl, hp9, ha9, hb9, hVX, hVY, hSX, hSY⟩ := hv
      replace hp9 := hs _ hp9
      replace ha9 := hs _ ha9
      replace hb9 := hs _ hb9
      try k_sweep
      skip
      try k_fold
      k_steps
      all_goals try dsimp only
      all_goals exact LpEnd.mk' (by k_asm) (by (rename News _ _ _ _ => kN9; exact kN9)) (fun p hp => (by k_mem)) (by intro z hz; simp only [List.contains_cons, List.contains_nil, Bool.or_false, Bool.or_eq_false_iff, beq_eq_false_iff_ne, ne_eq] at hz; simp [hz])
    case done =>
      intro u news₁ h tk hs lF9 lN9
      skip
      try k_sweep
      try k_fold
      k_steps
      all_goals try dsimp only
    )
end
end Mine
theorem PySem.Challenge.cw_ov0053_01_holds : PySem.Challenge.rw_ov0053_01.Holds :=
  Mine.holds
