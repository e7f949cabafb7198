import PyProof.Rows.All
import Wide.All
import OpenK.AllK
import Wide.FinOn
import HandS.ForMost
import HandS.ForExc
import HandS.Wide
import HandS.WideBits
import HandS.IsInst
import HandS.TupLe
import KE.BitLaws
import PySem.Challenge.RW_zonewalk_k05_bounds_added
set_option Elab.async false
set_option linter.all false
set_option maxRecDepth 100000
set_option maxHeartbeats 4000000

namespace ZW
theorem fmod_gcd (a b : Int) : Int.gcd b (a.fmod b) = Int.gcd a b := by
  rw [Int.fmod_def, Int.gcd_comm a b]
  exact Int.gcd_sub_mul_left_right b a (a.fdiv b)
theorem fmod_lt (a b : Int) (hb : b ≠ 0) : (a.fmod b).natAbs < b.natAbs := by
  rcases Int.lt_or_lt_of_ne hb with h | h
  · have h1 := Int.fmod_def a b
    have e : a.fmod b = -((-a).fmod (-b)) := by simp
    rw [e, Int.fmod_eq_emod_of_nonneg _ (by omega)]
    have := Int.emod_lt_of_pos (-a) (b := -b) (by omega)
    have := Int.emod_nonneg (-a) (b := -b) (by omega)
    omega
  · rw [Int.fmod_eq_emod_of_nonneg a (by omega)]
    have := Int.emod_lt_of_pos a h
    have := Int.emod_nonneg a hb
    omega
theorem gcd_pos_right {a b : Int} (hb : b ≠ 0) : (0 : Int) < Int.gcd a b := by
  have := Int.gcd_pos_of_ne_zero_right a hb
  omega
/-- both divided by their gcd -/
structure Low (a b t u : Int) : Prop where
  pos : 0 < b → 0 < u
  top : t * Int.gcd a b = a
  bot : u * Int.gcd a b = b
  eq : t * b = a * u
  one : Int.gcd t u = 1
theorem low_of {a b : Int} (hb : b ≠ 0) : Low a b (a.fdiv (Int.gcd a b)) (b.fdiv (Int.gcd a b)) := by
  have g := gcd_pos_right (a := a) hb
  have d1 : (Int.gcd a b : Int) ∣ a := Int.gcd_dvd_left ..
  have d2 : (Int.gcd a b : Int) ∣ b := Int.gcd_dvd_right ..
  rw [Int.fdiv_eq_ediv_of_nonneg _ (by omega), Int.fdiv_eq_ediv_of_nonneg _ (by omega)]
  have e1 := Int.ediv_mul_cancel d1
  have e2 := Int.ediv_mul_cancel d2
  generalize hx : a / (Int.gcd a b : Int) = x at *
  generalize hy : b / (Int.gcd a b : Int) = y at *
  generalize hg : (Int.gcd a b : Int) = G at *
  refine ⟨fun h => ?_, ?_, ?_, ?_, ?_⟩
  · rcases Int.lt_or_le 0 y with z | z
    · exact z
    · have := Int.mul_nonpos_of_nonpos_of_nonneg z (Int.le_of_lt g)
      omega
  · rw [hg]; exact e1
  · rw [hg]; exact e2
  · rw [← e2, ← e1]; rw [Int.mul_comm y G, ← Int.mul_assoc]
  · have q : Int.gcd (x * G) (y * G) = Int.gcd x y * G.natAbs := Int.gcd_mul_right ..
    rw [e1, e2] at q
    have hG : G.natAbs = Int.gcd a b := by omega
    rw [hG] at q
    have gp : 0 < Int.gcd a b := by omega
    exact Nat.eq_of_mul_eq_mul_right gp (by rw [Nat.one_mul]; exact q.symm)
theorem low_neg {a b : Int} (hb : b < 0) : Low a b (a.fdiv (0 - (Int.gcd a b : Int)) * (-1)) (b.fdiv (0 - (Int.gcd a b : Int)) * (-1)) := by
  have l := low_of (a := a) (b := b) (by omega)
  have g := gcd_pos_right (a := a) (b := b) (by omega)
  have d1 : (Int.gcd a b : Int) ∣ a := Int.gcd_dvd_left ..
  have d2 : (Int.gcd a b : Int) ∣ b := Int.gcd_dvd_right ..
  have k : ∀ x G : Int, 0 < G → G ∣ x → x.fdiv (0 - G) * (-1) = x.fdiv G := by
    intro x G hG ⟨c, hc⟩
    subst hc
    rw [Int.zero_sub]
    rw [Int.mul_fdiv_cancel_left _ (by omega)]
    rw [show G * c = (-G) * (-c) by rw [Int.neg_mul_neg], Int.mul_fdiv_cancel_left _ (by omega)]
    omega
  rw [k _ _ g d1, k _ _ g d2]
  exact l
theorem gcd_le_size {a b : Int} (hb : b ≠ 0) : (Int.gcd a b) ≤ b.natAbs := by
  have := Int.gcd_dvd_right (a := a) (b := b)
  exact Nat.le_of_dvd (by omega) (by simpa using Int.natAbs_dvd_natAbs.mpr this)
theorem quo_le {t G a : Int} (h : t * G = a) (hG : 0 < G) : t.natAbs ≤ a.natAbs := by
  rw [← h, Int.natAbs_mul]
  exact Nat.le_mul_of_pos_right _ (by omega)
theorem log_lt {i : Int} {n m : Nat} (h : i.natAbs < 2 ^ n) (h0 : 0 < n) (hm : n ≤ m) : i.natAbs.log2 < m := by
  by_cases e : i.natAbs = 0
  · rw [e]; simp; omega
  · exact Nat.lt_of_lt_of_le ((Nat.log2_lt e).mpr h) hm
open PySem PySem.Spec PyProof.Rows L2
theorem upd_keep {H : Hp} {p : Addr} {o : HO} (h : H p = none) : Same H (upd H p o) := fun b x e => by
  rw [upd_ne (ne_of_none e h)]
  exact e
theorem Same.to {H H' : Hp} (s : Same H H') {a : Addr} {o : HO} (h : H a = some o) : H' a = some o := s a o h
theorem seq_step {t u : TS} {D : Ends} {σ : L2.St} {H : Hp} (h : t { D with nx := u D } σ H) : tSeq t u D σ H := h
theorem ite_d {c : Prop} [Decidable c] {A B : Prop} (h1 : c → A) (h2 : ¬ c → B) : if decide c = true then A else B := by
  by_cases h : c
  · rw [if_pos (decide_eq_true h)]; exact h1 h
  · rw [if_neg (by rw [decide_eq_false h]; exact Bool.false_ne_true)]; exact h2 h
theorem shl1 {i : Int} {n : Nat} (h : i.natAbs < 2 ^ n) (hn : n ≤ 100000) : CShl i 1 := shl_ok (j := 1) h (by omega)
theorem one_ne : ((1 : Int) = 0) = False := by simp
theorem pow_lit (i : Int) : i ^ (1 : Nat) = i := Int.pow_one i
theorem cxK {CX : CXT} {P : Program} {w : World} {K : PySem.W.Frag} {mg : Str → Option Value} {base : Heap} {N : List Str} {qual : Str} {scope : Scope} {f : Addr} {cd : Value} {A : Around} {outer : List Env} {s : Shared} {H : Hp} {E : XK} :
    (cxOf CX P w K mg base N qual scope f cd A outer s H E).K = K := rfl
theorem ix_l {K : PySem.W.Frag} {H : Hp} {p : Addr} {xs : List V} {i : Int} {v : V} {Q : VK} (h : SqL K H p xs) (hi : 0 ≤ i) (hv : xs[i.toNat]? = some v) (q : Q v H) : rIxL K (.ref p) (.int i) H Q :=
  ⟨p, xs, i, v, rfl, rfl, h, at_of (j := i.toNat) (by omega) hv, q⟩
theorem ix_t {K : PySem.W.Frag} {H : Hp} {p : Addr} {xs : List V} {i : Int} {v : V} {Q : VK} (h : SqT K H p xs) (hi : 0 ≤ i) (hv : xs[i.toNat]? = some v) (q : Q v H) : rIxT K (.ref p) (.int i) H Q :=
  ⟨p, xs, i, v, rfl, rfl, h, at_of (j := i.toNat) (by omega) hv, q⟩
theorem sqL_upd {K : PySem.W.Frag} {H : Hp} {p : Addr} {xs : List V} : SqL K (upd H p (.lst xs)) p xs := SqL.of upd_same
theorem fm2 (c : Int) : c.fmod 2 = 0 ∨ c.fmod 2 = 1 := by
  rw [Int.fmod_eq_emod_of_nonneg _ (by omega)]; omega
theorem fm_pos {c m : Int} (h : 0 < m) : 0 ≤ c.fmod m ∧ c.fmod m < m := by
  rw [Int.fmod_eq_emod_of_nonneg _ (by omega)]
  exact ⟨Int.emod_nonneg _ (by omega), Int.emod_lt_of_pos _ h⟩
/-- a number of at most n bits -/
def Sz (n : Nat) (i : Int) : Prop := i.natAbs < 2 ^ n
theorem Sz.mono {i : Int} {a c : Nat} (ha : Sz a i) (h : a ≤ c) : Sz c i := Nat.lt_of_lt_of_le ha (Nat.pow_le_pow_right (by decide) h)
theorem Sz.mulW {i j : Int} {a b : Nat} (ha : Sz a i) (hb : Sz b j) (h : a + b ≤ 999998) : CMulW i j :=
  wide_mul (a := a + 1) (b := b + 1) (Sz.mono ha (by omega)) (Sz.mono hb (by omega)) (by omega) (by omega) (by omega)
theorem Sz.mul {i j : Int} {a b c : Nat} (ha : Sz a i) (hb : Sz b j) (h : a + b ≤ c) : Sz c (i * j) := Sz.mono (wide_lt ha hb) h
theorem Sz.add {i j : Int} {a b c : Nat} (ha : Sz a i) (hb : Sz b j) (h1 : a + 1 ≤ c) (h2 : b + 1 ≤ c) : Sz c (i + j) := by
  have x : Sz (c - 1) i := ha.mono (by omega)
  have y : Sz (c - 1) j := hb.mono (by omega)
  have e : (2 : Nat) ^ c = 2 ^ (c - 1) * 2 := by rw [← Nat.pow_succ]; congr 1; omega
  unfold Sz at x y ⊢
  omega
theorem Sz.sub {i j : Int} {a b c : Nat} (ha : Sz a i) (hb : Sz b j) (h1 : a + 1 ≤ c) (h2 : b + 1 ≤ c) : Sz c (i - j) := by
  have x : Sz (c - 1) i := ha.mono (by omega)
  have y : Sz (c - 1) j := hb.mono (by omega)
  have e : (2 : Nat) ^ c = 2 ^ (c - 1) * 2 := by rw [← Nat.pow_succ]; congr 1; omega
  unfold Sz at x y ⊢
  omega
theorem Sz.le {i j : Int} {a : Nat} (h : i.natAbs ≤ j.natAbs) (hj : Sz a j) : Sz a i := Nat.lt_of_le_of_lt h hj
theorem Sz.nn {i j : Int} {a : Nat} (h0 : 0 ≤ i) (h : i ≤ j) (hj : Sz a j) : Sz a i := Sz.le (by omega) hj
theorem Sz.rg {i j : Int} {a : Nat} (h0 : -j ≤ i) (h : i ≤ j) (hj : Sz a j) : Sz a i := Sz.le (by omega) hj
/-- a divisor that the rule takes -/
def DivOk (j : Int) : Prop := j ≠ 0 ∧ j.natAbs.log2 < 9000
theorem DivOk.of {j : Int} {n : Nat} (h : j ≠ 0) (hs : Sz n j) (hn : n ≤ 8000) : DivOk j := ⟨h, log_lt (n := 8000) (hs.mono hn) (by omega) (by omega)⟩
theorem sz_line {n : Nat} (h : n ≤ 1000) : (n ≤ sizeLine) = True := eq_true (Nat.le_of_lt (small1000 h))
section
variable {X : Cx}
theorem op_fdivZ : OpR X (binaryOp .FloorDiv) (rI (fun _ j => DivOk j) fun i j => .int (i.fdiv j)) := opI fun _ _ _ _ _ _ _ hc q =>
  floordiv_int hc.1 q (.inl (PyProof.noPylong_of_log2 hc.2))
end
theorem gTup_of {K : PySem.W.Frag} {a : Addr} {xs : List V} {n : Nat} {t : TGs} {σ : L2.St} {H : Hp} {Q : L2.St → Hp → Prop} (h : SqT K H a xs) (hn : xs.length = n) (q : t xs σ H Q) : gTup K n t (.ref a) σ H Q := ⟨a, xs, rfl, h, hn, q⟩
theorem sqt {K : PySem.W.Frag} {H : Hp} {a : Addr} {xs : List V} (h : H a = some (.tup xs)) : SqT K H a xs := SqT.of h
theorem Low.top_le {a b t u : Int} (l : Low a b t u) (hb : b ≠ 0) : t.natAbs ≤ a.natAbs := quo_le l.top (gcd_pos_right hb)
theorem Low.bot_le {a b t u : Int} (l : Low a b t u) (hb : b ≠ 0) : u.natAbs ≤ b.natAbs := quo_le l.bot (gcd_pos_right hb)
theorem ite_and {a : Bool} {c : Prop} [Decidable c] {A R : Prop} (h1 : a = true → c → A) (h2 : ¬ (a = true ∧ c) → R) : if a = true then (if decide c = true then A else R) else R := by
  by_cases ha : a = true
  · rw [if_pos ha]; exact ite_d (h1 ha) fun z => h2 fun q => z q.2
  · rw [if_neg ha]; exact h2 fun q => ha q.1
section
variable {X : Cx} {e : Expr} {es : List Expr} {t t' : TE} {ta : TA} {pos : Pos}
theorem pe_imp (h : PE X e t) (k : ∀ σ H Q, t' σ H Q → t σ H Q) : PE X e t' := ⟨fun pins s σ H Q I q => h.run pins s σ H Q I (k σ H Q q)⟩
def tWk (ta : TA) : TA := fun σ H Q => ∃ Q0 : List V → Hp → Prop, ta σ H Q0 ∧ ∀ xs H1, Q0 xs H1 → Q xs H1
theorem pa_wk (h : PA X es ta) : PA X es (tWk ta) := ⟨fun pos pins s σ H _ I ⟨Q0, a, k⟩ => thn (h.run pos pins s σ H Q0 I a) fun _ _ ⟨xs, H1, I1, r, q⟩ => ⟨xs, H1, I1, r, k _ _ q⟩⟩
/-- a new tuple, a new list: nothing but what is tracked is told of the heap behind -/
def tTupN (ta : TA) : TE := fun σ H Q => ta σ H fun xs H1 => xs.length ≤ sizeLine ∧ ∀ p H2, Same H1 H2 → H1 p = none → H2 p = some (.tup xs) → Q (.ref p) H2
def tLstN (ta : TA) : TE := fun σ H Q => ta σ H fun xs H1 => xs.length ≤ sizeLine ∧ ∀ p H2, Same H1 H2 → H1 p = none → H2 p = some (.lst xs) → Q (.ref p) H2
theorem pe_tupN {x1} (h : PA X es ta) : PE X (.Tuple es x1 pos) (tTupN ta) :=
  pe_imp (pe_tup (pa_wk h)) fun _ _ _ q => ⟨_, q, fun _ _ ⟨z, k⟩ => ⟨z, fun p hp => k p _ (upd_keep hp) hp upd_same⟩⟩
theorem pe_lstN (h : PA X es ta) : PE X (.List es pos) (tLstN ta) :=
  pe_imp (pe_lst (pa_wk h)) fun _ _ _ q => ⟨_, q, fun _ _ ⟨z, k⟩ => ⟨z, fun p hp => k p _ (upd_keep hp) hp upd_same⟩⟩
def rSlN (K : PySem.W.Frag) : V → Option Int → Option Int → Hp → VK → Prop := fun x lo hi H Q => ∃ a xs, x = .ref a ∧ SqL K H a xs ∧ ∀ p H2, Same H H2 → H p = none → H2 p = some (.lst (cutV xs lo hi)) → Q (.ref p) H2
theorem sl_listN : SlR X (rSlN X.K) := fun pins s σ H x v vl vu lo hi sl Q I rx hs p1 p2 ⟨a, xs, e, h, q⟩ =>
  sl_list pins s σ H x v vl vu lo hi sl Q I rx hs p1 p2 ⟨a, xs, e, h, fun p hp => q p _ (upd_keep hp) hp upd_same⟩
theorem op_imp {f : Value → Value → Sem Value} {r r' : R2} (h : OpR X f r) (k : ∀ x y H Q, r' x y H Q → r x y H Q) : OpR X f r' := fun pins s σ H x y v u Q I rx ry q => h pins s σ H x y v u Q I rx ry (k x y H Q q)
def rCatN : R2 := fun x y H Q => ∃ l b xs zs, x = .ref l ∧ y = .ref b ∧ H l = some (.lst xs) ∧ H b = some (.lst zs) ∧ xs.length + zs.length ≤ sizeLine ∧ ∀ p H2, Same H H2 → H p = none → H2 p = some (.lst (xs ++ zs)) → Q (.ref p) H2
theorem op_catN : OpR X (binaryOp .Add) rCatN := op_imp op_cat fun _ _ _ _ ⟨l, b, xs, zs, e1, e2, h1, h2, z, q⟩ => ⟨l, b, xs, zs, e1, e2, h1, h2, z, fun p hp => q p _ (upd_keep hp) hp upd_same⟩
theorem call_imp {f : Value} {r r' : List V → Hp → VK → Prop} (h : CallR X f r) (k : ∀ x H Q, r' x H Q → r x H Q) : CallR X f r' := fun pins s σ H xs us Q I r q => h pins s σ H xs us Q I r (k xs H Q q)
def rListN (K : PySem.W.Frag) : List V → Hp → VK → Prop := fun xs H Q => ∃ p ys, xs = [.ref p] ∧ (SqL K H p ys ∨ SqT K H p ys) ∧ ∀ l H2, Same H H2 → H l = none → H2 l = some (.lst ys) → Q (.ref l) H2
theorem call_listN : CallR X (.type "list") (rListN X.K) := call_imp call_list_of fun _ _ _ ⟨p, ys, e, h, q⟩ => ⟨p, ys, e, h, fun l hl => q l _ (upd_keep hl) hl upd_same⟩
def rIntB : List V → Hp → VK → Prop := fun xs H Q => ∃ k, xs = [.bl k] ∧ Q (.int (if k then 1 else 0)) H
theorem call_intB : CallR X (.type "int") rIntB := call_imp call_int1 fun _ _ _ h => .inr h
end
theorem nat_and_mod (x y : Nat) : (x &&& y) % 2 = (x % 2) * (y % 2) := by
  have h := Nat.and_mod_two_pow (a := x) (b := y) (n := 1)
  have h1 : x % 2 = 0 ∨ x % 2 = 1 := by omega
  have h2 : y % 2 = 0 ∨ y % 2 = 1 := by omega
  rw [Nat.pow_one] at h
  rcases h1 with e | e <;> rcases h2 with f | f <;> rw [h, e, f] <;> rfl
theorem nat_or_mod (x y : Nat) : (x ||| y) % 2 = if x % 2 = 0 ∧ y % 2 = 0 then 0 else 1 := by
  have h := Nat.or_mod_two_pow (a := x) (b := y) (n := 1)
  have h1 : x % 2 = 0 ∨ x % 2 = 1 := by omega
  have h2 : y % 2 = 0 ∨ y % 2 = 1 := by omega
  rw [Nat.pow_one] at h
  rcases h1 with e | e <;> rcases h2 with f | f <;> rw [h, e, f] <;> rfl
theorem and_bit (a b : Int) : Builtin.bitAnd a b % 2 = (if a % 2 = 1 ∧ b % 2 = 1 then 1 else 0) := by
  have key : ∀ x y : Nat, x % 2 = 0 ∨ x % 2 = 1 := by omega
  have nn : ∀ x, Builtin.bitNot x = - x - 1 := by intro x; unfold Builtin.bitNot; omega
  by_cases ha : 0 ≤ a <;> by_cases hb : 0 ≤ b
  · rw [bitAnd_pp ha hb]
    have h := nat_and_mod a.toNat b.toNat
    have h1 : a.toNat % 2 = 0 ∨ a.toNat % 2 = 1 := by omega
    have h2 : b.toNat % 2 = 0 ∨ b.toNat % 2 = 1 := by omega
    rcases h1 with e | e <;> rcases h2 with f | f <;> rw [e, f] at h <;> split <;> omega
  · rw [bitAnd_pn ha hb, nn]
    have h := nat_and_mod a.toNat (-b-1).toNat
    have h1 : a.toNat % 2 = 0 ∨ a.toNat % 2 = 1 := by omega
    have h2 : (-b-1).toNat % 2 = 0 ∨ (-b-1).toNat % 2 = 1 := by omega
    rcases h1 with e | e <;> rcases h2 with f | f <;> rw [e, f] at h <;> split <;> omega
  · rw [bitAnd_np ha hb, nn]
    have h := nat_and_mod b.toNat (-a-1).toNat
    have h1 : b.toNat % 2 = 0 ∨ b.toNat % 2 = 1 := by omega
    have h2 : (-a-1).toNat % 2 = 0 ∨ (-a-1).toNat % 2 = 1 := by omega
    rcases h1 with e | e <;> rcases h2 with f | f <;> rw [e, f] at h <;> split <;> omega
  · rw [bitAnd_nn ha hb, nn, nn, nn]
    have h := nat_or_mod (-a-1).toNat (-b-1).toNat
    have h1 : (-a-1).toNat % 2 = 0 ∨ (-a-1).toNat % 2 = 1 := by omega
    have h2 : (-b-1).toNat % 2 = 0 ∨ (-b-1).toNat % 2 = 1 := by omega
    rcases h1 with e | e <;> rcases h2 with f | f <;> rw [e, f] at h <;> split at h <;> split <;> omega

theorem bit_sum (a b : Int) : Builtin.bitOr ((a / 2 + b / 2) * 2) (Builtin.bitAnd (Builtin.bitAnd a b) 1) = 2 * (a / 2 + b / 2) + (if a % 2 = 1 ∧ b % 2 = 1 then 1 else 0) := by
  rw [bitAnd_m1, and_bit, bitOr_and]
  split
  · rw [bitAnd_m1]; omega
  · rw [bitAnd_zero]; omega
theorem isi {K : PySem.W.Frag} {H : Hp} {x : V} {a b : String} {r : Bool} {Q : VK} (h : TyX K H x (.type a)) (k : kitB a b = some r) (q : Q (.bl r) H) : rIsi K [x, .ty b] H Q := ⟨x, .ty b, _, _, r, rfl, .ty b, h, kit_ty k, q⟩
theorem if_t {b : Bool} {A B : Prop} (h : b = true) (q : A) : if b = true then A else B := by rw [if_pos h]; exact q
theorem if_f {b : Bool} {A B : Prop} (h : b = false) (q : B) : if b = true then A else B := by rw [h, if_neg Bool.false_ne_true]; exact q
/-- a bound, as a value -/
def oV : Option Int → V
  | none => .non
  | some i => .int i
theorem oV_none : oV none = .non := rfl
theorem oV_some (i : Int) : oV (some i) = .int i := rfl
theorem ex_int {i : Int} {P : Int → Prop} (h : P i) : ∃ j, V.int i = V.int j ∧ P j := ⟨i, rfl, h⟩
end ZW

namespace ZW
open PySem PySem.Spec PyProof.Rows L2
theorem dvl_2 : DivOk 2 = True := eq_true ⟨by decide, by decide +kernel⟩
theorem dvl_4 : DivOk 4 = True := eq_true ⟨by decide, by decide +kernel⟩
theorem dvl_7 : DivOk 7 = True := eq_true ⟨by decide, by decide +kernel⟩
theorem dvl_20 : DivOk 20 = True := eq_true ⟨by decide, by decide +kernel⟩
theorem dvl_1000000000 : DivOk 1000000000 = True := eq_true ⟨by decide, by decide +kernel⟩
theorem dvl_1000000000000 : DivOk 1000000000000 = True := eq_true ⟨by decide, by decide +kernel⟩
theorem pwl_10_9 : CPow 10 9 = True := eq_true ⟨by decide, by decide, by decide +kernel⟩
theorem pwl_10_12 : CPow 10 12 = True := eq_true ⟨by decide, by decide, by decide +kernel⟩
theorem pwl_10_40 : CPow 10 40 = True := eq_true ⟨by decide, by decide, by decide +kernel⟩
end ZW
local macro_rules | `(tactic| walk_at "rd") => `(tactic| try simp only [L2.tIfS, L2.tTest, L2.tB, L2.tOp, L2.tUn, L2.tVar, L2.tC, L2.tRet, L2.tRetN, L2.tNext, L2.tAsg, L2.tPar, L2.gName, L2.tCons, L2.tNil, L2.tCall, L2.tCB, L2.tAnd, L2.tOr, L2.tNot, L2.tAndV, L2.tOrV, L2.tNotV, L2.tIf, L2.rI0, L2.rI, L2.rU, L2.rAdd, L2.rSub, L2.rEq, L2.rNe, L2.scal, L2.start, L2.tTup, L2.tLst, ZW.tTupN, ZW.tLstN, L2.tSl, L2.tPart, L2.tNoPart, ZW.rSlN, ZW.rCatN, ZW.rListN, ZW.rIntB,  L2.tDrop, L2.tIsN, L2.tNotN, L2.tCmp, L2.t2I,
  List.map_cons, List.map_nil, List.length_cons, List.length_nil, List.replicate, List.append_nil, List.nil_append, List.cons_append, List.getElem?_cons_zero, List.getElem?_cons_succ, List.set_cons_zero, List.set_cons_succ, Nat.reduceSub, Nat.reduceAdd, Nat.sub_self, Nat.zero_add, List.getElem?_nil, List.append_eq,
  Option.some.injEq, L2.V.int.injEq, L2.V.bl.injEq, L2.V.ref.injEq, reduceCtorEq, exists_eq_left', exists_eq_left, exists_eq, true_and, and_true, exists_and_left, exists_eq_right, exists_eq_right', decide_true, decide_false, Bool.not_true, Bool.not_false, if_true, if_false, ite_true, ite_false, Bool.false_eq_true, List.cons.injEq, ite_self, and_self, and_assoc, L2.gCons, L2.gNil, Int.reduceToNat, Int.reduceMul, Int.reduceSub, Int.reduceAdd, Int.reduceNe, Int.reduceLE, Int.reduceLT, Int.reduceNeg, Int.reduceEq, ZW.dvl_2, ZW.dvl_4, ZW.dvl_7, ZW.dvl_20, ZW.dvl_1000000000, ZW.dvl_1000000000000, ZW.pwl_10_9, ZW.pwl_10_12, ZW.pwl_10_40, ZW.sz_line, Nat.reduceLT, Nat.reduceLeDiff, Nat.reduceLeDiff, ne_eq, not_false_eq_true, Int.reducePow, Int.pow_one,  forall_const, implies_true, ZW.cxK])
local macro_rules | `(tactic| walk_at "ix") => `(tactic| (walk_at "rd"; first | refine ZW.ix_l (L2.SqL.of (by assumption)) (by decide) rfl ?_ | refine ZW.ix_t (L2.SqT.of (by assumption)) (by decide) rfl ?_))
local macro_rules | `(tactic| walk_at "sq") => `(tactic| (walk_at "rd"; refine ZW.seq_step ?_; walk_at "rd"))
local macro_rules | `(tactic| walk_at "isT") => `(tactic| (walk_at "rd"; refine ZW.isi (r := true) (by first | exact .base (.int _) | exact .base (.bl _) | exact .base .non | exact .base (.str _) | exact .base (.tup (by assumption)) | exact .base (.lst (by assumption)) | exact .base (.dK (by assumption))) (by decide +kernel) ?_; walk_at "rd"))
local macro_rules | `(tactic| walk_at "isF") => `(tactic| (walk_at "rd"; refine ZW.isi (r := false) (by first | exact .base (.int _) | exact .base (.bl _) | exact .base .non | exact .base (.str _) | exact .base (.tup (by assumption)) | exact .base (.lst (by assumption)) | exact .base (.dK (by assumption))) (by decide +kernel) ?_; walk_at "rd"))

namespace ZW
open PySem PySem.Spec PyProof.Rows L2
def topS (i : Nat) : Stmt := PySem.Challenge.pw_zonewalk_k05_bounds_added.main.body.getD i (.Pass ⟨0, 0, 0, 0⟩)
abbrev s_number_of : Stmt := topS 1
theorem sc_number_of : FnScope ["bound"] ["bound"] (defScope s_number_of) := ⟨rfl, rfl, rfl, by decide +kernel, rfl, by decide +kernel, by decide +kernel⟩
abbrev s_is_open : Stmt := topS 2
theorem sc_is_open : FnScope ["bound"] ["bound"] (defScope s_is_open) := ⟨rfl, rfl, rfl, by decide +kernel, rfl, by decide +kernel, by decide +kernel⟩
abbrev s_added : Stmt := topS 3
theorem sc_added : FnScope ["one", "other"] ["one", "other"] (defScope s_added) := ⟨rfl, rfl, rfl, by decide +kernel, rfl, by decide +kernel, by decide +kernel⟩
abbrev s_lets : Stmt := topS 4
theorem sc_lets : FnScope ["bound", "value", "top", "bottom", "most"] ["bound", "value"] (defScope s_lets) := ⟨rfl, rfl, rfl, by decide +kernel, rfl, by decide +kernel, by decide +kernel⟩
abbrev s_cell_at : Stmt := topS 6
theorem sc_cell_at : FnScope ["_law_script", "_law_k"] ["_law_script", "_law_k"] (defScope s_cell_at) := ⟨rfl, rfl, rfl, by decide +kernel, rfl, by decide +kernel, by decide +kernel⟩
abbrev s_number : Stmt := topS 7
theorem sc_number : FnScope ["_law_cell", "_law_most"] ["_law_cell"] (defScope s_number) := ⟨rfl, rfl, rfl, by decide +kernel, rfl, by decide +kernel, by decide +kernel⟩
abbrev s_divisor : Stmt := topS 8
theorem sc_divisor : FnScope ["_law_one", "_law_other"] ["_law_one", "_law_other"] (defScope s_divisor) := ⟨rfl, rfl, rfl, by decide +kernel, rfl, by decide +kernel, by decide +kernel⟩
abbrev s_lowest : Stmt := topS 9
theorem sc_lowest : FnScope ["_law_top", "_law_bottom", "_law_share"] ["_law_top", "_law_bottom"] (defScope s_lowest) := ⟨rfl, rfl, rfl, by decide +kernel, rfl, by decide +kernel, by decide +kernel⟩
abbrev s_value : Stmt := topS 10
theorem sc_value : FnScope ["_law_number_here", "_law_closed", "_law_cell", "_law_way", "_law_bottom"] ["_law_number_here", "_law_closed", "_law_cell"] (defScope s_value) := ⟨rfl, rfl, rfl, by decide +kernel, rfl, by decide +kernel, by decide +kernel⟩
abbrev s_sum : Stmt := topS 11
theorem sc_sum : FnScope ["_law_one", "_law_other"] ["_law_one", "_law_other"] (defScope s_sum) := ⟨rfl, rfl, rfl, by decide +kernel, rfl, by decide +kernel, by decide +kernel⟩
abbrev s_law : Stmt := topS 12
theorem sc_law : FnScope ["_law_script", "_law_way", "_law_one", "_law_other", "_law_closed", "_law_bounds", "_law_found", "_law_both", "_law_cell", "_law_value_here", "_law_bottom", "_law_above"] ["_law_script"] (defScope s_law) := ⟨rfl, rfl, rfl, by decide +kernel, rfl, by decide +kernel, by decide +kernel⟩
structure Top (K : PySem.W.Frag) (mg : Str → Option Value) where
  f_number_of : Addr
  d_number_of : FuncData
  F_number_of : Fun K "number_of" "number_of" s_number_of f_number_of d_number_of
  g_number_of : mg "number_of" = some (.ref f_number_of)
  b_number_of : Binds K d_number_of ["bound"] []
  f_is_open : Addr
  d_is_open : FuncData
  F_is_open : Fun K "is_open" "is_open" s_is_open f_is_open d_is_open
  g_is_open : mg "is_open" = some (.ref f_is_open)
  b_is_open : Binds K d_is_open ["bound"] []
  f_added : Addr
  d_added : FuncData
  F_added : Fun K "added" "added" s_added f_added d_added
  g_added : mg "added" = some (.ref f_added)
  b_added : Binds K d_added ["one", "other"] []
  f_lets : Addr
  d_lets : FuncData
  F_lets : Fun K "lets" "lets" s_lets f_lets d_lets
  g_lets : mg "lets" = some (.ref f_lets)
  b_lets : Binds K d_lets ["bound", "value"] []
  f_cell_at : Addr
  d_cell_at : FuncData
  F_cell_at : Fun K "_law_cell_at" "_law_cell_at" s_cell_at f_cell_at d_cell_at
  g_cell_at : mg "_law_cell_at" = some (.ref f_cell_at)
  b_cell_at : Binds K d_cell_at ["_law_script", "_law_k"] []
  f_number : Addr
  d_number : FuncData
  F_number : Fun K "_law_number" "_law_number" s_number f_number d_number
  g_number : mg "_law_number" = some (.ref f_number)
  b_number : Binds K d_number ["_law_cell"] []
  f_divisor : Addr
  d_divisor : FuncData
  F_divisor : Fun K "_law_divisor" "_law_divisor" s_divisor f_divisor d_divisor
  g_divisor : mg "_law_divisor" = some (.ref f_divisor)
  b_divisor : Binds K d_divisor ["_law_one", "_law_other"] []
  f_lowest : Addr
  d_lowest : FuncData
  F_lowest : Fun K "_law_lowest" "_law_lowest" s_lowest f_lowest d_lowest
  g_lowest : mg "_law_lowest" = some (.ref f_lowest)
  b_lowest : Binds K d_lowest ["_law_top", "_law_bottom"] []
  f_value : Addr
  d_value : FuncData
  F_value : Fun K "_law_value" "_law_value" s_value f_value d_value
  g_value : mg "_law_value" = some (.ref f_value)
  b_value : Binds K d_value ["_law_number_here", "_law_closed", "_law_cell"] []
  f_sum : Addr
  d_sum : FuncData
  F_sum : Fun K "_law_sum" "_law_sum" s_sum f_sum d_sum
  g_sum : mg "_law_sum" = some (.ref f_sum)
  b_sum : Binds K d_sum ["_law_one", "_law_other"] []
  f_law : Addr
  d_law : FuncData
  F_law : Fun K "law" "law" s_law f_law d_law
  g_law : mg "law" = some (.ref f_law)
  b_law : Binds K d_law ["_law_script"] []
  m_abs : mg "abs" = none
  m_bool : mg "bool" = none
  m_int : mg "int" = none
  m_isinstance : mg "isinstance" = none
  m_len : mg "len" = none
section
variable {P : Program} {w : World} {K : PySem.W.Frag} {mg : Str → Option Value} {base : Heap}
def spNumber_of : Sp := fun vs H Q _ => ∃ b : Int, vs = [.int b] ∧ Q (.int (b / 2)) H
theorem ok_number_of (T : Top K mg) : FnOk P w K mg base CX0 1 T.f_number_of T.d_number_of ["bound"] spNumber_of := by
  refine T.F_number_of.ok sc_number_of (fun vs H Q E h => ?_) (fun cdv A outer s H vs Q E hr h => ?_)
  · obtain ⟨b, rfl, _⟩ := h; rfl
  · obtain ⟨b, rfl, q⟩ := h
    refine ⟨_, (pss_one (ps_ret (pe_op op_shr (pv 0) pe_int))), ?_⟩
    walk_at "rd"
    exact q
def spIs_open : Sp := fun vs H Q _ => ∃ b : Int, vs = [.int b] ∧ Q (.bl (decide (b % 2 = 0))) H
theorem ok_is_open (T : Top K mg) : FnOk P w K mg base CX0 1 T.f_is_open T.d_is_open ["bound"] spIs_open := by
  refine T.F_is_open.ok sc_is_open (fun vs H Q E h => ?_) (fun cdv A outer s H vs Q E hr h => ?_)
  · obtain ⟨b, rfl, _⟩ := h; rfl
  · obtain ⟨b, rfl, q⟩ := h
    refine ⟨_, (pss_one (ps_ret (pe_cmpR op_eq (pe_op op_and (pv 0) pe_int) pe_int (nomark _)))), ?_⟩
    walk_at "rd"
    rw [bitAnd_m1]; exact q
def spCell_at (K : PySem.W.Frag) : Sp := fun vs H Q _ => ∃ (a : Addr) (ns : List Int) (k : Int), vs = [.ref a, .int k] ∧ SqL K H a (ns.map V.int) ∧ 0 ≤ k ∧ Q (.int (ns.getD k.toNat 0)) H
theorem ok_cell_at (T : Top K mg) : FnOk P w K mg base CX0 1 T.f_cell_at T.d_cell_at ["_law_script", "_law_k"] (spCell_at K) := by
  refine T.F_cell_at.ok sc_cell_at (fun vs H Q E h => ?_) (fun cdv A outer s H vs Q E hr h => ?_)
  · obtain ⟨a, ns, k, rfl, _⟩ := h; rfl
  · obtain ⟨a, ns, k, rfl, hS, hk, q⟩ := h
    refine ⟨_, (pss_cons (ps_if (pt_cmpR op_lt (pv 1) (pe_callB call_len_seq (by rfl) T.m_len (by decide +kernel) (pa_cons (pv 0) pa_nil)) (nomark _)) (pss_one (ps_ret (pe_ix ix_list (pv 0) (pv 1) (fun _ _ => rfl)))) pss_nil)
      (pss_one (ps_ret pe_int))), ?_⟩
    refine seq_step ?_
    walk_at "rd"
    refine ⟨_, .inl hS, ite_d (fun c => ?_) (fun c => ?_)⟩
    · rw [List.length_map] at c
      have hl : k.toNat < ns.length := by omega
      refine ⟨a, _, k, .int (ns[k.toNat]), rfl, rfl, hS, at_of (j := k.toNat) (by omega) (by rw [List.getElem?_map, List.getElem?_eq_getElem hl]; rfl), ?_⟩
      rw [List.getD_eq_getElem?_getD, List.getElem?_eq_getElem hl] at q
      exact q
    · rw [List.length_map] at c
      rw [List.getD_eq_getElem?_getD, List.getElem?_eq_none (by omega)] at q
      exact q
def spDivisor (K : PySem.W.Frag) : Sp := fun vs H Q _ => ∃ a b : Int, vs = [.int a, .int b] ∧ Q (.int (Int.gcd a b)) H
theorem ok_divisor (T : Top K mg) : FnOk P w K mg base CX0 1 T.f_divisor T.d_divisor ["_law_one", "_law_other"] (spDivisor K) := by
  refine T.F_divisor.ok sc_divisor (fun vs H Q E h => ?_) (fun cdv A outer s H vs Q E hr h => ?_)
  · obtain ⟨a, b, rfl, _⟩ := h; rfl
  · obtain ⟨a, b, rfl, q⟩ := h
    refine ⟨_, (pss_cons (ps_while PassesOwn.never (pt_cmpR op_ne (pv 1) pe_int (nomark _)) (pss_one (ps_par (i := 0) (j := 1) (by rfl) sc_divisor.nd rfl rfl (by decide) rfl rfl (pa_cons (pv 1) (pa_cons (pe_op op_modN (pv 0) (pv 1)) pa_nil)) (by rfl))))
      (pss_one (ps_ret (pe_callB call_abs (by rfl) T.m_abs (by decide +kernel) (pa_cons (pv 0) pa_nil))))), ?_⟩
    refine seq_step ?_
    refine while_by (fun σ H' => H' = H ∧ ∃ x y : Int, σ = [some (.int x), some (.int y)] ∧ Int.gcd x y = Int.gcd a b) (fun σ _ => match σ with | [_, some (.int y)] => y.natAbs | _ => 0) ⟨rfl, a, b, rfl, rfl⟩ ?_ ?_
    · rintro σ H' ⟨rfl, x, y, rfl, hg⟩
      walk_at "rd"
      by_cases c : y = 0
      · subst c
        rw [decide_eq_true rfl, Bool.not_true, if_neg Bool.false_ne_true]
        have e : (if x < 0 then -x else x) = ((Int.gcd a b : Nat) : Int) := by
          rw [← hg, Int.gcd_zero_right]; split <;> omega
        rw [e]; exact q
      · rw [decide_eq_false c, Bool.not_false, if_pos rfl]
        exact ⟨c, by rw [fmod_gcd, hg], fmod_lt x y c⟩
    · rintro σ H Q Q' m ⟨v, hv, hs, k, hk, q⟩
      exact ⟨v, hv, hs, k, hk, m _ _ q⟩
/-- a fraction that stands so to two numbers, in lowest terms -/
def LowT (a b : Int) (H : Hp) (Q : VK) : Prop := ∀ (t u : Int) (p : Addr) (H' : Hp), Low a b t u → Same H H' → H' p = some (.tup [.int t, .int u]) → Q (.ref p) H'
def spLowest (K : PySem.W.Frag) : Sp := fun vs H Q _ => ∃ a b : Int, vs = [.int a, .int b] ∧ b ≠ 0 ∧ Sz 2000 b ∧ LowT a b H Q
theorem ok_lowest (T : Top K mg) : FnOk P w K mg base CX0 2 T.f_lowest T.d_lowest ["_law_top", "_law_bottom"] (spLowest K) := by
  refine T.F_lowest.ok sc_lowest (fun vs H Q E h => ?_) (fun cdv A outer s H vs Q E hr h => ?_)
  · obtain ⟨a, b, rfl, _⟩ := h; rfl
  · obtain ⟨a, b, rfl, hb, hz, q⟩ := h
    refine ⟨_, (pss_cons (ps_set (i := 2) sc_lowest.nd rfl (.inl rfl) (pe_call (ok_divisor T) (hr.mono (by decide)) rfl T.g_divisor T.F_divisor.kp T.b_divisor .nil pass0 (pa_cons (pv 0) (pa_cons (pv 1) pa_nil))))
      (pss_one (ps_ret (pe_tupN (pa_cons (pe_op op_fdivZ (pv 0) (pv 2)) (pa_cons (pe_op op_fdivZ (pv 1) (pv 2)) pa_nil)))))), ?_⟩
    refine seq_step ?_
    walk_at "rd"
    refine ⟨a, b, rfl, ?_⟩
    walk_at "rd"
    have g := gcd_pos_right (a := a) hb
    have gs := gcd_le_size (a := a) hb
    have c : DivOk ((Int.gcd a b : Nat) : Int) := .of (by omega) (Sz.le (by omega) hz) (by omega)
    exact ⟨c, c, fun p H2 s2 _ e2 => q _ _ p H2 (low_of hb) s2 e2⟩
def spNumber (K : PySem.W.Frag) : Sp := fun vs H Q _ => ∃ c : Int, vs = [.int c] ∧ ∀ (n : Int) (H' : Hp), Sz 140 n → Same H H' → Q (.int n) H'
theorem ok_number (T : Top K mg) : FnOk P w K mg base CX0 1 T.f_number T.d_number ["_law_cell"] (spNumber K) := by
  refine T.F_number.ok sc_number (fun vs H Q E h => ?_) (fun cdv A outer s H vs Q E hr h => ?_)
  · obtain ⟨c, rfl, _⟩ := h; rfl
  · obtain ⟨c, rfl, q⟩ := h
    refine ⟨_, (pss_cons (ps_set (i := 1) sc_number.nd rfl (.inl rfl) (pe_ix ix_list (pe_lstN (pa_cons pe_int (pa_cons (pe_op op_pow pe_int pe_int) pa_nil))) (pe_op op_modN (pv 0) pe_int) (fun _ _ => rfl)))
      (pss_one (ps_ret (pe_op op_add (pe_op op_sub (pe_op op_modN (pe_op op_fdivZ (pv 0) pe_int) (pe_op op_sub (pe_op op_mulW pe_int (pv 1)) pe_int)) (pv 1)) pe_int)))), ?_⟩
    refine seq_step ?_
    walk_at "rd"
    intro p H2 s2 hp e2
    have big : Sz 140 10000000000000000000000000000000000000000 := by unfold Sz; decide +kernel
    rcases fm2 c with e | e
    · rw [e]
      refine ix_l (.of e2) (by decide) rfl ?_
      walk_at "rd"
      refine ⟨by unfold CMulW; decide +kernel, ?_⟩
      have := fm_pos (c := c.fdiv 2) (m := 25) (by decide)
      exact q _ _ (Sz.rg (j := 10000000000000000000000000000000000000000) (by omega) (by omega) big) s2
    · rw [e]
      refine ix_l (.of e2) (by decide) rfl ?_
      walk_at "rd"
      refine ⟨by unfold CMulW; decide +kernel, ?_⟩
      have := fm_pos (c := c.fdiv 2) (m := 19999999999999999999999999999999999999999) (by decide)
      exact q _ _ (Sz.rg (j := 10000000000000000000000000000000000000000) (by omega) (by omega) big) s2
def spValue (K : PySem.W.Frag) : Sp := fun vs H Q _ => ∃ (n : Int) (k : Bool) (c : Int), vs = [.int n, .bl k, .int c] ∧ Sz 140 n ∧
    ∀ (t u : Int) (p : Addr) (H' : Hp), 0 < u → t ≤ n * u → (k = false → t < n * u) → Sz 200 t → Sz 200 u → Same H H' → H' p = some (.tup [.int t, .int u]) → Q (.ref p) H'
theorem ok_value (T : Top K mg) : FnOk P w K mg base CX0 3 T.f_value T.d_value ["_law_number_here", "_law_closed", "_law_cell"] (spValue K) := by
  refine T.F_value.ok sc_value (fun vs H Q E h => ?_) (fun cdv A outer s H vs Q E hr h => ?_)
  · obtain ⟨n, k, c, rfl, _⟩ := h; rfl
  · obtain ⟨n, k, c, rfl, hn, q⟩ := h
    refine ⟨_, (pss_cons (ps_set (i := 3) sc_value.nd rfl (.inl rfl) (pe_op op_modN (pv 2) pe_int))
      (pss_cons (ps_if (PW.pt (pw_and (pt_val (pv 1)) (pw_and1 (pt_cmpR op_eq (pv 3) pe_int (nomark _))))) (pss_one (ps_ret (pe_tupN (pa_cons (pv 0) (pa_cons pe_int pa_nil))))) pss_nil)
      (pss_cons (ps_set (i := 4) sc_value.nd rfl (.inl rfl) (pe_op op_add pe_int (pe_op op_modN (pe_op op_fdivZ (pv 2) pe_int) (pe_ix ix_list (pe_lstN (pa_cons pe_int (pa_cons (pe_op op_pow pe_int pe_int) pa_nil))) (pe_op op_fdivZ (pv 3) pe_int) (fun _ _ => rfl)))))
      (pss_one (ps_ret (pe_call (ok_lowest T) (hr.mono (by decide)) rfl T.g_lowest T.F_lowest.kp T.b_lowest .nil pass0 (pa_cons (pe_op op_sub (pe_op op_sub (pe_op op_mulW (pv 0) (pv 4)) pe_int) (pe_op op_mulW (pe_op op_modN (pv 3) pe_int) (pe_op op_modN (pe_op op_fdivZ (pv 2) pe_int) (pe_op op_pow pe_int pe_int)))) (pa_cons (pv 4) pa_nil)))))))), ?_⟩
    refine seq_step ?_
    walk_at "rd"
    refine seq_step ?_
    walk_at "rd"
    refine ite_and (fun e1 e2 p H2 s2 hp h2 => ?_) (fun hne => ?_)
    · have one : Sz 200 1 := by unfold Sz; decide +kernel
      exact q n 1 p _ (by omega) (by omega) (fun z => by rw [e1] at z; cases z) (hn.mono (by omega)) one s2 h2
    refine seq_step ?_
    walk_at "rd"
    intro p H2 s2 hp h2
    obtain ⟨m, hm, hz, hS⟩ : ∃ m : Int, 0 < m ∧ Sz 30 m ∧ ([.int 5, .int 1000000000] : List V)[((c.fmod 4).fdiv 2).toNat]? = some (.int m) := by
      have := fm_pos (c := c) (m := 4) (by decide)
      rw [Int.fdiv_eq_ediv_of_nonneg _ (by omega)]
      have : (c.fmod 4 / 2 = 0) ∨ (c.fmod 4 / 2 = 1) := by omega
      rcases this with e | e
      · rw [e]; exact ⟨5, by decide, by unfold Sz; decide +kernel, rfl⟩
      · rw [e]; exact ⟨1000000000, by decide, by unfold Sz; decide +kernel, rfl⟩
    refine ix_l (.of h2) (by have := fm_pos (c := c) (m := 4) (by decide); rw [Int.fdiv_eq_ediv_of_nonneg _ (by omega)]; omega) hS ?_
    walk_at "rd"
    have f1 := fm_pos (c := c.fdiv 4) hm
    have f2 := fm_pos (c := c) (m := 4) (by decide)
    have f3 := fm_pos (c := c.fmod 4) (m := 2) (by decide)
    have f4 := fm_pos (c := c.fdiv 20) (m := 1000000000000) (by decide)
    generalize hb : (2 + (c.fdiv 4).fmod m) = B at *
    generalize (c.fmod 4).fmod 2 = x at *
    generalize (c.fdiv 20).fmod 1000000000000 = y at *
    have sB : Sz 32 B := by unfold Sz at hz ⊢; omega
    have sx : Sz 2 x := by unfold Sz; omega
    have sy : Sz 42 y := by unfold Sz; omega
    have s1 : Sz 1 1 := by unfold Sz; decide +kernel
    have xy : 0 ≤ x * y := Int.mul_nonneg f3.1 f4.1
    have s3 : Sz 180 (n * B - 1 - x * y) := ((hn.mul sB (c := 172) (by omega)).sub s1 (c := 173) (by omega) (by omega)).sub (sx.mul sy (c := 44) (by omega)) (by omega) (by omega)
    refine ⟨by omega, hn.mulW sB (by omega), sx.mulW sy (by omega), _, _, rfl, by omega, sB.mono (by omega), fun t u p2 H3 l s3' e3 => ?_⟩
    have hB : 0 < B := by omega
    have hu := l.pos hB
    have lt : t < n * u := by
      have e := l.eq
      have h : t * B < (n * u) * B := by
        rw [e, Int.mul_assoc, Int.mul_comm u B, ← Int.mul_assoc]
        exact Int.mul_lt_mul_of_pos_right (by omega) hu
      exact Int.lt_of_mul_lt_mul_right h (by omega)
    exact q t u p2 _ hu (by omega) (fun _ => lt) (Sz.le (l.top_le (by omega)) (s3.mono (by omega))) (Sz.le (l.bot_le (by omega)) (sB.mono (by omega))) (s2.trans s3') e3
def spLets (K : PySem.W.Frag) : Sp := fun vs H Q _ => ∃ (b t u : Int) (p : Addr), vs = [.int b, .ref p] ∧ H p = some (.tup [.int t, .int u]) ∧ Sz 10000 (b / 2) ∧ Sz 10000 u ∧ 0 < u ∧ Q (.bl (decide (t < b / 2 * u ∨ (t = b / 2 * u ∧ b % 2 = 1)))) H
theorem ok_lets (T : Top K mg) : FnOk P w K mg base CX0 2 T.f_lets T.d_lets ["bound", "value"] (spLets K) := by
  refine T.F_lets.ok sc_lets (fun vs H Q E h => ?_) (fun cdv A outer s H vs Q E hr h => ?_)
  · obtain ⟨b, t, u, p, rfl, _⟩ := h; rfl
  · obtain ⟨b, t, u, p, rfl, hp, h1, h2, h3, q⟩ := h
    refine ⟨_, (pss_cons (ps_if (pt_cmpR op_isN (pv 0) pe_non (nomark _)) (pss_one (ps_ret pe_bl)) pss_nil)
      (pss_cons (ps_asg (pv 1) (pg_tup (by rfl) (pgs_cons (pg_name (i := 2) sc_lets.nd rfl (.inl rfl)) (pgs_cons (pg_name (i := 3) sc_lets.nd rfl (.inl rfl)) pgs_nil))))
      (pss_cons (ps_set (i := 4) sc_lets.nd rfl (.inl rfl) (pe_op op_mulW (pe_call (ok_number_of T) (hr.mono (by decide)) rfl T.g_number_of T.F_number_of.kp T.b_number_of .nil pass0 (pa_cons (pv 0) pa_nil)) (pv 3)))
      (pss_one (ps_ret (pe_or (pe_cmpR op_lt (pv 2) (pv 4) (nomark _)) (pe_one (pe_and (pe_cmpR op_eq (pv 2) (pv 4) (nomark _)) (pe_one (pe_not (pe_call (ok_is_open T) (hr.mono (by decide)) rfl T.g_is_open T.F_is_open.kp T.b_is_open .nil pass0 (pa_cons (pv 0) pa_nil)))))))))))), ?_⟩
    refine seq_step ?_
    walk_at "rd"
    refine seq_step ?_
    walk_at "rd"
    refine gTup_of (sqt hp) rfl ?_
    walk_at "rd"
    refine seq_step ?_
    walk_at "rd"
    simp only [spNumber_of, spIs_open]
    walk_at "rd"
    refine ⟨h1.mulW h2 (by omega), ite_d (fun c => ?_) (fun c => ite_d (fun c2 => ?_) (fun c2 => ?_))⟩
    · rw [decide_eq_true (Or.inl c)] at q; exact q
    · rw [show (!decide (b % 2 = 0)) = decide (t < b / 2 * u ∨ (t = b / 2 * u ∧ b % 2 = 1)) by
        rw [← decide_not]; exact decide_eq_decide.mpr ⟨fun z => .inr ⟨c2, by omega⟩, fun z => by rcases z with z | z <;> omega⟩]
      exact q
    · rw [decide_eq_false (by rintro (z | z); exact c z; exact c2 z.1)] at q; exact q
def spSum (K : PySem.W.Frag) : Sp := fun vs H Q _ => ∃ (a b c d : Int) (p1 p2 : Addr), vs = [.ref p1, .ref p2] ∧ H p1 = some (.tup [.int a, .int b]) ∧ H p2 = some (.tup [.int c, .int d]) ∧ 0 < b ∧ 0 < d ∧ Sz 200 a ∧ Sz 200 b ∧ Sz 200 c ∧ Sz 200 d ∧ LowT (a * d + c * b) (b * d) H Q
theorem ok_sum (T : Top K mg) : FnOk P w K mg base CX0 3 T.f_sum T.d_sum ["_law_one", "_law_other"] (spSum K) := by
  refine T.F_sum.ok sc_sum (fun vs H Q E h => ?_) (fun cdv A outer s H vs Q E hr h => ?_)
  · obtain ⟨a, b, c, d, p1, p2, rfl, _⟩ := h; rfl
  · obtain ⟨a, b, c, d, p1, p2, rfl, h1, h2, hb, hd, sa, sb, sc, sd, q⟩ := h
    refine ⟨_, (pss_one (ps_ret (pe_call (ok_lowest T) (hr.mono (by decide)) rfl T.g_lowest T.F_lowest.kp T.b_lowest .nil pass0 (pa_cons (pe_op op_add (pe_op op_mulW (pe_ix ix_tup (pv 0) pe_int (fun _ _ => rfl)) (pe_ix ix_tup (pv 1) pe_int (fun _ _ => rfl))) (pe_op op_mulW (pe_ix ix_tup (pv 1) pe_int (fun _ _ => rfl)) (pe_ix ix_tup (pv 0) pe_int (fun _ _ => rfl)))) (pa_cons (pe_op op_mulW (pe_ix ix_tup (pv 0) pe_int (fun _ _ => rfl)) (pe_ix ix_tup (pv 1) pe_int (fun _ _ => rfl))) pa_nil))))), ?_⟩
    walk_at "rd"
    refine ix_t (sqt h1) (by decide) rfl ?_
    refine ix_t (sqt h2) (by decide) rfl ?_
    walk_at "rd"
    refine ⟨sa.mulW sd (by omega), ?_⟩
    refine ix_t (sqt h2) (by decide) rfl ?_
    refine ix_t (sqt h1) (by decide) rfl ?_
    walk_at "rd"
    refine ⟨sc.mulW sb (by omega), ?_⟩
    refine ix_t (sqt h1) (by decide) rfl ?_
    refine ix_t (sqt h2) (by decide) rfl ?_
    walk_at "rd"
    exact ⟨sb.mulW sd (by omega), _, _, rfl, Int.ne_of_gt (Int.mul_pos hb hd), sb.mul sd (by omega), q⟩
def addO : Option Int → Option Int → Option Int
  | some a, some b => some (2 * (a / 2 + b / 2) + (if a % 2 = 1 ∧ b % 2 = 1 then 1 else 0))
  | _, _ => none
def spAdded (K : PySem.W.Frag) : Sp := fun vs H Q _ => ∃ (x y : Option Int), vs = [oV x, oV y] ∧ (∀ a b, x = some a → y = some b → Sz 10000 (a / 2 + b / 2)) ∧ Q (oV (addO x y)) H
theorem ok_added (T : Top K mg) : FnOk P w K mg base CX0 1 T.f_added T.d_added ["one", "other"] (spAdded K) := by
  refine T.F_added.ok sc_added (fun vs H Q E h => ?_) (fun cdv A outer s H vs Q E hr h => ?_)
  · obtain ⟨a, b, rfl, _⟩ := h; rfl
  · obtain ⟨x, y, rfl, h1, q⟩ := h
    refine ⟨_, (pss_cons (ps_if (PW.pt (pw_or (pt_cmpR op_isN (pv 0) pe_non (nomark _)) (pw_or1 (pt_cmpR op_isN (pv 1) pe_non (nomark _))))) (pss_one (ps_ret pe_non)) pss_nil)
      (pss_one (ps_ret (pe_op op_or (pe_op op_shlW (pe_op op_add (pe_op op_shr (pv 0) pe_int) (pe_op op_shr (pv 1) pe_int)) pe_int) (pe_op op_and (pe_op op_and (pv 0) (pv 1)) pe_int))))), ?_⟩
    refine seq_step ?_
    cases x with
    | none => 
      simp only [oV_none]
      walk_at "rd"
      exact q
    | some a =>
      cases y with
      | none =>
        simp only [oV_none, oV_some]
        walk_at "rd"
        exact q
      | some b =>
        simp only [oV_some]
        walk_at "rd"
        rw [bit_sum]
        exact ⟨shl1 (h1 a b rfl rfl) (by omega), q⟩
theorem added_i {K : PySem.W.Frag} {a b : Int} {H : Hp} {Q : VK} {E : XK} (h : Sz 10000 (a / 2 + b / 2)) (q : Q (.int (2 * (a / 2 + b / 2) + (if a % 2 = 1 ∧ b % 2 = 1 then 1 else 0))) H) : spAdded K [.int a, .int b] H Q E :=
  ⟨some a, some b, rfl, fun _ _ e1 e2 => by cases e1; cases e2; exact h, q⟩
theorem added_n1 {K : PySem.W.Frag} {H : Hp} {Q : VK} {E : XK} (x : Option Int) (q : Q .non H) : spAdded K [.non, oV x] H Q E := ⟨none, x, rfl, (fun _ _ e1 _ => nomatch e1), q⟩
theorem added_n2 {K : PySem.W.Frag} {H : Hp} {Q : VK} {E : XK} (x : Option Int) (q : Q .non H) : spAdded K [oV x, .non] H Q E := ⟨x, none, rfl, (fun _ _ _ e1 => nomatch e1), by cases x <;> exact q⟩
theorem cut_int {ns : List Int} {lo hi : Option Int} {i : Nat} {x : V} (h : (cutV (ns.map V.int) lo hi)[i]? = some x) : ∃ z, x = .int z := by
  have m := List.mem_of_mem_drop (List.mem_of_mem_take (List.mem_of_getElem? h))
  obtain ⟨z, _, e⟩ := List.mem_map.mp m
  exact ⟨z, e.symm⟩
def spLaw (K : PySem.W.Frag) : Sp := fun vs H Q _ => ∃ (a : Addr) (ns : List Int), vs = [.ref a] ∧ SqL K H a (ns.map V.int) ∧ ns.length ≤ 63 ∧ ∀ H', Q (.bl true) H'
theorem ok_law (T : Top K mg) : FnOk P w K mg base CX0 4 T.f_law T.d_law ["_law_script"] (spLaw K) := by
  refine T.F_law.ok sc_law (fun vs H Q E h => ?_) (fun cdv A outer s H vs Q E hr h => ?_)
  · obtain ⟨a, ns, rfl, _⟩ := h; rfl
  · obtain ⟨a, ns, rfl, hS, hlen, q⟩ := h
    refine ⟨_, (pss_cons (ps_set (i := 1) sc_law.nd rfl (.inl rfl) (pe_call (ok_cell_at T) (hr.mono (by decide)) rfl T.g_cell_at T.F_cell_at.kp T.b_cell_at .nil pass0 (pa_cons (pv 0) (pa_cons pe_int pa_nil))))
      (pss_cons (ps_set (i := 2) sc_law.nd rfl (.inl rfl) (pe_call (ok_number T) (hr.mono (by decide)) rfl T.g_number T.F_number.kp T.b_number .nil pass0 (pa_cons (pe_call (ok_cell_at T) (hr.mono (by decide)) rfl T.g_cell_at T.F_cell_at.kp T.b_cell_at .nil pass0 (pa_cons (pv 0) (pa_cons pe_int pa_nil))) pa_nil)))
      (pss_cons (ps_set (i := 3) sc_law.nd rfl (.inl rfl) (pe_call (ok_number T) (hr.mono (by decide)) rfl T.g_number T.F_number.kp T.b_number .nil pass0 (pa_cons (pe_call (ok_cell_at T) (hr.mono (by decide)) rfl T.g_cell_at T.F_cell_at.kp T.b_cell_at .nil pass0 (pa_cons (pv 0) (pa_cons pe_int pa_nil))) pa_nil)))
      (pss_cons (ps_set (i := 4) sc_law.nd rfl (.inl rfl) (pe_lstN (pa_cons (pe_cmpR op_eq (pe_op op_modN (pv 1) pe_int) pe_int (nomark _)) (pa_cons (pe_cmpR op_eq (pe_op op_modN (pe_op op_fdivZ (pv 1) pe_int) pe_int) pe_int (nomark _)) pa_nil))))
      (pss_cons (ps_set (i := 5) sc_law.nd rfl (.inl rfl) (pe_lstN (pa_cons (pe_op op_add (pe_op op_mulW pe_int (pv 2)) (pe_callTy call_intB (by rfl) T.m_int (by decide +kernel) (pa_cons (pe_ix ix_list (pv 4) pe_int (fun _ _ => rfl)) pa_nil))) (pa_cons (pe_op op_add (pe_op op_mulW pe_int (pv 3)) (pe_callTy call_intB (by rfl) T.m_int (by decide +kernel) (pa_cons (pe_ix ix_list (pv 4) pe_int (fun _ _ => rfl)) pa_nil))) pa_nil))))
      (pss_cons (ps_if (PW.pt (pw_or (pt_cmpR op_notN (pe_call (ok_added T) (hr.mono (by decide)) rfl T.g_added T.F_added.kp T.b_added .nil pass0 (pa_cons pe_non (pa_cons (pe_ix ix_list (pv 5) pe_int (fun _ _ => rfl)) pa_nil))) pe_non (nomark _)) (pw_or (pt_cmpR op_notN (pe_call (ok_added T) (hr.mono (by decide)) rfl T.g_added T.F_added.kp T.b_added .nil pass0 (pa_cons (pe_ix ix_list (pv 5) pe_int (fun _ _ => rfl)) (pa_cons pe_non pa_nil))) pe_non (nomark _)) (pw_or1 (pt_cmpR op_notN (pe_call (ok_added T) (hr.mono (by decide)) rfl T.g_added T.F_added.kp T.b_added .nil pass0 (pa_cons pe_non (pa_cons pe_non pa_nil))) pe_non (nomark _)))))) (pss_one (ps_ret pe_bl)) pss_nil)
      (pss_cons (ps_set (i := 6) sc_law.nd rfl (.inl rfl) (pe_call (ok_added T) (hr.mono (by decide)) rfl T.g_added T.F_added.kp T.b_added .nil pass0 (pa_cons (pe_ix ix_list (pv 5) pe_int (fun _ _ => rfl)) (pa_cons (pe_ix ix_list (pv 5) pe_int (fun _ _ => rfl)) pa_nil))))
      (pss_cons (ps_if (PW.pt (pw_or (pt_not (pt_val (pe_callB call_isi (by rfl) T.m_isinstance (by decide +kernel) (pa_cons (pv 6) (pa_cons (pe_bltn (v := .ty "int") (u := .type "int") (by rfl) T.m_int (by decide +kernel) rfl) pa_nil))))) (pw_or (pt_val (pe_callB call_isi (by rfl) T.m_isinstance (by decide +kernel) (pa_cons (pv 6) (pa_cons (pe_bltn (v := .ty "bool") (u := .type "bool") (by rfl) T.m_bool (by decide +kernel) rfl) pa_nil)))) (pw_or1 (pt_cmpR op_ne (pe_call (ok_added T) (hr.mono (by decide)) rfl T.g_added T.F_added.kp T.b_added .nil pass0 (pa_cons (pe_ix ix_list (pv 5) pe_int (fun _ _ => rfl)) (pa_cons (pe_ix ix_list (pv 5) pe_int (fun _ _ => rfl)) pa_nil))) (pv 6) (nomark _)))))) (pss_one (ps_ret pe_bl)) pss_nil)
      (pss_cons (ps_set (i := 7) sc_law.nd rfl (.inl rfl) (pe_and (pe_ix ix_list (pv 4) pe_int (fun _ _ => rfl)) (pe_one (pe_ix ix_list (pv 4) pe_int (fun _ _ => rfl)))))
      (pss_cons (ps_if (PW.pt (pw_or (pt_cmpR op_ne (pe_call (ok_number_of T) (hr.mono (by decide)) rfl T.g_number_of T.F_number_of.kp T.b_number_of .nil pass0 (pa_cons (pv 6) pa_nil)) (pe_op op_add (pv 2) (pv 3)) (nomark _)) (pw_or1 (pt_cmpR op_eq (pe_call (ok_is_open T) (hr.mono (by decide)) rfl T.g_is_open T.F_is_open.kp T.b_is_open .nil pass0 (pa_cons (pv 6) pa_nil)) (pv 7) (nomark _))))) (pss_one (ps_ret pe_bl)) pss_nil)
      (pss_cons (ps_for PassesOwn.never rfl (pi_list (pe_slice sl_listN (pv 0) (po_some pe_int) (po_some pe_int))) (pg_name (i := 8) sc_law.nd rfl (.inl rfl)) (pss_cons (ps_set (i := 9) sc_law.nd rfl (.inl rfl) (pe_call (ok_sum T) (hr.mono (by decide)) rfl T.g_sum T.F_sum.kp T.b_sum .nil pass0 (pa_cons (pe_call (ok_value T) (hr.mono (by decide)) rfl T.g_value T.F_value.kp T.b_value .nil pass0 (pa_cons (pv 2) (pa_cons (pe_ix ix_list (pv 4) pe_int (fun _ _ => rfl)) (pa_cons (pv 8) pa_nil)))) (pa_cons (pe_call (ok_value T) (hr.mono (by decide)) rfl T.g_value T.F_value.kp T.b_value .nil pass0 (pa_cons (pv 3) (pa_cons (pe_ix ix_list (pv 4) pe_int (fun _ _ => rfl)) (pa_cons (pe_op op_fdivZ (pv 8) pe_int) pa_nil)))) pa_nil))))
      (pss_one (ps_if (pt_cmpR op_isnot_bl (pe_call (ok_lets T) (hr.mono (by decide)) rfl T.g_lets T.F_lets.kp T.b_lets .nil pass0 (pa_cons (pv 6) (pa_cons (pv 9) pa_nil))) pe_bl (nomark _)) (pss_one (ps_ret pe_bl)) pss_nil))))
      (pss_cons (ps_set (i := 10) sc_law.nd rfl (.inl rfl) (pe_op op_add pe_int (pe_op op_modN (pe_op op_fdivZ (pv 1) pe_int) (pe_op op_pow pe_int pe_int))))
      (pss_cons (ps_set (i := 11) sc_law.nd rfl (.inl rfl) (pe_call (ok_lowest T) (hr.mono (by decide)) rfl T.g_lowest T.F_lowest.kp T.b_lowest .nil pass0 (pa_cons (pe_op op_add (pe_op op_mulW (pe_op op_add (pv 2) (pv 3)) (pv 10)) pe_int) (pa_cons (pv 10) pa_nil))))
      (pss_one (ps_ret (pe_and (pe_cmpR op_is_bl (pe_call (ok_lets T) (hr.mono (by decide)) rfl T.g_lets T.F_lets.kp T.b_lets .nil pass0 (pa_cons (pv 6) (pa_cons (pv 11) pa_nil))) pe_bl (nomark _)) (pe_one (pe_cmpR op_eq (pe_call (ok_lets T) (hr.mono (by decide)) rfl T.g_lets T.F_lets.kp T.b_lets .nil pass0 (pa_cons (pv 6) (pa_cons (pe_tupN (pa_cons (pe_op op_add (pv 2) (pv 3)) (pa_cons pe_int pa_nil))) pa_nil))) (pv 7) (nomark _))))))))))))))))))), ?_⟩
    refine seq_step ?_
    walk_at "rd"
    refine ⟨a, ns, 0, rfl, hS, by decide, ?_⟩
    generalize ns.getD (Int.toNat 0) 0 = way
    walk_at "rd"
    refine seq_step ?_
    walk_at "rd"
    refine ⟨a, ns, 1, rfl, hS, by decide, _, rfl, fun one H1 so s1 => ?_⟩
    refine seq_step ?_
    walk_at "rd"
    refine ⟨a, ns, 2, rfl, s1.seq hS, by decide, _, rfl, fun other H2 st s2 => ?_⟩
    refine seq_step ?_
    walk_at "rd"
    intro pc H3 s3 _ hc
    generalize hk1 : decide (way.fmod 2 = 0) = k1 at *
    generalize hk2 : decide ((way.fdiv 2).fmod 2 = 0) = k2 at *
    refine seq_step ?_
    walk_at "rd"
    have s11 : Sz 2 1 := by unfold Sz; decide +kernel
    have s12 : Sz 2 2 := by unfold Sz; decide +kernel
    refine ⟨s12.mulW so (by omega), ?_⟩
    refine ix_l (.of hc) (by decide) rfl ?_
    walk_at "rd"
    refine ⟨s12.mulW st (by omega), ?_⟩
    refine ix_l (.of hc) (by decide) rfl ?_
    walk_at "rd"
    intro pb H4 s4 _ hb
    obtain ⟨B1, e1, d1, m1⟩ : ∃ B, (2 * one + if k1 = true then 1 else 0) = B ∧ B / 2 = one ∧ (B % 2 = 1 ↔ k1 = true) := ⟨_, rfl, by split <;> omega, by split <;> (constructor <;> intro z) <;> simp_all <;> omega⟩
    obtain ⟨B2, e2, d2, m2⟩ : ∃ B, (2 * other + if k2 = true then 1 else 0) = B ∧ B / 2 = other ∧ (B % 2 = 1 ↔ k2 = true) := ⟨_, rfl, by split <;> omega, by split <;> (constructor <;> intro z) <;> simp_all <;> omega⟩
    rw [e1, e2] at hb
    refine seq_step ?_
    walk_at "rd"
    refine ix_l (.of hb) (by decide) rfl ?_
    walk_at "rd"
    refine added_n1 (some _) ?_
    walk_at "rd"
    refine ix_l (.of hb) (by decide) rfl ?_
    walk_at "rd"
    refine added_n2 (some _) ?_
    walk_at "rd"
    refine added_n1 none ?_
    walk_at "rd"
    refine seq_step ?_
    walk_at "rd"
    refine ix_l (.of hb) (by decide) rfl ?_
    refine ix_l (.of hb) (by decide) rfl ?_
    walk_at "rd"
    have sB : Sz 141 (one + other) := so.add st (by omega) (by omega)
    refine added_i (by rw [d1, d2]; exact sB.mono (by omega)) ?_
    rw [d1, d2]
    obtain ⟨F, eF, dF, mF⟩ : ∃ F, (2 * (one + other) + if B1 % 2 = 1 ∧ B2 % 2 = 1 then 1 else 0) = F ∧ F / 2 = one + other ∧ (F % 2 = 1 ↔ (k1 && k2) = true) :=
      ⟨_, rfl, by split <;> omega, by simp only [m1, m2, Bool.and_eq_true]; split <;> (constructor <;> intro z) <;> simp_all <;> omega⟩
    rw [eF]
    refine seq_step ?_
    walk_at "rd"
    walk_at "isT"
    walk_at "isF"
    refine ix_l (.of hb) (by decide) rfl ?_
    refine ix_l (.of hb) (by decide) rfl ?_
    walk_at "rd"
    refine added_i (by rw [d1, d2, Int.add_comm]; exact sB.mono (by omega)) ?_
    rw [d1, d2, show (2 * (other + one) + if B2 % 2 = 1 ∧ B1 % 2 = 1 then 1 else 0) = F by rw [← eF]; split <;> split <;> omega]
    walk_at "rd"
    refine seq_step ?_
    walk_at "rd"
    have hc := s4 _ _ hc
    refine ix_l (.of hc) (by decide) rfl ?_
    walk_at "rd"
    have both : ∀ {R : V → Hp → Prop}, R (.bl (k1 && k2)) H4 → (if k1 = true then rIxL K (.ref pc) (.int 1) H4 R else R (.bl false) H4) := by
      intro R z
      cases k1 with
      | false => exact z
      | true => exact ix_l (.of hc) (by decide) rfl z
    refine both ?_
    obtain ⟨kk, hkk⟩ : ∃ kk, (k1 && k2) = kk := ⟨_, rfl⟩
    rw [hkk] at mF ⊢
    refine seq_step ?_
    walk_at "rd"
    refine ⟨F, rfl, ?_⟩
    rw [dF]
    walk_at "rd"
    refine ⟨F, rfl, ?_⟩
    walk_at "rd"
    refine if_f (decide_eq_false fun z => ?_) ?_
    · cases kk
      · have := of_decide_eq_false z; have : F % 2 = 1 := by omega
        exact absurd (mF.mp this) (by decide)
      · have := of_decide_eq_true z; have := mF.mpr rfl; omega
    refine seq_step ?_
    have hS4 : SqL K H4 a (ns.map V.int) := s4.seq (s3.seq (s2.seq (s1.seq hS)))
    refine ⟨.ref a, rfl, 3, rfl, 13, rfl, a, _, rfl, hS4, fun pl H5 s5 _ hl => ⟨pl, rfl, ⟨_, .of hl⟩, ?_⟩⟩
    refine for_list (K := K) (a := pl) (xs := cutV (ns.map V.int) (some 3) (some 13)) (fun i σ H' => ∃ y8 y9, σ = [some (.ref a), some (.int way), some (.int one), some (.int other), some (.ref pc), some (.ref pb), some (.int F), some (.bl kk), y8, y9, none, none] ∧ Same H5 H')
      ⟨none, none, rfl, Same.refl _⟩ (fun i σ H' _ ⟨_, _, _, s⟩ => s.seq (.of hl)) ?_ ?_
    · rintro i x σ H6 hi ⟨y8, y9, rfl, s6⟩
      obtain ⟨z, rfl⟩ := cut_int hi
      have hc6 := s6 _ _ (s5 _ _ hc)
      walk_at "rd"
      refine seq_step ?_
      walk_at "ix"
      refine ⟨one, k1, z, rfl, so, fun t1 u1 p1 H7 v1 v2 v3 v4 v5 s7 e7 => ?_⟩
      have hc7 := s7 _ _ hc6
      walk_at "ix"
      walk_at "rd"
      refine ⟨other, k2, _, rfl, st, fun t2 u2 p2 H8 w1 w2 w3 w4 w5 s8 e8 => ?_⟩
      walk_at "rd"
      refine ⟨t1, u1, t2, u2, p1, p2, rfl, s8 _ _ e7, e8, v1, w1, v4, v5, w4, w5, fun t3 u3 p3 H9 l s9 e9 => ?_⟩
      walk_at "rd"
      have hu : 0 < u1 * u2 := Int.mul_pos v1 w1
      have hu3 := l.pos hu
      refine ⟨F, t3, u3, p3, rfl, e9, by rw [dF]; exact sB.mono (by omega), Sz.le (l.bot_le (Int.ne_of_gt hu)) ((v5.mul w5 (Nat.le_refl _)).mono (by omega)), hu3, ?_⟩
      walk_at "rd"
      have le3 : t3 ≤ F / 2 * u3 ∧ ((k1 && k2) = false → t3 < F / 2 * u3) := by
        have e := l.eq
        have h : t3 * (u1 * u2) = (t1 * u2 + t2 * u1) * u3 := e
        have a1 : t1 * u2 ≤ one * u1 * u2 := Int.mul_le_mul_of_nonneg_right v2 (by omega)
        have a2 : t2 * u1 ≤ other * u2 * u1 := Int.mul_le_mul_of_nonneg_right w2 (by omega)
        have e2 : (one + other) * u3 * (u1 * u2) = (one * u1 * u2 + other * u2 * u1) * u3 := by
          simp only [Int.add_mul]; rw [show one * u3 * (u1 * u2) = one * u1 * u2 * u3 by ac_rfl, show other * u3 * (u1 * u2) = other * u2 * u1 * u3 by ac_rfl]
        rw [dF]
        refine ⟨Int.le_of_mul_le_mul_right (a := u1 * u2) (by rw [h, e2]; exact Int.mul_le_mul_of_nonneg_right (by omega) (by omega)) hu, fun z => Int.lt_of_mul_lt_mul_right (a := u1 * u2) (by
          rw [h, e2]
          refine Int.mul_lt_mul_of_pos_right ?_ hu3
          cases k1 with
          | false => have b1 := Int.mul_lt_mul_of_pos_right (v3 rfl) w1; omega
          | true =>
            cases k2 with
            | false => have b1 := Int.mul_lt_mul_of_pos_right (w3 rfl) v1; omega
            | true => cases z) (by omega)⟩
      have ok : t3 < F / 2 * u3 ∨ t3 = F / 2 * u3 ∧ F % 2 = 1 := by
        by_cases c : t3 < F / 2 * u3
        · exact .inl c
        · refine .inr ⟨by omega, mF.mpr ?_⟩
          cases hq : (k1 && k2) with
          | false => exact absurd (le3.2 hq) c
          | true => rw [← hkk, hq]
      rw [decide_eq_true ok]
      walk_at "rd"
      exact s6.trans (s7.trans (s8.trans s9))
    · rintro σ H6 ⟨y8, y9, rfl, s6⟩
      refine seq_step ?_
      walk_at "rd"
      refine seq_step ?_
      walk_at "rd"
      have f1 := fm_pos (c := way.fdiv 4) (m := 1000000000) (by decide)
      obtain ⟨B, hB⟩ : ∃ B, 2 + (way.fdiv 4).fmod 1000000000 = B := ⟨_, rfl⟩
      rw [hB]
      have szB : Sz 32 B := by unfold Sz; omega
      refine seq_step ?_
      walk_at "rd"
      refine ⟨sB.mulW szB (by omega), _, _, rfl, by omega, szB.mono (by omega), fun t u p H7 l s7 e7 => ?_⟩
      walk_at "rd"
      have hu := l.pos (by omega)
      refine ⟨F, t, u, p, rfl, e7, by rw [dF]; exact sB.mono (by omega), Sz.le (l.bot_le (by omega)) (szB.mono (by omega)), hu, ?_⟩
      walk_at "rd"
      have big : (one + other) * u < t := by
        have h := l.eq
        refine Int.lt_of_mul_lt_mul_right (a := B) ?_ (by omega)
        rw [h, Int.mul_assoc, Int.mul_comm u B, ← Int.mul_assoc]
        exact Int.mul_lt_mul_of_pos_right (by omega) hu
      rw [dF, decide_eq_false (show ¬(t < (one + other) * u ∨ t = (one + other) * u ∧ F % 2 = 1) by omega)]
      walk_at "rd"
      intro p1 H8 s8 _ e8
      refine ⟨F, one + other, 1, p1, rfl, e8, by rw [dF]; exact sB.mono (by omega), s11.mono (by omega), by decide, ?_⟩
      walk_at "rd"
      rw [dF, show decide (one + other < (one + other) * 1 ∨ one + other = (one + other) * 1 ∧ F % 2 = 1) = kk by
        rw [Int.mul_one]; cases kk
        · exact decide_eq_false fun z => by rcases z with z | z; omega; exact absurd (mF.mp z.2) (by decide)
        · exact decide_eq_true (.inr ⟨rfl, mF.mpr rfl⟩)]
      walk_at "rd"
      exact q _
end
/-! ### what the top has left -/
theorem all_mk {P : Program} {w : World} {K : PySem.W.Frag} {h : Heap} {mg : Str → Option Value} {fa : Addr} (X : K.In h) (G : h.Ns mainGlobals mg) (hfa : mg "law" = some (.ref fa))
    {f0 : Addr} {od0 an0 : Option Addr} {sl0 : Array (Option Value)} {oc0 kV0 dc0 pm0 cd0 ct0 : Value}
    {f1 : Addr} {od1 an1 : Option Addr} {sl1 : Array (Option Value)} {oc1 kV1 dc1 pm1 cd1 ct1 : Value}
    {f2 : Addr} {od2 an2 : Option Addr} {sl2 : Array (Option Value)} {oc2 kV2 dc2 pm2 cd2 ct2 : Value}
    {f3 : Addr} {od3 an3 : Option Addr} {sl3 : Array (Option Value)} {oc3 kV3 dc3 pm3 cd3 ct3 : Value}
    {f4 : Addr} {od4 an4 : Option Addr} {sl4 : Array (Option Value)} {oc4 kV4 dc4 pm4 cd4 ct4 : Value}
    {f5 : Addr} {od5 an5 : Option Addr} {sl5 : Array (Option Value)} {oc5 kV5 dc5 pm5 cd5 ct5 : Value}
    {f6 : Addr} {od6 an6 : Option Addr} {sl6 : Array (Option Value)} {oc6 kV6 dc6 pm6 cd6 ct6 : Value}
    {f7 : Addr} {od7 an7 : Option Addr} {sl7 : Array (Option Value)} {oc7 kV7 dc7 pm7 cd7 ct7 : Value}
    {f8 : Addr} {od8 an8 : Option Addr} {sl8 : Array (Option Value)} {oc8 kV8 dc8 pm8 cd8 ct8 : Value}
    {f9 : Addr} {od9 an9 : Option Addr} {sl9 : Array (Option Value)} {oc9 kV9 dc9 pm9 cd9 ct9 : Value}
    {f10 : Addr} {od10 an10 : Option Addr} {sl10 : Array (Option Value)} {oc10 kV10 dc10 pm10 cd10 ct10 : Value}
    (a0 : PySem.W.nsIn K mainGlobals "number_of" = some (some (.ref f0)))
    (l0 : K.lookup f0 = some ⟨oc0, od0, .func (PySem.W.fnOf "number_of" "number_of" (defArgs s_number_of) (defBody s_number_of) (defScope s_number_of) .none kV0 dc0 pm0 an0 cd0 ct0), sl0⟩)
    (c0 : PySem.W.codeIn K cd0 "number_of" = true)
    (k0 : PySem.W.keepIn K (.ref f0) = true)
    (a1 : PySem.W.nsIn K mainGlobals "is_open" = some (some (.ref f1)))
    (l1 : K.lookup f1 = some ⟨oc1, od1, .func (PySem.W.fnOf "is_open" "is_open" (defArgs s_is_open) (defBody s_is_open) (defScope s_is_open) .none kV1 dc1 pm1 an1 cd1 ct1), sl1⟩)
    (c1 : PySem.W.codeIn K cd1 "is_open" = true)
    (k1 : PySem.W.keepIn K (.ref f1) = true)
    (a2 : PySem.W.nsIn K mainGlobals "added" = some (some (.ref f2)))
    (l2 : K.lookup f2 = some ⟨oc2, od2, .func (PySem.W.fnOf "added" "added" (defArgs s_added) (defBody s_added) (defScope s_added) .none kV2 dc2 pm2 an2 cd2 ct2), sl2⟩)
    (c2 : PySem.W.codeIn K cd2 "added" = true)
    (k2 : PySem.W.keepIn K (.ref f2) = true)
    (a3 : PySem.W.nsIn K mainGlobals "lets" = some (some (.ref f3)))
    (l3 : K.lookup f3 = some ⟨oc3, od3, .func (PySem.W.fnOf "lets" "lets" (defArgs s_lets) (defBody s_lets) (defScope s_lets) .none kV3 dc3 pm3 an3 cd3 ct3), sl3⟩)
    (c3 : PySem.W.codeIn K cd3 "lets" = true)
    (k3 : PySem.W.keepIn K (.ref f3) = true)
    (a4 : PySem.W.nsIn K mainGlobals "_law_cell_at" = some (some (.ref f4)))
    (l4 : K.lookup f4 = some ⟨oc4, od4, .func (PySem.W.fnOf "_law_cell_at" "_law_cell_at" (defArgs s_cell_at) (defBody s_cell_at) (defScope s_cell_at) .none kV4 dc4 pm4 an4 cd4 ct4), sl4⟩)
    (c4 : PySem.W.codeIn K cd4 "_law_cell_at" = true)
    (k4 : PySem.W.keepIn K (.ref f4) = true)
    (a5 : PySem.W.nsIn K mainGlobals "_law_number" = some (some (.ref f5)))
    (l5 : K.lookup f5 = some ⟨oc5, od5, .func (PySem.W.fnOf "_law_number" "_law_number" (defArgs s_number) (defBody s_number) (defScope s_number) .none kV5 dc5 pm5 an5 cd5 ct5), sl5⟩)
    (c5 : PySem.W.codeIn K cd5 "_law_number" = true)
    (k5 : PySem.W.keepIn K (.ref f5) = true)
    (a6 : PySem.W.nsIn K mainGlobals "_law_divisor" = some (some (.ref f6)))
    (l6 : K.lookup f6 = some ⟨oc6, od6, .func (PySem.W.fnOf "_law_divisor" "_law_divisor" (defArgs s_divisor) (defBody s_divisor) (defScope s_divisor) .none kV6 dc6 pm6 an6 cd6 ct6), sl6⟩)
    (c6 : PySem.W.codeIn K cd6 "_law_divisor" = true)
    (k6 : PySem.W.keepIn K (.ref f6) = true)
    (a7 : PySem.W.nsIn K mainGlobals "_law_lowest" = some (some (.ref f7)))
    (l7 : K.lookup f7 = some ⟨oc7, od7, .func (PySem.W.fnOf "_law_lowest" "_law_lowest" (defArgs s_lowest) (defBody s_lowest) (defScope s_lowest) .none kV7 dc7 pm7 an7 cd7 ct7), sl7⟩)
    (c7 : PySem.W.codeIn K cd7 "_law_lowest" = true)
    (k7 : PySem.W.keepIn K (.ref f7) = true)
    (a8 : PySem.W.nsIn K mainGlobals "_law_value" = some (some (.ref f8)))
    (l8 : K.lookup f8 = some ⟨oc8, od8, .func (PySem.W.fnOf "_law_value" "_law_value" (defArgs s_value) (defBody s_value) (defScope s_value) .none kV8 dc8 pm8 an8 cd8 ct8), sl8⟩)
    (c8 : PySem.W.codeIn K cd8 "_law_value" = true)
    (k8 : PySem.W.keepIn K (.ref f8) = true)
    (a9 : PySem.W.nsIn K mainGlobals "_law_sum" = some (some (.ref f9)))
    (l9 : K.lookup f9 = some ⟨oc9, od9, .func (PySem.W.fnOf "_law_sum" "_law_sum" (defArgs s_sum) (defBody s_sum) (defScope s_sum) .none kV9 dc9 pm9 an9 cd9 ct9), sl9⟩)
    (c9 : PySem.W.codeIn K cd9 "_law_sum" = true)
    (k9 : PySem.W.keepIn K (.ref f9) = true)
    (a10 : PySem.W.nsIn K mainGlobals "law" = some (some (.ref f10)))
    (l10 : K.lookup f10 = some ⟨oc10, od10, .func (PySem.W.fnOf "law" "law" (defArgs s_law) (defBody s_law) (defScope s_law) .none kV10 dc10 pm10 an10 cd10 ct10), sl10⟩)
    (c10 : PySem.W.codeIn K cd10 "law" = true)
    (k10 : PySem.W.keepIn K (.ref f10) = true)
    (zabs : PySem.W.nsIn K mainGlobals "abs" = some none)
    (zbool : PySem.W.nsIn K mainGlobals "bool" = some none)
    (zint : PySem.W.nsIn K mainGlobals "int" = some none)
    (zisinstance : PySem.W.nsIn K mainGlobals "isinstance" = some none)
    (zlen : PySem.W.nsIn K mainGlobals "len" = some none) :
    ∃ fd : FuncData, (∀ (s : Shared) (v : Value), BindsTo s fd ⟨[v], []⟩ [("_law_script", v)]) ∧ ∀ base : Heap, K.In base → base.Ns mainGlobals mg → FnOk P w K mg base CX0 4 fa fd ["_law_script"] (spLaw K) := by
  have e := hfa.symm.trans (PySem.W.mg_of X G a10)
  cases e
  let T : Top K mg := {
      f_number_of := f0,
      d_number_of := _,
      F_number_of := fun_mk (st := s_number_of) l0 c0 k0,
      g_number_of := PySem.W.mg_of X G a0,
      b_number_of := (fun_mk (st := s_number_of) l0 c0 k0).binds (ps := ["bound"]) fun _ _ _ _ _ _ us hl => match us, hl with | [_], _ => rfl,
      f_is_open := f1,
      d_is_open := _,
      F_is_open := fun_mk (st := s_is_open) l1 c1 k1,
      g_is_open := PySem.W.mg_of X G a1,
      b_is_open := (fun_mk (st := s_is_open) l1 c1 k1).binds (ps := ["bound"]) fun _ _ _ _ _ _ us hl => match us, hl with | [_], _ => rfl,
      f_added := f2,
      d_added := _,
      F_added := fun_mk (st := s_added) l2 c2 k2,
      g_added := PySem.W.mg_of X G a2,
      b_added := (fun_mk (st := s_added) l2 c2 k2).binds (ps := ["one", "other"]) fun _ _ _ _ _ _ us hl => match us, hl with | [_, _], _ => rfl,
      f_lets := f3,
      d_lets := _,
      F_lets := fun_mk (st := s_lets) l3 c3 k3,
      g_lets := PySem.W.mg_of X G a3,
      b_lets := (fun_mk (st := s_lets) l3 c3 k3).binds (ps := ["bound", "value"]) fun _ _ _ _ _ _ us hl => match us, hl with | [_, _], _ => rfl,
      f_cell_at := f4,
      d_cell_at := _,
      F_cell_at := fun_mk (st := s_cell_at) l4 c4 k4,
      g_cell_at := PySem.W.mg_of X G a4,
      b_cell_at := (fun_mk (st := s_cell_at) l4 c4 k4).binds (ps := ["_law_script", "_law_k"]) fun _ _ _ _ _ _ us hl => match us, hl with | [_, _], _ => rfl,
      f_number := f5,
      d_number := _,
      F_number := fun_mk (st := s_number) l5 c5 k5,
      g_number := PySem.W.mg_of X G a5,
      b_number := (fun_mk (st := s_number) l5 c5 k5).binds (ps := ["_law_cell"]) fun _ _ _ _ _ _ us hl => match us, hl with | [_], _ => rfl,
      f_divisor := f6,
      d_divisor := _,
      F_divisor := fun_mk (st := s_divisor) l6 c6 k6,
      g_divisor := PySem.W.mg_of X G a6,
      b_divisor := (fun_mk (st := s_divisor) l6 c6 k6).binds (ps := ["_law_one", "_law_other"]) fun _ _ _ _ _ _ us hl => match us, hl with | [_, _], _ => rfl,
      f_lowest := f7,
      d_lowest := _,
      F_lowest := fun_mk (st := s_lowest) l7 c7 k7,
      g_lowest := PySem.W.mg_of X G a7,
      b_lowest := (fun_mk (st := s_lowest) l7 c7 k7).binds (ps := ["_law_top", "_law_bottom"]) fun _ _ _ _ _ _ us hl => match us, hl with | [_, _], _ => rfl,
      f_value := f8,
      d_value := _,
      F_value := fun_mk (st := s_value) l8 c8 k8,
      g_value := PySem.W.mg_of X G a8,
      b_value := (fun_mk (st := s_value) l8 c8 k8).binds (ps := ["_law_number_here", "_law_closed", "_law_cell"]) fun _ _ _ _ _ _ us hl => match us, hl with | [_, _, _], _ => rfl,
      f_sum := f9,
      d_sum := _,
      F_sum := fun_mk (st := s_sum) l9 c9 k9,
      g_sum := PySem.W.mg_of X G a9,
      b_sum := (fun_mk (st := s_sum) l9 c9 k9).binds (ps := ["_law_one", "_law_other"]) fun _ _ _ _ _ _ us hl => match us, hl with | [_, _], _ => rfl,
      f_law := fa,
      d_law := _,
      F_law := fun_mk (st := s_law) l10 c10 k10,
      g_law := PySem.W.mg_of X G a10,
      b_law := (fun_mk (st := s_law) l10 c10 k10).binds (ps := ["_law_script"]) fun _ _ _ _ _ _ us hl => match us, hl with | [_], _ => rfl,
      m_abs := PySem.W.mg_none_of X G zabs,
      m_bool := PySem.W.mg_none_of X G zbool,
      m_int := PySem.W.mg_none_of X G zint,
      m_isinstance := PySem.W.mg_none_of X G zisinstance,
      m_len := PySem.W.mg_none_of X G zlen }
  exact ⟨_, fun s v => .of_eq rfl, fun base _ _ => ok_law T⟩
end ZW
open PySem PySem.W PyProof.Rows
set_option maxRecDepth 100000 in
set_option maxHeartbeats 0 in
theorem PySem.Challenge.cw_zonewalk_k05_bounds_added_holds : PySem.Challenge.rw_zonewalk_k05_bounds_added.Holds := by
  w_on; o_law; k_head; (case hw => w_witness2)
  k_fill
  refine L2.walk_of (l := PySem.Challenge.rw_zonewalk_k05_bounds_added) (n := 63) (k := 4) (x := "_law_script") (CX := fun _ => L2.CX0) (sp := fun w => ZW.spLaw _) rfl (by decide) rfl ⟨rfl, by decide, by decide⟩ (fun w h Y => PySem.W.kIn_of Y) ?F (fun _ _ a ns hl _ hS => ⟨a, ns, rfl, hS, hl, fun _ => rfl⟩) (fun _ _ _ _ _ h => h)
  case F =>
    intro w mg fa h KX G hmg
    refine' ZW.all_mk KX G hmg ?a0 ?l0 ?c0 ?k0 ?a1 ?l1 ?c1 ?k1 ?a2 ?l2 ?c2 ?k2 ?a3 ?l3 ?c3 ?k3 ?a4 ?l4 ?c4 ?k4 ?a5 ?l5 ?c5 ?k5 ?a6 ?l6 ?c6 ?k6 ?a7 ?l7 ?c7 ?k7 ?a8 ?l8 ?c8 ?k8 ?a9 ?l9 ?c9 ?k9 ?a10 ?l10 ?c10 ?k10 ?zabs ?zbool ?zint ?zisinstance ?zlen
    (case a0 => first | k_is | k_exc | rfl)
    (case l0 => first | k_is | k_exc | rfl)
    (case c0 => first | k_is | k_exc | rfl)
    (case k0 => first | k_is | k_exc | rfl)
    (case a1 => first | k_is | k_exc | rfl)
    (case l1 => first | k_is | k_exc | rfl)
    (case c1 => first | k_is | k_exc | rfl)
    (case k1 => first | k_is | k_exc | rfl)
    (case a2 => first | k_is | k_exc | rfl)
    (case l2 => first | k_is | k_exc | rfl)
    (case c2 => first | k_is | k_exc | rfl)
    (case k2 => first | k_is | k_exc | rfl)
    (case a3 => first | k_is | k_exc | rfl)
    (case l3 => first | k_is | k_exc | rfl)
    (case c3 => first | k_is | k_exc | rfl)
    (case k3 => first | k_is | k_exc | rfl)
    (case a4 => first | k_is | k_exc | rfl)
    (case l4 => first | k_is | k_exc | rfl)
    (case c4 => first | k_is | k_exc | rfl)
    (case k4 => first | k_is | k_exc | rfl)
    (case a5 => first | k_is | k_exc | rfl)
    (case l5 => first | k_is | k_exc | rfl)
    (case c5 => first | k_is | k_exc | rfl)
    (case k5 => first | k_is | k_exc | rfl)
    (case a6 => first | k_is | k_exc | rfl)
    (case l6 => first | k_is | k_exc | rfl)
    (case c6 => first | k_is | k_exc | rfl)
    (case k6 => first | k_is | k_exc | rfl)
    (case a7 => first | k_is | k_exc | rfl)
    (case l7 => first | k_is | k_exc | rfl)
    (case c7 => first | k_is | k_exc | rfl)
    (case k7 => first | k_is | k_exc | rfl)
    (case a8 => first | k_is | k_exc | rfl)
    (case l8 => first | k_is | k_exc | rfl)
    (case c8 => first | k_is | k_exc | rfl)
    (case k8 => first | k_is | k_exc | rfl)
    (case a9 => first | k_is | k_exc | rfl)
    (case l9 => first | k_is | k_exc | rfl)
    (case c9 => first | k_is | k_exc | rfl)
    (case k9 => first | k_is | k_exc | rfl)
    (case a10 => first | k_is | k_exc | rfl)
    (case l10 => first | k_is | k_exc | rfl)
    (case c10 => first | k_is | k_exc | rfl)
    (case k10 => first | k_is | k_exc | rfl)
    (case zabs => first | k_is | k_exc | rfl)
    (case zbool => first | k_is | k_exc | rfl)
    (case zint => first | k_is | k_exc | rfl)
    (case zisinstance => first | k_is | k_exc | rfl)
    (case zlen => first | k_is | k_exc | rfl)
