import PyProof.Rows.All
import Wide.All
import OpenK.AllK
import Wide.FinOn
import HandS.ForMost
import HandS.ForExc
import HandS.Wide
import HandS.WideBits
import HandS.IsInst
import HandS.TupLe
import KE.BitLaws
import HandS.Defaults
import HandS.ExcIs
import PySem.Challenge.RW_zonewalk_k32_totals
set_option Elab.async false
set_option linter.all false
set_option maxRecDepth 100000
set_option maxHeartbeats 4000000

namespace ZW
theorem fmod_gcd (a b : Int) : Int.gcd b (a.fmod b) = Int.gcd a b := by
  rw [Int.fmod_def, Int.gcd_comm a b]
  exact Int.gcd_sub_mul_left_right b a (a.fdiv b)
theorem fmod_lt (a b : Int) (hb : b ≠ 0) : (a.fmod b).natAbs < b.natAbs := by
  rcases Int.lt_or_lt_of_ne hb with h | h
  · have h1 := Int.fmod_def a b
    have e : a.fmod b = -((-a).fmod (-b)) := by simp
    rw [e, Int.fmod_eq_emod_of_nonneg _ (by omega)]
    have := Int.emod_lt_of_pos (-a) (b := -b) (by omega)
    have := Int.emod_nonneg (-a) (b := -b) (by omega)
    omega
  · rw [Int.fmod_eq_emod_of_nonneg a (by omega)]
    have := Int.emod_lt_of_pos a h
    have := Int.emod_nonneg a hb
    omega
theorem gcd_pos_right {a b : Int} (hb : b ≠ 0) : (0 : Int) < Int.gcd a b := by
  have := Int.gcd_pos_of_ne_zero_right a hb
  omega
/-- both divided by their gcd -/
structure Low (a b t u : Int) : Prop where
  pos : 0 < b → 0 < u
  top : t * Int.gcd a b = a
  bot : u * Int.gcd a b = b
  eq : t * b = a * u
  one : Int.gcd t u = 1
theorem low_of {a b : Int} (hb : b ≠ 0) : Low a b (a.fdiv (Int.gcd a b)) (b.fdiv (Int.gcd a b)) := by
  have g := gcd_pos_right (a := a) hb
  have d1 : (Int.gcd a b : Int) ∣ a := Int.gcd_dvd_left ..
  have d2 : (Int.gcd a b : Int) ∣ b := Int.gcd_dvd_right ..
  rw [Int.fdiv_eq_ediv_of_nonneg _ (by omega), Int.fdiv_eq_ediv_of_nonneg _ (by omega)]
  have e1 := Int.ediv_mul_cancel d1
  have e2 := Int.ediv_mul_cancel d2
  generalize hx : a / (Int.gcd a b : Int) = x at *
  generalize hy : b / (Int.gcd a b : Int) = y at *
  generalize hg : (Int.gcd a b : Int) = G at *
  refine ⟨fun h => ?_, ?_, ?_, ?_, ?_⟩
  · rcases Int.lt_or_le 0 y with z | z
    · exact z
    · have := Int.mul_nonpos_of_nonpos_of_nonneg z (Int.le_of_lt g)
      omega
  · rw [hg]; exact e1
  · rw [hg]; exact e2
  · rw [← e2, ← e1]; rw [Int.mul_comm y G, ← Int.mul_assoc]
  · have q : Int.gcd (x * G) (y * G) = Int.gcd x y * G.natAbs := Int.gcd_mul_right ..
    rw [e1, e2] at q
    have hG : G.natAbs = Int.gcd a b := by omega
    rw [hG] at q
    have gp : 0 < Int.gcd a b := by omega
    exact Nat.eq_of_mul_eq_mul_right gp (by rw [Nat.one_mul]; exact q.symm)
theorem quo_le {t G a : Int} (h : t * G = a) (hG : 0 < G) : t.natAbs ≤ a.natAbs := by
  rw [← h, Int.natAbs_mul]
  exact Nat.le_mul_of_pos_right _ (by omega)
/-- the fraction t / u, in lowest terms, that stands so to a and b -/
structure Red (a b t u : Int) : Prop where
  pos : 0 < u
  eq : t * b = a * u
  one : Int.gcd t u = 1
  tle : t.natAbs ≤ a.natAbs
  ule : u.natAbs ≤ b.natAbs
theorem Low.red {a b t u : Int} (l : Low a b t u) (h : 0 < b) : Red a b t u := ⟨l.pos h, l.eq, l.one, quo_le l.top (gcd_pos_right (by omega)), quo_le l.bot (gcd_pos_right (by omega))⟩
theorem red_neg {a b : Int} (hb : b < 0) : Red a b (a.fdiv (0 - (Int.gcd a b : Int))) (b.fdiv (0 - (Int.gcd a b : Int))) := by
  have l := low_of (a := a) (b := b) (by omega)
  have g := gcd_pos_right (a := a) (b := b) (by omega)
  have k : ∀ x t : Int, t * (Int.gcd a b : Int) = x → x.fdiv (0 - (Int.gcd a b : Int)) = - t := by
    intro x t e
    rw [Int.zero_sub, show x = (-(Int.gcd a b : Int)) * (-t) by rw [Int.neg_mul_neg, Int.mul_comm, e], Int.mul_fdiv_cancel_left _ (by omega)]
  rw [k _ _ l.top, k _ _ l.bot]
  have hu : b.fdiv (Int.gcd a b) < 0 := by
    rcases Int.lt_or_le (b.fdiv (Int.gcd a b)) 0 with z | z
    · exact z
    · have := Int.mul_nonneg z (Int.le_of_lt g); rw [l.bot] at this; omega
  refine ⟨by omega, by rw [Int.neg_mul, Int.mul_neg, l.eq], by rw [Int.gcd_neg, Int.neg_gcd]; exact l.one, by rw [Int.natAbs_neg]; exact quo_le l.top g, by rw [Int.natAbs_neg]; exact quo_le l.bot g⟩
theorem dvd_cop {u t v : Int} (h : u ∣ t * v) (c : Int.gcd t u = 1) : u ∣ v := by
  have h1 : u.natAbs ∣ t.natAbs * v.natAbs := by rw [← Int.natAbs_mul]; exact Int.natAbs_dvd_natAbs.mpr h
  have h2 : Nat.Coprime u.natAbs t.natAbs := by rw [Nat.coprime_comm]; exact c
  exact Int.natAbs_dvd_natAbs.mp (h2.dvd_of_dvd_mul_left h1)
theorem cop_uniq {t u t' u' : Int} (hu : 0 < u) (hu' : 0 < u') (c : Int.gcd t u = 1) (c' : Int.gcd t' u' = 1) (e : t * u' = t' * u) : t = t' ∧ u = u' := by
  have d1 : u ∣ u' := by
    have : u ∣ t * u' := ⟨t', by rw [e, Int.mul_comm]⟩
    exact dvd_cop this c
  have d2 : u' ∣ u := by
    have : u' ∣ t' * u := ⟨t, by rw [← e, Int.mul_comm]⟩
    exact dvd_cop this c'
  have eu : u = u' := by
    have h1 := Int.le_of_dvd hu' d1
    have h2 := Int.le_of_dvd hu d2
    omega
  subst eu
  exact ⟨Int.eq_of_mul_eq_mul_right (by omega) e, rfl⟩
theorem Red.uniq {a b t u t' u' : Int} (hb : b ≠ 0) (h : Red a b t u) (k : Red a b t' u') : t = t' ∧ u = u' := by
  refine cop_uniq h.pos k.pos h.one k.one ?_
  have : t * u' * b = t' * u * b := by
    rw [Int.mul_right_comm, h.eq, Int.mul_right_comm t', k.eq]; ac_rfl
  exact Int.eq_of_mul_eq_mul_right hb this
/-- fractions that stand so to the same two numbers, told by cross products -/
theorem red_cross {a b a' b' t u t' u' : Int} (hb : b ≠ 0) (hb' : b' ≠ 0) (x : a * b' = a' * b) (h : Red a b t u) (k : Red a' b' t' u') : t = t' ∧ u = u' := by
  refine cop_uniq h.pos k.pos h.one k.one ?_
  have e : t * u' * (b * b') = t' * u * (b * b') := by
    rw [show t * u' * (b * b') = (t * b) * (u' * b') by ac_rfl, show t' * u * (b * b') = (t' * b') * (u * b) by ac_rfl, h.eq, k.eq,
      show a * u * (u' * b') = (a * b') * (u * u') by ac_rfl, show a' * u' * (u * b) = (a' * b) * (u * u') by ac_rfl, x]
  exact Int.eq_of_mul_eq_mul_right (Int.mul_ne_zero hb hb') e
theorem gcd_le_size {a b : Int} (hb : b ≠ 0) : (Int.gcd a b) ≤ b.natAbs := by
  have := Int.gcd_dvd_right (a := a) (b := b)
  exact Nat.le_of_dvd (by omega) (by simpa using Int.natAbs_dvd_natAbs.mpr this)
theorem log_lt {i : Int} {n m : Nat} (h : i.natAbs < 2 ^ n) (h0 : 0 < n) (hm : n ≤ m) : i.natAbs.log2 < m := by
  by_cases e : i.natAbs = 0
  · rw [e]; simp; omega
  · exact Nat.lt_of_lt_of_le ((Nat.log2_lt e).mpr h) hm
open PySem PySem.Spec PyProof.Rows L2
theorem upd_keep {H : Hp} {p : Addr} {o : HO} (h : H p = none) : Same H (upd H p o) := fun b x e => by
  rw [upd_ne (ne_of_none e h)]
  exact e
theorem Same.to {H H' : Hp} (s : Same H H') {a : Addr} {o : HO} (h : H a = some o) : H' a = some o := s a o h
theorem seq_step {t u : TS} {D : Ends} {σ : L2.St} {H : Hp} (h : t { D with nx := u D } σ H) : tSeq t u D σ H := h
theorem ite_d {c : Prop} [Decidable c] {A B : Prop} (h1 : c → A) (h2 : ¬ c → B) : if decide c = true then A else B := by
  by_cases h : c
  · rw [if_pos (decide_eq_true h)]; exact h1 h
  · rw [if_neg (by rw [decide_eq_false h]; exact Bool.false_ne_true)]; exact h2 h
theorem shl1 {i : Int} {n : Nat} (h : i.natAbs < 2 ^ n) (hn : n ≤ 100000) : CShl i 1 := shl_ok (j := 1) h (by omega)
theorem one_ne : ((1 : Int) = 0) = False := by simp
theorem pow_lit (i : Int) : i ^ (1 : Nat) = i := Int.pow_one i
theorem cxK {CX : CXT} {P : Program} {w : World} {K : PySem.W.Frag} {mg : Str → Option Value} {base : Heap} {N : List Str} {qual : Str} {scope : Scope} {f : Addr} {cd : Value} {A : Around} {outer : List Env} {s : Shared} {H : Hp} {E : XK} :
    (cxOf CX P w K mg base N qual scope f cd A outer s H E).K = K := rfl
theorem ix_l {K : PySem.W.Frag} {H : Hp} {p : Addr} {xs : List V} {i : Int} {v : V} {Q : VK} (h : SqL K H p xs) (hi : 0 ≤ i) (hv : xs[i.toNat]? = some v) (q : Q v H) : rIxL K (.ref p) (.int i) H Q :=
  ⟨p, xs, i, v, rfl, rfl, h, at_of (j := i.toNat) (by omega) hv, q⟩
theorem ix_t {K : PySem.W.Frag} {H : Hp} {p : Addr} {xs : List V} {i : Int} {v : V} {Q : VK} (h : SqT K H p xs) (hi : 0 ≤ i) (hv : xs[i.toNat]? = some v) (q : Q v H) : rIxT K (.ref p) (.int i) H Q :=
  ⟨p, xs, i, v, rfl, rfl, h, at_of (j := i.toNat) (by omega) hv, q⟩
theorem sqL_upd {K : PySem.W.Frag} {H : Hp} {p : Addr} {xs : List V} : SqL K (upd H p (.lst xs)) p xs := SqL.of upd_same
theorem fm2 (c : Int) : c.fmod 2 = 0 ∨ c.fmod 2 = 1 := by
  rw [Int.fmod_eq_emod_of_nonneg _ (by omega)]; omega
theorem fm_pos {c m : Int} (h : 0 < m) : 0 ≤ c.fmod m ∧ c.fmod m < m := by
  rw [Int.fmod_eq_emod_of_nonneg _ (by omega)]
  exact ⟨Int.emod_nonneg _ (by omega), Int.emod_lt_of_pos _ h⟩
/-- a number of at most n bits -/
def Sz (n : Nat) (i : Int) : Prop := i.natAbs < 2 ^ n
theorem Sz.mono {i : Int} {a c : Nat} (ha : Sz a i) (h : a ≤ c) : Sz c i := Nat.lt_of_lt_of_le ha (Nat.pow_le_pow_right (by decide) h)
theorem Sz.mulW {i j : Int} {a b : Nat} (ha : Sz a i) (hb : Sz b j) (h : a + b ≤ 999998) : CMulW i j :=
  wide_mul (a := a + 1) (b := b + 1) (Sz.mono ha (by omega)) (Sz.mono hb (by omega)) (by omega) (by omega) (by omega)
theorem Sz.mul {i j : Int} {a b c : Nat} (ha : Sz a i) (hb : Sz b j) (h : a + b ≤ c) : Sz c (i * j) := Sz.mono (wide_lt ha hb) h
theorem Sz.add {i j : Int} {a b c : Nat} (ha : Sz a i) (hb : Sz b j) (h1 : a + 1 ≤ c) (h2 : b + 1 ≤ c) : Sz c (i + j) := by
  have x : Sz (c - 1) i := ha.mono (by omega)
  have y : Sz (c - 1) j := hb.mono (by omega)
  have e : (2 : Nat) ^ c = 2 ^ (c - 1) * 2 := by rw [← Nat.pow_succ]; congr 1; omega
  unfold Sz at x y ⊢
  omega
theorem Sz.sub {i j : Int} {a b c : Nat} (ha : Sz a i) (hb : Sz b j) (h1 : a + 1 ≤ c) (h2 : b + 1 ≤ c) : Sz c (i - j) := by
  have x : Sz (c - 1) i := ha.mono (by omega)
  have y : Sz (c - 1) j := hb.mono (by omega)
  have e : (2 : Nat) ^ c = 2 ^ (c - 1) * 2 := by rw [← Nat.pow_succ]; congr 1; omega
  unfold Sz at x y ⊢
  omega
theorem Sz.le {i j : Int} {a : Nat} (h : i.natAbs ≤ j.natAbs) (hj : Sz a j) : Sz a i := Nat.lt_of_le_of_lt h hj
theorem Sz.nn {i j : Int} {a : Nat} (h0 : 0 ≤ i) (h : i ≤ j) (hj : Sz a j) : Sz a i := Sz.le (by omega) hj
theorem Sz.rg {i j : Int} {a : Nat} (h0 : -j ≤ i) (h : i ≤ j) (hj : Sz a j) : Sz a i := Sz.le (by omega) hj
/-- a divisor that the rule takes -/
def DivOk (j : Int) : Prop := j ≠ 0 ∧ j.natAbs.log2 < 9000
theorem DivOk.of {j : Int} {n : Nat} (h : j ≠ 0) (hs : Sz n j) (hn : n ≤ 8000) : DivOk j := ⟨h, log_lt (n := 8000) (hs.mono hn) (by omega) (by omega)⟩
theorem sz_line {n : Nat} (h : n ≤ 1000) : (n ≤ sizeLine) = True := eq_true (Nat.le_of_lt (small1000 h))
section
variable {X : Cx}
theorem op_fdivZ : OpR X (binaryOp .FloorDiv) (rI (fun _ j => DivOk j) fun i j => .int (i.fdiv j)) := opI fun _ _ _ _ _ _ _ hc q =>
  floordiv_int hc.1 q (.inl (PyProof.noPylong_of_log2 hc.2))
end
theorem gTup_of {K : PySem.W.Frag} {a : Addr} {xs : List V} {n : Nat} {t : TGs} {σ : L2.St} {H : Hp} {Q : L2.St → Hp → Prop} (h : SqT K H a xs) (hn : xs.length = n) (q : t xs σ H Q) : gTup K n t (.ref a) σ H Q := ⟨a, xs, rfl, h, hn, q⟩
theorem sqt {K : PySem.W.Frag} {H : Hp} {a : Addr} {xs : List V} (h : H a = some (.tup xs)) : SqT K H a xs := SqT.of h
theorem Low.top_le {a b t u : Int} (l : Low a b t u) (hb : b ≠ 0) : t.natAbs ≤ a.natAbs := quo_le l.top (gcd_pos_right hb)
theorem Low.bot_le {a b t u : Int} (l : Low a b t u) (hb : b ≠ 0) : u.natAbs ≤ b.natAbs := quo_le l.bot (gcd_pos_right hb)
theorem ite_and {a : Bool} {c : Prop} [Decidable c] {A R : Prop} (h1 : a = true → c → A) (h2 : ¬ (a = true ∧ c) → R) : if a = true then (if decide c = true then A else R) else R := by
  by_cases ha : a = true
  · rw [if_pos ha]; exact ite_d (h1 ha) fun z => h2 fun q => z q.2
  · rw [if_neg ha]; exact h2 fun q => ha q.1
section
variable {X : Cx} {e : Expr} {es : List Expr} {t t' : TE} {ta : TA} {pos : Pos}
theorem pe_imp (h : PE X e t) (k : ∀ σ H Q, t' σ H Q → t σ H Q) : PE X e t' := ⟨fun pins s σ H Q I q => h.run pins s σ H Q I (k σ H Q q)⟩
def tWk (ta : TA) : TA := fun σ H Q => ∃ Q0 : List V → Hp → Prop, ta σ H Q0 ∧ ∀ xs H1, Q0 xs H1 → Q xs H1
theorem pa_wk (h : PA X es ta) : PA X es (tWk ta) := ⟨fun pos pins s σ H _ I ⟨Q0, a, k⟩ => thn (h.run pos pins s σ H Q0 I a) fun _ _ ⟨xs, H1, I1, r, q⟩ => ⟨xs, H1, I1, r, k _ _ q⟩⟩
/-- a new tuple, a new list: nothing but what is tracked is told of the heap behind -/
def tTupN (ta : TA) : TE := fun σ H Q => ta σ H fun xs H1 => xs.length ≤ sizeLine ∧ ∀ p H2, Same H1 H2 → H1 p = none → H2 p = some (.tup xs) → Q (.ref p) H2
def tLstN (ta : TA) : TE := fun σ H Q => ta σ H fun xs H1 => xs.length ≤ sizeLine ∧ ∀ p H2, Same H1 H2 → H1 p = none → H2 p = some (.lst xs) → Q (.ref p) H2
theorem pe_tupN {x1} (h : PA X es ta) : PE X (.Tuple es x1 pos) (tTupN ta) :=
  pe_imp (pe_tup (pa_wk h)) fun _ _ _ q => ⟨_, q, fun _ _ ⟨z, k⟩ => ⟨z, fun p hp => k p _ (upd_keep hp) hp upd_same⟩⟩
theorem pe_lstN (h : PA X es ta) : PE X (.List es pos) (tLstN ta) :=
  pe_imp (pe_lst (pa_wk h)) fun _ _ _ q => ⟨_, q, fun _ _ ⟨z, k⟩ => ⟨z, fun p hp => k p _ (upd_keep hp) hp upd_same⟩⟩
def rSlN (K : PySem.W.Frag) : V → Option Int → Option Int → Hp → VK → Prop := fun x lo hi H Q => ∃ a xs, x = .ref a ∧ SqL K H a xs ∧ ∀ p H2, Same H H2 → H p = none → H2 p = some (.lst (cutV xs lo hi)) → Q (.ref p) H2
theorem sl_listN : SlR X (rSlN X.K) := fun pins s σ H x v vl vu lo hi sl Q I rx hs p1 p2 ⟨a, xs, e, h, q⟩ =>
  sl_list pins s σ H x v vl vu lo hi sl Q I rx hs p1 p2 ⟨a, xs, e, h, fun p hp => q p _ (upd_keep hp) hp upd_same⟩
theorem op_imp {f : Value → Value → Sem Value} {r r' : R2} (h : OpR X f r) (k : ∀ x y H Q, r' x y H Q → r x y H Q) : OpR X f r' := fun pins s σ H x y v u Q I rx ry q => h pins s σ H x y v u Q I rx ry (k x y H Q q)
def rCatN : R2 := fun x y H Q => ∃ l b xs zs, x = .ref l ∧ y = .ref b ∧ H l = some (.lst xs) ∧ H b = some (.lst zs) ∧ xs.length + zs.length ≤ sizeLine ∧ ∀ p H2, Same H H2 → H p = none → H2 p = some (.lst (xs ++ zs)) → Q (.ref p) H2
theorem op_catN : OpR X (binaryOp .Add) rCatN := op_imp op_cat fun _ _ _ _ ⟨l, b, xs, zs, e1, e2, h1, h2, z, q⟩ => ⟨l, b, xs, zs, e1, e2, h1, h2, z, fun p hp => q p _ (upd_keep hp) hp upd_same⟩
theorem call_imp {f : Value} {r r' : List V → Hp → VK → Prop} (h : CallR X f r) (k : ∀ x H Q, r' x H Q → r x H Q) : CallR X f r' := fun pins s σ H xs us Q I r q => h pins s σ H xs us Q I r (k xs H Q q)
def rListN (K : PySem.W.Frag) : List V → Hp → VK → Prop := fun xs H Q => ∃ p ys, xs = [.ref p] ∧ (SqL K H p ys ∨ SqT K H p ys) ∧ ∀ l H2, Same H H2 → H l = none → H2 l = some (.lst ys) → Q (.ref l) H2
theorem call_listN : CallR X (.type "list") (rListN X.K) := call_imp call_list_of fun _ _ _ ⟨p, ys, e, h, q⟩ => ⟨p, ys, e, h, fun l hl => q l _ (upd_keep hl) hl upd_same⟩
def rIntB : List V → Hp → VK → Prop := fun xs H Q => ∃ k, xs = [.bl k] ∧ Q (.int (if k then 1 else 0)) H
theorem call_intB : CallR X (.type "int") rIntB := call_imp call_int1 fun _ _ _ h => .inr h
end
theorem nat_and_mod (x y : Nat) : (x &&& y) % 2 = (x % 2) * (y % 2) := by
  have h := Nat.and_mod_two_pow (a := x) (b := y) (n := 1)
  have h1 : x % 2 = 0 ∨ x % 2 = 1 := by omega
  have h2 : y % 2 = 0 ∨ y % 2 = 1 := by omega
  rw [Nat.pow_one] at h
  rcases h1 with e | e <;> rcases h2 with f | f <;> rw [h, e, f] <;> rfl
theorem nat_or_mod (x y : Nat) : (x ||| y) % 2 = if x % 2 = 0 ∧ y % 2 = 0 then 0 else 1 := by
  have h := Nat.or_mod_two_pow (a := x) (b := y) (n := 1)
  have h1 : x % 2 = 0 ∨ x % 2 = 1 := by omega
  have h2 : y % 2 = 0 ∨ y % 2 = 1 := by omega
  rw [Nat.pow_one] at h
  rcases h1 with e | e <;> rcases h2 with f | f <;> rw [h, e, f] <;> rfl
theorem and_bit (a b : Int) : Builtin.bitAnd a b % 2 = (if a % 2 = 1 ∧ b % 2 = 1 then 1 else 0) := by
  have key : ∀ x y : Nat, x % 2 = 0 ∨ x % 2 = 1 := by omega
  have nn : ∀ x, Builtin.bitNot x = - x - 1 := by intro x; unfold Builtin.bitNot; omega
  by_cases ha : 0 ≤ a <;> by_cases hb : 0 ≤ b
  · rw [bitAnd_pp ha hb]
    have h := nat_and_mod a.toNat b.toNat
    have h1 : a.toNat % 2 = 0 ∨ a.toNat % 2 = 1 := by omega
    have h2 : b.toNat % 2 = 0 ∨ b.toNat % 2 = 1 := by omega
    rcases h1 with e | e <;> rcases h2 with f | f <;> rw [e, f] at h <;> split <;> omega
  · rw [bitAnd_pn ha hb, nn]
    have h := nat_and_mod a.toNat (-b-1).toNat
    have h1 : a.toNat % 2 = 0 ∨ a.toNat % 2 = 1 := by omega
    have h2 : (-b-1).toNat % 2 = 0 ∨ (-b-1).toNat % 2 = 1 := by omega
    rcases h1 with e | e <;> rcases h2 with f | f <;> rw [e, f] at h <;> split <;> omega
  · rw [bitAnd_np ha hb, nn]
    have h := nat_and_mod b.toNat (-a-1).toNat
    have h1 : b.toNat % 2 = 0 ∨ b.toNat % 2 = 1 := by omega
    have h2 : (-a-1).toNat % 2 = 0 ∨ (-a-1).toNat % 2 = 1 := by omega
    rcases h1 with e | e <;> rcases h2 with f | f <;> rw [e, f] at h <;> split <;> omega
  · rw [bitAnd_nn ha hb, nn, nn, nn]
    have h := nat_or_mod (-a-1).toNat (-b-1).toNat
    have h1 : (-a-1).toNat % 2 = 0 ∨ (-a-1).toNat % 2 = 1 := by omega
    have h2 : (-b-1).toNat % 2 = 0 ∨ (-b-1).toNat % 2 = 1 := by omega
    rcases h1 with e | e <;> rcases h2 with f | f <;> rw [e, f] at h <;> split at h <;> split <;> omega

theorem bit_sum (a b : Int) : Builtin.bitOr ((a / 2 + b / 2) * 2) (Builtin.bitAnd (Builtin.bitAnd a b) 1) = 2 * (a / 2 + b / 2) + (if a % 2 = 1 ∧ b % 2 = 1 then 1 else 0) := by
  rw [bitAnd_m1, and_bit, bitOr_and]
  split
  · rw [bitAnd_m1]; omega
  · rw [bitAnd_zero]; omega
theorem isi {K : PySem.W.Frag} {H : Hp} {x : V} {a b : String} {r : Bool} {Q : VK} (h : TyX K H x (.type a)) (k : kitB a b = some r) (q : Q (.bl r) H) : rIsi K [x, .ty b] H Q := ⟨x, .ty b, _, _, r, rfl, .ty b, h, kit_ty k, q⟩
theorem if_t {b : Bool} {A B : Prop} (h : b = true) (q : A) : if b = true then A else B := by rw [if_pos h]; exact q
theorem if_f {b : Bool} {A B : Prop} (h : b = false) (q : B) : if b = true then A else B := by rw [h, if_neg Bool.false_ne_true]; exact q
/-- a bound, as a value -/
def oV : Option Int → V
  | none => .non
  | some i => .int i
theorem oV_none : oV none = .non := rfl
theorem oV_some (i : Int) : oV (some i) = .int i := rfl
theorem funD_mk {K : PySem.W.Frag} {x qual : Str} {st : Stmt} {f t : Addr} {oc kV doc pm cdv ct : Value} {od an : Option Addr} {osl : Array (Option Value)} {o : Obj} {n : Nat} {its : List Value} {dvs : List V}
    (l : K.lookup f = some ⟨oc, od, .func (PySem.W.fnOf x qual (defArgs st) (defBody st) (defScope st) (.ref t) kV doc pm an cdv ct), osl⟩) (c : PySem.W.codeIn K cdv qual = true) (k : PySem.W.keepIn K (.ref f) = true)
    (lt : K.lookup t = some o) (ld : o.data = .seq its.toArray n) (hv : Vals dvs its) (hd : dvs ≠ []) : FunD K x qual (defArgs st) (defBody st) (defScope st) dvs [] f (PySem.W.fnOf x qual (defArgs st) (defBody st) (defScope st) (.ref t) kV doc pm an cdv ct) :=
  ⟨⟨oc, od, .ref t, kV, doc, pm, an, cdv, ct, osl, rfl, l, c, .inr ⟨hd, t, o, its, n, rfl, lt, ld, hv⟩, .inl rfl⟩, k⟩
section
variable {X : Cx} {D a : Addr} {cls : Value} {d : Option Addr} {oe : Obj} {pn : List (Addr × Obj)}
/-- isinstance of the caught error: its class is told in the reading -/
theorem call_isE2 (hz : Zc cls d oe) (hf : ∃ vs, oe.data = .fields vs) : CallR (X.suite a ((a, oe) :: pn)) (.builtin "isinstance") (fun xs H Q => ∃ D, cls = .ref D ∧ d = none ∧ ExcC X.K D ∧ rIsE X.K D a xs H Q) := by
  intro pins s σ H xs us Q I r ⟨D, h1, h2, C, h⟩
  subst h1; subst h2
  exact call_isE C hz hf pins s σ H xs us Q I r h
end
theorem cut_int {ns : List Int} {lo hi : Option Int} {i : Nat} {x : V} (h : (cutV (ns.map V.int) lo hi)[i]? = some x) : ∃ z, x = .int z := by
  have m := List.mem_of_mem_drop (List.mem_of_mem_take (List.mem_of_getElem? h))
  obtain ⟨z, _, e⟩ := List.mem_map.mp m
  exact ⟨z, e.symm⟩
def kinds : List String := ["int", "bool", "NoneType", "str", "list", "tuple", "dict"]
/-- whether a thing is a whole number -/
def spWhole (K : PySem.W.Frag) : Sp := fun vs H Q _ => ∃ (x : V) (t : String), vs = [x] ∧ TyX K H x (.type t) ∧ t ∈ kinds ∧ Q (.bl (decide (t = "int"))) H
/-- two numbers in lowest terms, as a new tuple -/
def LowT (a b : Int) (H : Hp) (Q : VK) : Prop := ∀ (t u : Int) (p : Addr) (H' : Hp), Low a b t u → Same H H' → H' p = some (.tup [.int t, .int u]) → Q (.ref p) H'
/-- two numbers in lowest terms with a bottom above 0, as a new tuple -/
def RedT (a b : Int) (H : Hp) (Q : VK) : Prop := ∀ (t u : Int) (p : Addr) (H' : Hp), Red a b t u → Same H H' → H' p = some (.tup [.int t, .int u]) → Q (.ref p) H'
theorem ncast (n : Nat) : ((no_index (OfNat.ofNat n) : Nat) : Int) = OfNat.ofNat n := rfl
theorem exm_two {K : PySem.W.Frag} {C : Addr} {cls : Value} {b : Bool} (h1 : PySem.W.subIn K (.ref C) (.type "BaseException") = some true) (h2 : PySem.W.hasDictIn K C = true) (h3 : PySem.W.typeIn K (.ref C) = some (.type "type")) (h4 : PySem.W.subIn K cls (.ref C) = some b) : PySem.W.exmOne K cls (.ref C) = some b := PySem.W.exm_ref h1 h2 h3 h4
/-- isinstance(e, c) of a caught error -/
theorem isE {K : PySem.W.Frag} {D a : Addr} {c : V} {cv : Value} {b : Bool} {H : Hp} {Q : VK} (X : ExcC K D) (hc : ∀ u, RelV c u → u = cv) (k : PySem.W.kitOne K (.ref D) cv = some b) (q : Q (.bl b) H) : ∃ D', Value.ref D = Value.ref D' ∧ (Option.none : Option Addr) = Option.none ∧ ExcC K D' ∧ rIsE K D' a [.ref a, c] H Q :=
  ⟨D, rfl, rfl, X, c, cv, b, rfl, hc, k, q⟩
theorem tyx_same {K : PySem.W.Frag} {H H2 : Hp} (s : Same H H2) {x : V} {t : Value} (h : TyX K H x t) : TyX K H2 x t := by
  cases h with
  | base b =>
    refine .base ?_
    cases b with
    | non => exact .non
    | bl y => exact .bl y
    | int i => exact .int i
    | str y => exact .str y
    | flt y => exact .flt y
    | lst e => exact .lst (s _ _ e)
    | frz e => exact .frz (s _ _ e)
    | tup e => exact .tup (s _ _ e)
    | dK e => exact .dK (s _ _ e)
    | dT e => exact .dT (s _ _ e)
    | ins e cl a b c d => exact .ins (s _ _ e) cl a b c d
  | byt b => exact .byt b
  | set e => exact .set (s _ _ e)
  | kList e c => exact .kList e c
  | kTuple e c => exact .kTuple e c
  | kDict e c => exact .kDict e c
  | fTuple e => exact .fTuple (s _ _ e)
  | fDict e => exact .fDict (s _ _ e)
/-- what stands behind a statement is shown once, for all its ways -/
theorem join_if {t R : TS} {D : Ends} {σ : L2.St} {H : Hp} (P : L2.St → Hp → Prop) (h2 : ∀ σ' H', P σ' H' → R D σ' H') (h1 : (∀ σ' H', P σ' H' → R D σ' H') → tSeq t R D σ H) : tSeq t R D σ H := h1 h2
theorem red_zero {b t u : Int} (R : Red 0 b t u) : Red 0 1 t u := by
  have h1 := R.tle
  have h2 : t = 0 := by simp at h1; exact h1
  subst h2
  have h3 := R.one
  rw [Int.gcd_zero_left] at h3
  exact ⟨R.pos, by simp, R.one, h1, by omega⟩
theorem shaped_ii (a b : Int) : SeqAt.shaped (.tuple [.int a, .int b]) = true := rfl
section
variable {X : Cx} {K : PySem.W.Frag}
theorem call_isiA (h : X.K = K) : CallR X (.builtin "isinstance") (rIsi K) := by subst h; exact call_isi
theorem ix_listA (h : X.K = K) : IxR X (rIxL K) := by subst h; exact ix_list
theorem ix_tupA (h : X.K = K) : IxR X (rIxT K) := by subst h; exact ix_tup
theorem sl_listA (h : X.K = K) : SlR X (rSlN K) := by subst h; exact sl_listN
theorem call_listA (h : X.K = K) : CallR X (.type "list") (rListN K) := by subst h; exact call_listN
theorem pi_listA {tg l : Expr} {tl : TE} (h : X.K = K) (hl : PE X l tl) : PI X tg l (iList K tl) := by subst h; exact pi_list hl
end
theorem lc_vs {X : Cx} {e : Expr} {wi : TI} {g : TG} {tt : TT} {te : TE} {own : List (Str × Nat)} {vs : List Nat} (h : PE X e (tLc wi g tt te (own.map (·.2)))) (hv : own.map (·.2) = vs) : PE X e (tLc wi g tt te vs) := hv ▸ h
theorem lc_vsS {X : Cx} {e : Stmt} {wi : TI} {g k : TG} {tt : TT} {te : TE} {own : List (Str × Nat)} {vs : List Nat} (h : PS X e (tAsg (tLc wi g tt te (own.map (·.2))) k)) (hv : own.map (·.2) = vs) : PS X e (tAsg (tLc wi g tt te vs) k) := hv ▸ h
theorem same_updN {H H2 : Hp} {D : Addr} {o : HO} (hD : H D = none) (s : Same H H2) : Same H (upd H2 D o) := fun b x e => by
  rw [upd_ne (ne_of_none e hD)]
  exact s b x e
theorem sql_keep {K : PySem.W.Frag} {H H' : Hp} {a : Addr} {xs : List V} (h : SqL K H a xs) (k : ∀ b o, H b = some o → H' b = some o) : SqL K H' a xs := Same.seq (show Same H H' from k) h
theorem dpall_of {K : PySem.W.Frag} {H : Hp} : ∀ {vs : List V} {ds : List PyData}, vs.length = ds.length → (∀ (k : Nat) (v : V) (d : PyData), vs[k]? = some v → ds[k]? = some d → Dp K H v d) → DpAll K H vs ds
  | [], [], _, _ => .nil
  | [], _ :: _, h, _ => by cases h
  | _ :: _, [], h, _ => by cases h
  | v :: vs, d :: ds, h, k => .cons (k 0 v d rfl rfl) (dpall_of (Nat.succ.inj h) fun j v' d' h1 h2 => k (j + 1) v' d' h1 h2)
theorem shaped_list {ds : List PyData} (h : ∀ d ∈ ds, d.canLay0 = true ∧ d.depth ≤ 60) : SeqAt.shaped (.list ds) = true := by
  have key : ∀ ds : List PyData, (∀ d ∈ ds, d.canLay0 = true ∧ d.depth ≤ 60) → PyData.canLayAll0 ds = true ∧ PyData.depthAll ds ≤ 60 := by
    intro ds
    induction ds with
    | nil => intro _; exact ⟨rfl, Nat.zero_le _⟩
    | cons d ds ih =>
      intro h
      have h1 := h d (List.mem_cons_self ..)
      have h2 := ih fun x hx => h x (List.mem_cons_of_mem _ hx)
      refine ⟨by show (d.canLay0 && PyData.canLayAll0 ds) = true; rw [h1.1, h2.1]; rfl, ?_⟩
      show max d.depth (PyData.depthAll ds) ≤ 60
      omega
  have z := key ds h
  refine Bool.and_eq_true_iff.mpr ⟨z.1, decide_eq_true ?_⟩
  show PyData.depthAll ds + 1 ≤ 64
  omega
theorem ex_int {i : Int} {P : Int → Prop} (h : P i) : ∃ j, V.int i = V.int j ∧ P j := ⟨i, rfl, h⟩
end ZW

namespace ZW
open PySem PySem.Spec PyProof.Rows L2
theorem dvl_2 : DivOk 2 = True := eq_true ⟨by decide, by decide +kernel⟩
theorem dvl_4 : DivOk 4 = True := eq_true ⟨by decide, by decide +kernel⟩
theorem dvl_7 : DivOk 7 = True := eq_true ⟨by decide, by decide +kernel⟩
theorem dvl_9 : DivOk 9 = True := eq_true ⟨by decide, by decide +kernel⟩
theorem dvl_30 : DivOk 30 = True := eq_true ⟨by decide, by decide +kernel⟩
theorem dvl_1000000000000000 : DivOk 1000000000000000 = True := eq_true ⟨by decide, by decide +kernel⟩
theorem dvl_100000000000000000000 : DivOk 100000000000000000000 = True := eq_true ⟨by decide, by decide +kernel⟩
theorem pwl_10_15 : CPow 10 15 = True := eq_true ⟨by decide, by decide, by decide +kernel⟩
theorem pwl_10_20 : CPow 10 20 = True := eq_true ⟨by decide, by decide, by decide +kernel⟩
end ZW
local macro_rules | `(tactic| walk_at "rd") => `(tactic| ((try simp only [L2.start, List.map_cons, List.map_nil, List.length_cons, List.length_nil, Nat.reduceAdd, Nat.zero_add, Nat.reduceSub, Nat.sub_self, List.replicate, List.cons_append, List.nil_append, List.append_nil]); try simp only [L2.tIfS, L2.tTest, L2.tB, L2.tOp, L2.tUn, L2.tVar, L2.tC, L2.tRet, L2.tRetN, L2.tNext, L2.tAsg, L2.tPar, L2.gName, L2.tCons, L2.tNil, L2.tCall, L2.tCB, L2.tAnd, L2.tOr, L2.tNot, L2.tAndV, L2.tOrV, L2.tNotV, L2.tIf, L2.rI0, L2.rI, L2.rU, L2.rAdd, L2.rSub, L2.rEq, L2.rNe, L2.scal, L2.tTup, L2.tLst, ZW.tTupN, ZW.tLstN, L2.tSl, L2.tPart, L2.tNoPart, ZW.rSlN, ZW.rCatN, ZW.rListN, ZW.rIntB,  L2.tDrop, L2.tIsN, L2.tNotN, L2.tCmp, L2.t2I,
  List.map_cons, List.map_nil, List.length_cons, List.length_nil, List.append_nil, List.nil_append, List.cons_append, List.getElem?_cons_zero, List.getElem?_cons_succ, List.set_cons_zero, List.set_cons_succ, Nat.reduceSub, Nat.reduceAdd, Nat.sub_self, Nat.zero_add, List.getElem?_nil, List.append_eq,
  Option.some.injEq, L2.V.int.injEq, L2.V.bl.injEq, L2.V.ref.injEq, reduceCtorEq, exists_eq_left', exists_eq_left, exists_eq, true_and, and_true, exists_and_left, exists_eq_right, exists_eq_right', decide_true, decide_false, Bool.not_true, Bool.not_false, if_true, if_false, ite_true, ite_false, Bool.false_eq_true, List.cons.injEq, ite_self, and_self, and_assoc, L2.gCons, L2.gNil, Int.reduceToNat, Int.reduceMul, Int.reduceSub, Int.reduceAdd, Int.reduceNe, Int.reduceLE, Int.reduceLT, Int.reduceNeg, Int.reduceEq, ZW.dvl_2, ZW.dvl_4, ZW.dvl_7, ZW.dvl_9, ZW.dvl_30, ZW.dvl_1000000000000000, ZW.dvl_100000000000000000000, ZW.pwl_10_15, ZW.pwl_10_20, ZW.sz_line, Nat.reduceLT, Nat.reduceLeDiff, Nat.reduceLeDiff, ne_eq, not_false_eq_true, Int.reducePow, Int.pow_one,  forall_const, implies_true, ZW.cxK, ZW.ncast, L2.tCallS, L2.tYes, L2.wipe]))
local macro_rules | `(tactic| walk_at "ix") => `(tactic| (walk_at "rd"; first | refine ZW.ix_l (L2.SqL.of (by assumption)) (by decide) rfl ?_ | refine ZW.ix_t (L2.SqT.of (by assumption)) (by decide) rfl ?_))
local macro_rules | `(tactic| walk_at "sq") => `(tactic| (walk_at "rd"; refine ZW.seq_step ?_; walk_at "rd"))
local macro_rules | `(tactic| walk_at "isT") => `(tactic| (walk_at "rd"; refine ZW.isi (r := true) (by first | exact .base (.int _) | exact .base (.bl _) | exact .base .non | exact .base (.str _) | exact .base (.tup (by assumption)) | exact .base (.lst (by assumption)) | exact .base (.dK (by assumption))) (by decide +kernel) ?_; walk_at "rd"))
local macro_rules | `(tactic| walk_at "isF") => `(tactic| (walk_at "rd"; refine ZW.isi (r := false) (by first | exact .base (.int _) | exact .base (.bl _) | exact .base .non | exact .base (.str _) | exact .base (.tup (by assumption)) | exact .base (.lst (by assumption)) | exact .base (.dK (by assumption))) (by decide +kernel) ?_; walk_at "rd"))

namespace ZW
open PySem PySem.Spec PyProof.Rows L2
def topS (i : Nat) : Stmt := PySem.Challenge.pw_zonewalk_k32_totals.main.body.getD i (.Pass ⟨0, 0, 0, 0⟩)
abbrev s_is_whole : Stmt := topS 4
theorem sc_is_whole : FnScope ["thing"] ["thing"] (defScope s_is_whole) := ⟨rfl, rfl, rfl, by decide +kernel, rfl, by decide +kernel, by decide +kernel⟩
abbrev s_divisor : Stmt := topS 5
theorem sc_divisor : FnScope ["one", "other"] ["one", "other"] (defScope s_divisor) := ⟨rfl, rfl, rfl, by decide +kernel, rfl, by decide +kernel, by decide +kernel⟩
abbrev s_fraction : Stmt := topS 6
theorem sc_fraction : FnScope ["top", "bottom", "share"] ["top", "bottom"] (defScope s_fraction) := ⟨rfl, rfl, rfl, by decide +kernel, rfl, by decide +kernel, by decide +kernel⟩
abbrev s_plus : Stmt := topS 7
theorem sc_plus : FnScope ["one", "other"] ["one", "other"] (defScope s_plus) := ⟨rfl, rfl, rfl, by decide +kernel, rfl, by decide +kernel, by decide +kernel⟩
abbrev s_total : Stmt := topS 9
theorem sc_total : FnScope ["run", "found", "wait", "number"] ["run"] (defScope s_total) := ⟨rfl, rfl, rfl, by decide +kernel, rfl, by decide +kernel, by decide +kernel⟩
abbrev s_l_cell_at : Stmt := topS 11
theorem sc_l_cell_at : FnScope ["_law_script", "_law_k"] ["_law_script", "_law_k"] (defScope s_l_cell_at) := ⟨rfl, rfl, rfl, by decide +kernel, rfl, by decide +kernel, by decide +kernel⟩
abbrev s_l_divisor : Stmt := topS 12
theorem sc_l_divisor : FnScope ["_law_one", "_law_other"] ["_law_one", "_law_other"] (defScope s_l_divisor) := ⟨rfl, rfl, rfl, by decide +kernel, rfl, by decide +kernel, by decide +kernel⟩
abbrev s_l_fraction : Stmt := topS 13
theorem sc_l_fraction : FnScope ["_law_top", "_law_bottom", "_law_share"] ["_law_top", "_law_bottom"] (defScope s_l_fraction) := ⟨rfl, rfl, rfl, by decide +kernel, rfl, by decide +kernel, by decide +kernel⟩
abbrev s_law : Stmt := topS 14
theorem sc_law : FnScope ["_law_script", "_law_run", "_law_top", "_law_bottom", "_law_whole", "_law_cell", "_law_part", "_law_number", "_law_kept", "_law_found"] ["_law_script"] (defScope s_law) := ⟨rfl, rfl, rfl, by decide +kernel, rfl, by decide +kernel, by decide +kernel⟩
structure Top (K : PySem.W.Frag) (mg : Str → Option Value) where
  f_is_whole : Addr
  d_is_whole : FuncData
  F_is_whole : Fun K "is_whole" "is_whole" s_is_whole f_is_whole d_is_whole
  g_is_whole : mg "is_whole" = some (.ref f_is_whole)
  b_is_whole : Binds K d_is_whole ["thing"] []
  f_divisor : Addr
  d_divisor : FuncData
  F_divisor : Fun K "divisor" "divisor" s_divisor f_divisor d_divisor
  g_divisor : mg "divisor" = some (.ref f_divisor)
  b_divisor : Binds K d_divisor ["one", "other"] []
  f_fraction : Addr
  d_fraction : FuncData
  F_fraction : FunD K "fraction" "fraction" (defArgs s_fraction) (defBody s_fraction) (defScope s_fraction) [.int 1] [] f_fraction d_fraction
  g_fraction : mg "fraction" = some (.ref f_fraction)
  b_fraction : Binds K d_fraction ["top", "bottom"] []
  dv_fraction : List Value
  v_fraction : Vals [.int 1] dv_fraction
  bd_fraction : Binds K d_fraction ["top", "bottom"] dv_fraction
  f_plus : Addr
  d_plus : FuncData
  F_plus : Fun K "plus" "plus" s_plus f_plus d_plus
  g_plus : mg "plus" = some (.ref f_plus)
  b_plus : Binds K d_plus ["one", "other"] []
  f_total : Addr
  d_total : FuncData
  F_total : Fun K "total" "total" s_total f_total d_total
  g_total : mg "total" = some (.ref f_total)
  b_total : Binds K d_total ["run"] []
  f_l_cell_at : Addr
  d_l_cell_at : FuncData
  F_l_cell_at : Fun K "_law_cell_at" "_law_cell_at" s_l_cell_at f_l_cell_at d_l_cell_at
  g_l_cell_at : mg "_law_cell_at" = some (.ref f_l_cell_at)
  b_l_cell_at : Binds K d_l_cell_at ["_law_script", "_law_k"] []
  f_l_divisor : Addr
  d_l_divisor : FuncData
  F_l_divisor : Fun K "_law_divisor" "_law_divisor" s_l_divisor f_l_divisor d_l_divisor
  g_l_divisor : mg "_law_divisor" = some (.ref f_l_divisor)
  b_l_divisor : Binds K d_l_divisor ["_law_one", "_law_other"] []
  f_l_fraction : Addr
  d_l_fraction : FuncData
  F_l_fraction : Fun K "_law_fraction" "_law_fraction" s_l_fraction f_l_fraction d_l_fraction
  g_l_fraction : mg "_law_fraction" = some (.ref f_l_fraction)
  b_l_fraction : Binds K d_l_fraction ["_law_top", "_law_bottom"] []
  f_law : Addr
  d_law : FuncData
  F_law : Fun K "law" "law" s_law f_law d_law
  g_law : mg "law" = some (.ref f_law)
  b_law : Binds K d_law ["_law_script"] []
  C_NoNumber : Addr
  g_NoNumber : mg "NoNumber" = some (.ref C_NoNumber)
  x_NoNumber : PySem.W.excIn K C_NoNumber [.type "ValueError", .type "Exception", .type "BaseException", .type "object"] "ValueError.__new__" = true
  k_NoNumber : PySem.W.keepIn K (.ref C_NoNumber) = true
  b_NoNumber : PySem.W.subIn K (.ref C_NoNumber) (.type "BaseException") = some true
  t_NoNumber : PySem.W.typeIn K (.ref C_NoNumber) = some (.type "type")
  i_NoNumber : PySem.W.isClsIn K C_NoNumber = true
  m_abs : mg "abs" = none
  m_bool : mg "bool" = none
  m_int : mg "int" = none
  m_isinstance : mg "isinstance" = none
  m_len : mg "len" = none
  m_list : mg "list" = none
  m_tuple : mg "tuple" = none
section
variable {P : Program} {w : World} {K : PySem.W.Frag} {mg : Str → Option Value} {base : Heap}
def spCell_at (K : PySem.W.Frag) : Sp := fun vs H Q _ => ∃ (a : Addr) (ns : List Int) (k : Int), vs = [.ref a, .int k] ∧ SqL K H a (ns.map V.int) ∧ 0 ≤ k ∧ Q (.int (ns.getD k.toNat 0)) H
theorem ok_l_cell_at (T : Top K mg) : FnOk P w K mg base CX0 1 T.f_l_cell_at T.d_l_cell_at ["_law_script", "_law_k"] (spCell_at K) := by
  refine T.F_l_cell_at.ok sc_l_cell_at (fun vs H Q E h => ?_) (fun cdv A outer s H vs Q E hr h => ?_)
  · obtain ⟨a, ns, k, rfl, _⟩ := h; rfl
  · obtain ⟨a, ns, k, rfl, hS, hk, q⟩ := h
    refine ⟨_, (pss_cons (ps_if (pt_cmpR op_lt (pv 1) (pe_callB call_len_seq (by rfl) T.m_len (by decide +kernel) (pa_cons (pv 0) pa_nil)) (nomark _)) (pss_one (ps_ret (pe_ix (ix_listA (K := K) rfl) (pv 0) (pv 1) (fun _ _ => rfl)))) pss_nil)
      (pss_one (ps_ret pe_int))), ?_⟩
    refine seq_step ?_
    walk_at "rd"
    refine ⟨_, .inl hS, ite_d (fun c => ?_) (fun c => ?_)⟩
    · rw [List.length_map] at c
      have hl : k.toNat < ns.length := by omega
      refine ⟨a, _, k, .int (ns[k.toNat]), rfl, rfl, hS, at_of (j := k.toNat) (by omega) (by rw [List.getElem?_map, List.getElem?_eq_getElem hl]; rfl), ?_⟩
      rw [List.getD_eq_getElem?_getD, List.getElem?_eq_getElem hl] at q
      exact q
    · rw [List.length_map] at c
      rw [List.getD_eq_getElem?_getD, List.getElem?_eq_none (by omega)] at q
      exact q
def spDiv_divisor (K : PySem.W.Frag) : Sp := fun vs H Q _ => ∃ a b : Int, vs = [.int a, .int b] ∧ Q (.int (Int.gcd a b)) H
theorem ok_divisor (T : Top K mg) : FnOk P w K mg base CX0 1 T.f_divisor T.d_divisor ["one", "other"] (spDiv_divisor K) := by
  refine T.F_divisor.ok sc_divisor (fun vs H Q E h => ?_) (fun cdv A outer s H vs Q E hr h => ?_)
  · obtain ⟨a, b, rfl, _⟩ := h; rfl
  · obtain ⟨a, b, rfl, q⟩ := h
    refine ⟨_, (pss_cons (ps_while PassesOwn.never (pt_cmpR op_ne (pv 1) pe_int (nomark _)) (pss_one (ps_par (i := 0) (j := 1) (by rfl) sc_divisor.nd rfl rfl (by decide) rfl rfl (pa_cons (pv 1) (pa_cons (pe_op op_modN (pv 0) (pv 1)) pa_nil)) (by rfl))))
      (pss_one (ps_ret (pe_callB call_abs (by rfl) T.m_abs (by decide +kernel) (pa_cons (pv 0) pa_nil))))), ?_⟩
    refine seq_step ?_
    refine while_by (fun σ H' => H' = H ∧ ∃ x y : Int, σ = [some (.int x), some (.int y)] ∧ Int.gcd x y = Int.gcd a b) (fun σ _ => match σ with | [_, some (.int y)] => y.natAbs | _ => 0) ⟨rfl, a, b, rfl, rfl⟩ ?_ ?_
    · rintro σ H' ⟨rfl, x, y, rfl, hg⟩
      walk_at "rd"
      by_cases c : y = 0
      · subst c
        rw [decide_eq_true rfl, Bool.not_true, if_neg Bool.false_ne_true]
        have e : (if x < 0 then -x else x) = ((Int.gcd a b : Nat) : Int) := by
          rw [← hg, Int.gcd_zero_right]; split <;> omega
        rw [e]; exact q
      · rw [decide_eq_false c, Bool.not_false, if_pos rfl]
        exact ⟨c, by rw [fmod_gcd, hg], fmod_lt x y c⟩
    · rintro σ H Q Q' m ⟨v, hv, hs, k, hk, q⟩
      exact ⟨v, hv, hs, k, hk, m _ _ q⟩
def spDiv_l_divisor (K : PySem.W.Frag) : Sp := fun vs H Q _ => ∃ a b : Int, vs = [.int a, .int b] ∧ Q (.int (Int.gcd a b)) H
theorem ok_l_divisor (T : Top K mg) : FnOk P w K mg base CX0 1 T.f_l_divisor T.d_l_divisor ["_law_one", "_law_other"] (spDiv_l_divisor K) := by
  refine T.F_l_divisor.ok sc_l_divisor (fun vs H Q E h => ?_) (fun cdv A outer s H vs Q E hr h => ?_)
  · obtain ⟨a, b, rfl, _⟩ := h; rfl
  · obtain ⟨a, b, rfl, q⟩ := h
    refine ⟨_, (pss_cons (ps_while PassesOwn.never (pt_cmpR op_ne (pv 1) pe_int (nomark _)) (pss_one (ps_par (i := 0) (j := 1) (by rfl) sc_l_divisor.nd rfl rfl (by decide) rfl rfl (pa_cons (pv 1) (pa_cons (pe_op op_modN (pv 0) (pv 1)) pa_nil)) (by rfl))))
      (pss_one (ps_ret (pe_callB call_abs (by rfl) T.m_abs (by decide +kernel) (pa_cons (pv 0) pa_nil))))), ?_⟩
    refine seq_step ?_
    refine while_by (fun σ H' => H' = H ∧ ∃ x y : Int, σ = [some (.int x), some (.int y)] ∧ Int.gcd x y = Int.gcd a b) (fun σ _ => match σ with | [_, some (.int y)] => y.natAbs | _ => 0) ⟨rfl, a, b, rfl, rfl⟩ ?_ ?_
    · rintro σ H' ⟨rfl, x, y, rfl, hg⟩
      walk_at "rd"
      by_cases c : y = 0
      · subst c
        rw [decide_eq_true rfl, Bool.not_true, if_neg Bool.false_ne_true]
        have e : (if x < 0 then -x else x) = ((Int.gcd a b : Nat) : Int) := by
          rw [← hg, Int.gcd_zero_right]; split <;> omega
        rw [e]; exact q
      · rw [decide_eq_false c, Bool.not_false, if_pos rfl]
        exact ⟨c, by rw [fmod_gcd, hg], fmod_lt x y c⟩
    · rintro σ H Q Q' m ⟨v, hv, hs, k, hk, q⟩
      exact ⟨v, hv, hs, k, hk, m _ _ q⟩
theorem ok_is_whole (T : Top K mg) : FnOk P w K mg base CX0 1 T.f_is_whole T.d_is_whole ["thing"] (spWhole K) := by
  refine T.F_is_whole.ok sc_is_whole (fun vs H Q E h => ?_) (fun cdv A outer s H vs Q E hr h => ?_)
  · obtain ⟨x, t, rfl, _⟩ := h; rfl
  · obtain ⟨x, t, rfl, hx, ht, q⟩ := h
    refine ⟨_, (pss_one (ps_ret (pe_and (pe_callB (call_isiA (K := K) rfl) (by rfl) T.m_isinstance (by decide +kernel) (pa_cons (pv 0) (pa_cons (pe_bltn (v := .ty "int") (u := .type "int") (by rfl) T.m_int (by decide +kernel) rfl) pa_nil))) (pe_one (pe_not (pe_callB (call_isiA (K := K) rfl) (by rfl) T.m_isinstance (by decide +kernel) (pa_cons (pv 0) (pa_cons (pe_bltn (v := .ty "bool") (u := .type "bool") (by rfl) T.m_bool (by decide +kernel) rfl) pa_nil)))))))), ?_⟩
    walk_at "rd"
    have k1 : ∃ r, kitB t "int" = some r ∧ ∃ r2, kitB t "bool" = some r2 ∧ (decide (t = "int")) = (r && !r2) := by
      simp only [kinds, List.mem_cons, List.not_mem_nil, or_false] at ht
      rcases ht with rfl | rfl | rfl | rfl | rfl | rfl | rfl
      · exact ⟨true, by decide +kernel, false, by decide +kernel, by decide +kernel⟩
      · exact ⟨true, by decide +kernel, true, by decide +kernel, by decide +kernel⟩
      · exact ⟨false, by decide +kernel, false, by decide +kernel, by decide +kernel⟩
      · exact ⟨false, by decide +kernel, false, by decide +kernel, by decide +kernel⟩
      · exact ⟨false, by decide +kernel, false, by decide +kernel, by decide +kernel⟩
      · exact ⟨false, by decide +kernel, false, by decide +kernel, by decide +kernel⟩
      · exact ⟨false, by decide +kernel, false, by decide +kernel, by decide +kernel⟩
    obtain ⟨r, e1, r2, e2, e3⟩ := k1
    refine isi hx e1 ?_
    rw [e3] at q
    walk_at "rd"
    cases r with
    | false => exact q
    | true =>
      walk_at "rd"
      refine isi hx e2 ?_
      walk_at "rd"
      exact q
def spFraction (C : Addr) (K : PySem.W.Frag) : Sp := fun vs H Q E => (∃ a b : Int, vs = [.int a, .int b] ∧ b ≠ 0 ∧ Sz 8000 b ∧ RedT a b H Q) ∨
  (∃ (x y : V) (t u : String), vs = [x, y] ∧ TyX K H x (.type t) ∧ TyX K H y (.type u) ∧ t ∈ kinds ∧ u ∈ kinds ∧ (t ≠ "int" ∨ u ≠ "int" ∨ y = .int 0) ∧ E (.ref C) none H)
theorem ok_fraction (T : Top K mg) : FnOk P w K mg base (L2.CX P w) 2 T.f_fraction T.d_fraction ["top", "bottom"] (spFraction T.C_NoNumber K) := by
  refine T.F_fraction.ok sc_fraction (fun vs H Q E h => ?_) (fun cdv A outer s H vs Q E hr h => ?_)
  · rcases h with ⟨a, b, rfl, _⟩ | ⟨a, b, _, _, rfl, _⟩ <;> rfl
  · refine ⟨_, (pss_cons (ps_if (PW.pt (pw_or (pt_not (pt_val (pe_call (ok_is_whole T) (hr.mono (by decide)) rfl T.g_is_whole T.F_is_whole.kp T.b_is_whole .nil pass0 (pa_cons (pv 0) pa_nil)))) (pw_or (pt_not (pt_val (pe_call (ok_is_whole T) (hr.mono (by decide)) rfl T.g_is_whole T.F_is_whole.kp T.b_is_whole .nil pass0 (pa_cons (pv 1) pa_nil)))) (pw_or1 (pt_cmpR op_eq (pv 1) pe_int (nomark _)))))) (pss_one (ps_raise rfl (takes_of rfl rfl rfl rfl) (pmk_own PySem.F.excBase_ValueError T.x_NoNumber T.g_NoNumber T.k_NoNumber (raises_own T.b_NoNumber T.t_NoNumber) rfl))) pss_nil)
      (pss_cons (ps_set (i := 2) sc_fraction.nd rfl (.inl rfl) (pe_call (ok_divisor T) (hr.mono (by decide)) rfl T.g_divisor T.F_divisor.kp T.b_divisor .nil pass0 (pa_cons (pv 0) (pa_cons (pv 1) pa_nil))))
      (pss_cons (ps_if (pt_cmpR op_lt (pv 1) pe_int (nomark _)) (pss_one (ps_set (i := 2) sc_fraction.nd rfl (.inl rfl) (pe_op op_sub pe_int (pv 2)))) pss_nil)
      (pss_one (ps_ret (pe_tupN (pa_cons (pe_op op_fdivZ (pv 0) (pv 2)) (pa_cons (pe_op op_fdivZ (pv 1) (pv 2)) pa_nil)))))))), ?_⟩
    rcases h with ⟨a, b, rfl, hb, hz, q⟩ | ⟨x, y, t, u, rfl, hx, hy, ht, hu, hbad, e⟩
    · refine seq_step ?_
      walk_at "rd"
      refine ⟨_, "int", rfl, .base (.int _), by decide, ?_⟩
      walk_at "rd"
      refine ⟨_, "int", rfl, .base (.int _), by decide, ?_⟩
      walk_at "rd"
      rw [decide_eq_false hb, if_neg Bool.false_ne_true]
      refine seq_step ?_
      walk_at "rd"
      refine ⟨a, b, rfl, ?_⟩
      walk_at "rd"
      have g := gcd_pos_right (a := a) hb
      have gs := gcd_le_size (a := a) hb
      refine seq_step ?_
      walk_at "rd"
      refine ite_d (fun c => ?_) (fun c => ?_)
      · have d : DivOk (0 - ((Int.gcd a b : Nat) : Int)) := .of (by omega) (Sz.le (j := b) (by omega) hz) (by omega)
        exact ⟨d, d, fun p H2 s2 _ e2 => q _ _ p H2 (red_neg c) s2 e2⟩
      · have d : DivOk ((Int.gcd a b : Nat) : Int) := .of (by omega) (Sz.le (by omega) hz) (by omega)
        exact ⟨d, d, fun p H2 s2 _ e2 => q _ _ p H2 ((low_of hb).red (by omega)) s2 e2⟩
    · refine seq_step ?_
      walk_at "rd"
      refine ⟨_, t, rfl, hx, ht, ?_⟩
      walk_at "rd"
      by_cases c : t = "int"
      · rw [decide_eq_true c]
        walk_at "rd"
        refine ⟨_, u, rfl, hy, hu, ?_⟩
        walk_at "rd"
        by_cases c2 : u = "int"
        · rw [decide_eq_true c2]
          walk_at "rd"
          obtain rfl : y = .int 0 := by
            rcases hbad with z | z | z
            · exact absurd c z
            · exact absurd c2 z
            · exact z
          walk_at "rd"
          exact e
        · rw [decide_eq_false c2]
          walk_at "rd"
          exact e
      · rw [decide_eq_false c]
        walk_at "rd"
        exact e
theorem frac_ok {C : Addr} {K : PySem.W.Frag} {a b : Int} {H : Hp} {Q : VK} {E : XK} (hb : b ≠ 0) (hz : Sz 8000 b) (q : RedT a b H Q) : spFraction C K [.int a, .int b] H Q E := .inl ⟨a, b, rfl, hb, hz, q⟩
/-- values of a fraction -/
def spPlus (K : PySem.W.Frag) : Sp := fun vs H Q _ => ∃ (a b c d : Int) (p1 p2 : Addr), vs = [.ref p1, .ref p2] ∧ H p1 = some (.tup [.int a, .int b]) ∧ H p2 = some (.tup [.int c, .int d]) ∧ 0 < b ∧ 0 < d ∧ Sz 3900 a ∧ Sz 3900 b ∧ Sz 3900 c ∧ Sz 3900 d ∧ RedT (a * d + c * b) (b * d) H Q
theorem ok_plus (T : Top K mg) : FnOk P w K mg base CX0 3 T.f_plus T.d_plus ["one", "other"] (spPlus K) := by
  refine T.F_plus.ok sc_plus (fun vs H Q E h => ?_) (fun cdv A outer s H vs Q E hr h => ?_)
  · obtain ⟨a, b, c, d, p1, p2, rfl, _⟩ := h; rfl
  · obtain ⟨a, b, c, d, p1, p2, rfl, h1, h2, hb, hd, sa, sb, sc, sd, q⟩ := h
    refine ⟨_, (pss_one (ps_ret (pe_call (ok_fraction T) (hr.mono (by decide)) rfl T.g_fraction T.F_fraction.kp T.b_fraction .nil passL (pa_cons (pe_op op_add (pe_op op_mulW (pe_ix (ix_tupA (K := K) rfl) (pv 0) pe_int (fun _ _ => rfl)) (pe_ix (ix_tupA (K := K) rfl) (pv 1) pe_int (fun _ _ => rfl))) (pe_op op_mulW (pe_ix (ix_tupA (K := K) rfl) (pv 1) pe_int (fun _ _ => rfl)) (pe_ix (ix_tupA (K := K) rfl) (pv 0) pe_int (fun _ _ => rfl)))) (pa_cons (pe_op op_mulW (pe_ix (ix_tupA (K := K) rfl) (pv 0) pe_int (fun _ _ => rfl)) (pe_ix (ix_tupA (K := K) rfl) (pv 1) pe_int (fun _ _ => rfl))) pa_nil))))), ?_⟩
    walk_at "ix"
    walk_at "ix"
    walk_at "rd"
    refine ⟨sa.mulW sd (by omega), ?_⟩
    walk_at "ix"
    walk_at "ix"
    walk_at "rd"
    refine ⟨sc.mulW sb (by omega), ?_⟩
    walk_at "ix"
    walk_at "ix"
    walk_at "rd"
    exact ⟨sb.mulW sd (by omega), frac_ok (Int.ne_of_gt (Int.mul_pos hb hd)) (sb.mul sd (by omega)) q⟩
def spLowest (K : PySem.W.Frag) : Sp := fun vs H Q _ => ∃ a b : Int, vs = [.int a, .int b] ∧ b ≠ 0 ∧ Sz 8000 b ∧ LowT a b H Q
theorem ok_l_fraction (T : Top K mg) : FnOk P w K mg base CX0 2 T.f_l_fraction T.d_l_fraction ["_law_top", "_law_bottom"] (spLowest K) := by
  refine T.F_l_fraction.ok sc_l_fraction (fun vs H Q E h => ?_) (fun cdv A outer s H vs Q E hr h => ?_)
  · obtain ⟨a, b, rfl, _⟩ := h; rfl
  · obtain ⟨a, b, rfl, hb, hz, q⟩ := h
    refine ⟨_, (pss_cons (ps_set (i := 2) sc_l_fraction.nd rfl (.inl rfl) (pe_call (ok_l_divisor T) (hr.mono (by decide)) rfl T.g_l_divisor T.F_l_divisor.kp T.b_l_divisor .nil pass0 (pa_cons (pv 0) (pa_cons (pv 1) pa_nil))))
      (pss_one (ps_ret (pe_tupN (pa_cons (pe_op op_fdivZ (pv 0) (pv 2)) (pa_cons (pe_op op_fdivZ (pv 1) (pv 2)) pa_nil)))))), ?_⟩
    refine seq_step ?_
    walk_at "rd"
    refine ⟨a, b, rfl, ?_⟩
    walk_at "rd"
    have g := gcd_pos_right (a := a) hb
    have gs := gcd_le_size (a := a) hb
    have c : DivOk ((Int.gcd a b : Nat) : Int) := .of (by omega) (Sz.le (by omega) hz) (by omega)
    exact ⟨c, c, fun p H2 s2 _ e2 => q _ _ p H2 (low_of hb) s2 e2⟩
/-- in lowest terms -/
def redF (a b : Int) : Int × Int := (a.fdiv (Int.gcd a b), b.fdiv (Int.gcd a b))
theorem redF_of {a b t u : Int} (hb : 0 < b) (R : Red a b t u) : (t, u) = redF a b := by
  obtain ⟨h1, h2⟩ := R.uniq (by omega) ((low_of (a := a) (b := b) (by omega)).red hb)
  unfold redF; rw [h1, h2]
def addF (s x : Int × Int) : Int × Int := redF (s.1 * x.2 + x.1 * s.2) (s.2 * x.2)
/-- what holds of a sum so far -/
def Okf (i : Nat) (s : Int × Int) : Prop := 0 < s.2 ∧ Sz (60 * i + 70) s.1 ∧ Sz (60 * i + 70) s.2
/-- a step's tuple: its wait is x -/
def StepAt (H : Hp) (v : V) (x : Int × Int) : Prop := ∃ (p q : Addr) (n : V), v = .ref p ∧ H p = some (.tup [.ref q, n]) ∧ H q = some (.tup [.int x.1, .int x.2])
theorem addF_ok {s x : Int × Int} {i : Nat} (h1 : 0 < s.2) (h2 : Sz (69 * i + 1) s.1) (h3 : Sz (69 * i + 1) s.2) (h4 : 0 < x.2) (h5 : Sz 67 x.1) (h6 : Sz 51 x.2) : Red (s.1 * x.2 + x.1 * s.2) (s.2 * x.2) (addF s x).1 (addF s x).2 ∧ 0 < (addF s x).2 ∧ Sz (69 * (i + 1) + 1) (addF s x).1 ∧ Sz (69 * (i + 1) + 1) (addF s x).2 := by
  have p : 0 < s.2 * x.2 := Int.mul_pos h1 h4
  have R : Red (s.1 * x.2 + x.1 * s.2) (s.2 * x.2) (addF s x).1 (addF s x).2 := (low_of (by omega)).red p
  exact ⟨R, R.pos, Sz.le R.tle ((h2.mul h6 (Nat.le_refl _)).add (h5.mul h3 (Nat.le_refl _)) (by omega) (by omega)), Sz.le R.ule (h3.mul h6 (by omega))⟩
/-- what all sums on the way keep -/
def Pre (xs : List (Int × Int)) : Prop := ∀ i, i ≤ xs.length → 0 < ((xs.take i).foldl addF (0, 1)).2 ∧ Sz (69 * i + 1) ((xs.take i).foldl addF (0, 1)).1 ∧ Sz (69 * i + 1) ((xs.take i).foldl addF (0, 1)).2
theorem pre_nil : Pre [] := fun i hi => by
  obtain rfl : i = 0 := by simpa using hi
  exact ⟨by decide, by unfold Sz; decide, by unfold Sz; decide⟩
theorem pre_snoc {xs : List (Int × Int)} {x : Int × Int} (h : Pre xs) (h4 : 0 < x.2) (h5 : Sz 67 x.1) (h6 : Sz 51 x.2) : Pre (xs ++ [x]) := fun i hi => by
  rw [List.length_append, List.length_singleton] at hi
  by_cases c : i ≤ xs.length
  · rw [List.take_append_of_le_length c]; exact h i c
  · obtain rfl : i = xs.length + 1 := by omega
    rw [List.take_of_length_le (by simp), List.foldl_append]
    have g := h xs.length (Nat.le_refl _)
    rw [List.take_length] at g
    exact (addF_ok g.1 g.2.1 g.2.2 h4 h5 h6).2
/-- a step's data -/
def StepD (H : Hp) (v : V) (x : Int × Int) (d : PyData) : Prop := ∃ (p q : Addr) (n : V), v = .ref p ∧ H p = some (.tup [.ref q, n]) ∧ H q = some (.tup [.int x.1, .int x.2]) ∧
  ((n = .non ∧ d = .tuple [.tuple [.int x.1, .int x.2], .none]) ∨ ∃ c, n = .int c ∧ d = .tuple [.tuple [.int x.1, .int x.2], .int c])
theorem stepD_keep {H H' : Hp} {l : Addr} {v : V} {x : Int × Int} {d : PyData} {xs : List V} (hl : H l = some (.lst xs)) (k : ∀ b o, b ≠ l → H b = some o → H' b = some o) (h : StepD H v x d) : StepD H' v x d := by
  obtain ⟨p, q, n, e, h1, h2, h3⟩ := h
  exact ⟨p, q, n, e, k _ _ (ne_of h1 hl (by intro z; cases z)) h1, k _ _ (ne_of h2 hl (by intro z; cases z)) h2, h3⟩
def spTotal (K : PySem.W.Frag) : Sp := fun vs H Q _ => ∃ (l : Addr) (items : List V) (xs : List (Int × Int)), vs = [.ref l] ∧ SqL K H l items ∧ items.length = xs.length ∧ (∀ (i : Nat) (v : V) (x : Int × Int), items[i]? = some v → xs[i]? = some x → StepAt H v x) ∧
  (∀ x ∈ xs, 0 < x.2 ∧ Sz 3000 x.1 ∧ Sz 3000 x.2) ∧ (∀ i, i ≤ xs.length → 0 < ((xs.take i).foldl addF (0, 1)).2 ∧ Sz 3000 ((xs.take i).foldl addF (0, 1)).1 ∧ Sz 3000 ((xs.take i).foldl addF (0, 1)).2) ∧
  ∀ (p : Addr) (H' : Hp), Same H H' → H' p = some (.tup [.int (xs.foldl addF (0, 1)).1, .int (xs.foldl addF (0, 1)).2]) → Q (.ref p) H'
theorem ok_total (T : Top K mg) : FnOk P w K mg base CX0 4 T.f_total T.d_total ["run"] (spTotal K) := by
  refine T.F_total.ok sc_total (fun vs H Q E h => ?_) (fun cdv A outer s H vs Q E hr h => ?_)
  · obtain ⟨l, items, xs, rfl, _⟩ := h; rfl
  · obtain ⟨l, items, xs, rfl, hl, hlen, hst, hx, hs, q⟩ := h
    refine ⟨_, (pss_cons (ps_set (i := 1) sc_total.nd rfl (.inl rfl) (pe_call (ok_fraction T) (hr.mono (by decide)) rfl T.g_fraction T.F_fraction.kp T.bd_fraction T.v_fraction passL (pa_cons pe_int pa_nil)))
      (pss_cons (ps_for PassesOwn.never rfl (pi_listA (K := K) rfl (pv 0)) (pg_tup (by rfl) (pgs_cons (pg_name (i := 2) sc_total.nd rfl (.inl rfl)) (pgs_cons (pg_name (i := 3) sc_total.nd rfl (.inl rfl)) pgs_nil))) (pss_one (ps_set (i := 1) sc_total.nd rfl (.inl rfl) (pe_call (ok_plus T) (hr.mono (by decide)) rfl T.g_plus T.F_plus.kp T.b_plus .nil pass0 (pa_cons (pv 1) (pa_cons (pv 2) pa_nil))))))
      (pss_one (ps_ret (pv 1))))), ?_⟩
    refine seq_step ?_
    walk_at "rd"
    refine frac_ok (by decide) (by unfold Sz; decide +kernel) fun t u p H1 R s1 e1 => ?_
    walk_at "rd"
    have e0 := redF_of (by decide) R
    have z0 : redF 0 1 = (0, 1) := by decide
    rw [z0] at e0
    cases e0
    refine seq_step ?_
    refine ⟨.ref l, rfl, l, rfl, ⟨_, s1.seq hl⟩, ?_⟩
    refine for_list (K := K) (a := l) (xs := items) (fun i σ H' => ∃ (f : Addr) (v2 v3 : Option V), σ = [some (.ref l), some (.ref f), v2, v3] ∧ Same H H' ∧ H' f = some (.tup [.int ((xs.take i).foldl addF (0, 1)).1, .int ((xs.take i).foldl addF (0, 1)).2]))
      ⟨p, none, none, rfl, s1, e1⟩ (fun i σ H' _ ⟨_, _, _, _, s, _⟩ => s.seq hl) ?_ ?_
    · rintro i v σ H2 hi ⟨f, v2, v3, rfl, s2, ef⟩
      have hil : i < xs.length := by rw [← hlen]; exact (List.getElem?_eq_some_iff.mp hi).1
      have hxi : xs[i]? = some xs[i] := List.getElem?_eq_getElem hil
      obtain ⟨pp, qq, n, rfl, h1, h2⟩ := hst i v _ hi hxi
      refine gTup_of (sqt (s2 _ _ h1)) rfl ?_
      walk_at "rd"
      have a1 := hs i (by omega)
      have a2 := hx _ (List.mem_of_getElem? hxi)
      have a3 := hs (i + 1) (by omega)
      have tk : xs.take (i + 1) = xs.take i ++ [xs[i]] := by rw [List.take_add_one, hxi]; rfl
      refine ⟨_, _, _, _, f, qq, rfl, ef, s2 _ _ h2, a1.1, a2.1, a1.2.1.mono (by omega), a1.2.2.mono (by omega), a2.2.1.mono (by omega), a2.2.2.mono (by omega), fun t u p H3 R s3 e3 => ?_⟩
      walk_at "rd"
      refine ⟨s2.trans s3, ?_⟩
      have e := redF_of (Int.mul_pos a1.1 a2.1) R
      rw [tk, List.foldl_append]
      have e' : (t, u) = addF ((xs.take i).foldl addF (0, 1)) xs[i] := e
      show H3 p = some (.tup [.int (addF ((xs.take i).foldl addF (0, 1)) xs[i]).1, .int (addF ((xs.take i).foldl addF (0, 1)) xs[i]).2])
      rw [← e']
      exact e3
    · rintro σ H2 ⟨f, v2, v3, rfl, s2, ef⟩
      walk_at "rd"
      rw [hlen, List.take_length] at ef
      exact q f H2 s2 ef
def LInv (H2 : Hp) (l a : Addr) (W : Int) (i : Nat) (σ : L2.St) (H' : Hp) : Prop := ∃ (xs : List (Int × Int)) (items : List V) (ds : List PyData) (v5 v6 v7 : Option V),
  σ = [some (.ref a), some (.ref l), some (.int (xs.foldl addF (0, 1)).1), some (.int (xs.foldl addF (0, 1)).2), some (.int W), v5, v6, v7, none, none] ∧
  (∀ b o, b ≠ l → H2 b = some o → H' b = some o) ∧ H' l = some (.lst items) ∧ items.length = i ∧ xs.length = i ∧ ds.length = i ∧ (∀ (k : Nat) (v : V) (x : Int × Int) (d : PyData), items[k]? = some v → xs[k]? = some x → ds[k]? = some d → StepD H' v x d) ∧
  (∀ x ∈ xs, 0 < x.2 ∧ Sz 67 x.1 ∧ Sz 51 x.2) ∧ Pre xs
def spLaw (K : PySem.W.Frag) : Sp := fun vs H Q _ => ∃ (a : Addr) (ns : List Int), vs = [.ref a] ∧ SqL K H a (ns.map V.int) ∧ ns.length ≤ 63 ∧ ∀ H', Q (.bl true) H'
theorem ok_law (T : Top K mg) : FnOk P w K mg base CX0 5 T.f_law T.d_law ["_law_script"] (spLaw K) := by
  refine T.F_law.ok sc_law (fun vs H Q E h => ?_) (fun cdv A outer s H vs Q E hr h => ?_)
  · obtain ⟨a, ns, rfl, _⟩ := h; rfl
  · obtain ⟨a, ns, rfl, hS, hlen, q⟩ := h
    refine ⟨_, (pss_cons (ps_set (i := 1) sc_law.nd rfl (.inl rfl) (pe_lstN pa_nil))
      (pss_cons (ps_set (i := 2) sc_law.nd rfl (.inl rfl) pe_int)
      (pss_cons (ps_set (i := 3) sc_law.nd rfl (.inl rfl) pe_int)
      (pss_cons (ps_set (i := 4) sc_law.nd rfl (.inl rfl) (pe_op op_add pe_int (pe_op op_modN (pe_op op_fdivZ (pe_call (ok_l_cell_at T) (hr.mono (by decide)) rfl T.g_l_cell_at T.F_l_cell_at.kp T.b_l_cell_at .nil pass0 (pa_cons (pv 0) (pa_cons pe_int pa_nil))) pe_int) (pe_op op_pow pe_int pe_int))))
      (pss_cons (ps_for PassesOwn.never rfl (pi_listA (K := K) rfl (pe_slice (sl_listA (K := K) rfl) (pv 0) (po_some pe_int) (po_some pe_int))) (pg_name (i := 5) sc_law.nd rfl (.inl rfl)) (pss_cons (ps_set (i := 6) sc_law.nd rfl (.inl rfl) (pe_op op_add pe_int (pe_op op_modN (pv 5) pe_int)))
      (pss_cons (ps_if (pt_cmpR op_eq (pe_op op_modN (pe_call (ok_l_cell_at T) (hr.mono (by decide)) rfl T.g_l_cell_at T.F_l_cell_at.kp T.b_l_cell_at .nil pass0 (pa_cons (pv 0) (pa_cons pe_int pa_nil))) pe_int) pe_int (nomark _)) (pss_one (ps_set (i := 6) sc_law.nd rfl (.inl rfl) (pv 4))) pss_nil)
      (pss_cons (ps_set (i := 7) sc_law.nd rfl (.inl rfl) (pe_op op_modN (pe_op op_mul (pe_op op_fdivZ (pv 5) pe_int) pe_int) (pe_op op_pow pe_int pe_int)))
      (pss_cons (ps_if (pt_cmpR op_eq (pe_op op_modN (pv 5) pe_int) pe_int (nomark _)) (pss_one (ps_set (i := 7) sc_law.nd rfl (.inl rfl) (pe_op op_modN (pv 7) (pv 6)))) pss_nil)
      (pss_cons (ps_expr (pe_bm PySem.F.plainAttrs_list PySem.F.slot_list_append PySem.F.type_list_append mt_append (pv 1) (pa_cons (pe_tupN (pa_cons (pe_call (ok_l_fraction T) (hr.mono (by decide)) rfl T.g_l_fraction T.F_l_fraction.kp T.b_l_fraction .nil pass0 (pa_cons (pv 7) (pa_cons (pv 6) pa_nil))) (pa_cons (pe_ix (ix_listA (K := K) rfl) (pe_lstN (pa_cons pe_non (pa_cons (pe_op op_modN (pv 5) pe_int) pa_nil))) (pe_op op_modN (pe_op op_fdivZ (pv 5) pe_int) pe_int) (fun _ _ => rfl)) pa_nil))) pa_nil)))
      (pss_one (ps_asg (pe_call (ok_l_fraction T) (hr.mono (by decide)) rfl T.g_l_fraction T.F_l_fraction.kp T.b_l_fraction .nil pass0 (pa_cons (pe_op op_add (pe_op op_mulW (pv 2) (pv 6)) (pe_op op_mulW (pv 7) (pv 3))) (pa_cons (pe_op op_mulW (pv 3) (pv 6)) pa_nil))) (pg_tup (by rfl) (pgs_cons (pg_name (i := 2) sc_law.nd rfl (.inl rfl)) (pgs_cons (pg_name (i := 3) sc_law.nd rfl (.inl rfl)) pgs_nil)))))))))))
      (pss_cons (ps_set (i := 8) sc_law.nd rfl (.inl rfl) (pe_callTy (call_listA (K := K) rfl) (by rfl) T.m_list (by decide +kernel) (pa_cons (pv 1) pa_nil)))
      (pss_cons (ps_set (i := 9) sc_law.nd rfl (.inl rfl) (pe_call (ok_total T) (hr.mono (by decide)) rfl T.g_total T.F_total.kp T.b_total .nil pass0 (pa_cons (pv 1) pa_nil)))
      (pss_cons (ps_if (PW.pt (pw_or (pt_not (pt_val (pe_callB (call_isiA (K := K) rfl) (by rfl) T.m_isinstance (by decide +kernel) (pa_cons (pv 9) (pa_cons (pe_bltn (v := .ty "tuple") (u := .type "tuple") (by rfl) T.m_tuple (by decide +kernel) rfl) pa_nil))))) (pw_or (pt_cmpR op_ne (pe_callB call_len_seq (by rfl) T.m_len (by decide +kernel) (pa_cons (pv 9) pa_nil)) pe_int (nomark _)) (pw_or1 (pt_cmpR (op_neD hr.units) (pv 1) (pv 8) (nomark _)))))) (pss_one (ps_ret pe_bl)) pss_nil)
      (pss_cons (ps_if (PW.pt (pw_or (pt_val (pe_callB (call_isiA (K := K) rfl) (by rfl) T.m_isinstance (by decide +kernel) (pa_cons (pe_ix (ix_tupA (K := K) rfl) (pv 9) pe_int (fun _ _ => rfl)) (pa_cons (pe_bltn (v := .ty "bool") (u := .type "bool") (by rfl) T.m_bool (by decide +kernel) rfl) pa_nil)))) (pw_or1 (pt_val (pe_callB (call_isiA (K := K) rfl) (by rfl) T.m_isinstance (by decide +kernel) (pa_cons (pe_ix (ix_tupA (K := K) rfl) (pv 9) pe_int (fun _ _ => rfl)) (pa_cons (pe_bltn (v := .ty "bool") (u := .type "bool") (by rfl) T.m_bool (by decide +kernel) rfl) pa_nil))))))) (pss_one (ps_ret pe_bl)) pss_nil)
      (pss_one (ps_ret (pe_and (pe_cmpR (op_eqD hr.units) (pv 9) (pe_tupN (pa_cons (pv 2) (pa_cons (pv 3) pa_nil))) (nomark _)) (pe_one (pe_cmpR (op_eqD hr.units) (pe_call (ok_total T) (hr.mono (by decide)) rfl T.g_total T.F_total.kp T.b_total .nil pass0 (pa_cons (pe_lstN pa_nil) pa_nil)) (pe_tupN (pa_cons pe_int (pa_cons pe_int pa_nil))) (nomark _))))))))))))))), ?_⟩
    refine seq_step ?_
    walk_at "rd"
    intro l H1 s1 fl e1
    refine seq_step ?_
    walk_at "rd"
    refine seq_step ?_
    walk_at "rd"
    refine seq_step ?_
    walk_at "rd"
    refine ⟨a, ns, 0, rfl, s1.seq hS, by decide, ?_⟩
    walk_at "rd"
    have f0 := fm_pos (c := (ns.getD 0 0).fdiv 4) (m := 1000000000000000) (by decide)
    generalize hW : 1 + ((ns.getD 0 0).fdiv 4).fmod 1000000000000000 = W at *
    have sW : Sz 51 W := by unfold Sz; omega
    refine seq_step ?_
    refine ⟨.ref a, rfl, 1, rfl, 41, rfl, a, _, rfl, s1.seq hS, fun pl H2 s2 fpl hl => ⟨pl, rfl, ⟨_, .of hl⟩, ?_⟩⟩
    have npl : pl ≠ l := (ne_of_none e1 fpl).symm
    refine for_list (K := K) (a := pl) (xs := cutV (ns.map V.int) (some 1) (some 41)) (LInv H2 l a W)
      ⟨[], [], [], none, none, none, rfl, fun _ _ _ e => e, s2 _ _ e1, rfl, rfl, rfl, (fun k v x d h => by cases h), (fun x h => by cases h), pre_nil⟩ (fun i σ H' _ ⟨_, _, _, _, _, _, _, k, _⟩ => .of (k _ _ npl hl)) ?_ ?_
    · rintro i v σ H3 hi ⟨xs, items, ds, v5, v6, v7, rfl, kp, el, hil, hxl, hdl, hst, hxs, hpre⟩
      have hi40 : i < 40 := by
        have h1 := (List.getElem?_eq_some_iff.mp hi).1
        have : (cutV (ns.map V.int) (some 1) (some 41)).length ≤ 40 := by
          unfold cutV
          rw [List.length_take]
          have a1 : HT.sIx (ns.map V.int).length (ns.map V.int).length (some 41) = min 41 (ns.map V.int).length := HT.sIx_nat _ _ 41
          have a2 : HT.sIx (ns.map V.int).length 0 (some 1) = min 1 (ns.map V.int).length := HT.sIx_nat _ _ 1
          rw [a1, a2]
          omega
        omega
      obtain ⟨z, rfl⟩ := cut_int hi
      have hS3 : SqL K H3 a (ns.map V.int) := by
        refine sql_keep hS fun b o e => kp b o (ne_of_none e fl) (s2 _ _ (s1 _ _ e))
      -- the part
      walk_at "rd"
      refine seq_step ?_
      walk_at "rd"
      have f1 := fm_pos (c := z) (m := 30) (by decide)
      refine join_if (fun σ' H4 => ∃ y : Int, σ' = [some (.ref a), some (.ref l), some (.int (xs.foldl addF (0, 1)).1), some (.int (xs.foldl addF (0, 1)).2), some (.int W), some (.int z), some (.int y), v7, none, none] ∧ 0 < y ∧ Sz 51 y ∧ H4 = H3) (fun σ' H4 h => ?_) (fun j => ?_)
      rotate_left
      · refine seq_step ?_
        walk_at "rd"
        refine ⟨a, ns, 0, rfl, hS3, by decide, ?_⟩
        walk_at "rd"
        exact ite_d (fun _ => j _ _ ⟨W, rfl, by omega, sW, rfl⟩) (fun _ => j _ _ ⟨_, rfl, by omega, by unfold Sz; omega, rfl⟩)
      obtain ⟨y, rfl, hy, sy, e4⟩ := h
      rw [e4]
      clear e4 H4
      refine seq_step ?_
      walk_at "rd"
      refine ⟨.inr ⟨by decide, by decide⟩, ?_⟩
      have f2 := fm_pos (c := z.fdiv 30 * 48271) (m := 100000000000000000000) (by decide)
      generalize (z.fdiv 30 * 48271).fmod 100000000000000000000 = x0 at *
      refine join_if (fun σ' H4 => ∃ x : Int, σ' = [some (.ref a), some (.ref l), some (.int (xs.foldl addF (0, 1)).1), some (.int (xs.foldl addF (0, 1)).2), some (.int W), some (.int z), some (.int y), some (.int x), none, none] ∧ Sz 67 x ∧ H4 = H3) (fun σ' H4 h => ?_) (fun j => ?_)
      rotate_left
      · refine seq_step ?_
        walk_at "rd"
        refine ite_d (fun _ => ?_) (fun _ => j _ _ ⟨x0, rfl, by unfold Sz; omega, rfl⟩)
        have f3 := fm_pos (c := x0) hy
        exact ⟨by omega, j _ _ ⟨_, rfl, (Sz.nn f3.1 (by omega) sy).mono (by omega), rfl⟩⟩
      obtain ⟨x, rfl, sx, e4⟩ := h
      rw [e4]
      clear e4 H4
      refine seq_step ?_
      refine ⟨.ref l, rfl, .inl ⟨rfl, _, .of el⟩, .int x, rfl, .int y, rfl, x, y, rfl, by omega, sy.mono (by omega), fun t u p H5 low s5 e5 => ?_⟩
      have R := low.red hy
      walk_at "rd"
      intro p2 H6 s6 _ e6
      obtain ⟨n, d, hn, hd⟩ : ∃ (n : V) (d : PyData), ([.non, .int (z.fmod 9)] : List V)[((z.fdiv 2).fmod 2).toNat]? = some n ∧ ((n = .non ∧ d = .tuple [.tuple [.int t, .int u], .none]) ∨ ∃ c, n = .int c ∧ d = .tuple [.tuple [.int t, .int u], .int c]) := by
        rcases fm2 (z.fdiv 2) with e | e <;> rw [e]
        · exact ⟨_, _, rfl, .inl ⟨rfl, rfl⟩⟩
        · exact ⟨_, _, rfl, .inr ⟨_, rfl, rfl⟩⟩
      refine ix_l (.of e6) (fm_pos (m := 2) (by decide)).1 hn ?_
      walk_at "rd"
      intro p3 H7 s7 _ e7
      have el7 := s7 _ _ (s6 _ _ (s5 _ _ el))
      refine ⟨l, _, _, rfl, rfl, el7, ?_, ?_⟩
      · rw [hil]; exact small1000 (by omega)
      have kp8 : ∀ b o, b ≠ l → H3 b = some o → (upd H7 l (.lst (items ++ [.ref p3]))) b = some o := fun b o nb e => by
        rw [upd_ne nb]; exact s7 _ _ (s6 _ _ (s5 _ _ e))
      have hp3 : p3 ≠ l := ne_of e7 el7 (by intro z; cases z)
      have ep : p ≠ l := ne_of (s7 _ _ (s6 _ _ e5)) el7 (by intro z; cases z)
      have w1 : (upd H7 l (.lst (items ++ [.ref p3]))) p3 = some (.tup [.ref p, n]) := by rw [upd_ne hp3]; exact e7
      have w2 : (upd H7 l (.lst (items ++ [.ref p3]))) p = some (.tup [.int t, .int u]) := by rw [upd_ne ep]; exact s7 _ _ (s6 _ _ e5)
      have w3 : (upd H7 l (.lst (items ++ [.ref p3]))) l = some (.lst (items ++ [.ref p3])) := upd_same
      generalize hH8 : upd H7 l (.lst (items ++ [.ref p3])) = H8 at *
      clear hH8 el7 e7 e6 e5 s7 s6 s5
      walk_at "rd"
      have g := hpre xs.length (Nat.le_refl _)
      rw [List.take_length] at g
      obtain ⟨g1, g2, g3⟩ := g
      have tu : 0 < u ∧ Sz 67 t ∧ Sz 51 u := ⟨R.pos, Sz.le R.tle sx, Sz.le R.ule sy⟩
      have A := addF_ok (s := xs.foldl addF (0, 1)) (x := (t, u)) g1 g2 g3 tu.1 tu.2.1 tu.2.2
      have fold1 : (xs ++ [(t, u)]).foldl addF (0, 1) = addF (xs.foldl addF (0, 1)) (t, u) := by rw [List.foldl_append]; rfl
      generalize hs : xs.foldl addF (0, 1) = s0 at *
      have py : 0 < s0.2 * y := Int.mul_pos g1 hy
      refine ⟨g2.mulW sy (by omega), sx.mulW g3 (by omega), g3.mulW sy (by omega), ?_⟩
      refine ⟨_, _, rfl, by omega, (g3.mul sy (Nat.le_refl _)).mono (by omega), fun t2 u2 q2 H9 l2 s9 e9 => ?_⟩
      refine gTup_of (sqt e9) rfl ?_
      walk_at "rd"
      have R2 := l2.red py
      obtain ⟨q1, q2'⟩ := red_cross (by omega) (Int.ne_of_gt (Int.mul_pos g1 tu.1)) (by
        rw [Int.add_mul, Int.add_mul, show s0.fst * y * (s0.snd * u) = s0.fst * u * (s0.snd * y) by ac_rfl, show x * s0.snd * (s0.snd * u) = (x * u) * (s0.snd * s0.snd) by ac_rfl, ← R.eq, show t * y * (s0.snd * s0.snd) = t * s0.snd * (s0.snd * y) by ac_rfl]) R2 A.1
      refine ⟨xs ++ [(t, u)], items ++ [.ref p3], ds ++ [d], _, _, _, by rw [fold1, q1, q2'], fun b o nb e => s9 _ _ (kp8 b o nb (kp b o nb e)), s9 _ _ w3, by simp [hil], by simp [hxl], by simp [hdl], ?_, ?_, pre_snoc hpre tu.1 tu.2.1 tu.2.2⟩
      · intro k v x' d' h1 h2 h3
        by_cases c : k < i
        · rw [List.getElem?_append_left (by omega)] at h1 h2 h3
          obtain ⟨a1, a2, a3, b1, b2, b3, b4⟩ := hst k v x' d' h1 h2 h3
          exact ⟨a1, a2, a3, b1, s9 _ _ (kp8 _ _ (ne_of b2 el (by intro z; cases z)) b2), s9 _ _ (kp8 _ _ (ne_of b3 el (by intro z; cases z)) b3), b4⟩
        · have hk : k < (items ++ [V.ref p3]).length := (List.getElem?_eq_some_iff.mp h1).1
          rw [List.length_append, List.length_singleton] at hk
          obtain rfl : k = i := by omega
          rw [List.getElem?_append_right (by omega)] at h1 h2 h3
          simp only [hil, hxl, hdl, Nat.sub_self, List.getElem?_cons_zero, Option.some.injEq] at h1 h2 h3
          subst h1; subst h2; subst h3
          exact ⟨p3, p, n, rfl, s9 _ _ w1, s9 _ _ w2, hd⟩
      · intro x' hx'
        rcases List.mem_append.mp hx' with h | h
        · exact hxs x' h
        · obtain rfl : x' = (t, u) := by simpa using h
          exact tu
    · rintro σ H3 ⟨xs, items, ds, v5, v6, v7, rfl, kp, el, hil, hxl, hdl, hst, hxs, hpre⟩
      have hi40 : (cutV (ns.map V.int) (some 1) (some 41)).length ≤ 40 := by
        unfold cutV
        rw [List.length_take]
        have a1 : HT.sIx (ns.map V.int).length (ns.map V.int).length (some 41) = min 41 (ns.map V.int).length := HT.sIx_nat _ _ 41
        have a2 : HT.sIx (ns.map V.int).length 0 (some 1) = min 1 (ns.map V.int).length := HT.sIx_nat _ _ 1
        rw [a1, a2]
        omega
      refine seq_step ?_
      walk_at "rd"
      refine seq_step ?_
      walk_at "rd"
      refine ⟨_, .inl (.of el), fun lk H4 s4 _ e4 => ?_⟩
      have el4 := s4 _ _ el
      have st4 : ∀ (k : Nat) (v : V) (x : Int × Int) (d : PyData), items[k]? = some v → xs[k]? = some x → ds[k]? = some d → StepD H4 v x d := fun k v x d h1 h2 h3 => by
        obtain ⟨a1, a2, a3, b1, b2, b3, b4⟩ := hst k v x d h1 h2 h3
        exact ⟨a1, a2, a3, b1, s4 _ _ b2, s4 _ _ b3, b4⟩
      refine seq_step ?_
      walk_at "rd"
      refine ⟨l, items, xs, rfl, .of el4, by omega, fun k v x h1 h2 => ?_, fun x hx => ?_, fun j hj => ?_, fun f H5 s5 ef => ?_⟩
      · have hk : k < ds.length := by have := (List.getElem?_eq_some_iff.mp h1).1; omega
        obtain ⟨a1, a2, a3, b1, b2, b3, b4⟩ := st4 k v x _ h1 h2 (List.getElem?_eq_getElem hk)
        exact ⟨a1, a2, a3, b1, b2, b3⟩
      · have g := hxs x hx
        exact ⟨g.1, g.2.1.mono (by omega), g.2.2.mono (by omega)⟩
      · have g := hpre j hj
        exact ⟨g.1, g.2.1.mono (by omega), g.2.2.mono (by omega)⟩
      have dp : ∀ H', Same H4 H' → DpAll K H' items ds := fun H' sm => dpall_of (by omega) fun k v d h1 h2 => by
        have hk : k < xs.length := by have := (List.getElem?_eq_some_iff.mp h1).1; omega
        obtain ⟨a1, a2, a3, b1, b2, b3, b4⟩ := st4 k v _ d h1 (List.getElem?_eq_getElem hk) h2
        rcases b4 with ⟨c1, c2⟩ | ⟨c0, c1, c2⟩
        · subst b1; subst c1; subst c2
          exact .tup (sqt (sm _ _ b2)) (.cons (.tup (sqt (sm _ _ b3)) (.cons (.int _) (.cons (.int _) .nil))) (.cons .non .nil))
        · subst b1; subst c1; subst c2
          exact .tup (sqt (sm _ _ b2)) (.cons (.tup (sqt (sm _ _ b3)) (.cons (.int _) (.cons (.int _) .nil))) (.cons (.int _) .nil))
      have sh : SeqAt.shaped (.list ds) = true := shaped_list fun d hd => by
        obtain ⟨k, hk, e⟩ := List.mem_iff_getElem.mp hd
        have h1 : k < items.length := by omega
        have h2 : k < xs.length := by omega
        obtain ⟨a1, a2, a3, b1, b2, b3, b4⟩ := st4 k _ _ d (List.getElem?_eq_getElem h1) (List.getElem?_eq_getElem h2) (by rw [← e]; exact List.getElem?_eq_getElem hk)
        rcases b4 with ⟨c1, c2⟩ | ⟨c0, c1, c2⟩
        · subst c2; exact ⟨rfl, Nat.le_of_ble_eq_true rfl⟩
        · subst c2; exact ⟨rfl, Nat.le_of_ble_eq_true rfl⟩
      refine seq_step ?_
      walk_at "rd"
      refine isi (r := true) (.base (.tup ef)) (by decide +kernel) ?_
      walk_at "rd"
      refine ⟨_, .inr (sqt ef), ?_⟩
      walk_at "rd"
      refine ⟨_, _, .lst (.of (s5 _ _ el4)) (dp _ s5), .lst (.of (s5 _ _ e4)) (dp _ s5), sh, sh, ?_⟩
      rw [SeqAt.eqv_refl _ (Bool.and_eq_true_iff.mp sh).1]
      walk_at "rd"
      refine seq_step ?_
      walk_at "ix"
      walk_at "rd"
      refine isi (r := false) (.base (.int _)) (by decide +kernel) ?_
      walk_at "ix"
      walk_at "rd"
      refine isi (r := false) (.base (.int _)) (by decide +kernel) ?_
      walk_at "rd"
      intro p6 H6 s6 _ e6
      refine ⟨_, _, .tup (sqt (s6 _ _ ef)) (.cons (.int _) (.cons (.int _) .nil)), .tup (sqt e6) (.cons (.int _) (.cons (.int _) .nil)), shaped_ii _ _, shaped_ii _ _, ?_⟩
      rw [SeqAt.eqv_refl _ rfl]
      walk_at "rd"
      intro p7 H7 s7 _ e7
      refine ⟨p7, [], [], rfl, .of e7, rfl, (fun k v x h => by cases h), (fun x h => by cases h), (fun j hj => ?_), fun f H8 s8 ef8 => ?_⟩
      · have g := pre_nil j hj
        obtain rfl : j = 0 := by simpa using hj
        exact ⟨g.1, g.2.1.mono (by omega), g.2.2.mono (by omega)⟩
      intro p9 H9 s9 _ e9
      refine ⟨_, _, .tup (sqt (s9 _ _ ef8)) (.cons (.int _) (.cons (.int _) .nil)), .tup (sqt e9) (.cons (.int _) (.cons (.int _) .nil)), shaped_ii _ _, shaped_ii _ _, ?_⟩
      rw [show PyData.eqv (.tuple [.int (List.foldl addF (0, 1) []).1, .int (List.foldl addF (0, 1) []).2]) (.tuple [.int 0, .int 1]) = true from by decide +kernel]
      exact q _
end
/-! ### what the top has left -/
theorem all_mk {P : Program} {w : World} {K : PySem.W.Frag} {h : Heap} {mg : Str → Option Value} {fa : Addr} (X : K.In h) (G : h.Ns mainGlobals mg) (hfa : mg "law" = some (.ref fa))
    {f0 : Addr} {od0 an0 : Option Addr} {sl0 : Array (Option Value)} {oc0 kV0 dc0 pm0 cd0 ct0 : Value}
    {f1 : Addr} {od1 an1 : Option Addr} {sl1 : Array (Option Value)} {oc1 kV1 dc1 pm1 cd1 ct1 : Value}
    {f2 : Addr} {od2 an2 : Option Addr} {sl2 : Array (Option Value)} {oc2 kV2 dc2 pm2 cd2 ct2 : Value}
    {t2 : Addr} {o2 : Obj} {n2 : Nat}
    {tk2 : Tok}
    {f3 : Addr} {od3 an3 : Option Addr} {sl3 : Array (Option Value)} {oc3 kV3 dc3 pm3 cd3 ct3 : Value}
    {f4 : Addr} {od4 an4 : Option Addr} {sl4 : Array (Option Value)} {oc4 kV4 dc4 pm4 cd4 ct4 : Value}
    {f5 : Addr} {od5 an5 : Option Addr} {sl5 : Array (Option Value)} {oc5 kV5 dc5 pm5 cd5 ct5 : Value}
    {f6 : Addr} {od6 an6 : Option Addr} {sl6 : Array (Option Value)} {oc6 kV6 dc6 pm6 cd6 ct6 : Value}
    {f7 : Addr} {od7 an7 : Option Addr} {sl7 : Array (Option Value)} {oc7 kV7 dc7 pm7 cd7 ct7 : Value}
    {f8 : Addr} {od8 an8 : Option Addr} {sl8 : Array (Option Value)} {oc8 kV8 dc8 pm8 cd8 ct8 : Value}
    {CNoNumber : Addr}
    (a0 : PySem.W.nsIn K mainGlobals "is_whole" = some (some (.ref f0)))
    (l0 : K.lookup f0 = some ⟨oc0, od0, .func (PySem.W.fnOf "is_whole" "is_whole" (defArgs s_is_whole) (defBody s_is_whole) (defScope s_is_whole) .none kV0 dc0 pm0 an0 cd0 ct0), sl0⟩)
    (c0 : PySem.W.codeIn K cd0 "is_whole" = true)
    (k0 : PySem.W.keepIn K (.ref f0) = true)
    (a1 : PySem.W.nsIn K mainGlobals "divisor" = some (some (.ref f1)))
    (l1 : K.lookup f1 = some ⟨oc1, od1, .func (PySem.W.fnOf "divisor" "divisor" (defArgs s_divisor) (defBody s_divisor) (defScope s_divisor) .none kV1 dc1 pm1 an1 cd1 ct1), sl1⟩)
    (c1 : PySem.W.codeIn K cd1 "divisor" = true)
    (k1 : PySem.W.keepIn K (.ref f1) = true)
    (a2 : PySem.W.nsIn K mainGlobals "fraction" = some (some (.ref f2)))
    (l2 : K.lookup f2 = some ⟨oc2, od2, .func (PySem.W.fnOf "fraction" "fraction" (defArgs s_fraction) (defBody s_fraction) (defScope s_fraction) (.ref t2) kV2 dc2 pm2 an2 cd2 ct2), sl2⟩)
    (c2 : PySem.W.codeIn K cd2 "fraction" = true)
    (k2 : PySem.W.keepIn K (.ref f2) = true)
    (lt2 : K.lookup t2 = some o2)
    (ld2 : o2.data = .seq ([Value.int 1 tk2] : List Value).toArray n2)
    (a3 : PySem.W.nsIn K mainGlobals "plus" = some (some (.ref f3)))
    (l3 : K.lookup f3 = some ⟨oc3, od3, .func (PySem.W.fnOf "plus" "plus" (defArgs s_plus) (defBody s_plus) (defScope s_plus) .none kV3 dc3 pm3 an3 cd3 ct3), sl3⟩)
    (c3 : PySem.W.codeIn K cd3 "plus" = true)
    (k3 : PySem.W.keepIn K (.ref f3) = true)
    (a4 : PySem.W.nsIn K mainGlobals "total" = some (some (.ref f4)))
    (l4 : K.lookup f4 = some ⟨oc4, od4, .func (PySem.W.fnOf "total" "total" (defArgs s_total) (defBody s_total) (defScope s_total) .none kV4 dc4 pm4 an4 cd4 ct4), sl4⟩)
    (c4 : PySem.W.codeIn K cd4 "total" = true)
    (k4 : PySem.W.keepIn K (.ref f4) = true)
    (a5 : PySem.W.nsIn K mainGlobals "_law_cell_at" = some (some (.ref f5)))
    (l5 : K.lookup f5 = some ⟨oc5, od5, .func (PySem.W.fnOf "_law_cell_at" "_law_cell_at" (defArgs s_l_cell_at) (defBody s_l_cell_at) (defScope s_l_cell_at) .none kV5 dc5 pm5 an5 cd5 ct5), sl5⟩)
    (c5 : PySem.W.codeIn K cd5 "_law_cell_at" = true)
    (k5 : PySem.W.keepIn K (.ref f5) = true)
    (a6 : PySem.W.nsIn K mainGlobals "_law_divisor" = some (some (.ref f6)))
    (l6 : K.lookup f6 = some ⟨oc6, od6, .func (PySem.W.fnOf "_law_divisor" "_law_divisor" (defArgs s_l_divisor) (defBody s_l_divisor) (defScope s_l_divisor) .none kV6 dc6 pm6 an6 cd6 ct6), sl6⟩)
    (c6 : PySem.W.codeIn K cd6 "_law_divisor" = true)
    (k6 : PySem.W.keepIn K (.ref f6) = true)
    (a7 : PySem.W.nsIn K mainGlobals "_law_fraction" = some (some (.ref f7)))
    (l7 : K.lookup f7 = some ⟨oc7, od7, .func (PySem.W.fnOf "_law_fraction" "_law_fraction" (defArgs s_l_fraction) (defBody s_l_fraction) (defScope s_l_fraction) .none kV7 dc7 pm7 an7 cd7 ct7), sl7⟩)
    (c7 : PySem.W.codeIn K cd7 "_law_fraction" = true)
    (k7 : PySem.W.keepIn K (.ref f7) = true)
    (a8 : PySem.W.nsIn K mainGlobals "law" = some (some (.ref f8)))
    (l8 : K.lookup f8 = some ⟨oc8, od8, .func (PySem.W.fnOf "law" "law" (defArgs s_law) (defBody s_law) (defScope s_law) .none kV8 dc8 pm8 an8 cd8 ct8), sl8⟩)
    (c8 : PySem.W.codeIn K cd8 "law" = true)
    (k8 : PySem.W.keepIn K (.ref f8) = true)
    (gNoNumber : PySem.W.nsIn K mainGlobals "NoNumber" = some (some (.ref CNoNumber)))
    (xNoNumber : PySem.W.excIn K CNoNumber [.type "ValueError", .type "Exception", .type "BaseException", .type "object"] "ValueError.__new__" = true)
    (kNoNumber : PySem.W.keepIn K (.ref CNoNumber) = true)
    (bNoNumber : PySem.W.subIn K (.ref CNoNumber) (.type "BaseException") = some true)
    (tNoNumber : PySem.W.typeIn K (.ref CNoNumber) = some (.type "type"))
    (iNoNumber : PySem.W.isClsIn K CNoNumber = true)
    (zabs : PySem.W.nsIn K mainGlobals "abs" = some none)
    (zbool : PySem.W.nsIn K mainGlobals "bool" = some none)
    (zint : PySem.W.nsIn K mainGlobals "int" = some none)
    (zisinstance : PySem.W.nsIn K mainGlobals "isinstance" = some none)
    (zlen : PySem.W.nsIn K mainGlobals "len" = some none)
    (zlist : PySem.W.nsIn K mainGlobals "list" = some none)
    (ztuple : PySem.W.nsIn K mainGlobals "tuple" = some none) :
    ∃ fd : FuncData, (∀ (s : Shared) (v : Value), BindsTo s fd ⟨[v], []⟩ [("_law_script", v)]) ∧ ∀ base : Heap, K.In base → base.Ns mainGlobals mg → FnOk P w K mg base CX0 5 fa fd ["_law_script"] (spLaw K) := by
  have e := hfa.symm.trans (PySem.W.mg_of X G a8)
  cases e
  have F2 := funD_mk (st := s_fraction) (dvs := [.int 1]) l2 c2 k2 lt2 ld2 (.cons ⟨_, rfl⟩ .nil) (by simp)
  obtain ⟨dz2, vz2, bz2⟩ := F2.binds1 (ps := ["top", "bottom"]) 2 1 (by simp) rfl fun _ _ _ _ _ _ _ us its h1 h2 => match us, h1, its, h2 with | [_, _], _, [_], _ => ⟨_, rfl, rfl⟩
  cases vz2
  obtain ⟨dd2, vd2, bd2⟩ := F2.binds1 (ps := ["top", "bottom"]) 1 0 (by simp) rfl fun _ _ _ _ _ _ _ us its h1 h2 => match us, h1, its, h2 with | [_], _, [_], _ => ⟨_, rfl, rfl⟩
  let T : Top K mg := {
      f_is_whole := f0,
      d_is_whole := _,
      F_is_whole := fun_mk (st := s_is_whole) l0 c0 k0,
      g_is_whole := PySem.W.mg_of X G a0,
      b_is_whole := (fun_mk (st := s_is_whole) l0 c0 k0).binds (ps := ["thing"]) fun _ _ _ _ _ _ us hl => match us, hl with | [_], _ => rfl,
      f_divisor := f1,
      d_divisor := _,
      F_divisor := fun_mk (st := s_divisor) l1 c1 k1,
      g_divisor := PySem.W.mg_of X G a1,
      b_divisor := (fun_mk (st := s_divisor) l1 c1 k1).binds (ps := ["one", "other"]) fun _ _ _ _ _ _ us hl => match us, hl with | [_, _], _ => rfl,
      f_fraction := f2,
      d_fraction := _,
      F_fraction := F2,
      g_fraction := PySem.W.mg_of X G a2,
      b_fraction := bz2,
      dv_fraction := dd2,
      v_fraction := vd2,
      bd_fraction := bd2,
      f_plus := f3,
      d_plus := _,
      F_plus := fun_mk (st := s_plus) l3 c3 k3,
      g_plus := PySem.W.mg_of X G a3,
      b_plus := (fun_mk (st := s_plus) l3 c3 k3).binds (ps := ["one", "other"]) fun _ _ _ _ _ _ us hl => match us, hl with | [_, _], _ => rfl,
      f_total := f4,
      d_total := _,
      F_total := fun_mk (st := s_total) l4 c4 k4,
      g_total := PySem.W.mg_of X G a4,
      b_total := (fun_mk (st := s_total) l4 c4 k4).binds (ps := ["run"]) fun _ _ _ _ _ _ us hl => match us, hl with | [_], _ => rfl,
      f_l_cell_at := f5,
      d_l_cell_at := _,
      F_l_cell_at := fun_mk (st := s_l_cell_at) l5 c5 k5,
      g_l_cell_at := PySem.W.mg_of X G a5,
      b_l_cell_at := (fun_mk (st := s_l_cell_at) l5 c5 k5).binds (ps := ["_law_script", "_law_k"]) fun _ _ _ _ _ _ us hl => match us, hl with | [_, _], _ => rfl,
      f_l_divisor := f6,
      d_l_divisor := _,
      F_l_divisor := fun_mk (st := s_l_divisor) l6 c6 k6,
      g_l_divisor := PySem.W.mg_of X G a6,
      b_l_divisor := (fun_mk (st := s_l_divisor) l6 c6 k6).binds (ps := ["_law_one", "_law_other"]) fun _ _ _ _ _ _ us hl => match us, hl with | [_, _], _ => rfl,
      f_l_fraction := f7,
      d_l_fraction := _,
      F_l_fraction := fun_mk (st := s_l_fraction) l7 c7 k7,
      g_l_fraction := PySem.W.mg_of X G a7,
      b_l_fraction := (fun_mk (st := s_l_fraction) l7 c7 k7).binds (ps := ["_law_top", "_law_bottom"]) fun _ _ _ _ _ _ us hl => match us, hl with | [_, _], _ => rfl,
      f_law := fa,
      d_law := _,
      F_law := fun_mk (st := s_law) l8 c8 k8,
      g_law := PySem.W.mg_of X G a8,
      b_law := (fun_mk (st := s_law) l8 c8 k8).binds (ps := ["_law_script"]) fun _ _ _ _ _ _ us hl => match us, hl with | [_], _ => rfl,
      C_NoNumber := CNoNumber,
      g_NoNumber := PySem.W.mg_of X G gNoNumber,
      x_NoNumber := xNoNumber,
      k_NoNumber := kNoNumber,
      b_NoNumber := bNoNumber,
      t_NoNumber := tNoNumber,
      i_NoNumber := iNoNumber,
      m_abs := PySem.W.mg_none_of X G zabs,
      m_bool := PySem.W.mg_none_of X G zbool,
      m_int := PySem.W.mg_none_of X G zint,
      m_isinstance := PySem.W.mg_none_of X G zisinstance,
      m_len := PySem.W.mg_none_of X G zlen,
      m_list := PySem.W.mg_none_of X G zlist,
      m_tuple := PySem.W.mg_none_of X G ztuple }
  exact ⟨_, fun s v => .of_eq rfl, fun base _ _ => ok_law T⟩
end ZW
open PySem PySem.W PyProof.Rows
set_option maxRecDepth 100000 in
set_option maxHeartbeats 0 in
theorem PySem.Challenge.cw_zonewalk_k32_totals_holds : PySem.Challenge.rw_zonewalk_k32_totals.Holds := by
  w_on; o_law; k_head; (case hw => w_witness2)
  k_fill
  refine L2.walk_of (l := PySem.Challenge.rw_zonewalk_k32_totals) (n := 63) (k := 5) (x := "_law_script") (CX := fun _ => L2.CX0) (sp := fun w => ZW.spLaw _) rfl (by decide) rfl ⟨rfl, by decide, by decide⟩ (fun w h Y => PySem.W.kIn_of Y) ?F (fun _ _ a ns hl _ hS => ⟨a, ns, rfl, hS, hl, fun _ => rfl⟩) (fun _ _ _ _ _ h => h)
  case F =>
    intro w mg fa h KX G hmg
    refine' ZW.all_mk KX G hmg ?a0 ?l0 ?c0 ?k0 ?a1 ?l1 ?c1 ?k1 ?a2 ?l2 ?c2 ?k2 ?lt2 ?ld2 ?a3 ?l3 ?c3 ?k3 ?a4 ?l4 ?c4 ?k4 ?a5 ?l5 ?c5 ?k5 ?a6 ?l6 ?c6 ?k6 ?a7 ?l7 ?c7 ?k7 ?a8 ?l8 ?c8 ?k8 ?gNoNumber ?xNoNumber ?kNoNumber ?bNoNumber ?tNoNumber ?iNoNumber ?zabs ?zbool ?zint ?zisinstance ?zlen ?zlist ?ztuple
    (case a0 => first | k_is | k_exc | rfl)
    (case l0 => first | k_is | k_exc | rfl)
    (case c0 => first | k_is | k_exc | rfl)
    (case k0 => first | k_is | k_exc | rfl)
    (case a1 => first | k_is | k_exc | rfl)
    (case l1 => first | k_is | k_exc | rfl)
    (case c1 => first | k_is | k_exc | rfl)
    (case k1 => first | k_is | k_exc | rfl)
    (case a2 => first | k_is | k_exc | rfl)
    (case l2 => first | k_is | k_exc | rfl)
    (case c2 => first | k_is | k_exc | rfl)
    (case k2 => first | k_is | k_exc | rfl)
    (case lt2 => first | k_is | k_exc | rfl)
    (case ld2 => first | k_is | k_exc | rfl)
    (case a3 => first | k_is | k_exc | rfl)
    (case l3 => first | k_is | k_exc | rfl)
    (case c3 => first | k_is | k_exc | rfl)
    (case k3 => first | k_is | k_exc | rfl)
    (case a4 => first | k_is | k_exc | rfl)
    (case l4 => first | k_is | k_exc | rfl)
    (case c4 => first | k_is | k_exc | rfl)
    (case k4 => first | k_is | k_exc | rfl)
    (case a5 => first | k_is | k_exc | rfl)
    (case l5 => first | k_is | k_exc | rfl)
    (case c5 => first | k_is | k_exc | rfl)
    (case k5 => first | k_is | k_exc | rfl)
    (case a6 => first | k_is | k_exc | rfl)
    (case l6 => first | k_is | k_exc | rfl)
    (case c6 => first | k_is | k_exc | rfl)
    (case k6 => first | k_is | k_exc | rfl)
    (case a7 => first | k_is | k_exc | rfl)
    (case l7 => first | k_is | k_exc | rfl)
    (case c7 => first | k_is | k_exc | rfl)
    (case k7 => first | k_is | k_exc | rfl)
    (case a8 => first | k_is | k_exc | rfl)
    (case l8 => first | k_is | k_exc | rfl)
    (case c8 => first | k_is | k_exc | rfl)
    (case k8 => first | k_is | k_exc | rfl)
    (case gNoNumber => first | k_is | k_exc | rfl)
    (case xNoNumber => first | k_is | k_exc | rfl)
    (case kNoNumber => first | k_is | k_exc | rfl)
    (case bNoNumber => first | k_is | k_exc | rfl)
    (case tNoNumber => first | k_is | k_exc | rfl)
    (case iNoNumber => first | k_is | k_exc | rfl)
    (case zabs => first | k_is | k_exc | rfl)
    (case zbool => first | k_is | k_exc | rfl)
    (case zint => first | k_is | k_exc | rfl)
    (case zisinstance => first | k_is | k_exc | rfl)
    (case zlen => first | k_is | k_exc | rfl)
    (case zlist => first | k_is | k_exc | rfl)
    (case ztuple => first | k_is | k_exc | rfl)
