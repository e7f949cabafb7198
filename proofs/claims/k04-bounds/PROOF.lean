import PyProof.Rows.All
import Wide.All
import OpenK.AllK
import Wide.FinOn
import HandS.ForMost
import HandS.ForExc
import HandS.Wide
import HandS.WideBits
import HandS.IsInst
import HandS.TupLe
import KE.BitLaws
import HandS.Defaults
import HandS.ExcIs
import PySem.Challenge.RW_zonewalk_k04_bounds
set_option Elab.async false
set_option linter.all false
set_option maxRecDepth 100000
set_option maxHeartbeats 4000000

namespace ZW
theorem fmod_gcd (a b : Int) : Int.gcd b (a.fmod b) = Int.gcd a b := by
  rw [Int.fmod_def, Int.gcd_comm a b]
  exact Int.gcd_sub_mul_left_right b a (a.fdiv b)
theorem fmod_lt (a b : Int) (hb : b ≠ 0) : (a.fmod b).natAbs < b.natAbs := by
  rcases Int.lt_or_lt_of_ne hb with h | h
  · have h1 := Int.fmod_def a b
    have e : a.fmod b = -((-a).fmod (-b)) := by simp
    rw [e, Int.fmod_eq_emod_of_nonneg _ (by omega)]
    have := Int.emod_lt_of_pos (-a) (b := -b) (by omega)
    have := Int.emod_nonneg (-a) (b := -b) (by omega)
    omega
  · rw [Int.fmod_eq_emod_of_nonneg a (by omega)]
    have := Int.emod_lt_of_pos a h
    have := Int.emod_nonneg a hb
    omega
theorem gcd_pos_right {a b : Int} (hb : b ≠ 0) : (0 : Int) < Int.gcd a b := by
  have := Int.gcd_pos_of_ne_zero_right a hb
  omega
/-- both divided by their gcd -/
structure Low (a b t u : Int) : Prop where
  pos : 0 < b → 0 < u
  top : t * Int.gcd a b = a
  bot : u * Int.gcd a b = b
  eq : t * b = a * u
  one : Int.gcd t u = 1
theorem low_of {a b : Int} (hb : b ≠ 0) : Low a b (a.fdiv (Int.gcd a b)) (b.fdiv (Int.gcd a b)) := by
  have g := gcd_pos_right (a := a) hb
  have d1 : (Int.gcd a b : Int) ∣ a := Int.gcd_dvd_left ..
  have d2 : (Int.gcd a b : Int) ∣ b := Int.gcd_dvd_right ..
  rw [Int.fdiv_eq_ediv_of_nonneg _ (by omega), Int.fdiv_eq_ediv_of_nonneg _ (by omega)]
  have e1 := Int.ediv_mul_cancel d1
  have e2 := Int.ediv_mul_cancel d2
  generalize hx : a / (Int.gcd a b : Int) = x at *
  generalize hy : b / (Int.gcd a b : Int) = y at *
  generalize hg : (Int.gcd a b : Int) = G at *
  refine ⟨fun h => ?_, ?_, ?_, ?_, ?_⟩
  · rcases Int.lt_or_le 0 y with z | z
    · exact z
    · have := Int.mul_nonpos_of_nonpos_of_nonneg z (Int.le_of_lt g)
      omega
  · rw [hg]; exact e1
  · rw [hg]; exact e2
  · rw [← e2, ← e1]; rw [Int.mul_comm y G, ← Int.mul_assoc]
  · have q : Int.gcd (x * G) (y * G) = Int.gcd x y * G.natAbs := Int.gcd_mul_right ..
    rw [e1, e2] at q
    have hG : G.natAbs = Int.gcd a b := by omega
    rw [hG] at q
    have gp : 0 < Int.gcd a b := by omega
    exact Nat.eq_of_mul_eq_mul_right gp (by rw [Nat.one_mul]; exact q.symm)
theorem quo_le {t G a : Int} (h : t * G = a) (hG : 0 < G) : t.natAbs ≤ a.natAbs := by
  rw [← h, Int.natAbs_mul]
  exact Nat.le_mul_of_pos_right _ (by omega)
/-- the fraction t / u, in lowest terms, that stands so to a and b -/
structure Red (a b t u : Int) : Prop where
  pos : 0 < u
  eq : t * b = a * u
  one : Int.gcd t u = 1
  tle : t.natAbs ≤ a.natAbs
  ule : u.natAbs ≤ b.natAbs
theorem Low.red {a b t u : Int} (l : Low a b t u) (h : 0 < b) : Red a b t u := ⟨l.pos h, l.eq, l.one, quo_le l.top (gcd_pos_right (by omega)), quo_le l.bot (gcd_pos_right (by omega))⟩
theorem red_neg {a b : Int} (hb : b < 0) : Red a b (a.fdiv (0 - (Int.gcd a b : Int))) (b.fdiv (0 - (Int.gcd a b : Int))) := by
  have l := low_of (a := a) (b := b) (by omega)
  have g := gcd_pos_right (a := a) (b := b) (by omega)
  have k : ∀ x t : Int, t * (Int.gcd a b : Int) = x → x.fdiv (0 - (Int.gcd a b : Int)) = - t := by
    intro x t e
    rw [Int.zero_sub, show x = (-(Int.gcd a b : Int)) * (-t) by rw [Int.neg_mul_neg, Int.mul_comm, e], Int.mul_fdiv_cancel_left _ (by omega)]
  rw [k _ _ l.top, k _ _ l.bot]
  have hu : b.fdiv (Int.gcd a b) < 0 := by
    rcases Int.lt_or_le (b.fdiv (Int.gcd a b)) 0 with z | z
    · exact z
    · have := Int.mul_nonneg z (Int.le_of_lt g); rw [l.bot] at this; omega
  refine ⟨by omega, by rw [Int.neg_mul, Int.mul_neg, l.eq], by rw [Int.gcd_neg, Int.neg_gcd]; exact l.one, by rw [Int.natAbs_neg]; exact quo_le l.top g, by rw [Int.natAbs_neg]; exact quo_le l.bot g⟩
theorem dvd_cop {u t v : Int} (h : u ∣ t * v) (c : Int.gcd t u = 1) : u ∣ v := by
  have h1 : u.natAbs ∣ t.natAbs * v.natAbs := by rw [← Int.natAbs_mul]; exact Int.natAbs_dvd_natAbs.mpr h
  have h2 : Nat.Coprime u.natAbs t.natAbs := by rw [Nat.coprime_comm]; exact c
  exact Int.natAbs_dvd_natAbs.mp (h2.dvd_of_dvd_mul_left h1)
theorem cop_uniq {t u t' u' : Int} (hu : 0 < u) (hu' : 0 < u') (c : Int.gcd t u = 1) (c' : Int.gcd t' u' = 1) (e : t * u' = t' * u) : t = t' ∧ u = u' := by
  have d1 : u ∣ u' := by
    have : u ∣ t * u' := ⟨t', by rw [e, Int.mul_comm]⟩
    exact dvd_cop this c
  have d2 : u' ∣ u := by
    have : u' ∣ t' * u := ⟨t, by rw [← e, Int.mul_comm]⟩
    exact dvd_cop this c'
  have eu : u = u' := by
    have h1 := Int.le_of_dvd hu' d1
    have h2 := Int.le_of_dvd hu d2
    omega
  subst eu
  exact ⟨Int.eq_of_mul_eq_mul_right (by omega) e, rfl⟩
theorem Red.uniq {a b t u t' u' : Int} (hb : b ≠ 0) (h : Red a b t u) (k : Red a b t' u') : t = t' ∧ u = u' := by
  refine cop_uniq h.pos k.pos h.one k.one ?_
  have : t * u' * b = t' * u * b := by
    rw [Int.mul_right_comm, h.eq, Int.mul_right_comm t', k.eq]; ac_rfl
  exact Int.eq_of_mul_eq_mul_right hb this
/-- fractions that stand so to the same two numbers, told by cross products -/
theorem red_cross {a b a' b' t u t' u' : Int} (hb : b ≠ 0) (hb' : b' ≠ 0) (x : a * b' = a' * b) (h : Red a b t u) (k : Red a' b' t' u') : t = t' ∧ u = u' := by
  refine cop_uniq h.pos k.pos h.one k.one ?_
  have e : t * u' * (b * b') = t' * u * (b * b') := by
    rw [show t * u' * (b * b') = (t * b) * (u' * b') by ac_rfl, show t' * u * (b * b') = (t' * b') * (u * b) by ac_rfl, h.eq, k.eq,
      show a * u * (u' * b') = (a * b') * (u * u') by ac_rfl, show a' * u' * (u * b) = (a' * b) * (u * u') by ac_rfl, x]
  exact Int.eq_of_mul_eq_mul_right (Int.mul_ne_zero hb hb') e
theorem gcd_le_size {a b : Int} (hb : b ≠ 0) : (Int.gcd a b) ≤ b.natAbs := by
  have := Int.gcd_dvd_right (a := a) (b := b)
  exact Nat.le_of_dvd (by omega) (by simpa using Int.natAbs_dvd_natAbs.mpr this)
theorem log_lt {i : Int} {n m : Nat} (h : i.natAbs < 2 ^ n) (h0 : 0 < n) (hm : n ≤ m) : i.natAbs.log2 < m := by
  by_cases e : i.natAbs = 0
  · rw [e]; simp; omega
  · exact Nat.lt_of_lt_of_le ((Nat.log2_lt e).mpr h) hm
open PySem PySem.Spec PyProof.Rows L2
theorem upd_keep {H : Hp} {p : Addr} {o : HO} (h : H p = none) : Same H (upd H p o) := fun b x e => by
  rw [upd_ne (ne_of_none e h)]
  exact e
theorem Same.to {H H' : Hp} (s : Same H H') {a : Addr} {o : HO} (h : H a = some o) : H' a = some o := s a o h
theorem seq_step {t u : TS} {D : Ends} {σ : L2.St} {H : Hp} (h : t { D with nx := u D } σ H) : tSeq t u D σ H := h
theorem ite_d {c : Prop} [Decidable c] {A B : Prop} (h1 : c → A) (h2 : ¬ c → B) : if decide c = true then A else B := by
  by_cases h : c
  · rw [if_pos (decide_eq_true h)]; exact h1 h
  · rw [if_neg (by rw [decide_eq_false h]; exact Bool.false_ne_true)]; exact h2 h
theorem shl1 {i : Int} {n : Nat} (h : i.natAbs < 2 ^ n) (hn : n ≤ 100000) : CShl i 1 := shl_ok (j := 1) h (by omega)
theorem one_ne : ((1 : Int) = 0) = False := by simp
theorem pow_lit (i : Int) : i ^ (1 : Nat) = i := Int.pow_one i
theorem cxK {CX : CXT} {P : Program} {w : World} {K : PySem.W.Frag} {mg : Str → Option Value} {base : Heap} {N : List Str} {qual : Str} {scope : Scope} {f : Addr} {cd : Value} {A : Around} {outer : List Env} {s : Shared} {H : Hp} {E : XK} :
    (cxOf CX P w K mg base N qual scope f cd A outer s H E).K = K := rfl
theorem ix_l {K : PySem.W.Frag} {H : Hp} {p : Addr} {xs : List V} {i : Int} {v : V} {Q : VK} (h : SqL K H p xs) (hi : 0 ≤ i) (hv : xs[i.toNat]? = some v) (q : Q v H) : rIxL K (.ref p) (.int i) H Q :=
  ⟨p, xs, i, v, rfl, rfl, h, at_of (j := i.toNat) (by omega) hv, q⟩
theorem ix_t {K : PySem.W.Frag} {H : Hp} {p : Addr} {xs : List V} {i : Int} {v : V} {Q : VK} (h : SqT K H p xs) (hi : 0 ≤ i) (hv : xs[i.toNat]? = some v) (q : Q v H) : rIxT K (.ref p) (.int i) H Q :=
  ⟨p, xs, i, v, rfl, rfl, h, at_of (j := i.toNat) (by omega) hv, q⟩
theorem sqL_upd {K : PySem.W.Frag} {H : Hp} {p : Addr} {xs : List V} : SqL K (upd H p (.lst xs)) p xs := SqL.of upd_same
theorem fm2 (c : Int) : c.fmod 2 = 0 ∨ c.fmod 2 = 1 := by
  rw [Int.fmod_eq_emod_of_nonneg _ (by omega)]; omega
theorem fm_pos {c m : Int} (h : 0 < m) : 0 ≤ c.fmod m ∧ c.fmod m < m := by
  rw [Int.fmod_eq_emod_of_nonneg _ (by omega)]
  exact ⟨Int.emod_nonneg _ (by omega), Int.emod_lt_of_pos _ h⟩
/-- a number of at most n bits -/
def Sz (n : Nat) (i : Int) : Prop := i.natAbs < 2 ^ n
theorem Sz.mono {i : Int} {a c : Nat} (ha : Sz a i) (h : a ≤ c) : Sz c i := Nat.lt_of_lt_of_le ha (Nat.pow_le_pow_right (by decide) h)
theorem Sz.mulW {i j : Int} {a b : Nat} (ha : Sz a i) (hb : Sz b j) (h : a + b ≤ 999998) : CMulW i j :=
  wide_mul (a := a + 1) (b := b + 1) (Sz.mono ha (by omega)) (Sz.mono hb (by omega)) (by omega) (by omega) (by omega)
theorem Sz.mul {i j : Int} {a b c : Nat} (ha : Sz a i) (hb : Sz b j) (h : a + b ≤ c) : Sz c (i * j) := Sz.mono (wide_lt ha hb) h
theorem Sz.add {i j : Int} {a b c : Nat} (ha : Sz a i) (hb : Sz b j) (h1 : a + 1 ≤ c) (h2 : b + 1 ≤ c) : Sz c (i + j) := by
  have x : Sz (c - 1) i := ha.mono (by omega)
  have y : Sz (c - 1) j := hb.mono (by omega)
  have e : (2 : Nat) ^ c = 2 ^ (c - 1) * 2 := by rw [← Nat.pow_succ]; congr 1; omega
  unfold Sz at x y ⊢
  omega
theorem Sz.sub {i j : Int} {a b c : Nat} (ha : Sz a i) (hb : Sz b j) (h1 : a + 1 ≤ c) (h2 : b + 1 ≤ c) : Sz c (i - j) := by
  have x : Sz (c - 1) i := ha.mono (by omega)
  have y : Sz (c - 1) j := hb.mono (by omega)
  have e : (2 : Nat) ^ c = 2 ^ (c - 1) * 2 := by rw [← Nat.pow_succ]; congr 1; omega
  unfold Sz at x y ⊢
  omega
theorem Sz.le {i j : Int} {a : Nat} (h : i.natAbs ≤ j.natAbs) (hj : Sz a j) : Sz a i := Nat.lt_of_le_of_lt h hj
theorem Sz.nn {i j : Int} {a : Nat} (h0 : 0 ≤ i) (h : i ≤ j) (hj : Sz a j) : Sz a i := Sz.le (by omega) hj
theorem Sz.rg {i j : Int} {a : Nat} (h0 : -j ≤ i) (h : i ≤ j) (hj : Sz a j) : Sz a i := Sz.le (by omega) hj
/-- a divisor that the rule takes -/
def DivOk (j : Int) : Prop := j ≠ 0 ∧ j.natAbs.log2 < 9000
theorem DivOk.of {j : Int} {n : Nat} (h : j ≠ 0) (hs : Sz n j) (hn : n ≤ 8000) : DivOk j := ⟨h, log_lt (n := 8000) (hs.mono hn) (by omega) (by omega)⟩
theorem sz_line {n : Nat} (h : n ≤ 1000) : (n ≤ sizeLine) = True := eq_true (Nat.le_of_lt (small1000 h))
section
variable {X : Cx}
theorem op_fdivZ : OpR X (binaryOp .FloorDiv) (rI (fun _ j => DivOk j) fun i j => .int (i.fdiv j)) := opI fun _ _ _ _ _ _ _ hc q =>
  floordiv_int hc.1 q (.inl (PyProof.noPylong_of_log2 hc.2))
end
theorem gTup_of {K : PySem.W.Frag} {a : Addr} {xs : List V} {n : Nat} {t : TGs} {σ : L2.St} {H : Hp} {Q : L2.St → Hp → Prop} (h : SqT K H a xs) (hn : xs.length = n) (q : t xs σ H Q) : gTup K n t (.ref a) σ H Q := ⟨a, xs, rfl, h, hn, q⟩
theorem sqt {K : PySem.W.Frag} {H : Hp} {a : Addr} {xs : List V} (h : H a = some (.tup xs)) : SqT K H a xs := SqT.of h
theorem Low.top_le {a b t u : Int} (l : Low a b t u) (hb : b ≠ 0) : t.natAbs ≤ a.natAbs := quo_le l.top (gcd_pos_right hb)
theorem Low.bot_le {a b t u : Int} (l : Low a b t u) (hb : b ≠ 0) : u.natAbs ≤ b.natAbs := quo_le l.bot (gcd_pos_right hb)
theorem ite_and {a : Bool} {c : Prop} [Decidable c] {A R : Prop} (h1 : a = true → c → A) (h2 : ¬ (a = true ∧ c) → R) : if a = true then (if decide c = true then A else R) else R := by
  by_cases ha : a = true
  · rw [if_pos ha]; exact ite_d (h1 ha) fun z => h2 fun q => z q.2
  · rw [if_neg ha]; exact h2 fun q => ha q.1
section
variable {X : Cx} {e : Expr} {es : List Expr} {t t' : TE} {ta : TA} {pos : Pos}
theorem pe_imp (h : PE X e t) (k : ∀ σ H Q, t' σ H Q → t σ H Q) : PE X e t' := ⟨fun pins s σ H Q I q => h.run pins s σ H Q I (k σ H Q q)⟩
def tWk (ta : TA) : TA := fun σ H Q => ∃ Q0 : List V → Hp → Prop, ta σ H Q0 ∧ ∀ xs H1, Q0 xs H1 → Q xs H1
theorem pa_wk (h : PA X es ta) : PA X es (tWk ta) := ⟨fun pos pins s σ H _ I ⟨Q0, a, k⟩ => thn (h.run pos pins s σ H Q0 I a) fun _ _ ⟨xs, H1, I1, r, q⟩ => ⟨xs, H1, I1, r, k _ _ q⟩⟩
/-- a new tuple, a new list: nothing but what is tracked is told of the heap behind -/
def tTupN (ta : TA) : TE := fun σ H Q => ta σ H fun xs H1 => xs.length ≤ sizeLine ∧ ∀ p H2, Same H1 H2 → H1 p = none → H2 p = some (.tup xs) → Q (.ref p) H2
def tLstN (ta : TA) : TE := fun σ H Q => ta σ H fun xs H1 => xs.length ≤ sizeLine ∧ ∀ p H2, Same H1 H2 → H1 p = none → H2 p = some (.lst xs) → Q (.ref p) H2
theorem pe_tupN {x1} (h : PA X es ta) : PE X (.Tuple es x1 pos) (tTupN ta) :=
  pe_imp (pe_tup (pa_wk h)) fun _ _ _ q => ⟨_, q, fun _ _ ⟨z, k⟩ => ⟨z, fun p hp => k p _ (upd_keep hp) hp upd_same⟩⟩
theorem pe_lstN (h : PA X es ta) : PE X (.List es pos) (tLstN ta) :=
  pe_imp (pe_lst (pa_wk h)) fun _ _ _ q => ⟨_, q, fun _ _ ⟨z, k⟩ => ⟨z, fun p hp => k p _ (upd_keep hp) hp upd_same⟩⟩
def rSlN (K : PySem.W.Frag) : V → Option Int → Option Int → Hp → VK → Prop := fun x lo hi H Q => ∃ a xs, x = .ref a ∧ SqL K H a xs ∧ ∀ p H2, Same H H2 → H p = none → H2 p = some (.lst (cutV xs lo hi)) → Q (.ref p) H2
theorem sl_listN : SlR X (rSlN X.K) := fun pins s σ H x v vl vu lo hi sl Q I rx hs p1 p2 ⟨a, xs, e, h, q⟩ =>
  sl_list pins s σ H x v vl vu lo hi sl Q I rx hs p1 p2 ⟨a, xs, e, h, fun p hp => q p _ (upd_keep hp) hp upd_same⟩
theorem op_imp {f : Value → Value → Sem Value} {r r' : R2} (h : OpR X f r) (k : ∀ x y H Q, r' x y H Q → r x y H Q) : OpR X f r' := fun pins s σ H x y v u Q I rx ry q => h pins s σ H x y v u Q I rx ry (k x y H Q q)
def rCatN : R2 := fun x y H Q => ∃ l b xs zs, x = .ref l ∧ y = .ref b ∧ H l = some (.lst xs) ∧ H b = some (.lst zs) ∧ xs.length + zs.length ≤ sizeLine ∧ ∀ p H2, Same H H2 → H p = none → H2 p = some (.lst (xs ++ zs)) → Q (.ref p) H2
theorem op_catN : OpR X (binaryOp .Add) rCatN := op_imp op_cat fun _ _ _ _ ⟨l, b, xs, zs, e1, e2, h1, h2, z, q⟩ => ⟨l, b, xs, zs, e1, e2, h1, h2, z, fun p hp => q p _ (upd_keep hp) hp upd_same⟩
theorem call_imp {f : Value} {r r' : List V → Hp → VK → Prop} (h : CallR X f r) (k : ∀ x H Q, r' x H Q → r x H Q) : CallR X f r' := fun pins s σ H xs us Q I r q => h pins s σ H xs us Q I r (k xs H Q q)
def rListN (K : PySem.W.Frag) : List V → Hp → VK → Prop := fun xs H Q => ∃ p ys, xs = [.ref p] ∧ (SqL K H p ys ∨ SqT K H p ys) ∧ ∀ l H2, Same H H2 → H l = none → H2 l = some (.lst ys) → Q (.ref l) H2
theorem call_listN : CallR X (.type "list") (rListN X.K) := call_imp call_list_of fun _ _ _ ⟨p, ys, e, h, q⟩ => ⟨p, ys, e, h, fun l hl => q l _ (upd_keep hl) hl upd_same⟩
def rIntB : List V → Hp → VK → Prop := fun xs H Q => ∃ k, xs = [.bl k] ∧ Q (.int (if k then 1 else 0)) H
theorem call_intB : CallR X (.type "int") rIntB := call_imp call_int1 fun _ _ _ h => .inr h
end
theorem nat_and_mod (x y : Nat) : (x &&& y) % 2 = (x % 2) * (y % 2) := by
  have h := Nat.and_mod_two_pow (a := x) (b := y) (n := 1)
  have h1 : x % 2 = 0 ∨ x % 2 = 1 := by omega
  have h2 : y % 2 = 0 ∨ y % 2 = 1 := by omega
  rw [Nat.pow_one] at h
  rcases h1 with e | e <;> rcases h2 with f | f <;> rw [h, e, f] <;> rfl
theorem nat_or_mod (x y : Nat) : (x ||| y) % 2 = if x % 2 = 0 ∧ y % 2 = 0 then 0 else 1 := by
  have h := Nat.or_mod_two_pow (a := x) (b := y) (n := 1)
  have h1 : x % 2 = 0 ∨ x % 2 = 1 := by omega
  have h2 : y % 2 = 0 ∨ y % 2 = 1 := by omega
  rw [Nat.pow_one] at h
  rcases h1 with e | e <;> rcases h2 with f | f <;> rw [h, e, f] <;> rfl
theorem and_bit (a b : Int) : Builtin.bitAnd a b % 2 = (if a % 2 = 1 ∧ b % 2 = 1 then 1 else 0) := by
  have key : ∀ x y : Nat, x % 2 = 0 ∨ x % 2 = 1 := by omega
  have nn : ∀ x, Builtin.bitNot x = - x - 1 := by intro x; unfold Builtin.bitNot; omega
  by_cases ha : 0 ≤ a <;> by_cases hb : 0 ≤ b
  · rw [bitAnd_pp ha hb]
    have h := nat_and_mod a.toNat b.toNat
    have h1 : a.toNat % 2 = 0 ∨ a.toNat % 2 = 1 := by omega
    have h2 : b.toNat % 2 = 0 ∨ b.toNat % 2 = 1 := by omega
    rcases h1 with e | e <;> rcases h2 with f | f <;> rw [e, f] at h <;> split <;> omega
  · rw [bitAnd_pn ha hb, nn]
    have h := nat_and_mod a.toNat (-b-1).toNat
    have h1 : a.toNat % 2 = 0 ∨ a.toNat % 2 = 1 := by omega
    have h2 : (-b-1).toNat % 2 = 0 ∨ (-b-1).toNat % 2 = 1 := by omega
    rcases h1 with e | e <;> rcases h2 with f | f <;> rw [e, f] at h <;> split <;> omega
  · rw [bitAnd_np ha hb, nn]
    have h := nat_and_mod b.toNat (-a-1).toNat
    have h1 : b.toNat % 2 = 0 ∨ b.toNat % 2 = 1 := by omega
    have h2 : (-a-1).toNat % 2 = 0 ∨ (-a-1).toNat % 2 = 1 := by omega
    rcases h1 with e | e <;> rcases h2 with f | f <;> rw [e, f] at h <;> split <;> omega
  · rw [bitAnd_nn ha hb, nn, nn, nn]
    have h := nat_or_mod (-a-1).toNat (-b-1).toNat
    have h1 : (-a-1).toNat % 2 = 0 ∨ (-a-1).toNat % 2 = 1 := by omega
    have h2 : (-b-1).toNat % 2 = 0 ∨ (-b-1).toNat % 2 = 1 := by omega
    rcases h1 with e | e <;> rcases h2 with f | f <;> rw [e, f] at h <;> split at h <;> split <;> omega

theorem bit_sum (a b : Int) : Builtin.bitOr ((a / 2 + b / 2) * 2) (Builtin.bitAnd (Builtin.bitAnd a b) 1) = 2 * (a / 2 + b / 2) + (if a % 2 = 1 ∧ b % 2 = 1 then 1 else 0) := by
  rw [bitAnd_m1, and_bit, bitOr_and]
  split
  · rw [bitAnd_m1]; omega
  · rw [bitAnd_zero]; omega
theorem isi {K : PySem.W.Frag} {H : Hp} {x : V} {a b : String} {r : Bool} {Q : VK} (h : TyX K H x (.type a)) (k : kitB a b = some r) (q : Q (.bl r) H) : rIsi K [x, .ty b] H Q := ⟨x, .ty b, _, _, r, rfl, .ty b, h, kit_ty k, q⟩
theorem if_t {b : Bool} {A B : Prop} (h : b = true) (q : A) : if b = true then A else B := by rw [if_pos h]; exact q
theorem if_f {b : Bool} {A B : Prop} (h : b = false) (q : B) : if b = true then A else B := by rw [h, if_neg Bool.false_ne_true]; exact q
/-- a bound, as a value -/
def oV : Option Int → V
  | none => .non
  | some i => .int i
theorem oV_none : oV none = .non := rfl
theorem oV_some (i : Int) : oV (some i) = .int i := rfl
theorem funD_mk {K : PySem.W.Frag} {x qual : Str} {st : Stmt} {f t : Addr} {oc kV doc pm cdv ct : Value} {od an : Option Addr} {osl : Array (Option Value)} {o : Obj} {n : Nat} {its : List Value} {dvs : List V}
    (l : K.lookup f = some ⟨oc, od, .func (PySem.W.fnOf x qual (defArgs st) (defBody st) (defScope st) (.ref t) kV doc pm an cdv ct), osl⟩) (c : PySem.W.codeIn K cdv qual = true) (k : PySem.W.keepIn K (.ref f) = true)
    (lt : K.lookup t = some o) (ld : o.data = .seq its.toArray n) (hv : Vals dvs its) (hd : dvs ≠ []) : FunD K x qual (defArgs st) (defBody st) (defScope st) dvs [] f (PySem.W.fnOf x qual (defArgs st) (defBody st) (defScope st) (.ref t) kV doc pm an cdv ct) :=
  ⟨⟨oc, od, .ref t, kV, doc, pm, an, cdv, ct, osl, rfl, l, c, .inr ⟨hd, t, o, its, n, rfl, lt, ld, hv⟩, .inl rfl⟩, k⟩
section
variable {X : Cx} {D a : Addr} {cls : Value} {d : Option Addr} {oe : Obj} {pn : List (Addr × Obj)}
/-- isinstance of the caught error: its class is told in the reading -/
theorem call_isE2 (hz : Zc cls d oe) (hf : ∃ vs, oe.data = .fields vs) : CallR (X.suite a ((a, oe) :: pn)) (.builtin "isinstance") (fun xs H Q => ∃ D, cls = .ref D ∧ d = none ∧ ExcC X.K D ∧ rIsE X.K D a xs H Q) := by
  intro pins s σ H xs us Q I r ⟨D, h1, h2, C, h⟩
  subst h1; subst h2
  exact call_isE C hz hf pins s σ H xs us Q I r h
end
theorem cut_int {ns : List Int} {lo hi : Option Int} {i : Nat} {x : V} (h : (cutV (ns.map V.int) lo hi)[i]? = some x) : ∃ z, x = .int z := by
  have m := List.mem_of_mem_drop (List.mem_of_mem_take (List.mem_of_getElem? h))
  obtain ⟨z, _, e⟩ := List.mem_map.mp m
  exact ⟨z, e.symm⟩
def kinds : List String := ["int", "bool", "NoneType", "str", "list", "tuple", "dict"]
/-- whether a thing is a whole number -/
def spWhole (K : PySem.W.Frag) : Sp := fun vs H Q _ => ∃ (x : V) (t : String), vs = [x] ∧ TyX K H x (.type t) ∧ t ∈ kinds ∧ Q (.bl (decide (t = "int"))) H
/-- two numbers in lowest terms, as a new tuple -/
def LowT (a b : Int) (H : Hp) (Q : VK) : Prop := ∀ (t u : Int) (p : Addr) (H' : Hp), Low a b t u → Same H H' → H' p = some (.tup [.int t, .int u]) → Q (.ref p) H'
/-- two numbers in lowest terms with a bottom above 0, as a new tuple -/
def RedT (a b : Int) (H : Hp) (Q : VK) : Prop := ∀ (t u : Int) (p : Addr) (H' : Hp), Red a b t u → Same H H' → H' p = some (.tup [.int t, .int u]) → Q (.ref p) H'
theorem ncast (n : Nat) : ((no_index (OfNat.ofNat n) : Nat) : Int) = OfNat.ofNat n := rfl
theorem exm_two {K : PySem.W.Frag} {C : Addr} {cls : Value} {b : Bool} (h1 : PySem.W.subIn K (.ref C) (.type "BaseException") = some true) (h2 : PySem.W.hasDictIn K C = true) (h3 : PySem.W.typeIn K (.ref C) = some (.type "type")) (h4 : PySem.W.subIn K cls (.ref C) = some b) : PySem.W.exmOne K cls (.ref C) = some b := PySem.W.exm_ref h1 h2 h3 h4
/-- isinstance(e, c) of a caught error -/
theorem isE {K : PySem.W.Frag} {D a : Addr} {c : V} {cv : Value} {b : Bool} {H : Hp} {Q : VK} (X : ExcC K D) (hc : ∀ u, RelV c u → u = cv) (k : PySem.W.kitOne K (.ref D) cv = some b) (q : Q (.bl b) H) : ∃ D', Value.ref D = Value.ref D' ∧ (Option.none : Option Addr) = Option.none ∧ ExcC K D' ∧ rIsE K D' a [.ref a, c] H Q :=
  ⟨D, rfl, rfl, X, c, cv, b, rfl, hc, k, q⟩
theorem tyx_same {K : PySem.W.Frag} {H H2 : Hp} (s : Same H H2) {x : V} {t : Value} (h : TyX K H x t) : TyX K H2 x t := by
  cases h with
  | base b =>
    refine .base ?_
    cases b with
    | non => exact .non
    | bl y => exact .bl y
    | int i => exact .int i
    | str y => exact .str y
    | flt y => exact .flt y
    | lst e => exact .lst (s _ _ e)
    | frz e => exact .frz (s _ _ e)
    | tup e => exact .tup (s _ _ e)
    | dK e => exact .dK (s _ _ e)
    | dT e => exact .dT (s _ _ e)
    | ins e cl a b c d => exact .ins (s _ _ e) cl a b c d
  | byt b => exact .byt b
  | set e => exact .set (s _ _ e)
  | kList e c => exact .kList e c
  | kTuple e c => exact .kTuple e c
  | kDict e c => exact .kDict e c
  | fTuple e => exact .fTuple (s _ _ e)
  | fDict e => exact .fDict (s _ _ e)
/-- what stands behind a statement is shown once, for all its ways -/
theorem join_if {t R : TS} {D : Ends} {σ : L2.St} {H : Hp} (P : L2.St → Hp → Prop) (h2 : ∀ σ' H', P σ' H' → R D σ' H') (h1 : (∀ σ' H', P σ' H' → R D σ' H') → tSeq t R D σ H) : tSeq t R D σ H := h1 h2
theorem red_zero {b t u : Int} (R : Red 0 b t u) : Red 0 1 t u := by
  have h1 := R.tle
  have h2 : t = 0 := by simp at h1; exact h1
  subst h2
  have h3 := R.one
  rw [Int.gcd_zero_left] at h3
  exact ⟨R.pos, by simp, R.one, h1, by omega⟩
theorem shaped_ii (a b : Int) : SeqAt.shaped (.tuple [.int a, .int b]) = true := rfl
section
variable {X : Cx} {K : PySem.W.Frag}
theorem call_isiA (h : X.K = K) : CallR X (.builtin "isinstance") (rIsi K) := by subst h; exact call_isi
theorem ix_listA (h : X.K = K) : IxR X (rIxL K) := by subst h; exact ix_list
theorem ix_tupA (h : X.K = K) : IxR X (rIxT K) := by subst h; exact ix_tup
theorem sl_listA (h : X.K = K) : SlR X (rSlN K) := by subst h; exact sl_listN
theorem call_listA (h : X.K = K) : CallR X (.type "list") (rListN K) := by subst h; exact call_listN
theorem pi_listA {tg l : Expr} {tl : TE} (h : X.K = K) (hl : PE X l tl) : PI X tg l (iList K tl) := by subst h; exact pi_list hl
end
theorem lc_vs {X : Cx} {e : Expr} {wi : TI} {g : TG} {tt : TT} {te : TE} {own : List (Str × Nat)} {vs : List Nat} (h : PE X e (tLc wi g tt te (own.map (·.2)))) (hv : own.map (·.2) = vs) : PE X e (tLc wi g tt te vs) := hv ▸ h
theorem lc_vsS {X : Cx} {e : Stmt} {wi : TI} {g k : TG} {tt : TT} {te : TE} {own : List (Str × Nat)} {vs : List Nat} (h : PS X e (tAsg (tLc wi g tt te (own.map (·.2))) k)) (hv : own.map (·.2) = vs) : PS X e (tAsg (tLc wi g tt te vs) k) := hv ▸ h
theorem same_updN {H H2 : Hp} {D : Addr} {o : HO} (hD : H D = none) (s : Same H H2) : Same H (upd H2 D o) := fun b x e => by
  rw [upd_ne (ne_of_none e hD)]
  exact s b x e
theorem sql_keep {K : PySem.W.Frag} {H H' : Hp} {a : Addr} {xs : List V} (h : SqL K H a xs) (k : ∀ b o, H b = some o → H' b = some o) : SqL K H' a xs := Same.seq (show Same H H' from k) h
theorem dpall_of {K : PySem.W.Frag} {H : Hp} : ∀ {vs : List V} {ds : List PyData}, vs.length = ds.length → (∀ (k : Nat) (v : V) (d : PyData), vs[k]? = some v → ds[k]? = some d → Dp K H v d) → DpAll K H vs ds
  | [], [], _, _ => .nil
  | [], _ :: _, h, _ => by cases h
  | _ :: _, [], h, _ => by cases h
  | v :: vs, d :: ds, h, k => .cons (k 0 v d rfl rfl) (dpall_of (Nat.succ.inj h) fun j v' d' h1 h2 => k (j + 1) v' d' h1 h2)
theorem shaped_list {ds : List PyData} (h : ∀ d ∈ ds, d.canLay0 = true ∧ d.depth ≤ 60) : SeqAt.shaped (.list ds) = true := by
  have key : ∀ ds : List PyData, (∀ d ∈ ds, d.canLay0 = true ∧ d.depth ≤ 60) → PyData.canLayAll0 ds = true ∧ PyData.depthAll ds ≤ 60 := by
    intro ds
    induction ds with
    | nil => intro _; exact ⟨rfl, Nat.zero_le _⟩
    | cons d ds ih =>
      intro h
      have h1 := h d (List.mem_cons_self ..)
      have h2 := ih fun x hx => h x (List.mem_cons_of_mem _ hx)
      refine ⟨by show (d.canLay0 && PyData.canLayAll0 ds) = true; rw [h1.1, h2.1]; rfl, ?_⟩
      show max d.depth (PyData.depthAll ds) ≤ 60
      omega
  have z := key ds h
  refine Bool.and_eq_true_iff.mpr ⟨z.1, decide_eq_true ?_⟩
  show PyData.depthAll ds + 1 ≤ 64
  omega
/-- whether a fraction is let by a bound -/
def letsO : Option Int → Int → Int → Bool
  | none, _, _ => true
  | some b, t, u => decide (t < b / 2 * u ∨ (t = b / 2 * u ∧ b % 2 = 1))
def narO : Option Int → Option Int → Option Int
  | none, y => y
  | some a, none => some a
  | some a, some b => some (if b < a then b else a)
/-- a fraction's tuple -/
def FracAt (n : Nat) (H : Hp) (v : V) : Prop := ∃ (q : Addr) (t u : Int), v = .ref q ∧ H q = some (.tup [.int t, .int u]) ∧ 0 < u ∧ Sz n t ∧ Sz n u
theorem FracAt.keep {n : Nat} {H H' : Hp} {v : V} (s : Same H H') (h : FracAt n H v) : FracAt n H' v := by
  obtain ⟨q, t, u, e, e2, r⟩ := h
  exact ⟨q, t, u, e, s _ _ e2, r⟩
theorem join_bl {b : Bool} {P : Prop} (h1 : b = true → P) (h2 : b = false → P) : P := by cases b; exact h2 rfl; exact h1 rfl
/-- a for over a list, behind its iterable's reading -/
def ForL (K : PySem.W.Frag) (a : Addr) (g : TG) (tb : TS) (D : Ends) (σ : L2.St) (H : Hp) : Prop := ∃ W : Nat → Nat → L2.St → Hp → Prop, (∃ m, W 0 m σ H) ∧ ∀ i m σ H, W i m σ H →
  ((Itl K a).stop i H ∧ D.nx σ H) ∨ ((Itl K a).go i H ∧ ∃ N : L2.St → Hp → Prop, (∀ σ' H', N σ' H' → ∃ m', m' < m ∧ W (i + 1) m' σ' H') ∧ ∀ x H', (Itl K a).yld i H x H' → g x σ H' fun σ2 H2 => tb { D with nx := N, ct := N, bk := D.nx } σ2 H2)
theorem for_li {K : PySem.W.Frag} {te : TE} {g : TG} {tb : TS} {D : Ends} {σ : L2.St} {H : Hp} (h : te σ H fun x H1 => ∃ a, x = .ref a ∧ (∃ xs, SqL K H1 a xs) ∧ ForL K a g tb D σ H1) : tFor (iList K te) g tb D σ H := h
theorem forL_by {K : PySem.W.Frag} {a : Addr} {xs : List V} {g : TG} {tb : TS} {D : Ends} {σ : L2.St} {H : Hp} (Pv : Nat → L2.St → Hp → Prop) (h0 : Pv 0 σ H) (hl : ∀ i σ H, i ≤ xs.length → Pv i σ H → SqL K H a xs)
    (hs : ∀ i x σ H, xs[i]? = some x → Pv i σ H → g x σ H fun σ2 H2 => tb { D with nx := Pv (i + 1), ct := Pv (i + 1), bk := D.nx } σ2 H2) (hd : ∀ σ H, Pv xs.length σ H → D.nx σ H) : (∃ ys, SqL K H a ys) ∧ ForL K a g tb D σ H :=
  ⟨⟨xs, hl 0 σ H (Nat.zero_le _) h0⟩, for_list (K := K) (a := a) (xs := xs) Pv h0 hl hs hd⟩
/-- what is asked whether it is a fraction, and the answer -/
inductive FrIn (K : PySem.W.Frag) (H : Hp) : V → Bool → Prop where
  | other {x : V} {t : String} (h : TyX K H x (.type t)) (k : t ∈ kinds) (n : t ≠ "tuple") : FrIn K H x false
  | len {p : Addr} {xs : List V} (h : H p = some (.tup xs)) (n : xs.length ≠ 2) : FrIn K H (.ref p) false
  | odd {p : Addr} {v0 v1 : V} {t0 t1 : String} (h : H p = some (.tup [v0, v1])) (h0 : TyX K H v0 (.type t0)) (h1 : TyX K H v1 (.type t1)) (k0 : t0 ∈ kinds) (k1 : t1 ∈ kinds) (n : t0 ≠ "int" ∨ t1 ≠ "int") : FrIn K H (.ref p) false
  | num {p : Addr} {a b : Int} (h : H p = some (.tup [.int a, .int b])) : FrIn K H (.ref p) (decide (1 ≤ b ∧ Int.gcd a b = 1))
theorem FrIn.keep {K : PySem.W.Frag} {H H' : Hp} {x : V} {b : Bool} (s : Same H H') (h : FrIn K H x b) : FrIn K H' x b := by
  cases h with
  | other h k n => exact .other (tyx_same s h) k n
  | len h n => exact .len (s _ _ h) n
  | odd h h0 h1 k0 k1 n => exact .odd (s _ _ h) (tyx_same s h0) (tyx_same s h1) k0 k1 n
  | num h => exact .num (s _ _ h)
theorem ex_int {i : Int} {P : Int → Prop} (h : P i) : ∃ j, V.int i = V.int j ∧ P j := ⟨i, rfl, h⟩
end ZW

namespace ZW
open PySem PySem.Spec PyProof.Rows L2
theorem dvl_2 : DivOk 2 = True := eq_true ⟨by decide, by decide +kernel⟩
theorem dvl_3 : DivOk 3 = True := eq_true ⟨by decide, by decide +kernel⟩
theorem dvl_4 : DivOk 4 = True := eq_true ⟨by decide, by decide +kernel⟩
theorem dvl_7 : DivOk 7 = True := eq_true ⟨by decide, by decide +kernel⟩
theorem dvl_1000000000000000000000000000000 : DivOk 1000000000000000000000000000000 = True := eq_true ⟨by decide, by decide +kernel⟩
theorem pwl_10_19 : CPow 10 19 = True := eq_true ⟨by decide, by decide, by decide +kernel⟩
theorem pwl_10_29 : CPow 10 29 = True := eq_true ⟨by decide, by decide, by decide +kernel⟩
theorem pwl_10_30 : CPow 10 30 = True := eq_true ⟨by decide, by decide, by decide +kernel⟩
theorem pwl_10_40 : CPow 10 40 = True := eq_true ⟨by decide, by decide, by decide +kernel⟩
end ZW
local macro_rules | `(tactic| walk_at "rd") => `(tactic| ((try simp only [L2.start, List.map_cons, List.map_nil, List.length_cons, List.length_nil, Nat.reduceAdd, Nat.zero_add, Nat.reduceSub, Nat.sub_self, List.replicate, List.cons_append, List.nil_append, List.append_nil]); try simp only [L2.tIfS, L2.tTest, L2.tB, L2.tOp, L2.tUn, L2.tVar, L2.tC, L2.tRet, L2.tRetN, L2.tNext, L2.tAsg, L2.tPar, L2.gName, L2.tCons, L2.tNil, L2.tCall, L2.tCB, L2.tAnd, L2.tOr, L2.tNot, L2.tAndV, L2.tOrV, L2.tNotV, L2.tIf, L2.rI0, L2.rI, L2.rU, L2.rAdd, L2.rSub, L2.rEq, L2.rNe, L2.scal, L2.tTup, L2.tLst, ZW.tTupN, ZW.tLstN, L2.tSl, L2.tPart, L2.tNoPart, ZW.rSlN, ZW.rCatN, ZW.rListN, ZW.rIntB,  L2.tDrop, L2.tIsN, L2.tNotN, L2.tCmp, L2.t2I,
  List.map_cons, List.map_nil, List.length_cons, List.length_nil, List.append_nil, List.nil_append, List.cons_append, List.getElem?_cons_zero, List.getElem?_cons_succ, List.set_cons_zero, List.set_cons_succ, Nat.reduceSub, Nat.reduceAdd, Nat.sub_self, Nat.zero_add, List.getElem?_nil, List.append_eq,
  Option.some.injEq, L2.V.int.injEq, L2.V.bl.injEq, L2.V.ref.injEq, reduceCtorEq, exists_eq_left', exists_eq_left, exists_eq, true_and, and_true, exists_and_left, exists_eq_right, exists_eq_right', decide_true, decide_false, Bool.not_true, Bool.not_false, if_true, if_false, ite_true, ite_false, Bool.false_eq_true, List.cons.injEq, ite_self, and_self, and_assoc, L2.gCons, L2.gNil, Int.reduceToNat, Int.reduceMul, Int.reduceSub, Int.reduceAdd, Int.reduceNe, Int.reduceLE, Int.reduceLT, Int.reduceNeg, Int.reduceEq, ZW.dvl_2, ZW.dvl_3, ZW.dvl_4, ZW.dvl_7, ZW.dvl_1000000000000000000000000000000, ZW.pwl_10_19, ZW.pwl_10_29, ZW.pwl_10_30, ZW.pwl_10_40, ZW.sz_line, Nat.reduceLT, Nat.reduceLeDiff, Nat.reduceLeDiff, ne_eq, not_false_eq_true, Int.reducePow, Int.pow_one,  forall_const, implies_true, ZW.cxK, ZW.ncast, L2.tCallS, L2.tYes, L2.wipe]))
local macro_rules | `(tactic| walk_at "ix") => `(tactic| (walk_at "rd"; first | refine ZW.ix_l (L2.SqL.of (by assumption)) (by decide) rfl ?_ | refine ZW.ix_t (L2.SqT.of (by assumption)) (by decide) rfl ?_))
local macro_rules | `(tactic| walk_at "sq") => `(tactic| (walk_at "rd"; refine ZW.seq_step ?_; walk_at "rd"))
local macro_rules | `(tactic| walk_at "isT") => `(tactic| (walk_at "rd"; refine ZW.isi (r := true) (by first | exact .base (.int _) | exact .base (.bl _) | exact .base .non | exact .base (.str _) | exact .base (.tup (by assumption)) | exact .base (.lst (by assumption)) | exact .base (.dK (by assumption))) (by decide +kernel) ?_; walk_at "rd"))
local macro_rules | `(tactic| walk_at "isF") => `(tactic| (walk_at "rd"; refine ZW.isi (r := false) (by first | exact .base (.int _) | exact .base (.bl _) | exact .base .non | exact .base (.str _) | exact .base (.tup (by assumption)) | exact .base (.lst (by assumption)) | exact .base (.dK (by assumption))) (by decide +kernel) ?_; walk_at "rd"))

namespace ZW
open PySem PySem.Spec PyProof.Rows L2
def topS (i : Nat) : Stmt := PySem.Challenge.pw_zonewalk_k04_bounds.main.body.getD i (.Pass ⟨0, 0, 0, 0⟩)
abbrev s_at_most : Stmt := topS 1
theorem sc_at_most : FnScope ["number"] ["number"] (defScope s_at_most) := ⟨rfl, rfl, rfl, by decide +kernel, rfl, by decide +kernel, by decide +kernel⟩
abbrev s_below : Stmt := topS 2
theorem sc_below : FnScope ["number"] ["number"] (defScope s_below) := ⟨rfl, rfl, rfl, by decide +kernel, rfl, by decide +kernel, by decide +kernel⟩
abbrev s_number_of : Stmt := topS 3
theorem sc_number_of : FnScope ["bound"] ["bound"] (defScope s_number_of) := ⟨rfl, rfl, rfl, by decide +kernel, rfl, by decide +kernel, by decide +kernel⟩
abbrev s_is_open : Stmt := topS 4
theorem sc_is_open : FnScope ["bound"] ["bound"] (defScope s_is_open) := ⟨rfl, rfl, rfl, by decide +kernel, rfl, by decide +kernel, by decide +kernel⟩
abbrev s_narrower : Stmt := topS 5
theorem sc_narrower : FnScope ["one", "other"] ["one", "other"] (defScope s_narrower) := ⟨rfl, rfl, rfl, by decide +kernel, rfl, by decide +kernel, by decide +kernel⟩
abbrev s_lets : Stmt := topS 6
theorem sc_lets : FnScope ["bound", "value", "top", "bottom", "most"] ["bound", "value"] (defScope s_lets) := ⟨rfl, rfl, rfl, by decide +kernel, rfl, by decide +kernel, by decide +kernel⟩
abbrev s_beyond : Stmt := topS 7
theorem sc_beyond : FnScope ["bound"] ["bound"] (defScope s_beyond) := ⟨rfl, rfl, rfl, by decide +kernel, rfl, by decide +kernel, by decide +kernel⟩
abbrev s_l_cell_at : Stmt := topS 9
theorem sc_l_cell_at : FnScope ["_law_script", "_law_k"] ["_law_script", "_law_k"] (defScope s_l_cell_at) := ⟨rfl, rfl, rfl, by decide +kernel, rfl, by decide +kernel, by decide +kernel⟩
abbrev s_l_whole : Stmt := topS 10
theorem sc_l_whole : FnScope ["_law_found", "_law_due"] ["_law_found", "_law_due"] (defScope s_l_whole) := ⟨rfl, rfl, rfl, by decide +kernel, rfl, by decide +kernel, by decide +kernel⟩
abbrev s_l_number : Stmt := topS 11
theorem sc_l_number : FnScope ["_law_cell", "_law_most"] ["_law_cell"] (defScope s_l_number) := ⟨rfl, rfl, rfl, by decide +kernel, rfl, by decide +kernel, by decide +kernel⟩
abbrev s_l_divisor : Stmt := topS 12
theorem sc_l_divisor : FnScope ["_law_one", "_law_other"] ["_law_one", "_law_other"] (defScope s_l_divisor) := ⟨rfl, rfl, rfl, by decide +kernel, rfl, by decide +kernel, by decide +kernel⟩
abbrev s_l_lowest : Stmt := topS 13
theorem sc_l_lowest : FnScope ["_law_top", "_law_bottom", "_law_share"] ["_law_top", "_law_bottom"] (defScope s_l_lowest) := ⟨rfl, rfl, rfl, by decide +kernel, rfl, by decide +kernel, by decide +kernel⟩
abbrev s_l_values : Stmt := topS 14
theorem sc_l_values : FnScope ["_law_number_here", "_law_cell", "_law_bottom", "_law_found"] ["_law_number_here", "_law_cell"] (defScope s_l_values) := ⟨rfl, rfl, rfl, by decide +kernel, rfl, by decide +kernel, by decide +kernel⟩
abbrev s_l_told : Stmt := topS 15
theorem sc_l_told : FnScope ["_law_bound", "_law_number_here", "_law_closed"] ["_law_bound", "_law_number_here", "_law_closed"] (defScope s_l_told) := ⟨rfl, rfl, rfl, by decide +kernel, rfl, by decide +kernel, by decide +kernel⟩
abbrev s_l_lets : Stmt := topS 16
theorem sc_l_lets : FnScope ["_law_bound", "_law_number_here", "_law_closed", "_law_value", "_law_top", "_law_bottom", "_law_due", "_law_turned", "_law_found"] ["_law_bound", "_law_number_here", "_law_closed", "_law_value"] (defScope s_l_lets) := ⟨rfl, rfl, rfl, by decide +kernel, rfl, by decide +kernel, by decide +kernel⟩
abbrev s_law : Stmt := topS 17
theorem sc_law : FnScope ["_law_script", "_law_one", "_law_other", "_law_bounds", "_law_number_here", "_law_bound", "_law_closed", "_law_value", "_law_bound2", "_law_number2", "_law_closed2", "_law_due"] ["_law_script"] (defScope s_law) := ⟨rfl, rfl, rfl, by decide +kernel, rfl, by decide +kernel, by decide +kernel⟩
structure Top (K : PySem.W.Frag) (mg : Str → Option Value) where
  f_at_most : Addr
  d_at_most : FuncData
  F_at_most : Fun K "at_most" "at_most" s_at_most f_at_most d_at_most
  g_at_most : mg "at_most" = some (.ref f_at_most)
  b_at_most : Binds K d_at_most ["number"] []
  f_below : Addr
  d_below : FuncData
  F_below : Fun K "below" "below" s_below f_below d_below
  g_below : mg "below" = some (.ref f_below)
  b_below : Binds K d_below ["number"] []
  f_number_of : Addr
  d_number_of : FuncData
  F_number_of : Fun K "number_of" "number_of" s_number_of f_number_of d_number_of
  g_number_of : mg "number_of" = some (.ref f_number_of)
  b_number_of : Binds K d_number_of ["bound"] []
  f_is_open : Addr
  d_is_open : FuncData
  F_is_open : Fun K "is_open" "is_open" s_is_open f_is_open d_is_open
  g_is_open : mg "is_open" = some (.ref f_is_open)
  b_is_open : Binds K d_is_open ["bound"] []
  f_narrower : Addr
  d_narrower : FuncData
  F_narrower : Fun K "narrower" "narrower" s_narrower f_narrower d_narrower
  g_narrower : mg "narrower" = some (.ref f_narrower)
  b_narrower : Binds K d_narrower ["one", "other"] []
  f_lets : Addr
  d_lets : FuncData
  F_lets : Fun K "lets" "lets" s_lets f_lets d_lets
  g_lets : mg "lets" = some (.ref f_lets)
  b_lets : Binds K d_lets ["bound", "value"] []
  f_beyond : Addr
  d_beyond : FuncData
  F_beyond : Fun K "beyond" "beyond" s_beyond f_beyond d_beyond
  g_beyond : mg "beyond" = some (.ref f_beyond)
  b_beyond : Binds K d_beyond ["bound"] []
  f_l_cell_at : Addr
  d_l_cell_at : FuncData
  F_l_cell_at : Fun K "_law_cell_at" "_law_cell_at" s_l_cell_at f_l_cell_at d_l_cell_at
  g_l_cell_at : mg "_law_cell_at" = some (.ref f_l_cell_at)
  b_l_cell_at : Binds K d_l_cell_at ["_law_script", "_law_k"] []
  f_l_whole : Addr
  d_l_whole : FuncData
  F_l_whole : Fun K "_law_whole" "_law_whole" s_l_whole f_l_whole d_l_whole
  g_l_whole : mg "_law_whole" = some (.ref f_l_whole)
  b_l_whole : Binds K d_l_whole ["_law_found", "_law_due"] []
  f_l_number : Addr
  d_l_number : FuncData
  F_l_number : Fun K "_law_number" "_law_number" s_l_number f_l_number d_l_number
  g_l_number : mg "_law_number" = some (.ref f_l_number)
  b_l_number : Binds K d_l_number ["_law_cell"] []
  f_l_divisor : Addr
  d_l_divisor : FuncData
  F_l_divisor : Fun K "_law_divisor" "_law_divisor" s_l_divisor f_l_divisor d_l_divisor
  g_l_divisor : mg "_law_divisor" = some (.ref f_l_divisor)
  b_l_divisor : Binds K d_l_divisor ["_law_one", "_law_other"] []
  f_l_lowest : Addr
  d_l_lowest : FuncData
  F_l_lowest : Fun K "_law_lowest" "_law_lowest" s_l_lowest f_l_lowest d_l_lowest
  g_l_lowest : mg "_law_lowest" = some (.ref f_l_lowest)
  b_l_lowest : Binds K d_l_lowest ["_law_top", "_law_bottom"] []
  f_l_values : Addr
  d_l_values : FuncData
  F_l_values : Fun K "_law_values" "_law_values" s_l_values f_l_values d_l_values
  g_l_values : mg "_law_values" = some (.ref f_l_values)
  b_l_values : Binds K d_l_values ["_law_number_here", "_law_cell"] []
  f_l_told : Addr
  d_l_told : FuncData
  F_l_told : Fun K "_law_told" "_law_told" s_l_told f_l_told d_l_told
  g_l_told : mg "_law_told" = some (.ref f_l_told)
  b_l_told : Binds K d_l_told ["_law_bound", "_law_number_here", "_law_closed"] []
  f_l_lets : Addr
  d_l_lets : FuncData
  F_l_lets : Fun K "_law_lets" "_law_lets" s_l_lets f_l_lets d_l_lets
  g_l_lets : mg "_law_lets" = some (.ref f_l_lets)
  b_l_lets : Binds K d_l_lets ["_law_bound", "_law_number_here", "_law_closed", "_law_value"] []
  f_law : Addr
  d_law : FuncData
  F_law : Fun K "law" "law" s_law f_law d_law
  g_law : mg "law" = some (.ref f_law)
  b_law : Binds K d_law ["_law_script"] []
  m_abs : mg "abs" = none
  m_bool : mg "bool" = none
  m_int : mg "int" = none
  m_isinstance : mg "isinstance" = none
  m_len : mg "len" = none
  m_min : mg "min" = none
section
variable {P : Program} {w : World} {K : PySem.W.Frag} {mg : Str → Option Value} {base : Heap}
def spNumber_of : Sp := fun vs H Q _ => ∃ b : Int, vs = [.int b] ∧ Q (.int (b / 2)) H
theorem ok_number_of (T : Top K mg) : FnOk P w K mg base CX0 1 T.f_number_of T.d_number_of ["bound"] spNumber_of := by
  refine T.F_number_of.ok sc_number_of (fun vs H Q E h => ?_) (fun cdv A outer s H vs Q E hr h => ?_)
  · obtain ⟨b, rfl, _⟩ := h; rfl
  · obtain ⟨b, rfl, q⟩ := h
    refine ⟨_, (pss_one (ps_ret (pe_op op_shr (pv 0) pe_int))), ?_⟩
    walk_at "rd"
    exact q
def spIs_open : Sp := fun vs H Q _ => ∃ b : Int, vs = [.int b] ∧ Q (.bl (decide (b % 2 = 0))) H
theorem ok_is_open (T : Top K mg) : FnOk P w K mg base CX0 1 T.f_is_open T.d_is_open ["bound"] spIs_open := by
  refine T.F_is_open.ok sc_is_open (fun vs H Q E h => ?_) (fun cdv A outer s H vs Q E hr h => ?_)
  · obtain ⟨b, rfl, _⟩ := h; rfl
  · obtain ⟨b, rfl, q⟩ := h
    refine ⟨_, (pss_one (ps_ret (pe_cmpR op_eq (pe_op op_and (pv 0) pe_int) pe_int (nomark _)))), ?_⟩
    walk_at "rd"
    rw [bitAnd_m1]; exact q
def spCell_at (K : PySem.W.Frag) : Sp := fun vs H Q _ => ∃ (a : Addr) (ns : List Int) (k : Int), vs = [.ref a, .int k] ∧ SqL K H a (ns.map V.int) ∧ 0 ≤ k ∧ Q (.int (ns.getD k.toNat 0)) H
theorem ok_l_cell_at (T : Top K mg) : FnOk P w K mg base CX0 1 T.f_l_cell_at T.d_l_cell_at ["_law_script", "_law_k"] (spCell_at K) := by
  refine T.F_l_cell_at.ok sc_l_cell_at (fun vs H Q E h => ?_) (fun cdv A outer s H vs Q E hr h => ?_)
  · obtain ⟨a, ns, k, rfl, _⟩ := h; rfl
  · obtain ⟨a, ns, k, rfl, hS, hk, q⟩ := h
    refine ⟨_, (pss_cons (ps_if (pt_cmpR op_lt (pv 1) (pe_callB call_len_seq (by rfl) T.m_len (by decide +kernel) (pa_cons (pv 0) pa_nil)) (nomark _)) (pss_one (ps_ret (pe_ix (ix_listA (K := K) rfl) (pv 0) (pv 1) (fun _ _ => rfl)))) pss_nil)
      (pss_one (ps_ret pe_int))), ?_⟩
    refine seq_step ?_
    walk_at "rd"
    refine ⟨_, .inl hS, ite_d (fun c => ?_) (fun c => ?_)⟩
    · rw [List.length_map] at c
      have hl : k.toNat < ns.length := by omega
      refine ⟨a, _, k, .int (ns[k.toNat]), rfl, rfl, hS, at_of (j := k.toNat) (by omega) (by rw [List.getElem?_map, List.getElem?_eq_getElem hl]; rfl), ?_⟩
      rw [List.getD_eq_getElem?_getD, List.getElem?_eq_getElem hl] at q
      exact q
    · rw [List.length_map] at c
      rw [List.getD_eq_getElem?_getD, List.getElem?_eq_none (by omega)] at q
      exact q
def spDiv_l_divisor (K : PySem.W.Frag) : Sp := fun vs H Q _ => ∃ a b : Int, vs = [.int a, .int b] ∧ Q (.int (Int.gcd a b)) H
theorem ok_l_divisor (T : Top K mg) : FnOk P w K mg base CX0 1 T.f_l_divisor T.d_l_divisor ["_law_one", "_law_other"] (spDiv_l_divisor K) := by
  refine T.F_l_divisor.ok sc_l_divisor (fun vs H Q E h => ?_) (fun cdv A outer s H vs Q E hr h => ?_)
  · obtain ⟨a, b, rfl, _⟩ := h; rfl
  · obtain ⟨a, b, rfl, q⟩ := h
    refine ⟨_, (pss_cons (ps_while PassesOwn.never (pt_cmpR op_ne (pv 1) pe_int (nomark _)) (pss_one (ps_par (i := 0) (j := 1) (by rfl) sc_l_divisor.nd rfl rfl (by decide) rfl rfl (pa_cons (pv 1) (pa_cons (pe_op op_modN (pv 0) (pv 1)) pa_nil)) (by rfl))))
      (pss_one (ps_ret (pe_callB call_abs (by rfl) T.m_abs (by decide +kernel) (pa_cons (pv 0) pa_nil))))), ?_⟩
    refine seq_step ?_
    refine while_by (fun σ H' => H' = H ∧ ∃ x y : Int, σ = [some (.int x), some (.int y)] ∧ Int.gcd x y = Int.gcd a b) (fun σ _ => match σ with | [_, some (.int y)] => y.natAbs | _ => 0) ⟨rfl, a, b, rfl, rfl⟩ ?_ ?_
    · rintro σ H' ⟨rfl, x, y, rfl, hg⟩
      walk_at "rd"
      by_cases c : y = 0
      · subst c
        rw [decide_eq_true rfl, Bool.not_true, if_neg Bool.false_ne_true]
        have e : (if x < 0 then -x else x) = ((Int.gcd a b : Nat) : Int) := by
          rw [← hg, Int.gcd_zero_right]; split <;> omega
        rw [e]; exact q
      · rw [decide_eq_false c, Bool.not_false, if_pos rfl]
        exact ⟨c, by rw [fmod_gcd, hg], fmod_lt x y c⟩
    · rintro σ H Q Q' m ⟨v, hv, hs, k, hk, q⟩
      exact ⟨v, hv, hs, k, hk, m _ _ q⟩
def spLowest (K : PySem.W.Frag) : Sp := fun vs H Q _ => ∃ a b : Int, vs = [.int a, .int b] ∧ b ≠ 0 ∧ Sz 8000 b ∧ LowT a b H Q
theorem ok_l_lowest (T : Top K mg) : FnOk P w K mg base CX0 2 T.f_l_lowest T.d_l_lowest ["_law_top", "_law_bottom"] (spLowest K) := by
  refine T.F_l_lowest.ok sc_l_lowest (fun vs H Q E h => ?_) (fun cdv A outer s H vs Q E hr h => ?_)
  · obtain ⟨a, b, rfl, _⟩ := h; rfl
  · obtain ⟨a, b, rfl, hb, hz, q⟩ := h
    refine ⟨_, (pss_cons (ps_set (i := 2) sc_l_lowest.nd rfl (.inl rfl) (pe_call (ok_l_divisor T) (hr.mono (by decide)) rfl T.g_l_divisor T.F_l_divisor.kp T.b_l_divisor .nil pass0 (pa_cons (pv 0) (pa_cons (pv 1) pa_nil))))
      (pss_one (ps_ret (pe_tupN (pa_cons (pe_op op_fdivZ (pv 0) (pv 2)) (pa_cons (pe_op op_fdivZ (pv 1) (pv 2)) pa_nil)))))), ?_⟩
    refine seq_step ?_
    walk_at "rd"
    refine ⟨a, b, rfl, ?_⟩
    walk_at "rd"
    have g := gcd_pos_right (a := a) hb
    have gs := gcd_le_size (a := a) hb
    have c : DivOk ((Int.gcd a b : Nat) : Int) := .of (by omega) (Sz.le (by omega) hz) (by omega)
    exact ⟨c, c, fun p H2 s2 _ e2 => q _ _ p H2 (low_of hb) s2 e2⟩
def spLets (K : PySem.W.Frag) : Sp := fun vs H Q _ => ∃ (x : Option Int) (t u : Int) (p : Addr), vs = [oV x, .ref p] ∧ H p = some (.tup [.int t, .int u]) ∧ (∀ b, x = some b → Sz 10000 (b / 2)) ∧ Sz 10000 u ∧ Q (.bl (letsO x t u)) H
theorem ok_lets (T : Top K mg) : FnOk P w K mg base CX0 2 T.f_lets T.d_lets ["bound", "value"] (spLets K) := by
  refine T.F_lets.ok sc_lets (fun vs H Q E h => ?_) (fun cdv A outer s H vs Q E hr h => ?_)
  · obtain ⟨x, t, u, p, rfl, _⟩ := h; rfl
  · obtain ⟨x, t, u, p, rfl, hp, h1, h2, q⟩ := h
    refine ⟨_, (pss_cons (ps_if (pt_cmpR op_isN (pv 0) pe_non (nomark _)) (pss_one (ps_ret pe_bl)) pss_nil)
      (pss_cons (ps_asg (pv 1) (pg_tup (by rfl) (pgs_cons (pg_name (i := 2) sc_lets.nd rfl (.inl rfl)) (pgs_cons (pg_name (i := 3) sc_lets.nd rfl (.inl rfl)) pgs_nil))))
      (pss_cons (ps_set (i := 4) sc_lets.nd rfl (.inl rfl) (pe_op op_mulW (pe_call (ok_number_of T) (hr.mono (by decide)) rfl T.g_number_of T.F_number_of.kp T.b_number_of .nil pass0 (pa_cons (pv 0) pa_nil)) (pv 3)))
      (pss_one (ps_ret (pe_or (pe_cmpR op_lt (pv 2) (pv 4) (nomark _)) (pe_one (pe_and (pe_cmpR op_eq (pv 2) (pv 4) (nomark _)) (pe_one (pe_not (pe_call (ok_is_open T) (hr.mono (by decide)) rfl T.g_is_open T.F_is_open.kp T.b_is_open .nil pass0 (pa_cons (pv 0) pa_nil)))))))))))), ?_⟩
    refine seq_step ?_
    cases x with
    | none =>
      simp only [oV_none]
      walk_at "rd"
      exact q
    | some b =>
    simp only [oV_some]
    have h1 := h1 b rfl
    walk_at "rd"
    refine seq_step ?_
    walk_at "rd"
    refine gTup_of (sqt hp) rfl ?_
    walk_at "rd"
    refine seq_step ?_
    walk_at "rd"
    simp only [spNumber_of, spIs_open]
    walk_at "rd"
    have q : Q (V.bl (decide (t < b / 2 * u ∨ t = b / 2 * u ∧ b % 2 = 1))) H := q
    refine ⟨h1.mulW h2 (by omega), ite_d (fun c => ?_) (fun c => ite_d (fun c2 => ?_) (fun c2 => ?_))⟩
    · rw [decide_eq_true (Or.inl c)] at q; exact q
    · rw [show (!decide (b % 2 = 0)) = decide (t < b / 2 * u ∨ (t = b / 2 * u ∧ b % 2 = 1)) by
        rw [← decide_not]; exact decide_eq_decide.mpr ⟨fun z => .inr ⟨c2, by omega⟩, fun z => by rcases z with z | z <;> omega⟩]
      exact q
    · rw [decide_eq_false (by rintro (z | z); exact c z; exact c2 z.1)] at q; exact q
def spNarrower (K : PySem.W.Frag) : Sp := fun vs H Q _ => ∃ (x y : Option Int), vs = [oV x, oV y] ∧ Q (oV (narO x y)) H
theorem ok_narrower (T : Top K mg) : FnOk P w K mg base CX0 1 T.f_narrower T.d_narrower ["one", "other"] (spNarrower K) := by
  refine T.F_narrower.ok sc_narrower (fun vs H Q E h => ?_) (fun cdv A outer s H vs Q E hr h => ?_)
  · obtain ⟨x, y, rfl, _⟩ := h; rfl
  · obtain ⟨x, y, rfl, q⟩ := h
    refine ⟨_, (pss_cons (ps_if (pt_cmpR op_isN (pv 0) pe_non (nomark _)) (pss_one (ps_ret (pv 1))) pss_nil)
      (pss_cons (ps_if (pt_cmpR op_isN (pv 1) pe_non (nomark _)) (pss_one (ps_ret (pv 0))) pss_nil)
      (pss_one (ps_ret (pe_callB (call_min2 rfl) (by rfl) T.m_min (by decide +kernel) (pa_cons (pv 0) (pa_cons (pv 1) pa_nil))))))), ?_⟩
    refine seq_step ?_
    cases x with
    | none =>
      simp only [oV_none]
      walk_at "rd"
      cases y <;> exact q
    | some a =>
      simp only [oV_some]
      walk_at "rd"
      refine seq_step ?_
      cases y with
      | none =>
        simp only [oV_none]
        walk_at "rd"
        exact q
      | some b =>
        simp only [oV_some]
        walk_at "rd"
        exact q
def spAt_most : Sp := fun vs H Q _ => ∃ b : Int, vs = [.int b] ∧ Sz 10000 b ∧ Q (.int (2 * b + 1)) H
theorem ok_at_most (T : Top K mg) : FnOk P w K mg base CX0 1 T.f_at_most T.d_at_most ["number"] spAt_most := by
  refine T.F_at_most.ok sc_at_most (fun vs H Q E h => ?_) (fun cdv A outer s H vs Q E hr h => ?_)
  · obtain ⟨b, rfl, _⟩ := h; rfl
  · obtain ⟨b, rfl, hb, q⟩ := h
    refine ⟨_, (pss_one (ps_ret (pe_op op_add (pe_op op_mulW pe_int (pv 0)) pe_int))), ?_⟩
    walk_at "rd"
    exact ⟨Sz.mulW (a := 2) (by unfold Sz; decide) hb (by omega), q⟩
def spBelow : Sp := fun vs H Q _ => ∃ b : Int, vs = [.int b] ∧ Sz 10000 b ∧ Q (.int (2 * b)) H
theorem ok_below (T : Top K mg) : FnOk P w K mg base CX0 1 T.f_below T.d_below ["number"] spBelow := by
  refine T.F_below.ok sc_below (fun vs H Q E h => ?_) (fun cdv A outer s H vs Q E hr h => ?_)
  · obtain ⟨b, rfl, _⟩ := h; rfl
  · obtain ⟨b, rfl, hb, q⟩ := h
    refine ⟨_, (pss_one (ps_ret (pe_op op_mulW pe_int (pv 0)))), ?_⟩
    walk_at "rd"
    exact ⟨Sz.mulW (a := 2) (by unfold Sz; decide) hb (by omega), q⟩
def spBeyond : Sp := fun vs H Q _ => ∃ b : Int, vs = [.int b] ∧ Q (.int (1 - b)) H
theorem ok_beyond (T : Top K mg) : FnOk P w K mg base CX0 1 T.f_beyond T.d_beyond ["bound"] spBeyond := by
  refine T.F_beyond.ok sc_beyond (fun vs H Q E h => ?_) (fun cdv A outer s H vs Q E hr h => ?_)
  · obtain ⟨b, rfl, _⟩ := h; rfl
  · obtain ⟨b, rfl, q⟩ := h
    refine ⟨_, (pss_one (ps_ret (pe_op op_sub pe_int (pv 0)))), ?_⟩
    walk_at "rd"
    exact q
def spWhole2 (K : PySem.W.Frag) : Sp := fun vs H Q _ => ∃ a b : Int, vs = [.int a, .int b] ∧ Q (.bl (decide (a = b))) H
theorem ok_l_whole (T : Top K mg) : FnOk P w K mg base CX0 1 T.f_l_whole T.d_l_whole ["_law_found", "_law_due"] (spWhole2 K) := by
  refine T.F_l_whole.ok sc_l_whole (fun vs H Q E h => ?_) (fun cdv A outer s H vs Q E hr h => ?_)
  · obtain ⟨a, b, rfl, _⟩ := h; rfl
  · obtain ⟨a, b, rfl, q⟩ := h
    refine ⟨_, (pss_one (ps_ret (pe_and (pe_callB (call_isiA (K := K) rfl) (by rfl) T.m_isinstance (by decide +kernel) (pa_cons (pv 0) (pa_cons (pe_bltn (v := .ty "int") (u := .type "int") (by rfl) T.m_int (by decide +kernel) rfl) pa_nil))) (pe_and (pe_not (pe_callB (call_isiA (K := K) rfl) (by rfl) T.m_isinstance (by decide +kernel) (pa_cons (pv 0) (pa_cons (pe_bltn (v := .ty "bool") (u := .type "bool") (by rfl) T.m_bool (by decide +kernel) rfl) pa_nil)))) (pe_one (pe_cmpR op_eq (pv 0) (pv 1) (nomark _))))))), ?_⟩
    walk_at "isT"
    walk_at "isF"
    exact q
def spNumber (K : PySem.W.Frag) : Sp := fun vs H Q _ => ∃ c : Int, vs = [.int c] ∧ ∀ (n : Int) (H' : Hp), Sz 140 n → Same H H' → Q (.int n) H'
theorem ok_l_number (T : Top K mg) : FnOk P w K mg base CX0 1 T.f_l_number T.d_l_number ["_law_cell"] (spNumber K) := by
  refine T.F_l_number.ok sc_l_number (fun vs H Q E h => ?_) (fun cdv A outer s H vs Q E hr h => ?_)
  · obtain ⟨c, rfl, _⟩ := h; rfl
  · obtain ⟨c, rfl, q⟩ := h
    refine ⟨_, (pss_cons (ps_set (i := 1) sc_l_number.nd rfl (.inl rfl) (pe_ix (ix_listA (K := K) rfl) (pe_lstN (pa_cons pe_int (pa_cons (pe_op op_pow pe_int pe_int) pa_nil))) (pe_op op_modN (pv 0) pe_int) (fun _ _ => rfl)))
      (pss_one (ps_ret (pe_op op_add (pe_op op_sub (pe_op op_modN (pe_op op_fdivZ (pv 0) pe_int) (pe_op op_sub (pe_op op_mulW pe_int (pv 1)) pe_int)) (pv 1)) pe_int)))), ?_⟩
    refine seq_step ?_
    walk_at "rd"
    intro p H2 s2 hp e2
    have big : Sz 140 10000000000000000000000000000000000000000 := by unfold Sz; decide +kernel
    rcases fm2 c with e | e
    · rw [e]
      refine ix_l (.of e2) (by decide) rfl ?_
      walk_at "rd"
      refine ⟨by unfold CMulW; decide +kernel, ?_⟩
      have := fm_pos (c := c.fdiv 2) (m := 25) (by decide)
      exact q _ _ (Sz.rg (j := 10000000000000000000000000000000000000000) (by omega) (by omega) big) s2
    · rw [e]
      refine ix_l (.of e2) (by decide) rfl ?_
      walk_at "rd"
      refine ⟨by unfold CMulW; decide +kernel, ?_⟩
      have := fm_pos (c := c.fdiv 2) (m := 19999999999999999999999999999999999999999) (by decide)
      exact q _ _ (Sz.rg (j := 10000000000000000000000000000000000000000) (by omega) (by omega) big) s2
def spValues (K : PySem.W.Frag) : Sp := fun vs H Q _ => ∃ n c : Int, vs = [.int n, .int c] ∧ Sz 142 n ∧ ∀ (p : Addr) (H' : Hp) (items : List V), Same H H' → H' p = some (.lst items) → items.length = 5 → (∀ v ∈ items, FracAt 300 H' v) → Q (.ref p) H'
theorem ok_l_values (T : Top K mg) : FnOk P w K mg base CX0 3 T.f_l_values T.d_l_values ["_law_number_here", "_law_cell"] (spValues K) := by
  refine T.F_l_values.ok sc_l_values (fun vs H Q E h => ?_) (fun cdv A outer s H vs Q E hr h => ?_)
  · obtain ⟨n, c, rfl, _⟩ := h; rfl
  · obtain ⟨n, c, rfl, hn, q⟩ := h
    refine ⟨_, (pss_cons (ps_set (i := 2) sc_l_values.nd rfl (.inl rfl) (pe_op op_add pe_int (pe_op op_modN (pe_op op_fdivZ (pv 1) pe_int) (pe_ix (ix_listA (K := K) rfl) (pe_lstN (pa_cons pe_int (pa_cons (pe_op op_pow pe_int pe_int) pa_nil))) (pe_op op_modN (pv 1) pe_int) (fun _ _ => rfl)))))
      (pss_cons (ps_set (i := 3) sc_l_values.nd rfl (.inl rfl) (pe_lstN (pa_cons (pe_tupN (pa_cons (pv 0) (pa_cons pe_int pa_nil))) (pa_cons (pe_call (ok_l_lowest T) (hr.mono (by decide)) rfl T.g_l_lowest T.F_l_lowest.kp T.b_l_lowest .nil pass0 (pa_cons (pe_op op_sub (pe_op op_mulW (pv 0) (pv 2)) pe_int) (pa_cons (pv 2) pa_nil))) (pa_cons (pe_call (ok_l_lowest T) (hr.mono (by decide)) rfl T.g_l_lowest T.F_l_lowest.kp T.b_l_lowest .nil pass0 (pa_cons (pe_op op_add (pe_op op_mulW (pv 0) (pv 2)) pe_int) (pa_cons (pv 2) pa_nil))) pa_nil)))))
      (pss_one (ps_ret (pe_op op_catN (pv 3) (pe_lstN (pa_cons (pe_call (ok_l_lowest T) (hr.mono (by decide)) rfl T.g_l_lowest T.F_l_lowest.kp T.b_l_lowest .nil pass0 (pa_cons (pe_op op_sub (pe_op op_modN (pe_op op_fdivZ (pv 1) pe_int) (pe_op op_pow pe_int pe_int)) (pe_op op_pow pe_int pe_int)) (pa_cons (pv 2) pa_nil))) (pa_cons (pe_tupN (pa_cons pe_int (pa_cons pe_int pa_nil))) pa_nil)))))))), ?_⟩
    refine seq_step ?_
    walk_at "rd"
    intro p0 H1 s1 _ e1
    obtain ⟨m, hm, hz, hS⟩ : ∃ m : Int, 0 < m ∧ Sz 70 m ∧ ([.int 7, .int 10000000000000000000] : List V)[(c.fmod 2).toNat]? = some (.int m) := by
      rcases fm2 c with e | e <;> rw [e]
      · exact ⟨7, by decide, by unfold Sz; decide +kernel, rfl⟩
      · exact ⟨_, by decide, by unfold Sz; decide +kernel, rfl⟩
    refine ix_l (.of e1) (fm_pos (m := 2) (by decide)).1 hS ?_
    walk_at "rd"
    have f1 := fm_pos (c := c.fdiv 3) hm
    have sB : Sz 71 (2 + (c.fdiv 3).fmod m) := by unfold Sz at hz ⊢; omega
    have hB : 0 < 2 + (c.fdiv 3).fmod m := by omega
    generalize 2 + (c.fdiv 3).fmod m = B at *
    refine ⟨by omega, ?_⟩
    have one : Sz 2 1 := by unfold Sz; decide
    have sx : Sz 220 (n * B - 1) := (hn.mul sB (c := 219) (by omega)).sub one (by omega) (by omega)
    have sy : Sz 220 (n * B + 1) := (hn.mul sB (c := 219) (by omega)).add one (by omega) (by omega)
    refine seq_step ?_
    walk_at "rd"
    intro p1 H2 s2 _ e2
    refine ⟨hn.mulW sB (by omega), ?_⟩
    refine ⟨_, _, rfl, by omega, sB.mono (by omega), fun t1 u1 q1 H3 l1 s3 e3 => ?_⟩
    walk_at "rd"
    refine ⟨hn.mulW sB (by omega), ?_⟩
    refine ⟨_, _, rfl, by omega, sB.mono (by omega), fun t2 u2 q2 H4 l2 s4 e4 => ?_⟩
    walk_at "rd"
    intro pl H5 s5 _ e5
    have f3 := fm_pos (c := c.fdiv 7) (m := 1000000000000000000000000000000) (by decide)
    have sw : Sz 102 ((c.fdiv 7).fmod 1000000000000000000000000000000 - 100000000000000000000000000000) := Sz.rg (j := 1000000000000000000000000000000) (by omega) (by omega) (by unfold Sz; decide +kernel)
    refine ⟨_, _, rfl, by omega, sB.mono (by omega), fun t3 u3 q3 H6 l3 s6 e6 => ?_⟩
    walk_at "rd"
    intro p7 H7 s7 _ e7
    intro p8 H8 s8 _ e8
    have z4 := s8.trans (Same.refl _)
    have k2 := s3.trans (s4.trans (s5.trans (s6.trans (s7.trans s8))))
    refine ⟨_, s8 _ _ (s7 _ _ (s6 _ _ e5)), _, e8, (by show 5 ≤ sizeLine; decide), fun pf H9 s9 _ e9 => ?_⟩
    have R1 := l1.red hB
    have R2 := l2.red hB
    have R3 := l3.red hB
    refine q pf H9 _ (s1.trans (s2.trans (k2.trans s9))) e9 rfl ?_
    intro v hv
    simp only [List.cons_append, List.nil_append, List.mem_cons, List.not_mem_nil, or_false] at hv
    rcases hv with rfl | rfl | rfl | rfl | rfl
    · exact ⟨p1, n, 1, rfl, s9 _ _ (k2 _ _ e2), by decide, hn.mono (by omega), one.mono (by omega)⟩
    · exact ⟨q1, t1, u1, rfl, s9 _ _ (s8 _ _ (s7 _ _ (s6 _ _ (s5 _ _ (s4 _ _ e3))))), R1.pos, Sz.le R1.tle (sx.mono (by omega)), Sz.le R1.ule (sB.mono (by omega))⟩
    · exact ⟨q2, t2, u2, rfl, s9 _ _ (s8 _ _ (s7 _ _ (s6 _ _ (s5 _ _ e4)))), R2.pos, Sz.le R2.tle (sy.mono (by omega)), Sz.le R2.ule (sB.mono (by omega))⟩
    · exact ⟨q3, t3, u3, rfl, s9 _ _ (s8 _ _ (s7 _ _ e6)), R3.pos, Sz.le R3.tle (sw.mono (by omega)), Sz.le R3.ule (sB.mono (by omega))⟩
    · exact ⟨p7, 0, 1, rfl, s9 _ _ (s8 _ _ e7), by decide, by unfold Sz; decide, one.mono (by omega)⟩
def bnd (n : Int) (c : Bool) : Int := 2 * n + if c then 1 else 0
def spTold (K : PySem.W.Frag) : Sp := fun vs H Q _ => ∃ (n : Int) (c : Bool), vs = [.int (bnd n c), .int n, .bl c] ∧ Q (.bl true) H
theorem ok_l_told (T : Top K mg) : FnOk P w K mg base CX0 2 T.f_l_told T.d_l_told ["_law_bound", "_law_number_here", "_law_closed"] (spTold K) := by
  refine T.F_l_told.ok sc_l_told (fun vs H Q E h => ?_) (fun cdv A outer s H vs Q E hr h => ?_)
  · obtain ⟨n, c, rfl, _⟩ := h; rfl
  · obtain ⟨n, c, rfl, q⟩ := h
    refine ⟨_, (pss_cons (ps_if (pt_not (pt_val (pe_call (ok_l_whole T) (hr.mono (by decide)) rfl T.g_l_whole T.F_l_whole.kp T.b_l_whole .nil pass0 (pa_cons (pe_call (ok_number_of T) (hr.mono (by decide)) rfl T.g_number_of T.F_number_of.kp T.b_number_of .nil pass0 (pa_cons (pv 0) pa_nil)) (pa_cons (pv 1) pa_nil))))) (pss_one (ps_ret pe_bl)) pss_nil)
      (pss_one (ps_ret (pe_and (pe_cmpR op_eq (pe_call (ok_is_open T) (hr.mono (by decide)) rfl T.g_is_open T.F_is_open.kp T.b_is_open .nil pass0 (pa_cons (pv 0) pa_nil)) (pe_not (pv 2)) (nomark _)) (pe_one (pe_callB (call_isiA (K := K) rfl) (by rfl) T.m_isinstance (by decide +kernel) (pa_cons (pe_call (ok_is_open T) (hr.mono (by decide)) rfl T.g_is_open T.F_is_open.kp T.b_is_open .nil pass0 (pa_cons (pv 0) pa_nil)) (pa_cons (pe_bltn (v := .ty "bool") (u := .type "bool") (by rfl) T.m_bool (by decide +kernel) rfl) pa_nil)))))))), ?_⟩
    refine seq_step ?_
    have e1 : bnd n c / 2 = n := by unfold bnd; split <;> omega
    have e2 : decide (bnd n c % 2 = 0) = !c := by
      unfold bnd; cases c
      · exact decide_eq_true (by show (2 * n + 0) % 2 = 0; omega)
      · exact decide_eq_false (by show ¬ (2 * n + 1) % 2 = 0; omega)
    walk_at "rd"
    refine ⟨_, rfl, ?_⟩
    rw [e1]
    walk_at "rd"
    refine ⟨_, _, rfl, ?_⟩
    walk_at "rd"
    refine ⟨_, rfl, ?_⟩
    rw [e2]
    walk_at "rd"
    refine ⟨_, rfl, ?_⟩
    rw [e2]
    refine isi (r := true) (.base (.bl _)) (by decide +kernel) ?_
    exact q
def spLLets (K : PySem.W.Frag) : Sp := fun vs H Q _ => ∃ (n : Int) (c : Bool) (v : V), vs = [.int (bnd n c), .int n, .bl c, v] ∧ Sz 142 n ∧ FracAt 300 H v ∧ ∀ H', Same H H' → Q (.bl true) H'
theorem ok_l_lets (T : Top K mg) : FnOk P w K mg base CX0 3 T.f_l_lets T.d_l_lets ["_law_bound", "_law_number_here", "_law_closed", "_law_value"] (spLLets K) := by
  refine T.F_l_lets.ok sc_l_lets (fun vs H Q E h => ?_) (fun cdv A outer s H vs Q E hr h => ?_)
  · obtain ⟨n, c, v, rfl, _⟩ := h; rfl
  · obtain ⟨n, c, v, rfl, hn, ⟨p, t, u, rfl, hp, hu, st, su⟩, q⟩ := h
    refine ⟨_, (pss_cons (ps_asg (pv 3) (pg_tup (by rfl) (pgs_cons (pg_name (i := 4) sc_l_lets.nd rfl (.inl rfl)) (pgs_cons (pg_name (i := 5) sc_l_lets.nd rfl (.inl rfl)) pgs_nil))))
      (pss_cons (ps_set (i := 6) sc_l_lets.nd rfl (.inl rfl) (pe_or (pe_cmpR op_lt (pv 4) (pe_op op_mulW (pv 1) (pv 5)) (nomark _)) (pe_one (pe_and (pv 2) (pe_one (pe_cmpR op_eq (pv 4) (pe_op op_mulW (pv 1) (pv 5)) (nomark _)))))))
      (pss_cons (ps_if (PW.pt (pw_or (PW.pt (pw_and (pt_cmpR op_isnot_bl (pe_call (ok_lets T) (hr.mono (by decide)) rfl T.g_lets T.F_lets.kp T.b_lets .nil pass0 (pa_cons (pv 0) (pa_cons (pv 3) pa_nil))) pe_bl (nomark _)) (pw_and1 (pt_val (pv 6))))) (pw_or1 (PW.pt (pw_and (pt_cmpR op_isnot_bl (pe_call (ok_lets T) (hr.mono (by decide)) rfl T.g_lets T.F_lets.kp T.b_lets .nil pass0 (pa_cons (pv 0) (pa_cons (pv 3) pa_nil))) pe_bl (nomark _)) (pw_and1 (pt_not (pt_val (pv 6))))))))) (pss_one (ps_ret pe_bl)) pss_nil)
      (pss_cons (ps_set (i := 7) sc_l_lets.nd rfl (.inl rfl) (pe_tupN (pa_cons (pe_op op_sub pe_int (pv 4)) (pa_cons (pv 5) pa_nil))))
      (pss_cons (ps_set (i := 8) sc_l_lets.nd rfl (.inl rfl) (pe_call (ok_lets T) (hr.mono (by decide)) rfl T.g_lets T.F_lets.kp T.b_lets .nil pass0 (pa_cons (pe_call (ok_beyond T) (hr.mono (by decide)) rfl T.g_beyond T.F_beyond.kp T.b_beyond .nil pass0 (pa_cons (pv 0) pa_nil)) (pa_cons (pv 7) pa_nil))))
      (pss_one (ps_ret (pe_and (pe_callB (call_isiA (K := K) rfl) (by rfl) T.m_isinstance (by decide +kernel) (pa_cons (pv 8) (pa_cons (pe_bltn (v := .ty "bool") (u := .type "bool") (by rfl) T.m_bool (by decide +kernel) rfl) pa_nil))) (pe_and (pe_cmpR op_ne (pv 8) (pv 6) (nomark _)) (pe_one (pe_cmpR op_is_bl (pe_call (ok_lets T) (hr.mono (by decide)) rfl T.g_lets T.F_lets.kp T.b_lets .nil pass0 (pa_cons pe_non (pa_cons (pv 3) pa_nil))) pe_bl (nomark _)))))))))))), ?_⟩
    refine seq_step ?_
    have e1 : bnd n c / 2 = n := by unfold bnd; split <;> omega
    have e2 : bnd n c % 2 = 1 ↔ c = true := by
      unfold bnd; cases c
      · exact ⟨fun z => by have : (2 * n + 0) % 2 = 1 := z; omega, fun z => by cases z⟩
      · exact ⟨fun _ => rfl, fun _ => by show (2 * n + 1) % 2 = 1; omega⟩
    have e3 : (1 - bnd n c) / 2 = -n := by unfold bnd; split <;> omega
    have e4 : (1 - bnd n c) % 2 = 1 ↔ c = false := by
      unfold bnd; cases c
      · exact ⟨fun _ => rfl, fun _ => by show (1 - (2 * n + 0)) % 2 = 1; omega⟩
      · exact ⟨fun z => by have : (1 - (2 * n + 1)) % 2 = 1 := z; omega, fun z => by cases z⟩
    obtain ⟨due, hdue⟩ : ∃ due : Bool, due = decide (t < n * u ∨ t = n * u ∧ c = true) := ⟨_, rfl⟩
    have L1 : letsO (some (bnd n c)) t u = due := by
      rw [hdue]; show decide _ = decide _; rw [e1]; exact decide_eq_decide.mpr (by rw [e2])
    have L2' : letsO (some (1 - bnd n c)) (0 - t) u = !due := by
      rw [hdue, ← decide_not]; show decide _ = decide _; rw [e3, Int.neg_mul]
      refine decide_eq_decide.mpr ?_
      rw [e4]
      cases c <;> simp <;> omega
    walk_at "rd"
    refine gTup_of (sqt hp) rfl ?_
    walk_at "rd"
    refine join_if (fun σ' H' => σ' = [some (.int (bnd n c)), some (.int n), some (.bl c), some (.ref p), some (.int t), some (.int u), some (.bl due), none, none] ∧ H' = H) (fun σ' H' h => ?_) (fun j => ?_)
    rotate_left
    · refine seq_step ?_
      walk_at "rd"
      refine ⟨hn.mulW su (by omega), ite_d (fun c1 => ?_) (fun c1 => ?_)⟩
      · exact j _ _ ⟨by rw [hdue, decide_eq_true (.inl c1)], rfl⟩
      · cases c with
        | false => exact j _ _ ⟨by rw [hdue, decide_eq_false (by rintro (z | z); exact c1 z; exact absurd z.2 (by decide))], rfl⟩
        | true => exact ⟨hn.mulW su (by omega), j _ _ ⟨by rw [hdue]; simp [c1], rfl⟩⟩
    obtain ⟨rfl, e5⟩ := h
    rw [e5]
    clear e5 H'
    clear hdue
    have sb : Sz 10000 (bnd n c / 2) := by rw [e1]; exact hn.mono (by omega)
    have sb2 : Sz 10000 ((1 - bnd n c) / 2) := by rw [e3]; exact Sz.le (j := n) (by rw [Int.natAbs_neg]; exact Nat.le_refl _) (hn.mono (by omega))
    have ask : ∀ {Q : VK} {E : XK}, Q (.bl due) H → spLets K [.int (bnd n c), .ref p] H Q E := fun q => ⟨some (bnd n c), t, u, p, rfl, hp, fun _ e => by cases e; exact sb, su.mono (by omega), by rw [L1]; exact q⟩
    refine join_if (fun σ' H' => σ' = [some (.int (bnd n c)), some (.int n), some (.bl c), some (.ref p), some (.int t), some (.int u), some (.bl due), none, none] ∧ H' = H) (fun σ' H' h => ?_) (fun j => ?_)
    rotate_left
    · refine seq_step ?_
      walk_at "rd"
      refine ask ?_
      cases due with
      | true =>
        walk_at "rd"
        refine ask ?_
        walk_at "rd"
        exact j _ _ ⟨rfl, rfl⟩
      | false =>
        walk_at "rd"
        refine ask ?_
        walk_at "rd"
        exact j _ _ ⟨rfl, rfl⟩
    obtain ⟨rfl, e5⟩ := h
    rw [e5]
    clear e5 H'
    refine seq_step ?_
    walk_at "rd"
    intro p2 H2 s2 _ e6
    refine seq_step ?_
    walk_at "rd"
    refine ⟨_, rfl, ?_⟩
    walk_at "rd"
    refine ⟨some _, _, u, p2, rfl, e6, (fun _ e => by cases e; exact sb2), su.mono (by omega), ?_⟩
    rw [L2']
    walk_at "rd"
    refine isi (r := true) (.base (.bl _)) (by decide +kernel) ?_
    walk_at "rd"
    rw [show (!decide ((!due) = due)) = true by cases due <;> rfl]
    walk_at "rd"
    refine ⟨none, t, u, p, rfl, s2 _ _ hp, (fun _ e => by cases e), su.mono (by omega), ?_⟩
    walk_at "rd"
    exact q _ s2
/-- a bound's tuple -/
def BndAt (H : Hp) (v : V) : Prop := ∃ (p : Addr) (n : Int) (c : Bool), v = .ref p ∧ H p = some (.tup [.int (bnd n c), .int n, .bl c]) ∧ Sz 142 n
def spLaw (K : PySem.W.Frag) : Sp := fun vs H Q _ => ∃ (a : Addr) (ns : List Int), vs = [.ref a] ∧ SqL K H a (ns.map V.int) ∧ ns.length ≤ 63 ∧ ∀ H', Q (.bl true) H'
def LInv1 (H2 : Hp) (a lb0 : Addr) (one other : Int) (i : Nat) (σ : L2.St) (H' : Hp) : Prop := ∃ (lb : Addr) (items : List V) (v4 : Option V), σ = [some (.ref a), some (.int one), some (.int other), some (.ref lb), v4, none, none, none, none, none, none, none] ∧ Same H2 H' ∧ H' lb = some (.lst items) ∧ items.length = 2 * i ∧ ∀ v ∈ items, BndAt H' v
theorem BndAt.keep {H H' : Hp} {v : V} (s : Same H H') (h : BndAt H v) : BndAt H' v := by
  obtain ⟨p, n, c, e, e2, r⟩ := h
  exact ⟨p, n, c, e, s _ _ e2, r⟩
theorem ok_law (T : Top K mg) : FnOk P w K mg base CX0 4 T.f_law T.d_law ["_law_script"] (spLaw K) := by
  refine T.F_law.ok sc_law (fun vs H Q E h => ?_) (fun cdv A outer s H vs Q E hr h => ?_)
  · obtain ⟨a, ns, rfl, _⟩ := h; rfl
  · obtain ⟨a, ns, rfl, hS, hlen, q⟩ := h
    refine ⟨_, (pss_cons (ps_set (i := 1) sc_law.nd rfl (.inl rfl) (pe_call (ok_l_number T) (hr.mono (by decide)) rfl T.g_l_number T.F_l_number.kp T.b_l_number .nil pass0 (pa_cons (pe_call (ok_l_cell_at T) (hr.mono (by decide)) rfl T.g_l_cell_at T.F_l_cell_at.kp T.b_l_cell_at .nil pass0 (pa_cons (pv 0) (pa_cons pe_int pa_nil))) pa_nil)))
      (pss_cons (ps_set (i := 2) sc_law.nd rfl (.inl rfl) (pe_ix (ix_listA (K := K) rfl) (pe_lstN (pa_cons (pv 1) (pa_cons (pe_op op_add (pv 1) pe_int) (pa_cons (pe_op op_sub (pv 1) pe_int) (pa_cons (pe_call (ok_l_number T) (hr.mono (by decide)) rfl T.g_l_number T.F_l_number.kp T.b_l_number .nil pass0 (pa_cons (pe_call (ok_l_cell_at T) (hr.mono (by decide)) rfl T.g_l_cell_at T.F_l_cell_at.kp T.b_l_cell_at .nil pass0 (pa_cons (pv 0) (pa_cons pe_int pa_nil))) pa_nil)) pa_nil))))) (pe_op op_modN (pe_call (ok_l_cell_at T) (hr.mono (by decide)) rfl T.g_l_cell_at T.F_l_cell_at.kp T.b_l_cell_at .nil pass0 (pa_cons (pv 0) (pa_cons pe_int pa_nil))) pe_int) (fun _ _ => rfl)))
      (pss_cons (ps_set (i := 3) sc_law.nd rfl (.inl rfl) (pe_lstN pa_nil))
      (pss_cons (ps_for PassesOwn.never rfl (pi_listA (K := K) rfl (pe_lstN (pa_cons (pv 1) (pa_cons (pv 2) pa_nil)))) (pg_name (i := 4) sc_law.nd rfl (.inl rfl)) (pss_cons (ps_if (PW.pt (pw_or (pt_not (pt_val (pe_call (ok_l_whole T) (hr.mono (by decide)) rfl T.g_l_whole T.F_l_whole.kp T.b_l_whole .nil pass0 (pa_cons (pe_call (ok_at_most T) (hr.mono (by decide)) rfl T.g_at_most T.F_at_most.kp T.b_at_most .nil pass0 (pa_cons (pv 4) pa_nil)) (pa_cons (pe_op op_add (pe_op op_mulW pe_int (pv 4)) pe_int) pa_nil))))) (pw_or1 (pt_not (pt_val (pe_call (ok_l_whole T) (hr.mono (by decide)) rfl T.g_l_whole T.F_l_whole.kp T.b_l_whole .nil pass0 (pa_cons (pe_call (ok_below T) (hr.mono (by decide)) rfl T.g_below T.F_below.kp T.b_below .nil pass0 (pa_cons (pv 4) pa_nil)) (pa_cons (pe_op op_mulW pe_int (pv 4)) pa_nil)))))))) (pss_one (ps_ret pe_bl)) pss_nil)
      (pss_one (ps_set (i := 3) sc_law.nd rfl (.inl rfl) (pe_op op_catN (pv 3) (pe_lstN (pa_cons (pe_tupN (pa_cons (pe_op op_add (pe_op op_mulW pe_int (pv 4)) pe_int) (pa_cons (pv 4) (pa_cons pe_bl pa_nil)))) (pa_cons (pe_tupN (pa_cons (pe_op op_mulW pe_int (pv 4)) (pa_cons (pv 4) (pa_cons pe_bl pa_nil)))) pa_nil))))))))
      (pss_cons (ps_for PassesOwn.never rfl (pi_listA (K := K) rfl (pv 3)) (pg_tup (by rfl) (pgs_cons (pg_name (i := 5) sc_law.nd rfl (.inl rfl)) (pgs_cons (pg_name (i := 4) sc_law.nd rfl (.inl rfl)) (pgs_cons (pg_name (i := 6) sc_law.nd rfl (.inl rfl)) pgs_nil)))) (pss_cons (ps_if (pt_not (pt_val (pe_call (ok_l_told T) (hr.mono (by decide)) rfl T.g_l_told T.F_l_told.kp T.b_l_told .nil pass0 (pa_cons (pv 5) (pa_cons (pv 4) (pa_cons (pv 6) pa_nil)))))) (pss_one (ps_ret pe_bl)) pss_nil)
      (pss_cons (ps_for PassesOwn.never rfl (pi_listA (K := K) rfl (pe_op op_catN (pe_call (ok_l_values T) (hr.mono (by decide)) rfl T.g_l_values T.F_l_values.kp T.b_l_values .nil pass0 (pa_cons (pv 4) (pa_cons (pe_call (ok_l_cell_at T) (hr.mono (by decide)) rfl T.g_l_cell_at T.F_l_cell_at.kp T.b_l_cell_at .nil pass0 (pa_cons (pv 0) (pa_cons pe_int pa_nil))) pa_nil))) (pe_call (ok_l_values T) (hr.mono (by decide)) rfl T.g_l_values T.F_l_values.kp T.b_l_values .nil pass0 (pa_cons (pv 1) (pa_cons (pe_call (ok_l_cell_at T) (hr.mono (by decide)) rfl T.g_l_cell_at T.F_l_cell_at.kp T.b_l_cell_at .nil pass0 (pa_cons (pv 0) (pa_cons pe_int pa_nil))) pa_nil))))) (pg_name (i := 7) sc_law.nd rfl (.inl rfl)) (pss_one (ps_if (pt_not (pt_val (pe_call (ok_l_lets T) (hr.mono (by decide)) rfl T.g_l_lets T.F_l_lets.kp T.b_l_lets .nil pass0 (pa_cons (pv 5) (pa_cons (pv 4) (pa_cons (pv 6) (pa_cons (pv 7) pa_nil))))))) (pss_one (ps_ret pe_bl)) pss_nil)))
      (pss_cons (ps_if (PW.pt (pw_or (pt_not (pt_val (pe_call (ok_l_whole T) (hr.mono (by decide)) rfl T.g_l_whole T.F_l_whole.kp T.b_l_whole .nil pass0 (pa_cons (pe_call (ok_narrower T) (hr.mono (by decide)) rfl T.g_narrower T.F_narrower.kp T.b_narrower .nil pass0 (pa_cons (pv 5) (pa_cons pe_non pa_nil))) (pa_cons (pv 5) pa_nil))))) (pw_or1 (pt_not (pt_val (pe_call (ok_l_whole T) (hr.mono (by decide)) rfl T.g_l_whole T.F_l_whole.kp T.b_l_whole .nil pass0 (pa_cons (pe_call (ok_narrower T) (hr.mono (by decide)) rfl T.g_narrower T.F_narrower.kp T.b_narrower .nil pass0 (pa_cons pe_non (pa_cons (pv 5) pa_nil))) (pa_cons (pv 5) pa_nil)))))))) (pss_one (ps_ret pe_bl)) pss_nil)
      (pss_one (ps_for PassesOwn.never rfl (pi_listA (K := K) rfl (pv 3)) (pg_tup (by rfl) (pgs_cons (pg_name (i := 8) sc_law.nd rfl (.inl rfl)) (pgs_cons (pg_name (i := 9) sc_law.nd rfl (.inl rfl)) (pgs_cons (pg_name (i := 10) sc_law.nd rfl (.inl rfl)) pgs_nil)))) (pss_cons (ps_set (i := 11) sc_law.nd rfl (.inl rfl) (pv 5))
      (pss_cons (ps_if (PW.pt (pw_or (pt_cmpR op_lt (pv 9) (pv 4) (nomark _)) (pw_or1 (PW.pt (pw_and (pt_cmpR op_eq (pv 9) (pv 4) (nomark _)) (pw_and1 (pt_not (pt_val (pv 10))))))))) (pss_one (ps_set (i := 11) sc_law.nd rfl (.inl rfl) (pv 8))) pss_nil)
      (pss_one (ps_if (pt_not (pt_val (pe_call (ok_l_whole T) (hr.mono (by decide)) rfl T.g_l_whole T.F_l_whole.kp T.b_l_whole .nil pass0 (pa_cons (pe_call (ok_narrower T) (hr.mono (by decide)) rfl T.g_narrower T.F_narrower.kp T.b_narrower .nil pass0 (pa_cons (pv 5) (pa_cons (pv 8) pa_nil))) (pa_cons (pv 11) pa_nil))))) (pss_one (ps_ret pe_bl)) pss_nil))))))))))
      (pss_one (ps_ret (pe_cmpR op_isN (pe_call (ok_narrower T) (hr.mono (by decide)) rfl T.g_narrower T.F_narrower.kp T.b_narrower .nil pass0 (pa_cons pe_non (pa_cons pe_non pa_nil))) pe_non (nomark _))))))))), ?_⟩
    refine seq_step ?_
    walk_at "rd"
    refine ⟨a, ns, 0, rfl, hS, by decide, _, rfl, fun one H1 so s1 => ?_⟩
    refine seq_step ?_
    walk_at "rd"
    refine ⟨a, ns, 1, rfl, s1.seq hS, by decide, _, rfl, fun o2 H2 so2 s2 => ?_⟩
    walk_at "rd"
    intro p3 H3 s3 _ e3
    have s03 := s1.trans (s2.trans s3)
    refine ⟨a, ns, 2, rfl, s03.seq hS, by decide, ?_⟩
    generalize ns.getD (Int.toNat 2) 0 = c2
    walk_at "rd"
    have f := fm_pos (c := c2) (m := 4) (by decide)
    obtain ⟨other, ho, sot⟩ : ∃ x : Int, ([.int one, .int (one + 1), .int (one - 1), .int o2] : List V)[(c2.fmod 4).toNat]? = some (.int x) ∧ Sz 142 x := by
      have s1 : Sz 2 1 := by unfold Sz; decide
      have : c2.fmod 4 = 0 ∨ c2.fmod 4 = 1 ∨ c2.fmod 4 = 2 ∨ c2.fmod 4 = 3 := by omega
      rcases this with e | e | e | e <;> rw [e]
      · exact ⟨_, rfl, so.mono (by omega)⟩
      · exact ⟨_, rfl, so.add s1 (by omega) (by omega)⟩
      · exact ⟨_, rfl, so.sub s1 (by omega) (by omega)⟩
      · exact ⟨_, rfl, so2.mono (by omega)⟩
    refine ix_l (.of e3) f.1 ho ?_
    walk_at "rd"
    refine seq_step ?_
    walk_at "rd"
    intro lb0 H4 s4 _ e4
    refine seq_step ?_
    refine ⟨.int one, rfl, .int other, rfl, (by show 2 ≤ sizeLine; decide), fun pp H5 s5 _ e5 => ⟨pp, rfl, ⟨_, .of e5⟩, ?_⟩⟩
    have two : Sz 2 2 := by unfold Sz; decide
    refine for_list (K := K) (a := pp) (xs := [.int one, .int other]) (LInv1 H5 a lb0 one other)
      ⟨lb0, [], none, rfl, Same.refl _, s5 _ _ e4, rfl, fun v h => by cases h⟩ (fun i σ H' _ ⟨_, _, _, _, s, _⟩ => s.seq (.of e5)) ?_ ?_
    · rintro i v σ H6 hi ⟨lb, items, v4, rfl, s6, el, hil, hit⟩
      have hi2 : i < 2 := by simpa using (List.getElem?_eq_some_iff.mp hi).1
      obtain ⟨n, rfl, hn⟩ : ∃ n, v = .int n ∧ Sz 142 n := by
        have := List.mem_of_getElem? hi
        simp only [List.mem_cons, List.not_mem_nil, or_false] at this
        rcases this with rfl | rfl
        · exact ⟨_, rfl, so.mono (by omega)⟩
        · exact ⟨_, rfl, sot⟩
      walk_at "rd"
      refine seq_step ?_
      walk_at "rd"
      refine ⟨n, rfl, hn.mono (by omega), ?_⟩
      walk_at "rd"
      refine ⟨two.mulW hn (by omega), _, _, rfl, ?_⟩
      walk_at "rd"
      refine ⟨n, rfl, hn.mono (by omega), ?_⟩
      walk_at "rd"
      refine ⟨two.mulW hn (by omega), _, _, rfl, ?_⟩
      walk_at "rd"
      refine ⟨two.mulW hn (by omega), fun p7 H7 s7 _ e7 => ⟨two.mulW hn (by omega), fun p8 H8 s8 _ e8 p9 H9 s9 _ e9 => ?_⟩⟩
      refine ⟨_, s9 _ _ (s8 _ _ (s7 _ _ el)), _, e9, Nat.le_of_lt (small1000 (by simp; omega)), fun pn H10 s10 _ e10 => ?_⟩
      refine ⟨pn, _, _, rfl, s6.trans (s7.trans (s8.trans (s9.trans s10))), e10, by simp; omega, ?_⟩
      intro v hv
      rcases List.mem_append.mp hv with h | h
      · exact (hit v h).keep (s7.trans (s8.trans (s9.trans s10)))
      · simp only [List.mem_cons, List.not_mem_nil, or_false] at h
        rcases h with rfl | rfl
        · exact ⟨p7, n, true, rfl, s10 _ _ (s9 _ _ (s8 _ _ e7)), hn⟩
        · exact ⟨p8, n, false, rfl, by have := s10 _ _ (s9 _ _ e8); simpa [bnd] using this, hn⟩
    · rintro σ H6 ⟨lb, items, v4, rfl, s6, el, hil, hit⟩
      have hS6 : SqL K H6 a (ns.map V.int) := s6.seq (s5.seq (s4.seq (s03.seq hS)))
      clear e5 e4 e3 s6 s5 s4 s03
      refine seq_step ?_
      refine seq_step ?_
      refine ⟨.ref lb, rfl, lb, rfl, ⟨_, .of el⟩, ?_⟩
      refine for_list (K := K) (a := lb) (xs := items) (fun i σ H' => ∃ v4 v5 v6 v7 v8 v9 v10 v11, σ = [some (.ref a), some (.int one), some (.int other), some (.ref lb), v4, v5, v6, v7, v8, v9, v10, v11] ∧ Same H6 H')
        ⟨_, _, _, _, _, _, _, _, rfl, Same.refl _⟩ (fun i σ H' _ ⟨_, _, _, _, _, _, _, _, _, s⟩ => s.seq (.of el)) ?_ ?_
      · rintro i v σ H7 hi ⟨v4, v5, v6, v7, v8, v9, v10, v11, rfl, s7⟩
        obtain ⟨pb, n, c, rfl, eb, hn⟩ := hit v (List.mem_of_getElem? hi)
        refine gTup_of (sqt (s7 _ _ eb)) rfl ?_
        walk_at "rd"
        refine seq_step ?_
        walk_at "rd"
        refine ⟨n, c, rfl, ?_⟩
        walk_at "rd"
        refine seq_step ?_
        refine for_li ?_
        walk_at "rd"
        refine ⟨a, ns, 3, rfl, s7.seq hS6, by decide, ?_⟩
        refine ⟨n, _, rfl, hn, fun q1 H8 its1 s8 e8 l8 f8 => ?_⟩
        walk_at "rd"
        refine ⟨a, ns, 4, rfl, s8.seq (s7.seq hS6), by decide, ?_⟩
        refine ⟨one, _, rfl, so.mono (by omega), fun q2 H9 its2 s9 e9 l9 f9 => ?_⟩
        walk_at "rd"
        refine ⟨_, s9 _ _ e8, _, e9, Nat.le_of_lt (small1000 (by omega)), fun q3 H10 s10 _ e10 => ?_⟩
        refine forL_by (xs := its1 ++ its2) (fun i σ' H' => ∃ v7, σ' = [some (.ref a), some (.int one), some (.int other), some (.ref lb), some (.int n), some (.int (bnd n c)), some (.bl c), v7, v8, v9, v10, v11] ∧ Same H10 H')
          ⟨_, rfl, Same.refl _⟩ (fun i σ H' _ ⟨_, _, s⟩ => s.seq (.of e10)) ?_ ?_
        · rintro j x σ' H11 hj ⟨v7', rfl, s11⟩
          have fx : FracAt 300 H11 x := by
            rcases List.mem_append.mp (List.mem_of_getElem? hj) with h | h
            · exact (f8 x h).keep (s9.trans (s10.trans s11))
            · exact (f9 x h).keep (s10.trans s11)
          walk_at "rd"
          refine ⟨n, c, x, rfl, hn, fx, fun H12 s12 => ?_⟩
          walk_at "rd"
          exact s11.trans s12
        · rintro σ' H11 ⟨v7', rfl, s11⟩
          have s711 : Same H6 H11 := s7.trans (s8.trans (s9.trans (s10.trans s11)))
          clear s7 s8 s9 s10 s11 e8 e9 e10 f8 f9 l8 l9
          refine seq_step ?_
          walk_at "rd"
          refine seq_step ?_
          walk_at "rd"
          refine ⟨some _, none, rfl, ?_⟩
          walk_at "rd"
          refine ⟨_, _, rfl, ?_⟩
          walk_at "rd"
          refine ⟨none, some _, rfl, ?_⟩
          walk_at "rd"
          refine ⟨_, _, rfl, ?_⟩
          walk_at "rd"
          refine for_li ?_
          walk_at "rd"
          refine forL_by (xs := items) (fun i σ' H' => ∃ v8 v9 v10 v11, σ' = [some (.ref a), some (.int one), some (.int other), some (.ref lb), some (.int n), some (.int (bnd n c)), some (.bl c), v7', v8, v9, v10, v11] ∧ Same H6 H')
            ⟨_, _, _, _, rfl, s711⟩ (fun i σ H' _ ⟨_, _, _, _, _, s⟩ => s.seq (.of el)) ?_ ?_
          · rintro j x σ' H12 hj ⟨v8', v9', v10', v11', rfl, s12⟩
            obtain ⟨pb2, n2, c2, rfl, eb2, hn2⟩ := hit x (List.mem_of_getElem? hj)
            refine gTup_of (sqt (s12 _ _ eb2)) rfl ?_
            walk_at "rd"
            refine seq_step ?_
            walk_at "rd"
            have fin : ∀ m : Int, (if bnd n2 c2 < bnd n c then bnd n2 c2 else bnd n c) = m → spNarrower K [.int (bnd n c), .int (bnd n2 c2)] H12 (fun x H1 => spWhole2 K [x, .int m] H1 (fun x H1 => ∃ c, x = V.bl c ∧ if (!c) = true then Q (V.bl false) H1 else Same H6 H1) E0) E0 := by
              intro m hm
              refine ⟨some _, some _, rfl, _, m, rfl, ?_⟩
              rw [hm]
              walk_at "rd"
              exact s12
            refine seq_step ?_
            walk_at "rd"
            have b1 : 2 * n ≤ bnd n c ∧ bnd n c ≤ 2 * n + 1 := by unfold bnd; split <;> omega
            have b2 : 2 * n2 ≤ bnd n2 c2 ∧ bnd n2 c2 ≤ 2 * n2 + 1 := by unfold bnd; split <;> omega
            refine ite_d (fun z => fin _ (by rw [if_pos (show bnd n2 c2 < bnd n c by omega)])) (fun z => ite_d (fun z2 => ?_) (fun z2 => fin _ (by rw [if_neg (show ¬ bnd n2 c2 < bnd n c by omega)])))
            subst z2
            cases c2 with
            | false =>
              have b3 : bnd n2 false = 2 * n2 := by simp [bnd]
              refine iteT (fin _ ?_)
              by_cases z3 : bnd n2 false < bnd n2 c
              · rw [if_pos z3]
              · rw [if_neg z3]; omega
            | true =>
              have b3 : bnd n2 true = 2 * n2 + 1 := by simp [bnd]
              exact iteF (fin _ (by rw [if_neg (show ¬ bnd n2 true < bnd n2 c by omega)]))
          · rintro σ' H12 ⟨v8', v9', v10', v11', rfl, s12⟩
            walk_at "rd"
            exact s12
      · rintro σ H7 ⟨v4, v5, v6, v7, v8, v9, v10, v11, rfl, s7⟩
        walk_at "rd"
        refine ⟨none, none, rfl, ?_⟩
        walk_at "rd"
        exact q _
end
/-! ### what the top has left -/
theorem all_mk {P : Program} {w : World} {K : PySem.W.Frag} {h : Heap} {mg : Str → Option Value} {fa : Addr} (X : K.In h) (G : h.Ns mainGlobals mg) (hfa : mg "law" = some (.ref fa))
    {f0 : Addr} {od0 an0 : Option Addr} {sl0 : Array (Option Value)} {oc0 kV0 dc0 pm0 cd0 ct0 : Value}
    {f1 : Addr} {od1 an1 : Option Addr} {sl1 : Array (Option Value)} {oc1 kV1 dc1 pm1 cd1 ct1 : Value}
    {f2 : Addr} {od2 an2 : Option Addr} {sl2 : Array (Option Value)} {oc2 kV2 dc2 pm2 cd2 ct2 : Value}
    {f3 : Addr} {od3 an3 : Option Addr} {sl3 : Array (Option Value)} {oc3 kV3 dc3 pm3 cd3 ct3 : Value}
    {f4 : Addr} {od4 an4 : Option Addr} {sl4 : Array (Option Value)} {oc4 kV4 dc4 pm4 cd4 ct4 : Value}
    {f5 : Addr} {od5 an5 : Option Addr} {sl5 : Array (Option Value)} {oc5 kV5 dc5 pm5 cd5 ct5 : Value}
    {f6 : Addr} {od6 an6 : Option Addr} {sl6 : Array (Option Value)} {oc6 kV6 dc6 pm6 cd6 ct6 : Value}
    {f7 : Addr} {od7 an7 : Option Addr} {sl7 : Array (Option Value)} {oc7 kV7 dc7 pm7 cd7 ct7 : Value}
    {f8 : Addr} {od8 an8 : Option Addr} {sl8 : Array (Option Value)} {oc8 kV8 dc8 pm8 cd8 ct8 : Value}
    {f9 : Addr} {od9 an9 : Option Addr} {sl9 : Array (Option Value)} {oc9 kV9 dc9 pm9 cd9 ct9 : Value}
    {f10 : Addr} {od10 an10 : Option Addr} {sl10 : Array (Option Value)} {oc10 kV10 dc10 pm10 cd10 ct10 : Value}
    {f11 : Addr} {od11 an11 : Option Addr} {sl11 : Array (Option Value)} {oc11 kV11 dc11 pm11 cd11 ct11 : Value}
    {f12 : Addr} {od12 an12 : Option Addr} {sl12 : Array (Option Value)} {oc12 kV12 dc12 pm12 cd12 ct12 : Value}
    {f13 : Addr} {od13 an13 : Option Addr} {sl13 : Array (Option Value)} {oc13 kV13 dc13 pm13 cd13 ct13 : Value}
    {f14 : Addr} {od14 an14 : Option Addr} {sl14 : Array (Option Value)} {oc14 kV14 dc14 pm14 cd14 ct14 : Value}
    {f15 : Addr} {od15 an15 : Option Addr} {sl15 : Array (Option Value)} {oc15 kV15 dc15 pm15 cd15 ct15 : Value}
    (a0 : PySem.W.nsIn K mainGlobals "at_most" = some (some (.ref f0)))
    (l0 : K.lookup f0 = some ⟨oc0, od0, .func (PySem.W.fnOf "at_most" "at_most" (defArgs s_at_most) (defBody s_at_most) (defScope s_at_most) .none kV0 dc0 pm0 an0 cd0 ct0), sl0⟩)
    (c0 : PySem.W.codeIn K cd0 "at_most" = true)
    (k0 : PySem.W.keepIn K (.ref f0) = true)
    (a1 : PySem.W.nsIn K mainGlobals "below" = some (some (.ref f1)))
    (l1 : K.lookup f1 = some ⟨oc1, od1, .func (PySem.W.fnOf "below" "below" (defArgs s_below) (defBody s_below) (defScope s_below) .none kV1 dc1 pm1 an1 cd1 ct1), sl1⟩)
    (c1 : PySem.W.codeIn K cd1 "below" = true)
    (k1 : PySem.W.keepIn K (.ref f1) = true)
    (a2 : PySem.W.nsIn K mainGlobals "number_of" = some (some (.ref f2)))
    (l2 : K.lookup f2 = some ⟨oc2, od2, .func (PySem.W.fnOf "number_of" "number_of" (defArgs s_number_of) (defBody s_number_of) (defScope s_number_of) .none kV2 dc2 pm2 an2 cd2 ct2), sl2⟩)
    (c2 : PySem.W.codeIn K cd2 "number_of" = true)
    (k2 : PySem.W.keepIn K (.ref f2) = true)
    (a3 : PySem.W.nsIn K mainGlobals "is_open" = some (some (.ref f3)))
    (l3 : K.lookup f3 = some ⟨oc3, od3, .func (PySem.W.fnOf "is_open" "is_open" (defArgs s_is_open) (defBody s_is_open) (defScope s_is_open) .none kV3 dc3 pm3 an3 cd3 ct3), sl3⟩)
    (c3 : PySem.W.codeIn K cd3 "is_open" = true)
    (k3 : PySem.W.keepIn K (.ref f3) = true)
    (a4 : PySem.W.nsIn K mainGlobals "narrower" = some (some (.ref f4)))
    (l4 : K.lookup f4 = some ⟨oc4, od4, .func (PySem.W.fnOf "narrower" "narrower" (defArgs s_narrower) (defBody s_narrower) (defScope s_narrower) .none kV4 dc4 pm4 an4 cd4 ct4), sl4⟩)
    (c4 : PySem.W.codeIn K cd4 "narrower" = true)
    (k4 : PySem.W.keepIn K (.ref f4) = true)
    (a5 : PySem.W.nsIn K mainGlobals "lets" = some (some (.ref f5)))
    (l5 : K.lookup f5 = some ⟨oc5, od5, .func (PySem.W.fnOf "lets" "lets" (defArgs s_lets) (defBody s_lets) (defScope s_lets) .none kV5 dc5 pm5 an5 cd5 ct5), sl5⟩)
    (c5 : PySem.W.codeIn K cd5 "lets" = true)
    (k5 : PySem.W.keepIn K (.ref f5) = true)
    (a6 : PySem.W.nsIn K mainGlobals "beyond" = some (some (.ref f6)))
    (l6 : K.lookup f6 = some ⟨oc6, od6, .func (PySem.W.fnOf "beyond" "beyond" (defArgs s_beyond) (defBody s_beyond) (defScope s_beyond) .none kV6 dc6 pm6 an6 cd6 ct6), sl6⟩)
    (c6 : PySem.W.codeIn K cd6 "beyond" = true)
    (k6 : PySem.W.keepIn K (.ref f6) = true)
    (a7 : PySem.W.nsIn K mainGlobals "_law_cell_at" = some (some (.ref f7)))
    (l7 : K.lookup f7 = some ⟨oc7, od7, .func (PySem.W.fnOf "_law_cell_at" "_law_cell_at" (defArgs s_l_cell_at) (defBody s_l_cell_at) (defScope s_l_cell_at) .none kV7 dc7 pm7 an7 cd7 ct7), sl7⟩)
    (c7 : PySem.W.codeIn K cd7 "_law_cell_at" = true)
    (k7 : PySem.W.keepIn K (.ref f7) = true)
    (a8 : PySem.W.nsIn K mainGlobals "_law_whole" = some (some (.ref f8)))
    (l8 : K.lookup f8 = some ⟨oc8, od8, .func (PySem.W.fnOf "_law_whole" "_law_whole" (defArgs s_l_whole) (defBody s_l_whole) (defScope s_l_whole) .none kV8 dc8 pm8 an8 cd8 ct8), sl8⟩)
    (c8 : PySem.W.codeIn K cd8 "_law_whole" = true)
    (k8 : PySem.W.keepIn K (.ref f8) = true)
    (a9 : PySem.W.nsIn K mainGlobals "_law_number" = some (some (.ref f9)))
    (l9 : K.lookup f9 = some ⟨oc9, od9, .func (PySem.W.fnOf "_law_number" "_law_number" (defArgs s_l_number) (defBody s_l_number) (defScope s_l_number) .none kV9 dc9 pm9 an9 cd9 ct9), sl9⟩)
    (c9 : PySem.W.codeIn K cd9 "_law_number" = true)
    (k9 : PySem.W.keepIn K (.ref f9) = true)
    (a10 : PySem.W.nsIn K mainGlobals "_law_divisor" = some (some (.ref f10)))
    (l10 : K.lookup f10 = some ⟨oc10, od10, .func (PySem.W.fnOf "_law_divisor" "_law_divisor" (defArgs s_l_divisor) (defBody s_l_divisor) (defScope s_l_divisor) .none kV10 dc10 pm10 an10 cd10 ct10), sl10⟩)
    (c10 : PySem.W.codeIn K cd10 "_law_divisor" = true)
    (k10 : PySem.W.keepIn K (.ref f10) = true)
    (a11 : PySem.W.nsIn K mainGlobals "_law_lowest" = some (some (.ref f11)))
    (l11 : K.lookup f11 = some ⟨oc11, od11, .func (PySem.W.fnOf "_law_lowest" "_law_lowest" (defArgs s_l_lowest) (defBody s_l_lowest) (defScope s_l_lowest) .none kV11 dc11 pm11 an11 cd11 ct11), sl11⟩)
    (c11 : PySem.W.codeIn K cd11 "_law_lowest" = true)
    (k11 : PySem.W.keepIn K (.ref f11) = true)
    (a12 : PySem.W.nsIn K mainGlobals "_law_values" = some (some (.ref f12)))
    (l12 : K.lookup f12 = some ⟨oc12, od12, .func (PySem.W.fnOf "_law_values" "_law_values" (defArgs s_l_values) (defBody s_l_values) (defScope s_l_values) .none kV12 dc12 pm12 an12 cd12 ct12), sl12⟩)
    (c12 : PySem.W.codeIn K cd12 "_law_values" = true)
    (k12 : PySem.W.keepIn K (.ref f12) = true)
    (a13 : PySem.W.nsIn K mainGlobals "_law_told" = some (some (.ref f13)))
    (l13 : K.lookup f13 = some ⟨oc13, od13, .func (PySem.W.fnOf "_law_told" "_law_told" (defArgs s_l_told) (defBody s_l_told) (defScope s_l_told) .none kV13 dc13 pm13 an13 cd13 ct13), sl13⟩)
    (c13 : PySem.W.codeIn K cd13 "_law_told" = true)
    (k13 : PySem.W.keepIn K (.ref f13) = true)
    (a14 : PySem.W.nsIn K mainGlobals "_law_lets" = some (some (.ref f14)))
    (l14 : K.lookup f14 = some ⟨oc14, od14, .func (PySem.W.fnOf "_law_lets" "_law_lets" (defArgs s_l_lets) (defBody s_l_lets) (defScope s_l_lets) .none kV14 dc14 pm14 an14 cd14 ct14), sl14⟩)
    (c14 : PySem.W.codeIn K cd14 "_law_lets" = true)
    (k14 : PySem.W.keepIn K (.ref f14) = true)
    (a15 : PySem.W.nsIn K mainGlobals "law" = some (some (.ref f15)))
    (l15 : K.lookup f15 = some ⟨oc15, od15, .func (PySem.W.fnOf "law" "law" (defArgs s_law) (defBody s_law) (defScope s_law) .none kV15 dc15 pm15 an15 cd15 ct15), sl15⟩)
    (c15 : PySem.W.codeIn K cd15 "law" = true)
    (k15 : PySem.W.keepIn K (.ref f15) = true)
    (zabs : PySem.W.nsIn K mainGlobals "abs" = some none)
    (zbool : PySem.W.nsIn K mainGlobals "bool" = some none)
    (zint : PySem.W.nsIn K mainGlobals "int" = some none)
    (zisinstance : PySem.W.nsIn K mainGlobals "isinstance" = some none)
    (zlen : PySem.W.nsIn K mainGlobals "len" = some none)
    (zmin : PySem.W.nsIn K mainGlobals "min" = some none) :
    ∃ fd : FuncData, (∀ (s : Shared) (v : Value), BindsTo s fd ⟨[v], []⟩ [("_law_script", v)]) ∧ ∀ base : Heap, K.In base → base.Ns mainGlobals mg → FnOk P w K mg base CX0 4 fa fd ["_law_script"] (spLaw K) := by
  have e := hfa.symm.trans (PySem.W.mg_of X G a15)
  cases e
  let T : Top K mg := {
      f_at_most := f0,
      d_at_most := _,
      F_at_most := fun_mk (st := s_at_most) l0 c0 k0,
      g_at_most := PySem.W.mg_of X G a0,
      b_at_most := (fun_mk (st := s_at_most) l0 c0 k0).binds (ps := ["number"]) fun _ _ _ _ _ _ us hl => match us, hl with | [_], _ => rfl,
      f_below := f1,
      d_below := _,
      F_below := fun_mk (st := s_below) l1 c1 k1,
      g_below := PySem.W.mg_of X G a1,
      b_below := (fun_mk (st := s_below) l1 c1 k1).binds (ps := ["number"]) fun _ _ _ _ _ _ us hl => match us, hl with | [_], _ => rfl,
      f_number_of := f2,
      d_number_of := _,
      F_number_of := fun_mk (st := s_number_of) l2 c2 k2,
      g_number_of := PySem.W.mg_of X G a2,
      b_number_of := (fun_mk (st := s_number_of) l2 c2 k2).binds (ps := ["bound"]) fun _ _ _ _ _ _ us hl => match us, hl with | [_], _ => rfl,
      f_is_open := f3,
      d_is_open := _,
      F_is_open := fun_mk (st := s_is_open) l3 c3 k3,
      g_is_open := PySem.W.mg_of X G a3,
      b_is_open := (fun_mk (st := s_is_open) l3 c3 k3).binds (ps := ["bound"]) fun _ _ _ _ _ _ us hl => match us, hl with | [_], _ => rfl,
      f_narrower := f4,
      d_narrower := _,
      F_narrower := fun_mk (st := s_narrower) l4 c4 k4,
      g_narrower := PySem.W.mg_of X G a4,
      b_narrower := (fun_mk (st := s_narrower) l4 c4 k4).binds (ps := ["one", "other"]) fun _ _ _ _ _ _ us hl => match us, hl with | [_, _], _ => rfl,
      f_lets := f5,
      d_lets := _,
      F_lets := fun_mk (st := s_lets) l5 c5 k5,
      g_lets := PySem.W.mg_of X G a5,
      b_lets := (fun_mk (st := s_lets) l5 c5 k5).binds (ps := ["bound", "value"]) fun _ _ _ _ _ _ us hl => match us, hl with | [_, _], _ => rfl,
      f_beyond := f6,
      d_beyond := _,
      F_beyond := fun_mk (st := s_beyond) l6 c6 k6,
      g_beyond := PySem.W.mg_of X G a6,
      b_beyond := (fun_mk (st := s_beyond) l6 c6 k6).binds (ps := ["bound"]) fun _ _ _ _ _ _ us hl => match us, hl with | [_], _ => rfl,
      f_l_cell_at := f7,
      d_l_cell_at := _,
      F_l_cell_at := fun_mk (st := s_l_cell_at) l7 c7 k7,
      g_l_cell_at := PySem.W.mg_of X G a7,
      b_l_cell_at := (fun_mk (st := s_l_cell_at) l7 c7 k7).binds (ps := ["_law_script", "_law_k"]) fun _ _ _ _ _ _ us hl => match us, hl with | [_, _], _ => rfl,
      f_l_whole := f8,
      d_l_whole := _,
      F_l_whole := fun_mk (st := s_l_whole) l8 c8 k8,
      g_l_whole := PySem.W.mg_of X G a8,
      b_l_whole := (fun_mk (st := s_l_whole) l8 c8 k8).binds (ps := ["_law_found", "_law_due"]) fun _ _ _ _ _ _ us hl => match us, hl with | [_, _], _ => rfl,
      f_l_number := f9,
      d_l_number := _,
      F_l_number := fun_mk (st := s_l_number) l9 c9 k9,
      g_l_number := PySem.W.mg_of X G a9,
      b_l_number := (fun_mk (st := s_l_number) l9 c9 k9).binds (ps := ["_law_cell"]) fun _ _ _ _ _ _ us hl => match us, hl with | [_], _ => rfl,
      f_l_divisor := f10,
      d_l_divisor := _,
      F_l_divisor := fun_mk (st := s_l_divisor) l10 c10 k10,
      g_l_divisor := PySem.W.mg_of X G a10,
      b_l_divisor := (fun_mk (st := s_l_divisor) l10 c10 k10).binds (ps := ["_law_one", "_law_other"]) fun _ _ _ _ _ _ us hl => match us, hl with | [_, _], _ => rfl,
      f_l_lowest := f11,
      d_l_lowest := _,
      F_l_lowest := fun_mk (st := s_l_lowest) l11 c11 k11,
      g_l_lowest := PySem.W.mg_of X G a11,
      b_l_lowest := (fun_mk (st := s_l_lowest) l11 c11 k11).binds (ps := ["_law_top", "_law_bottom"]) fun _ _ _ _ _ _ us hl => match us, hl with | [_, _], _ => rfl,
      f_l_values := f12,
      d_l_values := _,
      F_l_values := fun_mk (st := s_l_values) l12 c12 k12,
      g_l_values := PySem.W.mg_of X G a12,
      b_l_values := (fun_mk (st := s_l_values) l12 c12 k12).binds (ps := ["_law_number_here", "_law_cell"]) fun _ _ _ _ _ _ us hl => match us, hl with | [_, _], _ => rfl,
      f_l_told := f13,
      d_l_told := _,
      F_l_told := fun_mk (st := s_l_told) l13 c13 k13,
      g_l_told := PySem.W.mg_of X G a13,
      b_l_told := (fun_mk (st := s_l_told) l13 c13 k13).binds (ps := ["_law_bound", "_law_number_here", "_law_closed"]) fun _ _ _ _ _ _ us hl => match us, hl with | [_, _, _], _ => rfl,
      f_l_lets := f14,
      d_l_lets := _,
      F_l_lets := fun_mk (st := s_l_lets) l14 c14 k14,
      g_l_lets := PySem.W.mg_of X G a14,
      b_l_lets := (fun_mk (st := s_l_lets) l14 c14 k14).binds (ps := ["_law_bound", "_law_number_here", "_law_closed", "_law_value"]) fun _ _ _ _ _ _ us hl => match us, hl with | [_, _, _, _], _ => rfl,
      f_law := fa,
      d_law := _,
      F_law := fun_mk (st := s_law) l15 c15 k15,
      g_law := PySem.W.mg_of X G a15,
      b_law := (fun_mk (st := s_law) l15 c15 k15).binds (ps := ["_law_script"]) fun _ _ _ _ _ _ us hl => match us, hl with | [_], _ => rfl,
      m_abs := PySem.W.mg_none_of X G zabs,
      m_bool := PySem.W.mg_none_of X G zbool,
      m_int := PySem.W.mg_none_of X G zint,
      m_isinstance := PySem.W.mg_none_of X G zisinstance,
      m_len := PySem.W.mg_none_of X G zlen,
      m_min := PySem.W.mg_none_of X G zmin }
  exact ⟨_, fun s v => .of_eq rfl, fun base _ _ => ok_law T⟩
end ZW
open PySem PySem.W PyProof.Rows
set_option maxRecDepth 100000 in
set_option maxHeartbeats 0 in
theorem PySem.Challenge.cw_zonewalk_k04_bounds_holds : PySem.Challenge.rw_zonewalk_k04_bounds.Holds := by
  w_on; o_law; k_head; (case hw => w_witness2)
  k_fill
  refine L2.walk_of (l := PySem.Challenge.rw_zonewalk_k04_bounds) (n := 63) (k := 4) (x := "_law_script") (CX := fun _ => L2.CX0) (sp := fun w => ZW.spLaw _) rfl (by decide) rfl ⟨rfl, by decide, by decide⟩ (fun w h Y => PySem.W.kIn_of Y) ?F (fun _ _ a ns hl _ hS => ⟨a, ns, rfl, hS, hl, fun _ => rfl⟩) (fun _ _ _ _ _ h => h)
  case F =>
    intro w mg fa h KX G hmg
    refine' ZW.all_mk KX G hmg ?a0 ?l0 ?c0 ?k0 ?a1 ?l1 ?c1 ?k1 ?a2 ?l2 ?c2 ?k2 ?a3 ?l3 ?c3 ?k3 ?a4 ?l4 ?c4 ?k4 ?a5 ?l5 ?c5 ?k5 ?a6 ?l6 ?c6 ?k6 ?a7 ?l7 ?c7 ?k7 ?a8 ?l8 ?c8 ?k8 ?a9 ?l9 ?c9 ?k9 ?a10 ?l10 ?c10 ?k10 ?a11 ?l11 ?c11 ?k11 ?a12 ?l12 ?c12 ?k12 ?a13 ?l13 ?c13 ?k13 ?a14 ?l14 ?c14 ?k14 ?a15 ?l15 ?c15 ?k15 ?zabs ?zbool ?zint ?zisinstance ?zlen ?zmin
    (case a0 => first | k_is | k_exc | rfl)
    (case l0 => first | k_is | k_exc | rfl)
    (case c0 => first | k_is | k_exc | rfl)
    (case k0 => first | k_is | k_exc | rfl)
    (case a1 => first | k_is | k_exc | rfl)
    (case l1 => first | k_is | k_exc | rfl)
    (case c1 => first | k_is | k_exc | rfl)
    (case k1 => first | k_is | k_exc | rfl)
    (case a2 => first | k_is | k_exc | rfl)
    (case l2 => first | k_is | k_exc | rfl)
    (case c2 => first | k_is | k_exc | rfl)
    (case k2 => first | k_is | k_exc | rfl)
    (case a3 => first | k_is | k_exc | rfl)
    (case l3 => first | k_is | k_exc | rfl)
    (case c3 => first | k_is | k_exc | rfl)
    (case k3 => first | k_is | k_exc | rfl)
    (case a4 => first | k_is | k_exc | rfl)
    (case l4 => first | k_is | k_exc | rfl)
    (case c4 => first | k_is | k_exc | rfl)
    (case k4 => first | k_is | k_exc | rfl)
    (case a5 => first | k_is | k_exc | rfl)
    (case l5 => first | k_is | k_exc | rfl)
    (case c5 => first | k_is | k_exc | rfl)
    (case k5 => first | k_is | k_exc | rfl)
    (case a6 => first | k_is | k_exc | rfl)
    (case l6 => first | k_is | k_exc | rfl)
    (case c6 => first | k_is | k_exc | rfl)
    (case k6 => first | k_is | k_exc | rfl)
    (case a7 => first | k_is | k_exc | rfl)
    (case l7 => first | k_is | k_exc | rfl)
    (case c7 => first | k_is | k_exc | rfl)
    (case k7 => first | k_is | k_exc | rfl)
    (case a8 => first | k_is | k_exc | rfl)
    (case l8 => first | k_is | k_exc | rfl)
    (case c8 => first | k_is | k_exc | rfl)
    (case k8 => first | k_is | k_exc | rfl)
    (case a9 => first | k_is | k_exc | rfl)
    (case l9 => first | k_is | k_exc | rfl)
    (case c9 => first | k_is | k_exc | rfl)
    (case k9 => first | k_is | k_exc | rfl)
    (case a10 => first | k_is | k_exc | rfl)
    (case l10 => first | k_is | k_exc | rfl)
    (case c10 => first | k_is | k_exc | rfl)
    (case k10 => first | k_is | k_exc | rfl)
    (case a11 => first | k_is | k_exc | rfl)
    (case l11 => first | k_is | k_exc | rfl)
    (case c11 => first | k_is | k_exc | rfl)
    (case k11 => first | k_is | k_exc | rfl)
    (case a12 => first | k_is | k_exc | rfl)
    (case l12 => first | k_is | k_exc | rfl)
    (case c12 => first | k_is | k_exc | rfl)
    (case k12 => first | k_is | k_exc | rfl)
    (case a13 => first | k_is | k_exc | rfl)
    (case l13 => first | k_is | k_exc | rfl)
    (case c13 => first | k_is | k_exc | rfl)
    (case k13 => first | k_is | k_exc | rfl)
    (case a14 => first | k_is | k_exc | rfl)
    (case l14 => first | k_is | k_exc | rfl)
    (case c14 => first | k_is | k_exc | rfl)
    (case k14 => first | k_is | k_exc | rfl)
    (case a15 => first | k_is | k_exc | rfl)
    (case l15 => first | k_is | k_exc | rfl)
    (case c15 => first | k_is | k_exc | rfl)
    (case k15 => first | k_is | k_exc | rfl)
    (case zabs => first | k_is | k_exc | rfl)
    (case zbool => first | k_is | k_exc | rfl)
    (case zint => first | k_is | k_exc | rfl)
    (case zisinstance => first | k_is | k_exc | rfl)
    (case zlen => first | k_is | k_exc | rfl)
    (case zmin => first | k_is | k_exc | rfl)
