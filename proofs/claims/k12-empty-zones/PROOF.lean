import PyProof.Rows.All
import Wide.All
import OpenK.AllK
import Wide.FinOn
import HandS.ForMost
import HandS.ForExc
import HandS.Wide
import HandS.WideBits
import HandS.IsInst
import HandS.TupLe
import KE.BitLaws
import HandS.Defaults
import HandS.ExcIs
import HandS.Conv
import PySem.Challenge.RW_zonewalk_k12_empty_zones
set_option Elab.async false
set_option linter.all false
set_option maxRecDepth 100000
set_option maxHeartbeats 4000000

namespace ZW
theorem fmod_gcd (a b : Int) : Int.gcd b (a.fmod b) = Int.gcd a b := by
  rw [Int.fmod_def, Int.gcd_comm a b]
  exact Int.gcd_sub_mul_left_right b a (a.fdiv b)
theorem fmod_lt (a b : Int) (hb : b ≠ 0) : (a.fmod b).natAbs < b.natAbs := by
  rcases Int.lt_or_lt_of_ne hb with h | h
  · have h1 := Int.fmod_def a b
    have e : a.fmod b = -((-a).fmod (-b)) := by simp
    rw [e, Int.fmod_eq_emod_of_nonneg _ (by omega)]
    have := Int.emod_lt_of_pos (-a) (b := -b) (by omega)
    have := Int.emod_nonneg (-a) (b := -b) (by omega)
    omega
  · rw [Int.fmod_eq_emod_of_nonneg a (by omega)]
    have := Int.emod_lt_of_pos a h
    have := Int.emod_nonneg a hb
    omega
theorem gcd_pos_right {a b : Int} (hb : b ≠ 0) : (0 : Int) < Int.gcd a b := by
  have := Int.gcd_pos_of_ne_zero_right a hb
  omega
/-- both divided by their gcd -/
structure Low (a b t u : Int) : Prop where
  pos : 0 < b → 0 < u
  top : t * Int.gcd a b = a
  bot : u * Int.gcd a b = b
  eq : t * b = a * u
  one : Int.gcd t u = 1
theorem low_of {a b : Int} (hb : b ≠ 0) : Low a b (a.fdiv (Int.gcd a b)) (b.fdiv (Int.gcd a b)) := by
  have g := gcd_pos_right (a := a) hb
  have d1 : (Int.gcd a b : Int) ∣ a := Int.gcd_dvd_left ..
  have d2 : (Int.gcd a b : Int) ∣ b := Int.gcd_dvd_right ..
  rw [Int.fdiv_eq_ediv_of_nonneg _ (by omega), Int.fdiv_eq_ediv_of_nonneg _ (by omega)]
  have e1 := Int.ediv_mul_cancel d1
  have e2 := Int.ediv_mul_cancel d2
  generalize hx : a / (Int.gcd a b : Int) = x at *
  generalize hy : b / (Int.gcd a b : Int) = y at *
  generalize hg : (Int.gcd a b : Int) = G at *
  refine ⟨fun h => ?_, ?_, ?_, ?_, ?_⟩
  · rcases Int.lt_or_le 0 y with z | z
    · exact z
    · have := Int.mul_nonpos_of_nonpos_of_nonneg z (Int.le_of_lt g)
      omega
  · rw [hg]; exact e1
  · rw [hg]; exact e2
  · rw [← e2, ← e1]; rw [Int.mul_comm y G, ← Int.mul_assoc]
  · have q : Int.gcd (x * G) (y * G) = Int.gcd x y * G.natAbs := Int.gcd_mul_right ..
    rw [e1, e2] at q
    have hG : G.natAbs = Int.gcd a b := by omega
    rw [hG] at q
    have gp : 0 < Int.gcd a b := by omega
    exact Nat.eq_of_mul_eq_mul_right gp (by rw [Nat.one_mul]; exact q.symm)
theorem quo_le {t G a : Int} (h : t * G = a) (hG : 0 < G) : t.natAbs ≤ a.natAbs := by
  rw [← h, Int.natAbs_mul]
  exact Nat.le_mul_of_pos_right _ (by omega)
/-- the fraction t / u, in lowest terms, that stands so to a and b -/
structure Red (a b t u : Int) : Prop where
  pos : 0 < u
  eq : t * b = a * u
  one : Int.gcd t u = 1
  tle : t.natAbs ≤ a.natAbs
  ule : u.natAbs ≤ b.natAbs
theorem Low.red {a b t u : Int} (l : Low a b t u) (h : 0 < b) : Red a b t u := ⟨l.pos h, l.eq, l.one, quo_le l.top (gcd_pos_right (by omega)), quo_le l.bot (gcd_pos_right (by omega))⟩
theorem red_neg {a b : Int} (hb : b < 0) : Red a b (a.fdiv (0 - (Int.gcd a b : Int))) (b.fdiv (0 - (Int.gcd a b : Int))) := by
  have l := low_of (a := a) (b := b) (by omega)
  have g := gcd_pos_right (a := a) (b := b) (by omega)
  have k : ∀ x t : Int, t * (Int.gcd a b : Int) = x → x.fdiv (0 - (Int.gcd a b : Int)) = - t := by
    intro x t e
    rw [Int.zero_sub, show x = (-(Int.gcd a b : Int)) * (-t) by rw [Int.neg_mul_neg, Int.mul_comm, e], Int.mul_fdiv_cancel_left _ (by omega)]
  rw [k _ _ l.top, k _ _ l.bot]
  have hu : b.fdiv (Int.gcd a b) < 0 := by
    rcases Int.lt_or_le (b.fdiv (Int.gcd a b)) 0 with z | z
    · exact z
    · have := Int.mul_nonneg z (Int.le_of_lt g); rw [l.bot] at this; omega
  refine ⟨by omega, by rw [Int.neg_mul, Int.mul_neg, l.eq], by rw [Int.gcd_neg, Int.neg_gcd]; exact l.one, by rw [Int.natAbs_neg]; exact quo_le l.top g, by rw [Int.natAbs_neg]; exact quo_le l.bot g⟩
theorem dvd_cop {u t v : Int} (h : u ∣ t * v) (c : Int.gcd t u = 1) : u ∣ v := by
  have h1 : u.natAbs ∣ t.natAbs * v.natAbs := by rw [← Int.natAbs_mul]; exact Int.natAbs_dvd_natAbs.mpr h
  have h2 : Nat.Coprime u.natAbs t.natAbs := by rw [Nat.coprime_comm]; exact c
  exact Int.natAbs_dvd_natAbs.mp (h2.dvd_of_dvd_mul_left h1)
theorem cop_uniq {t u t' u' : Int} (hu : 0 < u) (hu' : 0 < u') (c : Int.gcd t u = 1) (c' : Int.gcd t' u' = 1) (e : t * u' = t' * u) : t = t' ∧ u = u' := by
  have d1 : u ∣ u' := by
    have : u ∣ t * u' := ⟨t', by rw [e, Int.mul_comm]⟩
    exact dvd_cop this c
  have d2 : u' ∣ u := by
    have : u' ∣ t' * u := ⟨t, by rw [← e, Int.mul_comm]⟩
    exact dvd_cop this c'
  have eu : u = u' := by
    have h1 := Int.le_of_dvd hu' d1
    have h2 := Int.le_of_dvd hu d2
    omega
  subst eu
  exact ⟨Int.eq_of_mul_eq_mul_right (by omega) e, rfl⟩
theorem Red.uniq {a b t u t' u' : Int} (hb : b ≠ 0) (h : Red a b t u) (k : Red a b t' u') : t = t' ∧ u = u' := by
  refine cop_uniq h.pos k.pos h.one k.one ?_
  have : t * u' * b = t' * u * b := by
    rw [Int.mul_right_comm, h.eq, Int.mul_right_comm t', k.eq]; ac_rfl
  exact Int.eq_of_mul_eq_mul_right hb this
/-- fractions that stand so to the same two numbers, told by cross products -/
theorem red_cross {a b a' b' t u t' u' : Int} (hb : b ≠ 0) (hb' : b' ≠ 0) (x : a * b' = a' * b) (h : Red a b t u) (k : Red a' b' t' u') : t = t' ∧ u = u' := by
  refine cop_uniq h.pos k.pos h.one k.one ?_
  have e : t * u' * (b * b') = t' * u * (b * b') := by
    rw [show t * u' * (b * b') = (t * b) * (u' * b') by ac_rfl, show t' * u * (b * b') = (t' * b') * (u * b) by ac_rfl, h.eq, k.eq,
      show a * u * (u' * b') = (a * b') * (u * u') by ac_rfl, show a' * u' * (u * b) = (a' * b) * (u * u') by ac_rfl, x]
  exact Int.eq_of_mul_eq_mul_right (Int.mul_ne_zero hb hb') e
theorem gcd_le_size {a b : Int} (hb : b ≠ 0) : (Int.gcd a b) ≤ b.natAbs := by
  have := Int.gcd_dvd_right (a := a) (b := b)
  exact Nat.le_of_dvd (by omega) (by simpa using Int.natAbs_dvd_natAbs.mpr this)
theorem log_lt {i : Int} {n m : Nat} (h : i.natAbs < 2 ^ n) (h0 : 0 < n) (hm : n ≤ m) : i.natAbs.log2 < m := by
  by_cases e : i.natAbs = 0
  · rw [e]; simp; omega
  · exact Nat.lt_of_lt_of_le ((Nat.log2_lt e).mpr h) hm
open PySem PySem.Spec PyProof.Rows L2
theorem upd_keep {H : Hp} {p : Addr} {o : HO} (h : H p = none) : Same H (upd H p o) := fun b x e => by
  rw [upd_ne (ne_of_none e h)]
  exact e
theorem Same.to {H H' : Hp} (s : Same H H') {a : Addr} {o : HO} (h : H a = some o) : H' a = some o := s a o h
theorem seq_step {t u : TS} {D : Ends} {σ : L2.St} {H : Hp} (h : t { D with nx := u D } σ H) : tSeq t u D σ H := h
theorem ite_d {c : Prop} [Decidable c] {A B : Prop} (h1 : c → A) (h2 : ¬ c → B) : if decide c = true then A else B := by
  by_cases h : c
  · rw [if_pos (decide_eq_true h)]; exact h1 h
  · rw [if_neg (by rw [decide_eq_false h]; exact Bool.false_ne_true)]; exact h2 h
theorem shl1 {i : Int} {n : Nat} (h : i.natAbs < 2 ^ n) (hn : n ≤ 100000) : CShl i 1 := shl_ok (j := 1) h (by omega)
theorem one_ne : ((1 : Int) = 0) = False := by simp
theorem pow_lit (i : Int) : i ^ (1 : Nat) = i := Int.pow_one i
theorem cxK {CX : CXT} {P : Program} {w : World} {K : PySem.W.Frag} {mg : Str → Option Value} {base : Heap} {N : List Str} {qual : Str} {scope : Scope} {f : Addr} {cd : Value} {A : Around} {outer : List Env} {s : Shared} {H : Hp} {E : XK} :
    (cxOf CX P w K mg base N qual scope f cd A outer s H E).K = K := rfl
theorem ix_l {K : PySem.W.Frag} {H : Hp} {p : Addr} {xs : List V} {i : Int} {v : V} {Q : VK} (h : SqL K H p xs) (hi : 0 ≤ i) (hv : xs[i.toNat]? = some v) (q : Q v H) : rIxL K (.ref p) (.int i) H Q :=
  ⟨p, xs, i, v, rfl, rfl, h, at_of (j := i.toNat) (by omega) hv, q⟩
theorem ix_t {K : PySem.W.Frag} {H : Hp} {p : Addr} {xs : List V} {i : Int} {v : V} {Q : VK} (h : SqT K H p xs) (hi : 0 ≤ i) (hv : xs[i.toNat]? = some v) (q : Q v H) : rIxT K (.ref p) (.int i) H Q :=
  ⟨p, xs, i, v, rfl, rfl, h, at_of (j := i.toNat) (by omega) hv, q⟩
theorem sqL_upd {K : PySem.W.Frag} {H : Hp} {p : Addr} {xs : List V} : SqL K (upd H p (.lst xs)) p xs := SqL.of upd_same
theorem fm2 (c : Int) : c.fmod 2 = 0 ∨ c.fmod 2 = 1 := by
  rw [Int.fmod_eq_emod_of_nonneg _ (by omega)]; omega
theorem fm_pos {c m : Int} (h : 0 < m) : 0 ≤ c.fmod m ∧ c.fmod m < m := by
  rw [Int.fmod_eq_emod_of_nonneg _ (by omega)]
  exact ⟨Int.emod_nonneg _ (by omega), Int.emod_lt_of_pos _ h⟩
/-- a number of at most n bits -/
def Sz (n : Nat) (i : Int) : Prop := i.natAbs < 2 ^ n
theorem Sz.mono {i : Int} {a c : Nat} (ha : Sz a i) (h : a ≤ c) : Sz c i := Nat.lt_of_lt_of_le ha (Nat.pow_le_pow_right (by decide) h)
theorem Sz.mulW {i j : Int} {a b : Nat} (ha : Sz a i) (hb : Sz b j) (h : a + b ≤ 999998) : CMulW i j :=
  wide_mul (a := a + 1) (b := b + 1) (Sz.mono ha (by omega)) (Sz.mono hb (by omega)) (by omega) (by omega) (by omega)
theorem Sz.mul {i j : Int} {a b c : Nat} (ha : Sz a i) (hb : Sz b j) (h : a + b ≤ c) : Sz c (i * j) := Sz.mono (wide_lt ha hb) h
theorem Sz.add {i j : Int} {a b c : Nat} (ha : Sz a i) (hb : Sz b j) (h1 : a + 1 ≤ c) (h2 : b + 1 ≤ c) : Sz c (i + j) := by
  have x : Sz (c - 1) i := ha.mono (by omega)
  have y : Sz (c - 1) j := hb.mono (by omega)
  have e : (2 : Nat) ^ c = 2 ^ (c - 1) * 2 := by rw [← Nat.pow_succ]; congr 1; omega
  unfold Sz at x y ⊢
  omega
theorem Sz.sub {i j : Int} {a b c : Nat} (ha : Sz a i) (hb : Sz b j) (h1 : a + 1 ≤ c) (h2 : b + 1 ≤ c) : Sz c (i - j) := by
  have x : Sz (c - 1) i := ha.mono (by omega)
  have y : Sz (c - 1) j := hb.mono (by omega)
  have e : (2 : Nat) ^ c = 2 ^ (c - 1) * 2 := by rw [← Nat.pow_succ]; congr 1; omega
  unfold Sz at x y ⊢
  omega
theorem Sz.le {i j : Int} {a : Nat} (h : i.natAbs ≤ j.natAbs) (hj : Sz a j) : Sz a i := Nat.lt_of_le_of_lt h hj
theorem Sz.nn {i j : Int} {a : Nat} (h0 : 0 ≤ i) (h : i ≤ j) (hj : Sz a j) : Sz a i := Sz.le (by omega) hj
theorem Sz.rg {i j : Int} {a : Nat} (h0 : -j ≤ i) (h : i ≤ j) (hj : Sz a j) : Sz a i := Sz.le (by omega) hj
/-- a divisor that the rule takes -/
def DivOk (j : Int) : Prop := j ≠ 0 ∧ j.natAbs.log2 < 9000
theorem DivOk.of {j : Int} {n : Nat} (h : j ≠ 0) (hs : Sz n j) (hn : n ≤ 8000) : DivOk j := ⟨h, log_lt (n := 8000) (hs.mono hn) (by omega) (by omega)⟩
theorem sz_line {n : Nat} (h : n ≤ 1000) : (n ≤ sizeLine) = True := eq_true (Nat.le_of_lt (small1000 h))
section
variable {X : Cx}
theorem op_fdivZ : OpR X (binaryOp .FloorDiv) (rI (fun _ j => DivOk j) fun i j => .int (i.fdiv j)) := opI fun _ _ _ _ _ _ _ hc q =>
  floordiv_int hc.1 q (.inl (PyProof.noPylong_of_log2 hc.2))
end
theorem gTup_of {K : PySem.W.Frag} {a : Addr} {xs : List V} {n : Nat} {t : TGs} {σ : L2.St} {H : Hp} {Q : L2.St → Hp → Prop} (h : SqT K H a xs) (hn : xs.length = n) (q : t xs σ H Q) : gTup K n t (.ref a) σ H Q := ⟨a, xs, rfl, h, hn, q⟩
theorem sqt {K : PySem.W.Frag} {H : Hp} {a : Addr} {xs : List V} (h : H a = some (.tup xs)) : SqT K H a xs := SqT.of h
theorem Low.top_le {a b t u : Int} (l : Low a b t u) (hb : b ≠ 0) : t.natAbs ≤ a.natAbs := quo_le l.top (gcd_pos_right hb)
theorem Low.bot_le {a b t u : Int} (l : Low a b t u) (hb : b ≠ 0) : u.natAbs ≤ b.natAbs := quo_le l.bot (gcd_pos_right hb)
theorem ite_and {a : Bool} {c : Prop} [Decidable c] {A R : Prop} (h1 : a = true → c → A) (h2 : ¬ (a = true ∧ c) → R) : if a = true then (if decide c = true then A else R) else R := by
  by_cases ha : a = true
  · rw [if_pos ha]; exact ite_d (h1 ha) fun z => h2 fun q => z q.2
  · rw [if_neg ha]; exact h2 fun q => ha q.1
section
variable {X : Cx} {e : Expr} {es : List Expr} {t t' : TE} {ta : TA} {pos : Pos}
theorem pe_imp (h : PE X e t) (k : ∀ σ H Q, t' σ H Q → t σ H Q) : PE X e t' := ⟨fun pins s σ H Q I q => h.run pins s σ H Q I (k σ H Q q)⟩
def tWk (ta : TA) : TA := fun σ H Q => ∃ Q0 : List V → Hp → Prop, ta σ H Q0 ∧ ∀ xs H1, Q0 xs H1 → Q xs H1
theorem pa_wk (h : PA X es ta) : PA X es (tWk ta) := ⟨fun pos pins s σ H _ I ⟨Q0, a, k⟩ => thn (h.run pos pins s σ H Q0 I a) fun _ _ ⟨xs, H1, I1, r, q⟩ => ⟨xs, H1, I1, r, k _ _ q⟩⟩
/-- a new tuple, a new list: nothing but what is tracked is told of the heap behind -/
def tTupN (ta : TA) : TE := fun σ H Q => ta σ H fun xs H1 => xs.length ≤ sizeLine ∧ ∀ p H2, Same H1 H2 → H1 p = none → H2 p = some (.tup xs) → Q (.ref p) H2
def tLstN (ta : TA) : TE := fun σ H Q => ta σ H fun xs H1 => xs.length ≤ sizeLine ∧ ∀ p H2, Same H1 H2 → H1 p = none → H2 p = some (.lst xs) → Q (.ref p) H2
theorem pe_tupN {x1} (h : PA X es ta) : PE X (.Tuple es x1 pos) (tTupN ta) :=
  pe_imp (pe_tup (pa_wk h)) fun _ _ _ q => ⟨_, q, fun _ _ ⟨z, k⟩ => ⟨z, fun p hp => k p _ (upd_keep hp) hp upd_same⟩⟩
theorem pe_lstN (h : PA X es ta) : PE X (.List es pos) (tLstN ta) :=
  pe_imp (pe_lst (pa_wk h)) fun _ _ _ q => ⟨_, q, fun _ _ ⟨z, k⟩ => ⟨z, fun p hp => k p _ (upd_keep hp) hp upd_same⟩⟩
def rSlN (K : PySem.W.Frag) : V → Option Int → Option Int → Hp → VK → Prop := fun x lo hi H Q => ∃ a xs, x = .ref a ∧ SqL K H a xs ∧ ∀ p H2, Same H H2 → H p = none → H2 p = some (.lst (cutV xs lo hi)) → Q (.ref p) H2
theorem sl_listN : SlR X (rSlN X.K) := fun pins s σ H x v vl vu lo hi sl Q I rx hs p1 p2 ⟨a, xs, e, h, q⟩ =>
  sl_list pins s σ H x v vl vu lo hi sl Q I rx hs p1 p2 ⟨a, xs, e, h, fun p hp => q p _ (upd_keep hp) hp upd_same⟩
theorem op_imp {f : Value → Value → Sem Value} {r r' : R2} (h : OpR X f r) (k : ∀ x y H Q, r' x y H Q → r x y H Q) : OpR X f r' := fun pins s σ H x y v u Q I rx ry q => h pins s σ H x y v u Q I rx ry (k x y H Q q)
def rCatN : R2 := fun x y H Q => ∃ l b xs zs, x = .ref l ∧ y = .ref b ∧ H l = some (.lst xs) ∧ H b = some (.lst zs) ∧ xs.length + zs.length ≤ sizeLine ∧ ∀ p H2, Same H H2 → H p = none → H2 p = some (.lst (xs ++ zs)) → Q (.ref p) H2
theorem op_catN : OpR X (binaryOp .Add) rCatN := op_imp op_cat fun _ _ _ _ ⟨l, b, xs, zs, e1, e2, h1, h2, z, q⟩ => ⟨l, b, xs, zs, e1, e2, h1, h2, z, fun p hp => q p _ (upd_keep hp) hp upd_same⟩
theorem call_imp {f : Value} {r r' : List V → Hp → VK → Prop} (h : CallR X f r) (k : ∀ x H Q, r' x H Q → r x H Q) : CallR X f r' := fun pins s σ H xs us Q I r q => h pins s σ H xs us Q I r (k xs H Q q)
def rListN (K : PySem.W.Frag) : List V → Hp → VK → Prop := fun xs H Q => ∃ p ys, xs = [.ref p] ∧ (SqL K H p ys ∨ SqT K H p ys) ∧ ∀ l H2, Same H H2 → H l = none → H2 l = some (.lst ys) → Q (.ref l) H2
theorem call_listN : CallR X (.type "list") (rListN X.K) := call_imp call_list_of fun _ _ _ ⟨p, ys, e, h, q⟩ => ⟨p, ys, e, h, fun l hl => q l _ (upd_keep hl) hl upd_same⟩
def rIntB : List V → Hp → VK → Prop := fun xs H Q => ∃ k, xs = [.bl k] ∧ Q (.int (if k then 1 else 0)) H
theorem call_intB : CallR X (.type "int") rIntB := call_imp call_int1 fun _ _ _ h => .inr h
end
theorem nat_and_mod (x y : Nat) : (x &&& y) % 2 = (x % 2) * (y % 2) := by
  have h := Nat.and_mod_two_pow (a := x) (b := y) (n := 1)
  have h1 : x % 2 = 0 ∨ x % 2 = 1 := by omega
  have h2 : y % 2 = 0 ∨ y % 2 = 1 := by omega
  rw [Nat.pow_one] at h
  rcases h1 with e | e <;> rcases h2 with f | f <;> rw [h, e, f] <;> rfl
theorem nat_or_mod (x y : Nat) : (x ||| y) % 2 = if x % 2 = 0 ∧ y % 2 = 0 then 0 else 1 := by
  have h := Nat.or_mod_two_pow (a := x) (b := y) (n := 1)
  have h1 : x % 2 = 0 ∨ x % 2 = 1 := by omega
  have h2 : y % 2 = 0 ∨ y % 2 = 1 := by omega
  rw [Nat.pow_one] at h
  rcases h1 with e | e <;> rcases h2 with f | f <;> rw [h, e, f] <;> rfl
theorem and_bit (a b : Int) : Builtin.bitAnd a b % 2 = (if a % 2 = 1 ∧ b % 2 = 1 then 1 else 0) := by
  have key : ∀ x y : Nat, x % 2 = 0 ∨ x % 2 = 1 := by omega
  have nn : ∀ x, Builtin.bitNot x = - x - 1 := by intro x; unfold Builtin.bitNot; omega
  by_cases ha : 0 ≤ a <;> by_cases hb : 0 ≤ b
  · rw [bitAnd_pp ha hb]
    have h := nat_and_mod a.toNat b.toNat
    have h1 : a.toNat % 2 = 0 ∨ a.toNat % 2 = 1 := by omega
    have h2 : b.toNat % 2 = 0 ∨ b.toNat % 2 = 1 := by omega
    rcases h1 with e | e <;> rcases h2 with f | f <;> rw [e, f] at h <;> split <;> omega
  · rw [bitAnd_pn ha hb, nn]
    have h := nat_and_mod a.toNat (-b-1).toNat
    have h1 : a.toNat % 2 = 0 ∨ a.toNat % 2 = 1 := by omega
    have h2 : (-b-1).toNat % 2 = 0 ∨ (-b-1).toNat % 2 = 1 := by omega
    rcases h1 with e | e <;> rcases h2 with f | f <;> rw [e, f] at h <;> split <;> omega
  · rw [bitAnd_np ha hb, nn]
    have h := nat_and_mod b.toNat (-a-1).toNat
    have h1 : b.toNat % 2 = 0 ∨ b.toNat % 2 = 1 := by omega
    have h2 : (-a-1).toNat % 2 = 0 ∨ (-a-1).toNat % 2 = 1 := by omega
    rcases h1 with e | e <;> rcases h2 with f | f <;> rw [e, f] at h <;> split <;> omega
  · rw [bitAnd_nn ha hb, nn, nn, nn]
    have h := nat_or_mod (-a-1).toNat (-b-1).toNat
    have h1 : (-a-1).toNat % 2 = 0 ∨ (-a-1).toNat % 2 = 1 := by omega
    have h2 : (-b-1).toNat % 2 = 0 ∨ (-b-1).toNat % 2 = 1 := by omega
    rcases h1 with e | e <;> rcases h2 with f | f <;> rw [e, f] at h <;> split at h <;> split <;> omega

theorem bit_sum (a b : Int) : Builtin.bitOr ((a / 2 + b / 2) * 2) (Builtin.bitAnd (Builtin.bitAnd a b) 1) = 2 * (a / 2 + b / 2) + (if a % 2 = 1 ∧ b % 2 = 1 then 1 else 0) := by
  rw [bitAnd_m1, and_bit, bitOr_and]
  split
  · rw [bitAnd_m1]; omega
  · rw [bitAnd_zero]; omega
theorem isi {K : PySem.W.Frag} {H : Hp} {x : V} {a b : String} {r : Bool} {Q : VK} (h : TyX K H x (.type a)) (k : kitB a b = some r) (q : Q (.bl r) H) : rIsi K [x, .ty b] H Q := ⟨x, .ty b, _, _, r, rfl, .ty b, h, kit_ty k, q⟩
theorem if_t {b : Bool} {A B : Prop} (h : b = true) (q : A) : if b = true then A else B := by rw [if_pos h]; exact q
theorem if_f {b : Bool} {A B : Prop} (h : b = false) (q : B) : if b = true then A else B := by rw [h, if_neg Bool.false_ne_true]; exact q
/-- a bound, as a value -/
def oV : Option Int → V
  | none => .non
  | some i => .int i
theorem oV_none : oV none = .non := rfl
theorem oV_some (i : Int) : oV (some i) = .int i := rfl
theorem funD_mk {K : PySem.W.Frag} {x qual : Str} {st : Stmt} {f t : Addr} {oc kV doc pm cdv ct : Value} {od an : Option Addr} {osl : Array (Option Value)} {o : Obj} {n : Nat} {its : List Value} {dvs : List V}
    (l : K.lookup f = some ⟨oc, od, .func (PySem.W.fnOf x qual (defArgs st) (defBody st) (defScope st) (.ref t) kV doc pm an cdv ct), osl⟩) (c : PySem.W.codeIn K cdv qual = true) (k : PySem.W.keepIn K (.ref f) = true)
    (lt : K.lookup t = some o) (ld : o.data = .seq its.toArray n) (hv : Vals dvs its) (hd : dvs ≠ []) : FunD K x qual (defArgs st) (defBody st) (defScope st) dvs [] f (PySem.W.fnOf x qual (defArgs st) (defBody st) (defScope st) (.ref t) kV doc pm an cdv ct) :=
  ⟨⟨oc, od, .ref t, kV, doc, pm, an, cdv, ct, osl, rfl, l, c, .inr ⟨hd, t, o, its, n, rfl, lt, ld, hv⟩, .inl rfl⟩, k⟩
section
variable {X : Cx} {D a : Addr} {cls : Value} {d : Option Addr} {oe : Obj} {pn : List (Addr × Obj)}
/-- isinstance of the caught error: its class is told in the reading -/
theorem call_isE2 (hz : Zc cls d oe) (hf : ∃ vs, oe.data = .fields vs) : CallR (X.suite a ((a, oe) :: pn)) (.builtin "isinstance") (fun xs H Q => ∃ D, cls = .ref D ∧ d = none ∧ ExcC X.K D ∧ rIsE X.K D a xs H Q) := by
  intro pins s σ H xs us Q I r ⟨D, h1, h2, C, h⟩
  subst h1; subst h2
  exact call_isE C hz hf pins s σ H xs us Q I r h
end
theorem cut_int {ns : List Int} {lo hi : Option Int} {i : Nat} {x : V} (h : (cutV (ns.map V.int) lo hi)[i]? = some x) : ∃ z, x = .int z := by
  have m := List.mem_of_mem_drop (List.mem_of_mem_take (List.mem_of_getElem? h))
  obtain ⟨z, _, e⟩ := List.mem_map.mp m
  exact ⟨z, e.symm⟩
def kinds : List String := ["int", "bool", "NoneType", "str", "list", "tuple", "dict"]
/-- whether a thing is a whole number -/
def spWhole (K : PySem.W.Frag) : Sp := fun vs H Q _ => ∃ (x : V) (t : String), vs = [x] ∧ TyX K H x (.type t) ∧ t ∈ kinds ∧ Q (.bl (decide (t = "int"))) H
/-- two numbers in lowest terms, as a new tuple -/
def LowT (a b : Int) (H : Hp) (Q : VK) : Prop := ∀ (t u : Int) (p : Addr) (H' : Hp), Low a b t u → Same H H' → H' p = some (.tup [.int t, .int u]) → Q (.ref p) H'
/-- two numbers in lowest terms with a bottom above 0, as a new tuple -/
def RedT (a b : Int) (H : Hp) (Q : VK) : Prop := ∀ (t u : Int) (p : Addr) (H' : Hp), Red a b t u → Same H H' → H' p = some (.tup [.int t, .int u]) → Q (.ref p) H'
theorem ncast (n : Nat) : ((no_index (OfNat.ofNat n) : Nat) : Int) = OfNat.ofNat n := rfl
theorem exm_two {K : PySem.W.Frag} {C : Addr} {cls : Value} {b : Bool} (h1 : PySem.W.subIn K (.ref C) (.type "BaseException") = some true) (h2 : PySem.W.hasDictIn K C = true) (h3 : PySem.W.typeIn K (.ref C) = some (.type "type")) (h4 : PySem.W.subIn K cls (.ref C) = some b) : PySem.W.exmOne K cls (.ref C) = some b := PySem.W.exm_ref h1 h2 h3 h4
/-- isinstance(e, c) of a caught error -/
theorem isE {K : PySem.W.Frag} {D a : Addr} {c : V} {cv : Value} {b : Bool} {H : Hp} {Q : VK} (X : ExcC K D) (hc : ∀ u, RelV c u → u = cv) (k : PySem.W.kitOne K (.ref D) cv = some b) (q : Q (.bl b) H) : ∃ D', Value.ref D = Value.ref D' ∧ (Option.none : Option Addr) = Option.none ∧ ExcC K D' ∧ rIsE K D' a [.ref a, c] H Q :=
  ⟨D, rfl, rfl, X, c, cv, b, rfl, hc, k, q⟩
theorem tyx_same {K : PySem.W.Frag} {H H2 : Hp} (s : Same H H2) {x : V} {t : Value} (h : TyX K H x t) : TyX K H2 x t := by
  cases h with
  | base b =>
    refine .base ?_
    cases b with
    | non => exact .non
    | bl y => exact .bl y
    | int i => exact .int i
    | str y => exact .str y
    | flt y => exact .flt y
    | lst e => exact .lst (s _ _ e)
    | frz e => exact .frz (s _ _ e)
    | tup e => exact .tup (s _ _ e)
    | dK e => exact .dK (s _ _ e)
    | dT e => exact .dT (s _ _ e)
    | ins e cl a b c d => exact .ins (s _ _ e) cl a b c d
  | byt b => exact .byt b
  | set e => exact .set (s _ _ e)
  | kList e c => exact .kList e c
  | kTuple e c => exact .kTuple e c
  | kDict e c => exact .kDict e c
  | fTuple e => exact .fTuple (s _ _ e)
  | fDict e => exact .fDict (s _ _ e)
/-- what stands behind a statement is shown once, for all its ways -/
theorem join_if {t R : TS} {D : Ends} {σ : L2.St} {H : Hp} (P : L2.St → Hp → Prop) (h2 : ∀ σ' H', P σ' H' → R D σ' H') (h1 : (∀ σ' H', P σ' H' → R D σ' H') → tSeq t R D σ H) : tSeq t R D σ H := h1 h2
theorem red_zero {b t u : Int} (R : Red 0 b t u) : Red 0 1 t u := by
  have h1 := R.tle
  have h2 : t = 0 := by simp at h1; exact h1
  subst h2
  have h3 := R.one
  rw [Int.gcd_zero_left] at h3
  exact ⟨R.pos, by simp, R.one, h1, by omega⟩
theorem shaped_ii (a b : Int) : SeqAt.shaped (.tuple [.int a, .int b]) = true := rfl
section
variable {X : Cx} {K : PySem.W.Frag}
theorem call_isiA (h : X.K = K) : CallR X (.builtin "isinstance") (rIsi K) := by subst h; exact call_isi
theorem ix_listA (h : X.K = K) : IxR X (rIxL K) := by subst h; exact ix_list
theorem ix_tupA (h : X.K = K) : IxR X (rIxT K) := by subst h; exact ix_tup
theorem sl_listA (h : X.K = K) : SlR X (rSlN K) := by subst h; exact sl_listN
theorem call_listA (h : X.K = K) : CallR X (.type "list") (rListN K) := by subst h; exact call_listN
theorem pi_listA {tg l : Expr} {tl : TE} (h : X.K = K) (hl : PE X l tl) : PI X tg l (iList K tl) := by subst h; exact pi_list hl
end
theorem lc_vs {X : Cx} {e : Expr} {wi : TI} {g : TG} {tt : TT} {te : TE} {own : List (Str × Nat)} {vs : List Nat} (h : PE X e (tLc wi g tt te (own.map (·.2)))) (hv : own.map (·.2) = vs) : PE X e (tLc wi g tt te vs) := hv ▸ h
theorem lc_vsS {X : Cx} {e : Stmt} {wi : TI} {g k : TG} {tt : TT} {te : TE} {own : List (Str × Nat)} {vs : List Nat} (h : PS X e (tAsg (tLc wi g tt te (own.map (·.2))) k)) (hv : own.map (·.2) = vs) : PS X e (tAsg (tLc wi g tt te vs) k) := hv ▸ h
theorem same_updN {H H2 : Hp} {D : Addr} {o : HO} (hD : H D = none) (s : Same H H2) : Same H (upd H2 D o) := fun b x e => by
  rw [upd_ne (ne_of_none e hD)]
  exact s b x e
theorem sql_keep {K : PySem.W.Frag} {H H' : Hp} {a : Addr} {xs : List V} (h : SqL K H a xs) (k : ∀ b o, H b = some o → H' b = some o) : SqL K H' a xs := Same.seq (show Same H H' from k) h
theorem dpall_of {K : PySem.W.Frag} {H : Hp} : ∀ {vs : List V} {ds : List PyData}, vs.length = ds.length → (∀ (k : Nat) (v : V) (d : PyData), vs[k]? = some v → ds[k]? = some d → Dp K H v d) → DpAll K H vs ds
  | [], [], _, _ => .nil
  | [], _ :: _, h, _ => by cases h
  | _ :: _, [], h, _ => by cases h
  | v :: vs, d :: ds, h, k => .cons (k 0 v d rfl rfl) (dpall_of (Nat.succ.inj h) fun j v' d' h1 h2 => k (j + 1) v' d' h1 h2)
theorem shaped_list {ds : List PyData} (h : ∀ d ∈ ds, d.canLay0 = true ∧ d.depth ≤ 60) : SeqAt.shaped (.list ds) = true := by
  have key : ∀ ds : List PyData, (∀ d ∈ ds, d.canLay0 = true ∧ d.depth ≤ 60) → PyData.canLayAll0 ds = true ∧ PyData.depthAll ds ≤ 60 := by
    intro ds
    induction ds with
    | nil => intro _; exact ⟨rfl, Nat.zero_le _⟩
    | cons d ds ih =>
      intro h
      have h1 := h d (List.mem_cons_self ..)
      have h2 := ih fun x hx => h x (List.mem_cons_of_mem _ hx)
      refine ⟨by show (d.canLay0 && PyData.canLayAll0 ds) = true; rw [h1.1, h2.1]; rfl, ?_⟩
      show max d.depth (PyData.depthAll ds) ≤ 60
      omega
  have z := key ds h
  refine Bool.and_eq_true_iff.mpr ⟨z.1, decide_eq_true ?_⟩
  show PyData.depthAll ds + 1 ≤ 64
  omega
/-- whether a fraction is let by a bound -/
def letsO : Option Int → Int → Int → Bool
  | none, _, _ => true
  | some b, t, u => decide (t < b / 2 * u ∨ (t = b / 2 * u ∧ b % 2 = 1))
def narO : Option Int → Option Int → Option Int
  | none, y => y
  | some a, none => some a
  | some a, some b => some (if b < a then b else a)
/-- a fraction's tuple -/
def FracAt (n : Nat) (H : Hp) (v : V) : Prop := ∃ (q : Addr) (t u : Int), v = .ref q ∧ H q = some (.tup [.int t, .int u]) ∧ 0 < u ∧ Sz n t ∧ Sz n u
theorem FracAt.keep {n : Nat} {H H' : Hp} {v : V} (s : Same H H') (h : FracAt n H v) : FracAt n H' v := by
  obtain ⟨q, t, u, e, e2, r⟩ := h
  exact ⟨q, t, u, e, s _ _ e2, r⟩
theorem join_bl {b : Bool} {P : Prop} (h1 : b = true → P) (h2 : b = false → P) : P := by cases b; exact h2 rfl; exact h1 rfl
/-- a for over a list, behind its iterable's reading -/
def ForL (K : PySem.W.Frag) (a : Addr) (g : TG) (tb : TS) (D : Ends) (σ : L2.St) (H : Hp) : Prop := ∃ W : Nat → Nat → L2.St → Hp → Prop, (∃ m, W 0 m σ H) ∧ ∀ i m σ H, W i m σ H →
  ((Itl K a).stop i H ∧ D.nx σ H) ∨ ((Itl K a).go i H ∧ ∃ N : L2.St → Hp → Prop, (∀ σ' H', N σ' H' → ∃ m', m' < m ∧ W (i + 1) m' σ' H') ∧ ∀ x H', (Itl K a).yld i H x H' → g x σ H' fun σ2 H2 => tb { D with nx := N, ct := N, bk := D.nx } σ2 H2)
theorem for_li {K : PySem.W.Frag} {te : TE} {g : TG} {tb : TS} {D : Ends} {σ : L2.St} {H : Hp} (h : te σ H fun x H1 => ∃ a, x = .ref a ∧ (∃ xs, SqL K H1 a xs) ∧ ForL K a g tb D σ H1) : tFor (iList K te) g tb D σ H := h
theorem forL_by {K : PySem.W.Frag} {a : Addr} {xs : List V} {g : TG} {tb : TS} {D : Ends} {σ : L2.St} {H : Hp} (Pv : Nat → L2.St → Hp → Prop) (h0 : Pv 0 σ H) (hl : ∀ i σ H, i ≤ xs.length → Pv i σ H → SqL K H a xs)
    (hs : ∀ i x σ H, xs[i]? = some x → Pv i σ H → g x σ H fun σ2 H2 => tb { D with nx := Pv (i + 1), ct := Pv (i + 1), bk := D.nx } σ2 H2) (hd : ∀ σ H, Pv xs.length σ H → D.nx σ H) : (∃ ys, SqL K H a ys) ∧ ForL K a g tb D σ H :=
  ⟨⟨xs, hl 0 σ H (Nat.zero_le _) h0⟩, for_list (K := K) (a := a) (xs := xs) Pv h0 hl hs hd⟩
/-- what is asked whether it is a fraction, and the answer -/
inductive FrIn (K : PySem.W.Frag) (H : Hp) : V → Bool → Prop where
  | other {x : V} {t : String} (h : TyX K H x (.type t)) (k : t ∈ kinds) (n : t ≠ "tuple") : FrIn K H x false
  | len {p : Addr} {xs : List V} (h : H p = some (.tup xs)) (n : xs.length ≠ 2) : FrIn K H (.ref p) false
  | odd {p : Addr} {v0 v1 : V} {t0 t1 : String} (h : H p = some (.tup [v0, v1])) (h0 : TyX K H v0 (.type t0)) (h1 : TyX K H v1 (.type t1)) (k0 : t0 ∈ kinds) (k1 : t1 ∈ kinds) (n : t0 ≠ "int" ∨ t1 ≠ "int") : FrIn K H (.ref p) false
  | num {p : Addr} {a b : Int} (h : H p = some (.tup [.int a, .int b])) : FrIn K H (.ref p) (decide (1 ≤ b ∧ Int.gcd a b = 1))
theorem FrIn.keep {K : PySem.W.Frag} {H H' : Hp} {x : V} {b : Bool} (s : Same H H') (h : FrIn K H x b) : FrIn K H' x b := by
  cases h with
  | other h k n => exact .other (tyx_same s h) k n
  | len h n => exact .len (s _ _ h) n
  | odd h h0 h1 k0 k1 n => exact .odd (s _ _ h) (tyx_same s h0) (tyx_same s h1) k0 k1 n
  | num h => exact .num (s _ _ h)
def tDictN : TE := fun _ H Q => ∀ p H2, Same H H2 → H p = none → H2 p = some (.dK []) → Q (.ref p) H2
theorem pe_dnewN {X : Cx} {pos : Pos} : PE X (.Dict [] [] pos) tDictN := pe_imp pe_dnewK fun _ _ _ q p hp => q p _ (upd_keep hp) hp upd_same
theorem fr_no {K : PySem.W.Frag} {H : Hp} {p : Addr} {a b : Int} (h : H p = some (.tup [.int a, .int b])) (n : ¬ (1 ≤ b ∧ Int.gcd a b = 1)) : FrIn K H (.ref p) false := by
  have z := FrIn.num (K := K) h
  rw [decide_eq_false n] at z
  exact z
def addO : Option Int → Option Int → Option Int
  | some a, some b => some (2 * (a / 2 + b / 2) + (if a % 2 = 1 ∧ b % 2 = 1 then 1 else 0))
  | _, _ => none
/-- a for over a range, behind its bound's reading -/
def ForR (n : Nat) (g : TG) (tb : TS) (D : Ends) (σ : L2.St) (H : Hp) : Prop := ∃ W : Nat → Nat → L2.St → Hp → Prop, (∃ m, W 0 m σ H) ∧ ∀ i m σ H, W i m σ H →
  ((Itr 0 n).stop i H ∧ D.nx σ H) ∨ ((Itr 0 n).go i H ∧ ∃ N : L2.St → Hp → Prop, (∀ σ' H', N σ' H' → ∃ m', m' < m ∧ W (i + 1) m' σ' H') ∧ ∀ x H', (Itr 0 n).yld i H x H' → g x σ H' fun σ2 H2 => tb { D with nx := N, ct := N, bk := D.nx } σ2 H2)
theorem for_rg {ta : TA} {g : TG} {tb : TS} {D : Ends} {σ : L2.St} {H : Hp} (h : ta σ H fun vs H1 => ∃ j : Int, vs = [.int j] ∧ -(2 ^ 62) ≤ j ∧ j < 2 ^ 62 ∧ ForR j.toNat g tb D σ H1) : tFor (iRng1 ta) g tb D σ H := h
theorem forR_by {n : Nat} {g : TG} {tb : TS} {D : Ends} {σ : L2.St} {H : Hp} (Pv : Nat → L2.St → Hp → Prop) (h0 : Pv 0 σ H)
    (hs : ∀ i σ H, i < n → Pv i σ H → g (.int (0 + i)) σ H fun σ2 H2 => tb { D with nx := Pv (i + 1), ct := Pv (i + 1), bk := D.nx } σ2 H2) (hd : ∀ σ H, Pv n σ H → D.nx σ H) : ForR n g tb D σ H := for_range (lo := 0) (n := n) Pv h0 hs hd
theorem rg_ok {n : Nat} (h : n ≤ 100000) : -(2 ^ 62) ≤ ((n : Nat) : Int) ∧ ((n : Nat) : Int) < 2 ^ 62 := by constructor <;> omega
theorem cut_from {xs : List V} {k : Nat} (h : k ≤ xs.length) : cutV xs (some (k : Int)) none = xs.drop k := by
  unfold cutV
  rw [HT.sIx_none, HT.sIx_nat, Nat.min_eq_left h]
  exact List.take_of_length_le (by rw [List.length_drop]; exact Nat.le_refl _)
/-- xs.append(v) -/
theorem app_at {H : Hp} {l : Addr} {xs : List V} {v : V} {Q : VK} (h : H l = some (.lst xs)) (hl : xs.length ≤ 1000) (q : Q .non (upd H l (.lst (xs ++ [v])))) : rAppend (.ref l) [v] H Q := ⟨l, xs, v, rfl, rfl, h, small1000 hl, q⟩
/-- the same, what stands behind kept closed -/
theorem join_op {t R : TS} {D : Ends} {σ : L2.St} {H : Hp} (P : L2.St → Hp → Prop) (h2 : ∀ σ' H', P σ' H' → R D σ' H') (h1 : ∀ R' : TS, (∀ σ' H', P σ' H' → R' D σ' H') → tSeq t R' D σ H) : tSeq t R D σ H := h1 R h2
theorem ex_int {i : Int} {P : Int → Prop} (h : P i) : ∃ j, V.int i = V.int j ∧ P j := ⟨i, rfl, h⟩
end ZW

namespace ZW
open PySem PySem.Spec PyProof.Rows L2
theorem dvl_2 : DivOk 2 = True := eq_true ⟨by decide, by decide +kernel⟩
theorem dvl_3 : DivOk 3 = True := eq_true ⟨by decide, by decide +kernel⟩
theorem dvl_4 : DivOk 4 = True := eq_true ⟨by decide, by decide +kernel⟩
theorem dvl_5 : DivOk 5 = True := eq_true ⟨by decide, by decide +kernel⟩
theorem dvl_16 : DivOk 16 = True := eq_true ⟨by decide, by decide +kernel⟩
theorem dvl_1000000000000000000000000000000 : DivOk 1000000000000000000000000000000 = True := eq_true ⟨by decide, by decide +kernel⟩
theorem dvl_1000000000000000000000000000000000000000000000 : DivOk 1000000000000000000000000000000000000000000000 = True := eq_true ⟨by decide, by decide +kernel⟩
theorem pwl_10_12 : CPow 10 12 = True := eq_true ⟨by decide, by decide, by decide +kernel⟩
theorem pwl_10_18 : CPow 10 18 = True := eq_true ⟨by decide, by decide, by decide +kernel⟩
theorem pwl_10_30 : CPow 10 30 = True := eq_true ⟨by decide, by decide, by decide +kernel⟩
theorem pwl_10_45 : CPow 10 45 = True := eq_true ⟨by decide, by decide, by decide +kernel⟩
end ZW
local macro_rules | `(tactic| walk_at "rd") => `(tactic| ((try simp only [L2.start, List.map_cons, List.map_nil, List.length_cons, List.length_nil, Nat.reduceAdd, Nat.zero_add, Nat.reduceSub, Nat.sub_self, List.replicate, List.cons_append, List.nil_append, List.append_nil]); try simp only [L2.tIfS, L2.tTest, L2.tB, L2.tOp, L2.tUn, L2.tVar, L2.tC, L2.tRet, L2.tRetN, L2.tNext, L2.tAsg, L2.tPar, L2.gName, L2.tCons, L2.tNil, L2.tCall, L2.tCB, L2.tAnd, L2.tOr, L2.tNot, L2.tAndV, L2.tOrV, L2.tNotV, L2.tIf, L2.rI0, L2.rI, L2.rU, L2.rAdd, L2.rSub, L2.rEq, L2.rNe, L2.scal, L2.tTup, L2.tLst, ZW.tTupN, ZW.tLstN, L2.tSl, L2.tPart, L2.tNoPart, ZW.rSlN, ZW.rCatN, ZW.rListN, ZW.rIntB,  L2.tDrop, L2.tIsN, L2.tNotN, L2.tCmp, L2.t2I,
  List.map_cons, List.map_nil, List.length_cons, List.length_nil, List.append_nil, List.nil_append, List.cons_append, List.getElem?_cons_zero, List.getElem?_cons_succ, List.set_cons_zero, List.set_cons_succ, Nat.reduceSub, Nat.reduceAdd, Nat.sub_self, Nat.zero_add, List.getElem?_nil, List.append_eq,
  Option.some.injEq, L2.V.int.injEq, L2.V.bl.injEq, L2.V.ref.injEq, reduceCtorEq, exists_eq_left', exists_eq_left, exists_eq, true_and, and_true, exists_and_left, exists_eq_right, exists_eq_right', decide_true, decide_false, Bool.not_true, Bool.not_false, if_true, if_false, ite_true, ite_false, Bool.false_eq_true, List.cons.injEq, ite_self, and_self, and_assoc, L2.gCons, L2.gNil, Int.reduceToNat, Int.reduceMul, Int.reduceSub, Int.reduceAdd, Int.reduceNe, Int.reduceLE, Int.reduceLT, Int.reduceNeg, Int.reduceEq, ZW.dvl_2, ZW.dvl_3, ZW.dvl_4, ZW.dvl_5, ZW.dvl_16, ZW.dvl_1000000000000000000000000000000, ZW.dvl_1000000000000000000000000000000000000000000000, ZW.pwl_10_12, ZW.pwl_10_18, ZW.pwl_10_30, ZW.pwl_10_45, ZW.sz_line, Nat.reduceLT, Nat.reduceLeDiff, Nat.reduceLeDiff, ne_eq, not_false_eq_true, Int.reducePow, Int.pow_one,  forall_const, implies_true, ZW.cxK, ZW.ncast, L2.tCallS, L2.tYes, L2.gSub, Int.zero_add, ZW.tDictN, L2.wipe]))
local macro_rules | `(tactic| walk_at "ix") => `(tactic| (walk_at "rd"; first | refine ZW.ix_l (L2.SqL.of (by assumption)) (by decide) rfl ?_ | refine ZW.ix_t (L2.SqT.of (by assumption)) (by decide) rfl ?_))
local macro_rules | `(tactic| walk_at "sq") => `(tactic| (walk_at "rd"; refine ZW.seq_step ?_; walk_at "rd"))
local macro_rules | `(tactic| walk_at "isT") => `(tactic| (walk_at "rd"; refine ZW.isi (r := true) (by first | exact .base (.int _) | exact .base (.bl _) | exact .base .non | exact .base (.str _) | exact .base (.tup (by assumption)) | exact .base (.lst (by assumption)) | exact .base (.dK (by assumption))) (by decide +kernel) ?_; walk_at "rd"))
local macro_rules | `(tactic| walk_at "isF") => `(tactic| (walk_at "rd"; refine ZW.isi (r := false) (by first | exact .base (.int _) | exact .base (.bl _) | exact .base .non | exact .base (.str _) | exact .base (.tup (by assumption)) | exact .base (.lst (by assumption)) | exact .base (.dK (by assumption))) (by decide +kernel) ?_; walk_at "rd"))

namespace ZW
open PySem PySem.Spec PyProof.Rows L2
def topS (i : Nat) : Stmt := PySem.Challenge.pw_zonewalk_k12_empty_zones.main.body.getD i (.Pass ⟨0, 0, 0, 0⟩)
abbrev s_added : Stmt := topS 1
theorem sc_added : FnScope ["one", "other"] ["one", "other"] (defScope s_added) := ⟨rfl, rfl, rfl, by decide +kernel, rfl, by decide +kernel, by decide +kernel⟩
abbrev s_narrower : Stmt := topS 2
theorem sc_narrower : FnScope ["one", "other"] ["one", "other"] (defScope s_narrower) := ⟨rfl, rfl, rfl, by decide +kernel, rfl, by decide +kernel, by decide +kernel⟩
abbrev s_through : Stmt := topS 5
theorem sc_through : FnScope ["rows", "k", "way", "row", "j"] ["rows", "k"] (defScope s_through) := ⟨rfl, rfl, rfl, by decide +kernel, rfl, by decide +kernel, by decide +kernel⟩
abbrev s_narrowest : Stmt := topS 6
theorem sc_narrowest : FnScope ["zone", "rows", "i", "k", "row"] ["zone"] (defScope s_narrowest) := ⟨rfl, rfl, rfl, by decide +kernel, rfl, by decide +kernel, by decide +kernel⟩
abbrev s_l_cell_at : Stmt := topS 8
theorem sc_l_cell_at : FnScope ["_law_script", "_law_k"] ["_law_script", "_law_k"] (defScope s_l_cell_at) := ⟨rfl, rfl, rfl, by decide +kernel, rfl, by decide +kernel, by decide +kernel⟩
abbrev s_l_stream : Stmt := topS 9
theorem sc_l_stream : FnScope ["_law_cell", "_law_many", "_law_found", "_law_rest", "_law_k", "_law_number"] ["_law_cell", "_law_many"] (defScope s_l_stream) := ⟨rfl, rfl, rfl, by decide +kernel, rfl, by decide +kernel, by decide +kernel⟩
abbrev s_l_rows : Stmt := topS 10
theorem sc_l_rows : FnScope ["_law_many", "_law_xs", "_law_most", "_law_rows_here", "_law_i", "_law_row", "_law_j", "_law_x"] ["_law_many", "_law_xs", "_law_most"] (defScope s_l_rows) := ⟨rfl, rfl, rfl, by decide +kernel, rfl, by decide +kernel, by decide +kernel⟩
abbrev s_l_ring : Stmt := topS 11
theorem sc_l_ring : FnScope ["_law_many", "_law_cell", "_law_left", "_law_ring_here", "_law_k"] ["_law_many", "_law_cell"] (defScope s_l_ring) := ⟨rfl, rfl, rfl, by decide +kernel, rfl, by decide +kernel, by decide +kernel⟩
abbrev s_l_put_ring : Stmt := topS 12
theorem sc_l_put_ring : FnScope ["_law_rows_here", "_law_ring_here", "_law_xs", "_law_most", "_law_way", "_law_come", "_law_closed", "_law_k", "_law_bound", "_law_last", "_law_sharp"] ["_law_rows_here", "_law_ring_here", "_law_xs", "_law_most", "_law_way"] (defScope s_l_put_ring) := ⟨rfl, rfl, rfl, by decide +kernel, rfl, by decide +kernel, by decide +kernel⟩
abbrev s_law : Stmt := topS 13
theorem sc_law : FnScope ["_law_script", "_law_first", "_law_many", "_law_most", "_law_rows_here", "_law_way", "_law_ring_here", "_law_handed", "_law_row"] ["_law_script"] (defScope s_law) := ⟨rfl, rfl, rfl, by decide +kernel, rfl, by decide +kernel, by decide +kernel⟩
structure Top (K : PySem.W.Frag) (mg : Str → Option Value) where
  f_added : Addr
  d_added : FuncData
  F_added : Fun K "added" "added" s_added f_added d_added
  g_added : mg "added" = some (.ref f_added)
  b_added : Binds K d_added ["one", "other"] []
  f_narrower : Addr
  d_narrower : FuncData
  F_narrower : Fun K "narrower" "narrower" s_narrower f_narrower d_narrower
  g_narrower : mg "narrower" = some (.ref f_narrower)
  b_narrower : Binds K d_narrower ["one", "other"] []
  f_through : Addr
  d_through : FuncData
  F_through : Fun K "through" "through" s_through f_through d_through
  g_through : mg "through" = some (.ref f_through)
  b_through : Binds K d_through ["rows", "k"] []
  f_narrowest : Addr
  d_narrowest : FuncData
  F_narrowest : Fun K "narrowest" "narrowest" s_narrowest f_narrowest d_narrowest
  g_narrowest : mg "narrowest" = some (.ref f_narrowest)
  b_narrowest : Binds K d_narrowest ["zone"] []
  f_l_cell_at : Addr
  d_l_cell_at : FuncData
  F_l_cell_at : Fun K "_law_cell_at" "_law_cell_at" s_l_cell_at f_l_cell_at d_l_cell_at
  g_l_cell_at : mg "_law_cell_at" = some (.ref f_l_cell_at)
  b_l_cell_at : Binds K d_l_cell_at ["_law_script", "_law_k"] []
  f_l_stream : Addr
  d_l_stream : FuncData
  F_l_stream : Fun K "_law_stream" "_law_stream" s_l_stream f_l_stream d_l_stream
  g_l_stream : mg "_law_stream" = some (.ref f_l_stream)
  b_l_stream : Binds K d_l_stream ["_law_cell", "_law_many"] []
  f_l_rows : Addr
  d_l_rows : FuncData
  F_l_rows : Fun K "_law_rows" "_law_rows" s_l_rows f_l_rows d_l_rows
  g_l_rows : mg "_law_rows" = some (.ref f_l_rows)
  b_l_rows : Binds K d_l_rows ["_law_many", "_law_xs", "_law_most"] []
  f_l_ring : Addr
  d_l_ring : FuncData
  F_l_ring : Fun K "_law_ring" "_law_ring" s_l_ring f_l_ring d_l_ring
  g_l_ring : mg "_law_ring" = some (.ref f_l_ring)
  b_l_ring : Binds K d_l_ring ["_law_many", "_law_cell"] []
  f_l_put_ring : Addr
  d_l_put_ring : FuncData
  F_l_put_ring : Fun K "_law_put_ring" "_law_put_ring" s_l_put_ring f_l_put_ring d_l_put_ring
  g_l_put_ring : mg "_law_put_ring" = some (.ref f_l_put_ring)
  b_l_put_ring : Binds K d_l_put_ring ["_law_rows_here", "_law_ring_here", "_law_xs", "_law_most", "_law_way"] []
  f_law : Addr
  d_law : FuncData
  F_law : Fun K "law" "law" s_law f_law d_law
  g_law : mg "law" = some (.ref f_law)
  b_law : Binds K d_law ["_law_script"] []
  t_NOUGHT : Tok
  g_NOUGHT : mg "NOUGHT" = some (.int 1 t_NOUGHT)
  m_len : mg "len" = none
  m_list : mg "list" = none
  m_min : mg "min" = none
  m_range : mg "range" = none
/-! ### zones: lists of lists of bounds -/
abbrev Mx := Nat → Nat → Option Int
def up2 (M : Mx) (i j : Nat) (v : Option Int) : Mx := fun a b => if a = i ∧ b = j then v else M a b
def zrow (n : Nat) (f : Nat → Option Int) : List V := (List.range n).map fun j => oV (f j)
theorem zrow_len (n : Nat) (f : Nat → Option Int) : (zrow n f).length = n := by simp [zrow]
theorem zrow_get {n j : Nat} (f : Nat → Option Int) (h : j < n) : (zrow n f)[j]? = some (oV (f j)) := by simp [zrow, h]
theorem zrow_set {n i j : Nat} (M : Mx) (v : Option Int) : (zrow n (M i)).set j (oV v) = zrow n (up2 M i j v i) := by
  apply List.ext_getElem?
  intro k
  by_cases hk : k < n
  · rw [zrow_get _ hk, List.getElem?_set]
    by_cases e : j = k
    · subst e; simp [zrow_len, hk, up2]
    · rw [if_neg e, zrow_get _ hk]
      have : ¬ k = j := fun z => e z.symm
      simp [up2, this]
  · rw [List.getElem?_eq_none (by simp [zrow]; omega), List.getElem?_eq_none (by simp [zrow]; omega)]
theorem zrow_other {n i a j : Nat} (M : Mx) (v : Option Int) (h : a ≠ i) : zrow n (up2 M i j v a) = zrow n (M a) := by
  unfold zrow up2
  apply List.map_congr_left
  intro b _
  rw [if_neg (fun z => h z.1)]
/-- the zone M of n places stands at p, its rows at as -/
structure ZAt (H : Hp) (p : Addr) (as : List Addr) (n : Nat) (M : Mx) : Prop where
  top : H p = some (.lst (as.map V.ref))
  len : as.length = n
  row : ∀ (i : Nat) (a : Addr), as[i]? = some a → H a = some (.lst (zrow n (M i)))
  nd : as.Nodup
theorem ZAt.np {H : Hp} {p : Addr} {as : List Addr} {n : Nat} {M : Mx} (z : ZAt H p as n M) : p ∉ as := by
  intro hp
  obtain ⟨i, hi, e⟩ := List.mem_iff_getElem.mp hp
  have r := z.row i p (by rw [List.getElem?_eq_getElem hi, e])
  have t := z.top
  rw [r] at t
  have e2 : zrow n (M i) = as.map V.ref := by
    have := Option.some.inj t
    injection this
  have h0 : (zrow n (M i))[i]? = (as.map V.ref)[i]? := by rw [e2]
  rw [zrow_get _ (by rw [← z.len]; exact hi), List.getElem?_map, List.getElem?_eq_getElem hi] at h0
  have h1 := Option.some.inj h0
  cases hM : M i i with
  | none => rw [hM] at h1; cases h1
  | some v => rw [hM] at h1; cases h1
theorem ZAt.get {H : Hp} {p : Addr} {as : List Addr} {n : Nat} {M : Mx} (z : ZAt H p as n M) {i : Nat} (h : i < n) : ∃ a, as[i]? = some a ∧ (as.map V.ref)[i]? = some (.ref a) ∧ H a = some (.lst (zrow n (M i))) := by
  have hl : i < as.length := by rw [z.len]; exact h
  refine ⟨as[i], List.getElem?_eq_getElem hl, ?_, z.row i _ (List.getElem?_eq_getElem hl)⟩
  rw [List.getElem?_map, List.getElem?_eq_getElem hl]; rfl
theorem ZAt.set {H : Hp} {p a : Addr} {as : List Addr} {n i j : Nat} {M : Mx} (z : ZAt H p as n M) (v : Option Int) (ha : as[i]? = some a) : ZAt (upd H a (.lst ((zrow n (M i)).set j (oV v)))) p as n (up2 M i j v) := by
  refine ⟨?_, z.len, fun i' a' h' => ?_, z.nd⟩
  · rw [upd_ne (fun e => z.np (by rw [e]; exact List.mem_of_getElem? ha))]; exact z.top
  · by_cases e : i' = i
    · subst e
      obtain rfl : a = a' := Option.some.inj (ha.symm.trans h')
      rw [upd_same, zrow_set]
    · have na : a' ≠ a := fun q => e (nd_ix z.nd h' (by rw [q]; exact ha))
      rw [upd_ne na, z.row i' a' h', zrow_other _ _ e]
theorem ZAt.keep {H H' : Hp} {p : Addr} {as : List Addr} {n : Nat} {M : Mx} (z : ZAt H p as n M) (s : Same H H') : ZAt H' p as n M := ⟨s _ _ z.top, z.len, fun i a h => s _ _ (z.row i a h), z.nd⟩
def iter (f : Nat → Mx → Mx) : Nat → Mx → Mx
  | 0, M => M
  | i + 1, M => f i (iter f i M)
def cell1 (k i j : Nat) (M : Mx) : Mx := up2 M i j (narO (M i j) (addO (M i k) (M k j)))
def rowst (n k i : Nat) (M : Mx) : Mx := if M i k = none then M else iter (cell1 k i) n M
def thr (n k : Nat) (M : Mx) : Mx := iter (rowst n k) n M
def diag1 (i : Nat) (M : Mx) : Mx := up2 (up2 M i i (narO (M i i) (some 1))) 0 i (narO (up2 M i i (narO (M i i) (some 1)) 0 i) (some 1))
def nrw (n : Nat) (M : Mx) : Mx := iter (thr n) n (iter diag1 n M)
/-- all bounds of at most s bits -/
def SzM (s : Nat) (M : Mx) : Prop := ∀ i j v, M i j = some v → Sz s v
theorem SzM.mono {s t : Nat} {M : Mx} (h : SzM s M) (l : s ≤ t) : SzM t M := fun i j v e => (h i j v e).mono l
theorem addO_sz {s : Nat} {x y : Option Int} (hx : ∀ v, x = some v → Sz s v) (hy : ∀ v, y = some v → Sz s v) {v : Int} (h : addO x y = some v) : Sz (s + 2) v := by
  cases x with
  | none => cases h
  | some a =>
    cases y with
    | none => cases h
    | some b =>
      have e := Option.some.inj h
      have h1 := hx a rfl
      have h2 := hy b rfl
      have p : (2 : Nat) ^ (s + 2) = 2 ^ s * 4 := by rw [Nat.pow_add]
      have p0 : 0 < (2 : Nat) ^ s := Nat.pow_pos (by decide)
      unfold Sz at *
      rw [p, ← e]
      split <;> omega
theorem narO_sz {s : Nat} {x y : Option Int} (hx : ∀ v, x = some v → Sz s v) (hy : ∀ v, y = some v → Sz s v) {v : Int} (h : narO x y = some v) : Sz s v := by
  cases x with
  | none => exact hy v h
  | some a =>
    cases y with
    | none => exact hx v h
    | some b =>
      have e := Option.some.inj h
      rw [← e]
      split
      · exact hy b rfl
      · exact hx a rfl
theorem up2_sz {s : Nat} {M : Mx} {i j : Nat} {w : Option Int} (h : SzM s M) (hw : ∀ v, w = some v → Sz s v) : SzM s (up2 M i j w) := fun a b v e => by
  unfold up2 at e
  split at e
  · exact hw v e
  · exact h a b v e
theorem cell1_sz {s : Nat} {M : Mx} {k i j : Nat} (h : SzM s M) : SzM (s + 2) (cell1 k i j M) :=
  up2_sz (h.mono (by omega)) fun v e => narO_sz (fun v e => (h i j v e).mono (by omega)) (fun v e => addO_sz (fun v e => h i k v e) (fun v e => h k j v e) e) e
theorem iter_sz {f : Nat → Mx → Mx} {c s : Nat} {M : Mx} (hf : ∀ i s M, SzM s M → SzM (s + c) (f i M)) (h : SzM s M) : ∀ m, SzM (s + c * m) (iter f m M)
  | 0 => h
  | m + 1 => (hf m _ _ (iter_sz hf h m)).mono (by rw [Nat.mul_succ]; omega)
theorem rowst_sz {n k i s : Nat} {M : Mx} (h : SzM s M) : SzM (s + 2 * n) (rowst n k i M) := by
  unfold rowst
  split
  · exact h.mono (by omega)
  · exact iter_sz (fun _ _ _ h => cell1_sz h) h n
theorem thr_sz {n k s : Nat} {M : Mx} (h : SzM s M) : SzM (s + 2 * n * n) (thr n k M) := iter_sz (fun _ _ _ h => rowst_sz h) h n
theorem diag1_sz {i s : Nat} {M : Mx} (hs : 1 ≤ s) (h : SzM s M) : SzM s (diag1 i M) := by
  have one : Sz s 1 := by
    have : (2 : Nat) ^ 1 ≤ 2 ^ s := Nat.pow_le_pow_right (by decide) hs
    unfold Sz; omega
  have a : SzM s (up2 M i i (narO (M i i) (some 1))) := up2_sz h fun v e => narO_sz (fun v e => h i i v e) (fun v e => by cases e; exact one) e
  exact up2_sz a fun v e => narO_sz (fun v e => a 0 i v e) (fun v e => by cases e; exact one) e
theorem diags_sz {s : Nat} {M : Mx} (hs : 1 ≤ s) (h : SzM s M) : ∀ m, SzM s (iter diag1 m M)
  | 0 => h
  | m + 1 => diag1_sz hs (diags_sz hs h m)
theorem half_sz {s : Nat} {a b : Int} (h1 : Sz s a) (h2 : Sz s b) (h : s ≤ 9990) : Sz 10000 (a / 2 + b / 2) := by
  have p : (2 : Nat) ^ (s + 2) = 2 ^ s * 4 := by rw [Nat.pow_add]
  have p0 : 0 < (2 : Nat) ^ s := Nat.pow_pos (by decide)
  have g : Sz (s + 2) (a / 2 + b / 2) := by
    unfold Sz at *
    rw [p]; omega
  exact g.mono (by omega)
theorem set_at {K : PySem.W.Frag} {H : Hp} {r : Addr} {n j : Nat} {f : Nat → Option Int} {x : Option Int} {Q : Hp → Prop} (h : H r = some (.lst (zrow n f))) (hj : j < n) (q : Q (upd H r (.lst ((zrow n f).set j (oV x))))) : rSetL (.ref r) (.int j) (oV x) H Q := by
  refine ⟨r, _, j, j, rfl, rfl, h, ?_, q⟩
  rw [zrow_len]
  unfold ixN
  rw [if_pos (by omega), if_pos (by omega), Int.toNat_natCast]
theorem ix_row {K : PySem.W.Frag} {H : Hp} {r : Addr} {n j : Nat} {f : Nat → Option Int} {Q : VK} (h : H r = some (.lst (zrow n f))) (hj : j < n) (q : Q (oV (f j)) H) : rIxL K (.ref r) (.int j) H Q :=
  ix_l (.of h) (by omega) (by rw [Int.toNat_natCast]; exact zrow_get _ hj) q
theorem ix_top {K : PySem.W.Frag} {H : Hp} {p : Addr} {as : List Addr} {n i : Nat} {M : Mx} {Q : VK} (z : ZAt H p as n M) (hi : i < n) (q : ∀ a, as[i]? = some a → H a = some (.lst (zrow n (M i))) → Q (.ref a) H) : rIxL K (.ref p) (.int i) H Q := by
  obtain ⟨a, h1, h2, h3⟩ := z.get hi
  exact ix_l (.of z.top) (by omega) (by rw [Int.toNat_natCast]; exact h2) (q a h1 h3)
/-- [list(row) for row in zone]: fresh rows -/
theorem lc_copy {K : PySem.W.Frag} {H : Hp} {p : Addr} {as : List Addr} {n : Nat} {M : Mx} {s c : Nat} {σ : L2.St} {Q : VK} (z : ZAt H p as n M) (hn : n ≤ 60) (hσ : σ[s]? = some (some (.ref p))) (hc : c < σ.length)
    (q : ∀ D as' H', Same H H' → ZAt H' D as' n M → H D = none → (∀ a ∈ as', H a = none) → Q (.ref D) H') :
    tLc (iList K (tVar s)) (gName c) tYes (tCB (rListN K) (tCons (tVar c) tNil)) [c] σ H Q := by
  refine ⟨.ref p, hσ, p, rfl, ⟨_, .of z.top⟩, fun D hD => ?_⟩
  refine lc_list (K := K) (a := p) (xs := as.map V.ref) (fun i H' => ∃ as' : List Addr, Same H H' ∧ H' D = some (.lst (as'.map V.ref)) ∧ as'.length = i ∧ as'.Nodup ∧ (∀ a ∈ as', H a = none ∧ a ≠ D) ∧ ∀ (j : Nat) (a : Addr), as'[j]? = some a → H' a = some (.lst (zrow n (M j))))
    ⟨[], upd_keep hD, upd_same, rfl, List.nodup_nil, (fun a h => by cases h), (fun j a h => by cases h)⟩ (fun i H' _ ⟨_, sm, _⟩ => .of (sm _ _ z.top)) ?_ ?_
  · rintro i x H' hi ⟨as', sm, eD, hl, nd, hf, hr⟩
    have hin : i < n := by
      have := (List.getElem?_eq_some_iff.mp hi).1
      rw [List.length_map, z.len] at this; exact this
    obtain ⟨r, er, er2, hr1⟩ := z.get hin
    obtain rfl : x = .ref r := Option.some.inj (hi.symm.trans er2)
    refine ⟨?_, .ref r, ?_, r, _, rfl, .inl (.of (sm _ _ hr1)), fun l H2 s2 fl e2 => ?_⟩
    · show ((σ.set c none).set c (some (.ref r))).set c none = σ.set c none
      rw [List.set_set, List.set_set]
    · show ((σ.set c none).set c (some (.ref r)))[c]? = some (some (.ref r))
      rw [List.getElem?_set_self (by rw [List.length_set]; exact hc)]
    have nD : l ≠ D := fun e => by rw [e, eD] at fl; cases fl
    have nl : l ∉ as' := fun hm => by
      obtain ⟨j, hj, e⟩ := List.mem_iff_getElem.mp hm
      have := hr j l (by rw [List.getElem?_eq_getElem hj, e])
      rw [fl] at this; cases this
    refine ⟨as'.map V.ref, s2 _ _ eD, by rw [List.length_map, hl]; exact small1000 (by omega), as' ++ [l], same_updN hD (sm.trans s2), ?_, by simp [hl], ?_, ?_, ?_⟩
    · rw [upd_same, List.map_append]; rfl
    · rw [List.nodup_append]
      refine ⟨nd, by simp, fun a ha b hb e => ?_⟩
      have : b = l := by simpa using hb
      exact nl (by rw [← this, ← e]; exact ha)
    · intro a ha
      rcases List.mem_append.mp ha with h | h
      · exact hf a h
      · have : a = l := by simpa using h
        subst this
        exact ⟨sm.free fl, nD⟩
    · intro j a hj
      by_cases c1 : j < as'.length
      · rw [List.getElem?_append_left c1] at hj
        rw [upd_ne (hf a (List.mem_of_getElem? hj)).2]
        exact s2 _ _ (hr j a hj)
      · have hlt := (List.getElem?_eq_some_iff.mp hj).1
        rw [List.length_append, List.length_singleton] at hlt
        obtain rfl : j = as'.length := by omega
        rw [List.getElem?_append_right (Nat.le_refl _), Nat.sub_self] at hj
        have : l = a := by simpa using hj
        subst this
        rw [upd_ne nD, hl]
        exact e2
  · rintro H' ⟨as', sm, eD, hl, nd, hf, hr⟩
    rw [List.length_map, z.len] at hl
    exact q D as' H' sm ⟨eD, hl, hr, nd⟩ hD fun a ha => (hf a ha).1
/-- a bound that is there stays -/
def Has (M : Mx) (i j : Nat) : Prop := ∃ d, M i j = some d
theorem has_up2 {M : Mx} {i j a b : Nat} {x : Option Int} (h : Has M a b) : Has (up2 M i j (narO (M i j) x)) a b := by
  unfold Has up2
  by_cases c : a = i ∧ b = j
  · obtain ⟨rfl, rfl⟩ := c
    obtain ⟨d, e⟩ := h
    rw [if_pos ⟨rfl, rfl⟩, e]
    cases x with
    | none => exact ⟨d, rfl⟩
    | some y => exact ⟨_, rfl⟩
  · rw [if_neg c]; exact h
theorem has_new {M : Mx} {i j : Nat} {y : Int} : Has (up2 M i j (narO (M i j) (some y))) i j := by
  unfold Has up2
  rw [if_pos ⟨rfl, rfl⟩]
  cases M i j with
  | none => exact ⟨y, rfl⟩
  | some v => exact ⟨_, rfl⟩
theorem has_iter {f : Nat → Mx → Mx} {a b : Nat} (hf : ∀ i M, Has M a b → Has (f i M) a b) {M : Mx} (h : Has M a b) : ∀ m, Has (iter f m M) a b
  | 0 => h
  | m + 1 => hf m _ (has_iter hf h m)
theorem has_rowst {n k i a b : Nat} {M : Mx} (h : Has M a b) : Has (rowst n k i M) a b := by
  unfold rowst
  split
  · exact h
  · exact has_iter (fun _ _ h => has_up2 h) h n
theorem has_thr {n k a b : Nat} {M : Mx} (h : Has M a b) : Has (thr n k M) a b := has_iter (fun _ _ h => has_rowst h) h n
theorem has_diag {i a b : Nat} {M : Mx} (h : Has M a b) : Has (diag1 i M) a b := has_up2 (has_up2 h)
theorem has_diags {M : Mx} : ∀ m i, i < m → Has (iter diag1 m M) i i
  | m + 1, i, h => by
    by_cases c : i = m
    · subst c; exact has_up2 has_new
    · exact has_diag (has_diags m i (by omega))
theorem has_nrw {n i : Nat} {M : Mx} (h : i < n) : Has (nrw n M) i i := has_iter (fun _ _ h => has_thr h) (has_diags n i h) n
theorem nrw_sz {n s m : Nat} {M : Mx} (hs : 1 ≤ s) (h : SzM s M) : SzM (s + 2 * n * n * m) (iter (thr n) m (iter diag1 n M)) := iter_sz (fun _ _ _ h => thr_sz h) (diags_sz hs h n) m
theorem ZAt.upd_fresh {H0 H : Hp} {a : Addr} {o : HO} {as : List Addr} (s : Same H0 H) (f : ∀ a ∈ as, H0 a = none) (ha : a ∈ as) : Same H0 (upd H a o) := same_updN (f a ha) s
theorem zrow_snoc (j : Nat) (f : Nat → Option Int) (x : Option Int) : zrow j f ++ [oV x] = zrow (j + 1) (fun b => if b = j then x else f b) := by
  unfold zrow
  rw [List.range_succ, List.map_append]
  congr 1
  · apply List.map_congr_left
    intro b hb
    show oV (f b) = oV (if b = j then x else f b)
    rw [if_neg (by have := List.mem_range.mp hb; omega)]
  · simp
theorem zrow_congr {n : Nat} {f g : Nat → Option Int} (h : ∀ j, j < n → f j = g j) : zrow n f = zrow n g := List.map_congr_left fun j hj => by rw [h j (List.mem_range.mp hj)]
/-- a row is put behind the rows so far -/
structure Grow (H0 H : Hp) (l : Addr) (as : List Addr) (i n : Nat) (M : Mx) : Prop where
  top : H l = some (.lst (as.map V.ref))
  len : as.length = i
  nd : as.Nodup
  fr : ∀ a ∈ as, H0 a = none ∧ a ≠ l
  row : ∀ (j : Nat) (a : Addr), as[j]? = some a → H a = some (.lst (zrow n (M j)))
theorem Grow.snoc {H0 H : Hp} {l r : Addr} {as : List Addr} {i n : Nat} {M : Mx} {f : Nat → Option Int} (g : Grow H0 H l as i n M) (hr : H r = some (.lst (zrow n f))) (fr : H0 r = none) (nr : r ∉ as) (nl : r ≠ l) :
    Grow H0 (upd H l (.lst (as.map V.ref ++ [.ref r]))) l (as ++ [r]) (i + 1) n (fun a b => if a = i then f b else M a b) := by
  refine ⟨by rw [upd_same, List.map_append]; rfl, by simp [g.len], ?_, ?_, ?_⟩
  · rw [List.nodup_append]
    refine ⟨g.nd, by simp, fun a ha b hb e => ?_⟩
    have : b = r := by simpa using hb
    exact nr (by rw [← this, ← e]; exact ha)
  · intro a ha
    rcases List.mem_append.mp ha with h | h
    · exact g.fr a h
    · have : a = r := by simpa using h
      rw [this]; exact ⟨fr, nl⟩
  · intro j a hj
    have len := g.len
    by_cases c1 : j < as.length
    · rw [List.getElem?_append_left c1] at hj
      rw [upd_ne (g.fr a (List.mem_of_getElem? hj)).2, g.row j a hj]
      have : ¬ j = i := by omega
      simp [this]
    · have hlt := (List.getElem?_eq_some_iff.mp hj).1
      rw [List.length_append, List.length_singleton] at hlt
      obtain rfl : j = as.length := by omega
      rw [List.getElem?_append_right (Nat.le_refl _), Nat.sub_self] at hj
      have : r = a := by simpa using hj
      subst this
      rw [upd_ne nl, hr, len]
      simp
theorem Grow.keep {H0 H H' : Hp} {l : Addr} {as : List Addr} {i n : Nat} {M : Mx} (g : Grow H0 H l as i n M) (s : ∀ b o, H b = some o → (b = l ∨ b ∈ as) → H' b = some o) : Grow H0 H' l as i n M :=
  ⟨s _ _ g.top (.inl rfl), g.len, g.nd, g.fr, fun j a h => s _ _ (g.row j a h) (.inr (List.mem_of_getElem? h))⟩
theorem Grow.done {H0 H : Hp} {l : Addr} {as : List Addr} {n : Nat} {M : Mx} (g : Grow H0 H l as n n M) : ZAt H l as n M := ⟨g.top, g.len, g.row, g.nd⟩
def natV (xs : List Nat) : List V := xs.map fun x : Nat => V.int (x : Int)
theorem natV_len (xs : List Nat) : (natV xs).length = xs.length := by simp [natV]
theorem natV_get {xs : List Nat} {i : Nat} (h : i < xs.length) : (natV xs)[i]? = some (.int (xs[i] : Nat)) := by simp [natV, h]
theorem perm_erase {α : Type} : ∀ {l : List α} {k : Nat} (h : k < l.length), List.Perm (l[k] :: l.eraseIdx k) l
  | x :: l, 0, _ => .refl _
  | x :: l, k + 1, h => (List.Perm.swap x _ _).trans (.cons x (perm_erase (l := l) (k := k) (by simpa using h)))
theorem erase_map {α β : Type} (f : α → β) : ∀ (l : List α) (k : Nat), (l.map f).eraseIdx k = (l.eraseIdx k).map f
  | [], _ => rfl
  | _ :: _, 0 => rfl
  | x :: l, k + 1 => by show f x :: (l.map f).eraseIdx k = f x :: (l.eraseIdx k).map f; rw [erase_map f l k]
def oD : Option Int → PyData
  | none => .none
  | some i => .int i
theorem dp_oV {K : PySem.W.Frag} {H : Hp} : ∀ x : Option Int, Dp K H (oV x) (oD x)
  | none => .non
  | some i => .int i
def rdata (n : Nat) (f : Nat → Option Int) : PyData := .list ((List.range n).map fun j => oD (f j))
def zdata (n : Nat) (M : Mx) : PyData := .list ((List.range n).map fun i => rdata n (M i))
theorem dp_row {K : PySem.W.Frag} {H : Hp} {r : Addr} {n : Nat} {f : Nat → Option Int} (h : H r = some (.lst (zrow n f))) : Dp K H (.ref r) (rdata n f) := by
  refine .lst (.of h) (dpall_of (by simp [zrow]) fun k v d h1 h2 => ?_)
  have hk : k < n := by
    have := (List.getElem?_eq_some_iff.mp h1).1
    rwa [zrow_len] at this
  rw [zrow_get _ hk] at h1
  rw [List.getElem?_map, List.getElem?_range hk] at h2
  cases h1; cases h2
  exact dp_oV _
theorem ZAt.dp {K : PySem.W.Frag} {H : Hp} {p : Addr} {as : List Addr} {n : Nat} {M : Mx} (z : ZAt H p as n M) : Dp K H (.ref p) (zdata n M) := by
  refine .lst (.of z.top) (dpall_of (by simp [z.len]) fun k v d h1 h2 => ?_)
  have hk : k < n := by
    have := (List.getElem?_eq_some_iff.mp h1).1
    rwa [List.length_map, z.len] at this
  obtain ⟨a, _, e2, e3⟩ := z.get hk
  rw [e2] at h1
  rw [List.getElem?_map, List.getElem?_range hk] at h2
  cases h1; cases h2
  exact dp_row e3
theorem lay_list {ds : List PyData} {k : Nat} (h : ∀ d ∈ ds, d.canLay0 = true ∧ d.depth ≤ k) : (PyData.list ds).canLay0 = true ∧ (PyData.list ds).depth ≤ k + 1 := by
  have key : ∀ ds : List PyData, (∀ d ∈ ds, d.canLay0 = true ∧ d.depth ≤ k) → PyData.canLayAll0 ds = true ∧ PyData.depthAll ds ≤ k := by
    intro ds
    induction ds with
    | nil => intro _; exact ⟨rfl, Nat.zero_le _⟩
    | cons d ds ih =>
      intro h
      have h1 := h d (List.mem_cons_self ..)
      have h2 := ih fun x hx => h x (List.mem_cons_of_mem _ hx)
      refine ⟨by show (d.canLay0 && PyData.canLayAll0 ds) = true; rw [h1.1, h2.1]; rfl, ?_⟩
      show max d.depth (PyData.depthAll ds) ≤ k
      omega
  have z := key ds h
  exact ⟨z.1, by show PyData.depthAll ds + 1 ≤ k + 1; omega⟩
theorem lay_oD (x : Option Int) : (oD x).canLay0 = true ∧ (oD x).depth ≤ 0 := by cases x <;> exact ⟨rfl, Nat.le_refl _⟩
theorem lay_row (n : Nat) (f : Nat → Option Int) : (rdata n f).canLay0 = true ∧ (rdata n f).depth ≤ 1 := lay_list fun d h => by
  obtain ⟨j, _, rfl⟩ := List.mem_map.mp h
  exact lay_oD _
theorem lay_zone (n : Nat) (M : Mx) : (zdata n M).canLay0 = true ∧ (zdata n M).depth ≤ 2 := lay_list fun d h => by
  obtain ⟨j, _, rfl⟩ := List.mem_map.mp h
  exact lay_row _ _
theorem shaped_zone (n : Nat) (M : Mx) : SeqAt.shaped (zdata n M) = true := Bool.and_eq_true_iff.mpr ⟨(lay_zone n M).1, decide_eq_true (by have := (lay_zone n M).2; omega)⟩
theorem cube_le {n : Nat} (h : n ≤ 8) : 2 * n * n * n ≤ 1024 := Nat.mul_le_mul (Nat.mul_le_mul (Nat.mul_le_mul_left 2 h) h) h
/-! ### the narrowest form, as mathematics -/
/-- the first bound is no wider than the second -/
def leO : Option Int → Option Int → Prop
  | _, none => True
  | none, some _ => False
  | some a, some b => a ≤ b
theorem leO_refl : ∀ x, leO x x
  | none => trivial
  | some a => Int.le_refl a
theorem leO_trans : ∀ {x y z}, leO x y → leO y z → leO x z
  | _, _, none, _, _ => by cases ‹Option Int› <;> trivial
  | some a, some b, some c, h, k => Int.le_trans h k
  | none, some b, some c, h, _ => h.elim
  | _, none, some c, _, k => k.elim
theorem narO_le1 : ∀ x y, leO (narO x y) x
  | none, _ => by cases ‹Option Int› <;> trivial
  | some a, none => Int.le_refl a
  | some a, some b => by show (if b < a then b else a) ≤ a; split <;> omega
theorem narO_le2 : ∀ x y, leO (narO x y) y
  | none, y => leO_refl y
  | some a, none => trivial
  | some a, some b => by show (if b < a then b else a) ≤ b; split <;> omega
theorem le_narO : ∀ {x y z}, leO z x → leO z y → leO z (narO x y)
  | none, _, _, _, k => k
  | some a, none, _, h, _ => h
  | some a, some b, none, h, _ => h.elim
  | some a, some b, some c, h, k => by show c ≤ (if b < a then b else a); split <;> assumption
theorem leO_anti : ∀ {x y}, leO x y → leO y x → x = y
  | none, none, _, _ => rfl
  | some a, none, _, k => k.elim
  | none, some b, h, _ => h.elim
  | some a, some b, h, k => by rw [Int.le_antisymm h k]
theorem narO_of_le {x y : Option Int} (h : leO x y) : narO x y = x := leO_anti (narO_le1 x y) (le_narO (leO_refl x) h)
theorem addO_none (x : Option Int) : addO x none = none := by cases x <;> rfl
theorem none_addO (x : Option Int) : addO none x = none := rfl
theorem addO_comm : ∀ x y, addO x y = addO y x
  | none, y => by rw [addO_none]; rfl
  | some a, none => rfl
  | some a, some b => by show some _ = some _; rw [Int.add_comm (a / 2)]; congr 2; simp only [and_comm]
theorem addO_mono : ∀ {x x' y y'}, leO x x' → leO y y' → leO (addO x y) (addO x' y')
  | x, none, y, y', _, _ => by rw [none_addO]; cases addO x y <;> trivial
  | x, some b, y, none, _, _ => by cases addO x y <;> trivial
  | none, some b, _, some d, h, _ => h.elim
  | some a, some b, none, some d, _, k => k.elim
  | some a, some b, some c, some d, h, k => by
    have h : a ≤ b := h
    have k : c ≤ d := k
    show 2 * (a / 2 + c / 2) + (if a % 2 = 1 ∧ c % 2 = 1 then 1 else 0) ≤ 2 * (b / 2 + d / 2) + (if b % 2 = 1 ∧ d % 2 = 1 then 1 else 0)
    split <;> split <;> omega
theorem addO_assoc : ∀ x y z, addO (addO x y) z = addO x (addO y z)
  | none, y, z => rfl
  | some a, none, z => rfl
  | some a, some b, none => by rw [addO_none, addO_none]; rfl
  | some a, some b, some c => by
    show some _ = some _
    congr 1
    generalize hx : (2 * (a / 2 + b / 2) + if a % 2 = 1 ∧ b % 2 = 1 then 1 else 0) = x
    generalize hy : (2 * (b / 2 + c / 2) + if b % 2 = 1 ∧ c % 2 = 1 then 1 else 0) = y
    have x1 : x / 2 = a / 2 + b / 2 := by rw [← hx]; split <;> omega
    have x2 : x % 2 = 1 ↔ (a % 2 = 1 ∧ b % 2 = 1) := by rw [← hx]; split <;> (constructor <;> intro h) <;> omega
    have y1 : y / 2 = b / 2 + c / 2 := by rw [← hy]; split <;> omega
    have y2 : y % 2 = 1 ↔ (b % 2 = 1 ∧ c % 2 = 1) := by rw [← hy]; split <;> (constructor <;> intro h) <;> omega
    simp only [x2, y2, x1, y1, and_assoc]
    omega
theorem addO_one (x : Option Int) : addO x (some 1) = x := by
  cases x with
  | none => rfl
  | some a =>
    show some _ = some _
    congr 1
    split <;> omega
theorem one_addO (x : Option Int) : addO (some 1) x = x := by rw [addO_comm, addO_one]
/-- the diagonal's place is not below at most 0 -/
def Pos (M : Mx) (k : Nat) : Prop := leO (some 1) (M k k)
theorem pos_add {M : Mx} {k : Nat} (h : Pos M k) (x : Option Int) : leO x (addO x (M k k)) := by
  have := addO_mono (leO_refl x) h
  rwa [addO_one] at this
theorem pos_add' {M : Mx} {k : Nat} (h : Pos M k) (x : Option Int) : leO x (addO (M k k) x) := by rw [addO_comm]; exact pos_add h x
def fw (k : Nat) (M : Mx) : Mx := fun a b => narO (M a b) (addO (M a k) (M k b))
theorem fw_col {M : Mx} {k : Nat} (h : Pos M k) (a : Nat) : fw k M a k = M a k := narO_of_le (pos_add h _)
theorem fw_row {M : Mx} {k : Nat} (h : Pos M k) (b : Nat) : fw k M k b = M k b := narO_of_le (pos_add' h _)
theorem inner_eq {M : Mx} {n k m : Nat} (h : Pos M k) {M' : Mx} (e : ∀ a b, M' a b = if a < m ∧ b < n then fw k M a b else M a b) : ∀ l, l ≤ n → ∀ a b, iter (cell1 k m) l M' a b = if a = m ∧ b < l then fw k M m b else M' a b
  | 0, _, a, b => by rw [if_neg (by omega)]; rfl
  | l + 1, hl, a, b => by
    have ih := inner_eq h e l (by omega)
    have hk : ∀ b, M' k b = M k b := fun b => by
      rw [e]; split
      · exact fw_row h b
      · rfl
    have ik : M' m k = M m k := by rw [e, if_neg (by omega)]
    have c1 : iter (cell1 k m) l M' m l = M m l := by rw [ih, if_neg (by omega), e, if_neg (by omega)]
    have c2 : iter (cell1 k m) l M' m k = M m k := by
      rw [ih]; split
      · exact fw_col h m
      · exact ik
    have c3 : iter (cell1 k m) l M' k l = M k l := by
      rw [ih]; split
      · omega
      · exact hk l
    show up2 (iter (cell1 k m) l M') m l (narO (iter (cell1 k m) l M' m l) (addO (iter (cell1 k m) l M' m k) (iter (cell1 k m) l M' k l))) a b = _
    rw [c1, c2, c3]
    unfold up2
    by_cases c : a = m ∧ b = l
    · obtain ⟨rfl, rfl⟩ := c
      rw [if_pos ⟨rfl, rfl⟩, if_pos ⟨rfl, by omega⟩]; rfl
    · rw [if_neg c, ih]
      by_cases d : a = m ∧ b < l
      · rw [if_pos d, if_pos ⟨d.1, by omega⟩]
      · rw [if_neg d, if_neg (by omega)]
theorem rows_eq {M : Mx} {n k : Nat} (h : Pos M k) : ∀ m, ∀ a b, iter (rowst n k) m M a b = if a < m ∧ b < n then fw k M a b else M a b
  | 0, a, b => by rw [if_neg (by omega)]; rfl
  | m + 1, a, b => by
    have ih := rows_eq (n := n) h m
    have ik : iter (rowst n k) m M m k = M m k := by rw [ih, if_neg (by omega)]
    show (if iter (rowst n k) m M m k = none then iter (rowst n k) m M else iter (cell1 k m) n (iter (rowst n k) m M)) a b = _
    rw [ik]
    split
    · rename_i hz
      rw [ih]
      by_cases c : a = m
      · subst c
        rw [if_neg (by omega)]
        split
        · unfold fw; rw [hz, none_addO]; cases M a b <;> rfl
        · rfl
      · by_cases d : a < m ∧ b < n
        · rw [if_pos d, if_pos ⟨by omega, d.2⟩]
        · rw [if_neg d, if_neg (by omega)]
    · rw [inner_eq h ih n (Nat.le_refl _), ih]
      by_cases c : a = m ∧ b < n
      · obtain ⟨rfl, hb⟩ := c
        rw [if_pos ⟨rfl, hb⟩, if_pos ⟨by omega, hb⟩]
      · rw [if_neg c]
        by_cases d : a < m ∧ b < n
        · rw [if_pos d, if_pos ⟨by omega, d.2⟩]
        · rw [if_neg d, if_neg (by omega)]
theorem thr_eq {M : Mx} {n k : Nat} (h : Pos M k) {a b : Nat} (ha : a < n) (hb : b < n) : thr n k M a b = fw k M a b := by
  unfold thr; rw [rows_eq h n, if_pos ⟨ha, hb⟩]
/-- each place's bound only becomes narrower -/
def LeM (N M : Mx) : Prop := ∀ a b, leO (N a b) (M a b)
theorem LeM.refl (M : Mx) : LeM M M := fun _ _ => leO_refl _
theorem LeM.trans {A B C : Mx} (h : LeM A B) (k : LeM B C) : LeM A C := fun a b => leO_trans (h a b) (k a b)
theorem up2_le (M : Mx) (i j : Nat) (x : Option Int) : LeM (up2 M i j (narO (M i j) x)) M := fun a b => by
  unfold up2
  split
  · rename_i h; obtain ⟨rfl, rfl⟩ := h; exact narO_le1 _ _
  · exact leO_refl _
theorem iter_le {f : Nat → Mx → Mx} (hf : ∀ i M, LeM (f i M) M) (M : Mx) : ∀ m, LeM (iter f m M) M
  | 0 => .refl M
  | m + 1 => (hf m _).trans (iter_le hf M m)
theorem rowst_le (n k i : Nat) (M : Mx) : LeM (rowst n k i M) M := by
  unfold rowst
  split
  · exact .refl M
  · exact iter_le (fun j M => up2_le M i j _) M n
theorem thr_le (n k : Nat) (M : Mx) : LeM (thr n k M) M := iter_le (rowst_le n k) M n
theorem diag1_le (i : Nat) (M : Mx) : LeM (diag1 i M) M := (up2_le _ _ _ _).trans (up2_le _ _ _ _)
theorem nrw_le0 (n : Nat) (M : Mx) : LeM (nrw n M) (iter diag1 n M) := iter_le (thr_le n) _ n
theorem nrw_le (n : Nat) (M : Mx) : LeM (nrw n M) M := (nrw_le0 n M).trans (iter_le diag1_le M n)
theorem iter_le2 {f : Nat → Mx → Mx} (hf : ∀ i M, LeM (f i M) M) (M : Mx) {m : Nat} : ∀ d, LeM (iter f (m + d) M) (iter f m M)
  | 0 => .refl _
  | d + 1 => (hf _ _).trans (iter_le2 hf M d)
/-- through the first K places each bound is as narrow as the way makes it -/
def Tri (n K : Nat) (M : Mx) : Prop := ∀ k, k < K → ∀ i j, i < n → j < n → leO (M i j) (addO (M i k) (M k j))
theorem tri_step {n K : Nat} {M : Mx} (hK : K < n) (t : Tri n K M) (h : Pos M K) : Tri n (K + 1) (thr n K M) := by
  intro k hk i j hi hj
  have hkn : k < n := by omega
  rw [thr_eq h hi hj, thr_eq h hi hkn, thr_eq h hkn hj]
  by_cases c : k = K
  · subst c
    rw [fw_col h, fw_row h]
    exact narO_le2 _ _
  have t := t k (by omega)
  have key : ∀ x y, (leO (M i k) x ∨ leO (addO (M i K) (M K k)) x) → (leO (M k j) y ∨ leO (addO (M k K) (M K j)) y) → leO (fw K M i j) (addO x y) := by
    intro x y hx hy
    rcases hx with hx | hx <;> rcases hy with hy | hy
    · exact leO_trans (narO_le1 _ _) (leO_trans (t i j hi hj) (addO_mono hx hy))
    · refine leO_trans (narO_le2 _ _) (leO_trans ?_ (addO_mono hx hy))
      rw [← addO_assoc]
      exact addO_mono (t i K hi hK) (leO_refl _)
    · refine leO_trans (narO_le2 _ _) (leO_trans ?_ (addO_mono hx hy))
      rw [addO_assoc]
      exact addO_mono (leO_refl _) (t K j hK hj)
    · refine leO_trans (narO_le2 _ _) (leO_trans ?_ (addO_mono hx hy))
      rw [addO_assoc, ← addO_assoc (M K k)]
      have g : leO (some 1) (addO (M K k) (M k K)) := leO_trans h (t K K hK hK)
      have := addO_mono (leO_refl (M i K)) (addO_mono g (leO_refl (M K j)))
      rwa [one_addO] at this
  have nar_or : ∀ x y, leO x (narO x y) ∨ leO y (narO x y) := by
    intro x y
    cases x with
    | none => exact .inr (leO_refl _)
    | some a =>
      cases y with
      | none => exact .inl (leO_refl _)
      | some b =>
        show a ≤ (if b < a then b else a) ∨ b ≤ (if b < a then b else a)
        split
        · exact .inr (Int.le_refl _)
        · exact .inl (Int.le_refl _)
  exact key _ _ (nar_or _ _) (nar_or _ _)
theorem nrw_tri {n : Nat} {M : Mx} (h : ∀ i, i < n → Pos (nrw n M) i) : Tri n n (nrw n M) := by
  have key : ∀ K, K ≤ n → Tri n K (iter (thr n) K (iter diag1 n M)) := by
    intro K
    induction K with
    | zero => intro _ k hk; omega
    | succ K ih =>
      intro hK
      refine tri_step (by omega) (ih (by omega)) ?_
      have l : LeM (nrw n M) (iter (thr n) K (iter diag1 n M)) := by
        have := iter_le2 (thr_le n) (iter diag1 n M) (m := K) (n - K)
        rw [show K + (n - K) = n by omega] at this
        exact this
      exact leO_trans (h K (by omega)) (l K K)
  exact key n (Nat.le_refl _)
/-- a way's bound -/
def pathO (M : Mx) : Nat → List Nat → Option Int
  | _, [] => some 1
  | a, b :: l => addO (M a b) (pathO M b l)
def lastOf : Nat → List Nat → Nat
  | a, [] => a
  | _, b :: l => lastOf b l
theorem path_le {n : Nat} {N : Mx} (t : Tri n n N) : ∀ (l : List Nat) (a c : Nat), a < n → c < n → (∀ x ∈ l, x < n) → leO (N c (lastOf a l)) (addO (N c a) (pathO N a l))
  | [], a, c, ha, hc, _ => by show leO (N c a) (addO (N c a) (some 1)); rw [addO_one]; exact leO_refl _
  | b :: l, a, c, ha, hc, h => by
    have hb : b < n := h b (List.mem_cons_self ..)
    have ih := path_le t l b c hb hc fun x hx => h x (List.mem_cons_of_mem _ hx)
    show leO (N c (lastOf b l)) (addO (N c a) (addO (N a b) (pathO N b l)))
    rw [← addO_assoc]
    exact leO_trans ih (addO_mono (t a ha c b hc hb) (leO_refl _))
theorem path_mono {N M : Mx} (h : LeM N M) : ∀ (l : List Nat) (a : Nat), leO (pathO N a l) (pathO M a l)
  | [], _ => leO_refl _
  | b :: l, a => addO_mono (h a b) (path_mono h l b)
/-- a ring that comes to below at most 0 leaves no zone -/
theorem ring_empty {n a : Nat} {M : Mx} {l : List Nat} (ha : a < n) (hl : ∀ x ∈ l, x < n) {s : Int} (hs : addO (M (lastOf a l) a) (pathO M a l) = some s) (h1 : s < 1) : ¬ ∀ i, i < n → Pos (nrw n M) i := by
  intro h
  have t := nrw_tri h
  have hz : lastOf a l < n := by
    have : ∀ (l : List Nat) (a : Nat), a < n → (∀ x ∈ l, x < n) → lastOf a l < n := by
      intro l
      induction l with
      | nil => intro a ha _; exact ha
      | cons b l ih => intro a _ h; exact ih b (h b (List.mem_cons_self ..)) fun x hx => h x (List.mem_cons_of_mem _ hx)
    exact this l a ha hl
  have p := path_le t l a (lastOf a l) ha hz hl
  have q := addO_mono (nrw_le n M (lastOf a l) a) (path_mono (nrw_le n M) l a)
  rw [hs] at q
  have r := leO_trans (h _ hz) (leO_trans p q)
  have r : (1 : Int) ≤ s := r
  omega
theorem diags_row0 {M : Mx} : ∀ m i, i < m → leO (iter diag1 m M 0 i) (some 1)
  | m + 1, i, h => by
    by_cases c : i = m
    · subst c
      show leO (up2 _ 0 i (narO _ (some 1)) 0 i) (some 1)
      unfold up2
      rw [if_pos ⟨rfl, rfl⟩]
      exact narO_le2 _ _
    · exact leO_trans (diag1_le m _ 0 i) (diags_row0 m i (by omega))
/-- a watch below 0 leaves no zone -/
theorem below_empty {n i : Nat} {M : Mx} (hi : i < n) {s : Int} (hs : M i 0 = some s) (h1 : s < 1) : ¬ ∀ i, i < n → Pos (nrw n M) i := by
  intro h
  have t := nrw_tri h 0 (by omega) i i hi hi
  have a : leO (nrw n M i 0) (some s) := by have := nrw_le n M i 0; rwa [hs] at this
  have b : leO (nrw n M 0 i) (some 1) := leO_trans (nrw_le0 n M 0 i) (diags_row0 n i hi)
  have c := addO_mono a b
  rw [addO_one] at c
  have r := leO_trans (h _ hi) (leO_trans t c)
  have r : (1 : Int) ≤ s := r
  omega
theorem lastOf_snoc : ∀ (l : List Nat) (a c : Nat), lastOf a (l ++ [c]) = c
  | [], _, _ => rfl
  | b :: l, _, c => lastOf_snoc l b c
theorem path_snoc (M : Mx) : ∀ (l : List Nat) (a c : Nat), pathO M a (l ++ [c]) = addO (pathO M a l) (M (lastOf a l) c)
  | [], a, c => by show addO (M a c) (some 1) = addO (some 1) (M a c); rw [addO_one, one_addO]
  | b :: l, a, c => by
    show addO (M a b) (pathO M b (l ++ [c])) = addO (addO (M a b) (pathO M b l)) (M (lastOf b l) c)
    rw [path_snoc M l b c, addO_assoc]
theorem path_up2 {M : Mx} {y c : Nat} {v : Option Int} : ∀ (l : List Nat) (a : Nat), y ∉ (a :: l).dropLast → pathO (up2 M y c v) a l = pathO M a l
  | [], _, _ => rfl
  | b :: l, a, h => by
    have h : y ∉ a :: (b :: l).dropLast := h
    have h1 : a ≠ y := fun e => h (by rw [e]; exact List.mem_cons_self ..)
    show addO (up2 M y c v a b) (pathO (up2 M y c v) b l) = _
    rw [path_up2 l b (fun z => h (List.mem_cons_of_mem _ z))]
    unfold up2
    rw [if_neg (fun z => h1 z.1)]
    rfl
theorem lastOf_mem : ∀ (l : List Nat) (a : Nat), lastOf a l ∈ a :: l
  | [], a => List.mem_cons_self ..
  | b :: l, a => List.mem_cons_of_mem _ (lastOf_mem l b)
theorem lastOf_get : ∀ (l : List Nat) (a k x : Nat), (a :: l)[k]? = some x → lastOf a (l.take k) = x
  | l, a, 0, x, h => by rw [List.take_zero]; exact Option.some.inj h
  | [], a, k + 1, x, h => by cases h
  | b :: l, a, k + 1, x, h => lastOf_get l b k x h
theorem nodup_last {l : List Nat} {a : Nat} (nd : (a :: l).Nodup) : lastOf a l ∉ (a :: l).dropLast := by
  induction l generalizing a with
  | nil => simp [lastOf]
  | cons b l ih =>
    have nd2 := (List.nodup_cons.mp nd)
    show lastOf b l ∉ a :: (b :: l).dropLast
    intro h
    rcases List.mem_cons.mp h with e | h
    · exact nd2.1 (by rw [← e]; exact lastOf_mem l b)
    · exact ih nd2.2 h
theorem get_last : ∀ (l : List Nat) (a : Nat), (a :: l)[l.length]? = some (lastOf a l)
  | [], _ => rfl
  | b :: l, _ => get_last l b
theorem natV_last (l : List Nat) (a : Nat) : atI (natV (a :: l)) (-1) = some (.int (lastOf a l : Nat)) := by
  unfold atI
  have e : ixN (natV (a :: l)).length (-1) = some l.length := by
    rw [natV_len]
    unfold ixN
    rw [if_neg (by omega), if_pos (by rw [List.length_cons]; omega)]
    congr 1
    rw [List.length_cons]; omega
  rw [e]
  show (natV (a :: l))[l.length]? = _
  unfold natV
  rw [List.getElem?_map, get_last]; rfl
theorem not_pos {n : Nat} {M : Mx} (h : ¬ ∀ i, i < n → Pos (nrw n M) i) : ∃ i d, i < n ∧ nrw n M i i = some d ∧ d < 1 := by
  apply Classical.byContradiction
  intro c
  apply h
  intro i hi
  obtain ⟨d, e⟩ := has_nrw (M := M) hi
  show leO (some 1) (nrw n M i i)
  rw [e]
  apply Classical.byContradiction
  intro c2
  have c2 : ¬ (1 : Int) ≤ d := c2
  exact c ⟨i, d, hi, e, by omega⟩
section
variable {P : Program} {w : World} {K : PySem.W.Frag} {mg : Str → Option Value} {base : Heap}
def spCell_at (K : PySem.W.Frag) : Sp := fun vs H Q _ => ∃ (a : Addr) (ns : List Int) (k : Int), vs = [.ref a, .int k] ∧ SqL K H a (ns.map V.int) ∧ 0 ≤ k ∧ Q (.int (ns.getD k.toNat 0)) H
theorem ok_l_cell_at (T : Top K mg) : FnOk P w K mg base CX0 1 T.f_l_cell_at T.d_l_cell_at ["_law_script", "_law_k"] (spCell_at K) := by
  refine T.F_l_cell_at.ok sc_l_cell_at (fun vs H Q E h => ?_) (fun cdv A outer s H vs Q E hr h => ?_)
  · obtain ⟨a, ns, k, rfl, _⟩ := h; rfl
  · obtain ⟨a, ns, k, rfl, hS, hk, q⟩ := h
    refine ⟨_, (pss_cons (ps_if (pt_cmpR op_lt (pv 1) (pe_callB call_len_seq (by rfl) T.m_len (by decide +kernel) (pa_cons (pv 0) pa_nil)) (nomark _)) (pss_one (ps_ret (pe_ix (ix_listA (K := K) rfl) (pv 0) (pv 1) (fun _ _ => rfl)))) pss_nil)
      (pss_one (ps_ret pe_int))), ?_⟩
    refine seq_step ?_
    walk_at "rd"
    refine ⟨_, .inl hS, ite_d (fun c => ?_) (fun c => ?_)⟩
    · rw [List.length_map] at c
      have hl : k.toNat < ns.length := by omega
      refine ⟨a, _, k, .int (ns[k.toNat]), rfl, rfl, hS, at_of (j := k.toNat) (by omega) (by rw [List.getElem?_map, List.getElem?_eq_getElem hl]; rfl), ?_⟩
      rw [List.getD_eq_getElem?_getD, List.getElem?_eq_getElem hl] at q
      exact q
    · rw [List.length_map] at c
      rw [List.getD_eq_getElem?_getD, List.getElem?_eq_none (by omega)] at q
      exact q
def spAdded (K : PySem.W.Frag) : Sp := fun vs H Q _ => ∃ (x y : Option Int), vs = [oV x, oV y] ∧ (∀ a b, x = some a → y = some b → Sz 10000 (a / 2 + b / 2)) ∧ Q (oV (addO x y)) H
theorem ok_added (T : Top K mg) : FnOk P w K mg base CX0 1 T.f_added T.d_added ["one", "other"] (spAdded K) := by
  refine T.F_added.ok sc_added (fun vs H Q E h => ?_) (fun cdv A outer s H vs Q E hr h => ?_)
  · obtain ⟨a, b, rfl, _⟩ := h; rfl
  · obtain ⟨x, y, rfl, h1, q⟩ := h
    refine ⟨_, (pss_cons (ps_if (PW.pt (pw_or (pt_cmpR op_isN (pv 0) pe_non (nomark _)) (pw_or1 (pt_cmpR op_isN (pv 1) pe_non (nomark _))))) (pss_one (ps_ret pe_non)) pss_nil)
      (pss_one (ps_ret (pe_op op_or (pe_op op_shlW (pe_op op_add (pe_op op_shr (pv 0) pe_int) (pe_op op_shr (pv 1) pe_int)) pe_int) (pe_op op_and (pe_op op_and (pv 0) (pv 1)) pe_int))))), ?_⟩
    refine seq_step ?_
    cases x with
    | none => 
      simp only [oV_none]
      walk_at "rd"
      exact q
    | some a =>
      cases y with
      | none =>
        simp only [oV_none, oV_some]
        walk_at "rd"
        exact q
      | some b =>
        simp only [oV_some]
        walk_at "rd"
        rw [bit_sum]
        exact ⟨shl1 (h1 a b rfl rfl) (by omega), q⟩
theorem added_i {K : PySem.W.Frag} {a b : Int} {H : Hp} {Q : VK} {E : XK} (h : Sz 10000 (a / 2 + b / 2)) (q : Q (.int (2 * (a / 2 + b / 2) + (if a % 2 = 1 ∧ b % 2 = 1 then 1 else 0))) H) : spAdded K [.int a, .int b] H Q E :=
  ⟨some a, some b, rfl, fun _ _ e1 e2 => by cases e1; cases e2; exact h, q⟩
theorem added_n1 {K : PySem.W.Frag} {H : Hp} {Q : VK} {E : XK} (x : Option Int) (q : Q .non H) : spAdded K [.non, oV x] H Q E := ⟨none, x, rfl, (fun _ _ e1 _ => nomatch e1), q⟩
theorem added_n2 {K : PySem.W.Frag} {H : Hp} {Q : VK} {E : XK} (x : Option Int) (q : Q .non H) : spAdded K [oV x, .non] H Q E := ⟨x, none, rfl, (fun _ _ _ e1 => nomatch e1), by cases x <;> exact q⟩
def spNarrower (K : PySem.W.Frag) : Sp := fun vs H Q _ => ∃ (x y : Option Int), vs = [oV x, oV y] ∧ Q (oV (narO x y)) H
theorem ok_narrower (T : Top K mg) : FnOk P w K mg base CX0 1 T.f_narrower T.d_narrower ["one", "other"] (spNarrower K) := by
  refine T.F_narrower.ok sc_narrower (fun vs H Q E h => ?_) (fun cdv A outer s H vs Q E hr h => ?_)
  · obtain ⟨x, y, rfl, _⟩ := h; rfl
  · obtain ⟨x, y, rfl, q⟩ := h
    refine ⟨_, (pss_cons (ps_if (pt_cmpR op_isN (pv 0) pe_non (nomark _)) (pss_one (ps_ret (pv 1))) pss_nil)
      (pss_cons (ps_if (pt_cmpR op_isN (pv 1) pe_non (nomark _)) (pss_one (ps_ret (pv 0))) pss_nil)
      (pss_one (ps_ret (pe_callB (call_min2 rfl) (by rfl) T.m_min (by decide +kernel) (pa_cons (pv 0) (pa_cons (pv 1) pa_nil))))))), ?_⟩
    refine seq_step ?_
    cases x with
    | none =>
      simp only [oV_none]
      walk_at "rd"
      cases y <;> exact q
    | some a =>
      simp only [oV_some]
      walk_at "rd"
      refine seq_step ?_
      cases y with
      | none =>
        simp only [oV_none]
        walk_at "rd"
        exact q
      | some b =>
        simp only [oV_some]
        walk_at "rd"
        exact q
def spThrough (K : PySem.W.Frag) : Sp := fun vs H Q _ => ∃ (p : Addr) (as : List Addr) (n : Nat) (M : Mx) (k s : Nat), vs = [.ref p, .int k] ∧ ZAt H p as n M ∧ k < n ∧ n ≤ 60 ∧ SzM s M ∧ s + 2 * n * n ≤ 9000 ∧
  ∀ H', ZAt H' p as n (thr n k M) → (∀ b o, b ∉ as → H b = some o → H' b = some o) → Q .non H'
theorem ok_through (T : Top K mg) : FnOk P w K mg base CX0 2 T.f_through T.d_through ["rows", "k"] (spThrough K) := by
  refine T.F_through.ok sc_through (fun vs H Q E h => ?_) (fun cdv A outer s H vs Q E hr h => ?_)
  · obtain ⟨p, as, n, M, k, s, rfl, _⟩ := h; rfl
  · obtain ⟨p, as, n, M, k, sz, rfl, z, hk, hn, hs, hb, q⟩ := h
    refine ⟨_, (pss_cons (ps_set (i := 2) sc_through.nd rfl (.inl rfl) (pe_ix (ix_listA (K := K) rfl) (pv 0) (pv 1) (fun _ _ => rfl)))
      (pss_one (ps_for PassesOwn.never rfl (pi_listA (K := K) rfl (pv 0)) (pg_name (i := 3) sc_through.nd rfl (.inl rfl)) (pss_one (ps_if (pt_cmpR op_notN (pe_ix (ix_listA (K := K) rfl) (pv 3) (pv 1) (fun _ _ => rfl)) pe_non (nomark _)) (pss_one (ps_for PassesOwn.never rfl (pi_range1 (by rfl) T.m_range (pa_cons (pe_callB call_len_seq (by rfl) T.m_len (by decide +kernel) (pa_cons (pv 2) pa_nil)) pa_nil)) (pg_name (i := 4) sc_through.nd rfl (.inl rfl)) (pss_one (ps_asg (pe_call (ok_narrower T) (hr.mono (by decide)) rfl T.g_narrower T.F_narrower.kp T.b_narrower .nil pass0 (pa_cons (pe_ix (ix_listA (K := K) rfl) (pv 3) (pv 4) (fun _ _ => rfl)) (pa_cons (pe_call (ok_added T) (hr.mono (by decide)) rfl T.g_added T.F_added.kp T.b_added .nil pass0 (pa_cons (pe_ix (ix_listA (K := K) rfl) (pv 3) (pv 1) (fun _ _ => rfl)) (pa_cons (pe_ix (ix_listA (K := K) rfl) (pv 2) (pv 4) (fun _ _ => rfl)) pa_nil))) pa_nil))) (pg_sub (pv 3) (pv 4) set_list))))) pss_nil))))), ?_⟩
    refine seq_step ?_
    walk_at "rd"
    obtain ⟨w, ew, ew2, hw⟩ := z.get hk
    refine ix_l (.of z.top) (by omega) (by rw [Int.toNat_natCast]; exact ew2) ?_
    walk_at "rd"
    refine for_li ?_
    walk_at "rd"
    refine forL_by (xs := as.map V.ref) (fun i σ' H' => ∃ v3 v4, σ' = [some (.ref p), some (.int k), some (.ref w), v3, v4] ∧ ZAt H' p as n (iter (rowst n k) i M) ∧ (∀ b o, b ∉ as → H b = some o → H' b = some o)) ⟨_, _, rfl, z, fun _ _ _ e => e⟩ (fun i σ H' _ ⟨_, _, _, z', _⟩ => .of z'.top) ?_ ?_
    · rintro i x σ' H1 hi ⟨v3, v4, rfl, z1, kp⟩
      have hin : i < n := by
        have := (List.getElem?_eq_some_iff.mp hi).1
        rw [List.length_map, z.len] at this; exact this
      obtain ⟨r, er, er2, hr1⟩ := z1.get hin
      obtain rfl : x = .ref r := Option.some.inj (hi.symm.trans er2)
      have hsi : SzM (sz + 2 * n * i) (iter (rowst n k) i M) := iter_sz (fun _ _ _ h => rowst_sz h) hs i
      have hmul : 2 * n * i + 2 * n ≤ 2 * n * n := by
        rw [← Nat.mul_succ]; exact Nat.mul_le_mul_left _ hin
      generalize hM1 : iter (rowst n k) i M = M1 at *
      have hgoal : iter (rowst n k) (i + 1) M = rowst n k i M1 := by rw [← hM1]; rfl
      rw [hgoal]
      walk_at "rd"
      refine ix_l (.of hr1) (by omega) (by rw [Int.toNat_natCast]; exact zrow_get _ hk) ?_
      walk_at "rd"
      cases hMk : M1 i k with
      | none =>
        rw [show rowst n k i M1 = M1 by unfold rowst; rw [if_pos hMk]]
        simp only [oV_none]
        walk_at "rd"
        exact ⟨z1, kp⟩
      | some d =>
        rw [show rowst n k i M1 = iter (cell1 k i) n M1 by unfold rowst; rw [if_neg (by rw [hMk]; exact fun z => by cases z)]]
        simp only [oV_some]
        walk_at "rd"
        refine for_rg ?_
        walk_at "rd"
        refine ⟨_, .inl (.of (z1.row k w ew)), (rg_ok (by rw [zrow_len]; omega)).1, (rg_ok (by rw [zrow_len]; omega)).2, ?_⟩
        rw [zrow_len, Int.toNat_natCast]
        refine forR_by (fun j σ' H' => ∃ v4, σ' = [some (.ref p), some (.int k), some (.ref w), some (.ref r), v4] ∧ ZAt H' p as n (iter (cell1 k i) j M1) ∧ (∀ b o, b ∉ as → H b = some o → H' b = some o)) ⟨_, rfl, z1, kp⟩ ?_ ?_
        · rintro j σ' H2 hj ⟨v4', rfl, z2, kp2⟩
          have hsj : SzM (sz + 2 * n * i + 2 * j) (iter (cell1 k i) j M1) := iter_sz (fun _ _ _ h => cell1_sz h) hsi j
          generalize hM2 : iter (cell1 k i) j M1 = M2 at *
          have hgoal2 : iter (cell1 k i) (j + 1) M1 = cell1 k i j M2 := by rw [← hM2]; rfl
          rw [hgoal2]
          walk_at "rd"
          refine ix_row (z2.row i r er) hj ?_
          refine ix_row (z2.row i r er) hk ?_
          refine ix_row (z2.row k w ew) hj ?_
          walk_at "rd"
          refine ⟨_, _, rfl, fun a b ea eb => half_sz (hsj _ _ _ ea) (hsj _ _ _ eb) (by omega), ?_⟩
          refine ⟨_, _, rfl, ?_⟩
          walk_at "rd"
          refine set_at (K := K) (z2.row i r er) hj ?_
          walk_at "rd"
          refine ⟨z2.set _ er, fun b o hb e => ?_⟩
          rw [upd_ne (fun z => hb (by rw [z]; exact List.mem_of_getElem? er))]
          exact kp2 b o hb e
        · rintro σ' H2 ⟨v4', rfl, z2, kp2⟩
          exact ⟨_, _, rfl, z2, kp2⟩
    · rintro σ' H1 ⟨v3, v4, rfl, z1, kp⟩
      rw [List.length_map, z.len] at z1
      exact q H1 z1 kp
def spNarrowest (K : PySem.W.Frag) : Sp := fun vs H Q _ => ∃ (p : Addr) (as : List Addr) (n : Nat) (M : Mx) (s : Nat), vs = [.ref p] ∧ ZAt H p as n M ∧ n ≤ 60 ∧ 1 ≤ s ∧ SzM s M ∧ s + 2 * n * n * n ≤ 9000 ∧
  ((∃ i d, i < n ∧ nrw n M i i = some d ∧ d < 1) → ∀ H', Same H H' → Q .non H') ∧
  ((∀ i, i < n → ∃ d, nrw n M i i = some d ∧ 1 ≤ d) → ∀ p' as' H', Same H H' → ZAt H' p' as' n (nrw n M) → H p' = none → (∀ a ∈ as', H a = none) → Q (.ref p') H')
theorem ok_narrowest (T : Top K mg) : FnOk P w K mg base CX0 3 T.f_narrowest T.d_narrowest ["zone"] (spNarrowest K) := by
  refine T.F_narrowest.ok sc_narrowest (fun vs H Q E h => ?_) (fun cdv A outer s H vs Q E hr h => ?_)
  · obtain ⟨p, as, n, M, s, rfl, _⟩ := h; rfl
  · obtain ⟨p, as, n, M, sz, rfl, z, hn, hs1, hs, hb, q1, q2⟩ := h
    refine ⟨_, (pss_cons (lc_vsS (vs := [4]) (ps_setLc (i := 1) (own := [("row", 4)]) (g := gName 4) (tt := tYes) rfl sc_narrowest.nd rfl rfl (sw_true rfl rfl rfl (by decide +kernel)) (pi_listA (K := K) rfl (pv 0)) (blkOk_by (own := [("row", 4)]) (N := ["zone", "rows", "i", "k", "row"]) (sc := defScope s_narrowest) (by decide +kernel)) (fun _ _ _ _ _ => (pg_name (i := 4) sc_narrowest.nd rfl (.inl rfl))) (fun _ _ _ _ _ => pts_nil) (fun _ _ _ _ _ => (pe_callTy (call_listA (K := K) rfl) (by rfl) T.m_list (by decide +kernel) (pa_cons (pv 4) pa_nil)))) rfl)
      (pss_cons (ps_for PassesOwn.never rfl (pi_range1 (by rfl) T.m_range (pa_cons (pe_callB call_len_seq (by rfl) T.m_len (by decide +kernel) (pa_cons (pv 1) pa_nil)) pa_nil)) (pg_name (i := 2) sc_narrowest.nd rfl (.inl rfl)) (pss_cons (ps_asg (pe_call (ok_narrower T) (hr.mono (by decide)) rfl T.g_narrower T.F_narrower.kp T.b_narrower .nil pass0 (pa_cons (pe_ix (ix_listA (K := K) rfl) (pe_ix (ix_listA (K := K) rfl) (pv 1) (pv 2) (fun _ _ => rfl)) (pv 2) (fun _ _ => rfl)) (pa_cons (pe_glob (v := .int 1) rfl T.g_NOUGHT ⟨_, rfl⟩) pa_nil))) (pg_sub (pe_ix (ix_listA (K := K) rfl) (pv 1) (pv 2) (fun _ _ => rfl)) (pv 2) set_list))
      (pss_one (ps_asg (pe_call (ok_narrower T) (hr.mono (by decide)) rfl T.g_narrower T.F_narrower.kp T.b_narrower .nil pass0 (pa_cons (pe_ix (ix_listA (K := K) rfl) (pe_ix (ix_listA (K := K) rfl) (pv 1) pe_int (fun _ _ => rfl)) (pv 2) (fun _ _ => rfl)) (pa_cons (pe_glob (v := .int 1) rfl T.g_NOUGHT ⟨_, rfl⟩) pa_nil))) (pg_sub (pe_ix (ix_listA (K := K) rfl) (pv 1) pe_int (fun _ _ => rfl)) (pv 2) set_list)))))
      (pss_cons (ps_for PassesOwn.never rfl (pi_range1 (by rfl) T.m_range (pa_cons (pe_callB call_len_seq (by rfl) T.m_len (by decide +kernel) (pa_cons (pv 1) pa_nil)) pa_nil)) (pg_name (i := 3) sc_narrowest.nd rfl (.inl rfl)) (pss_one (ps_expr (pe_call (ok_through T) (hr.mono (by decide)) rfl T.g_through T.F_through.kp T.b_through .nil pass0 (pa_cons (pv 1) (pa_cons (pv 3) pa_nil))))))
      (pss_cons (ps_for PassesOwn.never rfl (pi_range1 (by rfl) T.m_range (pa_cons (pe_callB call_len_seq (by rfl) T.m_len (by decide +kernel) (pa_cons (pv 1) pa_nil)) pa_nil)) (pg_name (i := 2) sc_narrowest.nd rfl (.inl rfl)) (pss_one (ps_if (pt_cmpR op_lt (pe_ix (ix_listA (K := K) rfl) (pe_ix (ix_listA (K := K) rfl) (pv 1) (pv 2) (fun _ _ => rfl)) (pv 2) (fun _ _ => rfl)) (pe_glob (v := .int 1) rfl T.g_NOUGHT ⟨_, rfl⟩) (nomark _)) (pss_one (ps_ret pe_non)) pss_nil)))
      (pss_one (ps_ret (pv 1))))))), ?_⟩
    refine seq_step ?_
    walk_at "rd"
    refine lc_copy z hn rfl (by simp) fun D as' H1 s1 z1 fD fa => ?_
    refine seq_step ?_
    refine for_rg ?_
    walk_at "rd"
    refine ⟨_, .inl (.of z1.top), ?_⟩
    rw [List.length_map, z1.len]
    refine ⟨(rg_ok (by omega)).1, (rg_ok (by omega)).2, ?_⟩
    rw [Int.toNat_natCast]
    refine forR_by (fun i σ' H' => ∃ v2, σ' = [some (.ref p), some (.ref D), v2, none, none] ∧ ZAt H' D as' n (iter diag1 i M) ∧ Same H H') ⟨_, rfl, z1, s1⟩ ?_ ?_
    · rintro i σ' H2 hi ⟨v2, rfl, z2, s2⟩
      generalize hM2 : iter diag1 i M = M2 at *
      rw [show iter diag1 (i + 1) M = diag1 i M2 by rw [← hM2]; rfl]
      walk_at "rd"
      refine seq_step ?_
      walk_at "rd"
      refine ix_top z2 hi fun r er hr1 => ?_
      refine ix_row hr1 hi ?_
      walk_at "rd"
      refine ⟨_, some 1, rfl, ?_⟩
      refine ix_top z2 hi fun r' er' hr1' => ?_
      obtain rfl : r = r' := Option.some.inj (er.symm.trans er')
      walk_at "rd"
      refine set_at (K := K) hr1 hi ?_
      have z3 := z2.set (j := i) (narO (M2 i i) (some 1)) er
      have s3 : Same H (upd H2 r (.lst ((zrow n (M2 i)).set i (oV (narO (M2 i i) (some 1)))))) := same_updN (fa r (List.mem_of_getElem? er)) s2
      generalize upd H2 r (.lst ((zrow n (M2 i)).set i (oV (narO (M2 i i) (some 1))))) = H3 at *
      unfold diag1
      generalize up2 M2 i i (narO (M2 i i) (some 1)) = M3 at *
      have h0 : 0 < n := by omega
      walk_at "rd"
      refine ix_top (i := 0) z3 h0 fun r0 er0 hr0 => ?_
      refine ix_row hr0 hi ?_
      walk_at "rd"
      refine ⟨_, some 1, rfl, ?_⟩
      refine ix_top (i := 0) z3 h0 fun r' er' hr1' => ?_
      obtain rfl : r0 = r' := Option.some.inj (er0.symm.trans er')
      walk_at "rd"
      refine set_at (K := K) hr0 hi ?_
      exact ⟨z3.set (j := i) _ er0, same_updN (fa r0 (List.mem_of_getElem? er0)) s3⟩
    · rintro σ' H2 ⟨v2, rfl, z2, s2⟩
      refine seq_step ?_
      walk_at "rd"
      refine for_rg ?_
      walk_at "rd"
      refine ⟨_, .inl (.of z2.top), ?_⟩
      rw [List.length_map, z2.len]
      refine ⟨(rg_ok (by omega)).1, (rg_ok (by omega)).2, ?_⟩
      rw [Int.toNat_natCast]
      refine forR_by (fun i σ' H' => ∃ v3, σ' = [some (.ref p), some (.ref D), v2, v3, none] ∧ ZAt H' D as' n (iter (thr n) i (iter diag1 n M)) ∧ Same H H') ⟨_, rfl, z2, s2⟩ ?_ ?_
      · rintro k σ' H3 hk ⟨v3, rfl, z3, s3⟩
        have hsk := nrw_sz (n := n) (m := k) hs1 hs
        have hmul : 2 * n * n * k + 2 * n * n ≤ 2 * n * n * n := by
          rw [← Nat.mul_succ]; exact Nat.mul_le_mul_left _ hk
        walk_at "rd"
        refine ⟨D, as', n, _, k, _, rfl, z3, hk, hn, hsk, by omega, fun H4 z4 kp => ?_⟩
        walk_at "rd"
        exact ⟨z4, fun b o e => kp b o (fun hb => by rw [fa b hb] at e; cases e) (s3 b o e)⟩
      · rintro σ' H3 ⟨v3, rfl, z3, s3⟩
        have zN : ZAt H3 D as' n (nrw n M) := z3
        refine seq_step ?_
        walk_at "rd"
        refine for_rg ?_
        walk_at "rd"
        refine ⟨_, .inl (.of zN.top), ?_⟩
        rw [List.length_map, zN.len]
        refine ⟨(rg_ok (by omega)).1, (rg_ok (by omega)).2, ?_⟩
        rw [Int.toNat_natCast]
        refine forR_by (fun i σ' H' => ∃ v2, σ' = [some (.ref p), some (.ref D), v2, v3, none] ∧ H' = H3 ∧ ∀ j, j < i → ∃ d, nrw n M j j = some d ∧ 1 ≤ d) ⟨_, rfl, rfl, fun j h => by omega⟩ ?_ ?_
        · rintro i σ' H4 hi ⟨v2', rfl, rfl, hd⟩
          walk_at "rd"
          refine ix_top zN hi fun r er hr1 => ?_
          refine ix_row hr1 hi ?_
          obtain ⟨d, ed⟩ := has_nrw (M := M) hi
          rw [ed]
          simp only [oV_some]
          walk_at "rd"
          refine ite_d (fun c => q1 ⟨i, d, hi, ed, c⟩ _ s3) (fun c j hj => ?_)
          by_cases cj : j = i
          · subst cj; exact ⟨d, ed, by omega⟩
          · exact hd j (by omega)
        · rintro σ' H4 ⟨v2', rfl, rfl, hd⟩
          walk_at "rd"
          exact q2 hd D as' _ s3 zN fD fa
def spStream (K : PySem.W.Frag) : Sp := fun vs H Q _ => ∃ (c : Int) (m : Nat), vs = [.int c, .int m] ∧ m ≤ 60 ∧ ∀ (p : Addr) (H' : Hp) (xs : List Int), Same H H' → H p = none → H' p = some (.lst (xs.map V.int)) → xs.length = m → (∀ x ∈ xs, 0 ≤ x ∧ Sz 150 x) → Q (.ref p) H'
theorem ok_l_stream (T : Top K mg) : FnOk P w K mg base CX0 1 T.f_l_stream T.d_l_stream ["_law_cell", "_law_many"] (spStream K) := by
  refine T.F_l_stream.ok sc_l_stream (fun vs H Q E h => ?_) (fun cdv A outer s H vs Q E hr h => ?_)
  · obtain ⟨c, m, rfl, _⟩ := h; rfl
  · obtain ⟨c, m, rfl, hm, q⟩ := h
    refine ⟨_, (pss_cons (ps_set (i := 2) sc_l_stream.nd rfl (.inl rfl) (pe_lstN pa_nil))
      (pss_cons (ps_if (pt_cmpR op_ge (pv 0) (pe_op op_pow pe_int pe_int) (nomark _)) (pss_cons (ps_set (i := 3) sc_l_stream.nd rfl (.inl rfl) (pe_op op_sub (pv 0) (pe_op op_pow pe_int pe_int)))
      (pss_cons (ps_for PassesOwn.never rfl (pi_range1 (by rfl) T.m_range (pa_cons (pv 1) pa_nil)) (pg_name (i := 4) sc_l_stream.nd rfl (.inl rfl)) (pss_cons (ps_expr (pe_bm PySem.F.plainAttrs_list PySem.F.slot_list_append PySem.F.type_list_append mt_append (pv 2) (pa_cons (pe_op op_modN (pv 3) (pe_op op_pow pe_int pe_int)) pa_nil)))
      (pss_one (ps_set (i := 3) sc_l_stream.nd rfl (.inl rfl) (pe_op op_fdivZ (pv 3) (pe_op op_pow pe_int pe_int))))))
      (pss_one (ps_ret (pv 2))))) pss_nil)
      (pss_cons (ps_set (i := 5) sc_l_stream.nd rfl (.inl rfl) (pe_op op_add (pe_op op_modN (pv 0) (pe_op op_add (pe_op op_pow pe_int pe_int) pe_int)) pe_int))
      (pss_cons (ps_for PassesOwn.never rfl (pi_range1 (by rfl) T.m_range (pa_cons (pe_op op_add (pv 1) pe_int) pa_nil)) (pg_name (i := 4) sc_l_stream.nd rfl (.inl rfl)) (pss_cons (ps_set (i := 5) sc_l_stream.nd rfl (.inl rfl) (pe_op op_modN (pe_op op_add (pe_op op_add (pe_op op_mulW (pv 5) (pv 5)) (pe_op op_mulW pe_int (pv 5))) (pv 4)) (pe_op op_add (pe_op op_pow pe_int pe_int) pe_int)))
      (pss_one (ps_expr (pe_bm PySem.F.plainAttrs_list PySem.F.slot_list_append PySem.F.type_list_append mt_append (pv 2) (pa_cons (pv 5) pa_nil))))))
      (pss_one (ps_ret (pe_slice (sl_listA (K := K) rfl) (pv 2) (po_some pe_int) po_none))))))), ?_⟩
    refine seq_step ?_
    walk_at "rd"
    intro l H1 s1 fl e1
    refine seq_step ?_
    walk_at "rd"
    refine ite_d (fun _ => ?_) (fun _ => ?_)
    · refine seq_step ?_
      walk_at "rd"
      refine seq_step ?_
      refine for_rg ?_
      walk_at "rd"
      refine ⟨(rg_ok (by omega)).1, (rg_ok (by omega)).2, ?_⟩
      rw [Int.toNat_natCast]
      refine forR_by (fun i σ' H' => ∃ (r : Int) (v4 : Option V) (xs : List Int), σ' = [some (.int c), some (.int m), some (.ref l), some (.int r), v4, none] ∧ Same H H' ∧ H' l = some (.lst (xs.map V.int)) ∧ xs.length = i ∧ ∀ x ∈ xs, 0 ≤ x ∧ Sz 150 x) ⟨_, _, [], rfl, s1, e1, rfl, fun x h => by cases h⟩ ?_ ?_
      · rintro i σ' H2 hi ⟨r, v4, xs, rfl, s2, el, hl, hx⟩
        walk_at "rd"
        refine seq_step ?_
        refine ⟨.ref l, rfl, .inl ⟨rfl, _, .of el⟩, ?_⟩
        walk_at "rd"
        refine app_at el (by rw [List.length_map]; omega) ?_
        walk_at "rd"
        have f := fm_pos (c := r) (m := 1000000000000000000000000000000000000000000000) (by decide)
        refine ⟨same_updN fl s2, xs ++ [r.fmod 1000000000000000000000000000000000000000000000], by rw [upd_same, List.map_append]; rfl, by simp [hl], fun x hx' => ?_⟩
        rcases List.mem_append.mp hx' with h | h
        · exact hx x h
        · have : x = r.fmod 1000000000000000000000000000000000000000000000 := by simpa using h
          rw [this]
          exact ⟨f.1, Sz.nn f.1 (Int.le_of_lt f.2) (by unfold Sz; decide +kernel)⟩
      · rintro σ' H2 ⟨r, v4, xs, rfl, s2, el, hl, hx⟩
        walk_at "rd"
        exact q l H2 xs s2 fl el hl hx
    · refine seq_step ?_
      walk_at "rd"
      have f0 := fm_pos (c := c) (m := 1000000000000000009) (by decide)
      refine seq_step ?_
      refine for_rg ?_
      walk_at "rd"
      refine ⟨by omega, by omega, ?_⟩
      rw [show ((m : Int) + 2).toNat = m + 2 by omega]
      refine forR_by (fun i σ' H' => ∃ (r : Int) (v4 : Option V) (xs : List Int), σ' = [some (.int c), some (.int m), some (.ref l), none, v4, some (.int r)] ∧ 0 ≤ r ∧ Sz 62 r ∧ Same H H' ∧ H' l = some (.lst (xs.map V.int)) ∧ xs.length = i ∧ ∀ x ∈ xs, 0 ≤ x ∧ Sz 150 x) ⟨_, _, [], rfl, by omega, by unfold Sz; omega, s1, e1, rfl, fun x h => by cases h⟩ ?_ ?_
      · rintro i σ' H2 hi ⟨r, v4, xs, rfl, r0, sr, s2, el, hl, hx⟩
        walk_at "rd"
        refine seq_step ?_
        walk_at "rd"
        refine ⟨sr.mulW sr (by omega), Sz.mulW (a := 20) (by unfold Sz; decide) sr (by omega), ?_⟩
        have f := fm_pos (c := r * r + 48271 * r + i) (m := 1000000000000000009) (by decide)
        generalize (r * r + 48271 * r + i).fmod 1000000000000000009 = r2 at *
        refine ⟨.ref l, rfl, .inl ⟨rfl, _, .of el⟩, ?_⟩
        walk_at "rd"
        refine app_at el (by rw [List.length_map]; omega) ?_
        walk_at "rd"
        refine ⟨f.1, by unfold Sz; omega, same_updN fl s2, xs ++ [r2], by rw [upd_same, List.map_append]; rfl, by simp [hl], fun x hx' => ?_⟩
        rcases List.mem_append.mp hx' with h | h
        · exact hx x h
        · have : x = r2 := by simpa using h
          rw [this]
          exact ⟨f.1, by unfold Sz; omega⟩
      · rintro σ' H2 ⟨r, v4, xs, rfl, r0, sr, s2, el, hl, hx⟩
        walk_at "rd"
        refine ⟨_, .of el, fun p2 H3 s3 f3 e3 => ?_⟩
        have ec : cutV (xs.map V.int) (some 2) none = (xs.drop 2).map V.int := by
          rw [List.map_drop]
          exact cut_from (k := 2) (by rw [List.length_map]; omega)
        rw [ec] at e3
        exact q p2 H3 (xs.drop 2) (s2.trans s3) (s2.free f3) e3 (by rw [List.length_drop]; omega) fun x h => hx x (List.mem_of_mem_drop h)
def spRows (K : PySem.W.Frag) : Sp := fun vs H Q _ => ∃ (m : Nat) (px : Addr) (xs : List Int) (most : Int), vs = [.int m, .ref px, .int most] ∧ m ≤ 6 ∧ SqL K H px (xs.map V.int) ∧ (m + 1) * (m + 1) ≤ xs.length ∧ 0 < most ∧ Sz 41 most ∧
  ∀ (p : Addr) (as : List Addr) (M : Mx) (H' : Hp), Same H H' → ZAt H' p as (m + 1) M → H p = none → (∀ a ∈ as, H a = none) → SzM 50 M → Q (.ref p) H'
theorem ok_l_rows (T : Top K mg) : FnOk P w K mg base CX0 1 T.f_l_rows T.d_l_rows ["_law_many", "_law_xs", "_law_most"] (spRows K) := by
  refine T.F_l_rows.ok sc_l_rows (fun vs H Q E h => ?_) (fun cdv A outer s H vs Q E hr h => ?_)
  · obtain ⟨m, px, xs, most, rfl, _⟩ := h; rfl
  · obtain ⟨m, px, xs, most, rfl, hm, hX, hlen, hmo, smo, q⟩ := h
    refine ⟨_, (pss_cons (ps_set (i := 3) sc_l_rows.nd rfl (.inl rfl) (pe_lstN pa_nil))
      (pss_cons (ps_for PassesOwn.never rfl (pi_range1 (by rfl) T.m_range (pa_cons (pe_op op_add (pv 0) pe_int) pa_nil)) (pg_name (i := 4) sc_l_rows.nd rfl (.inl rfl)) (pss_cons (ps_set (i := 5) sc_l_rows.nd rfl (.inl rfl) (pe_lstN pa_nil))
      (pss_cons (ps_for PassesOwn.never rfl (pi_range1 (by rfl) T.m_range (pa_cons (pe_op op_add (pv 0) pe_int) pa_nil)) (pg_name (i := 6) sc_l_rows.nd rfl (.inl rfl)) (pss_cons (ps_set (i := 7) sc_l_rows.nd rfl (.inl rfl) (pe_ix (ix_listA (K := K) rfl) (pv 1) (pe_op op_add (pe_op op_mulW (pv 4) (pe_op op_add (pv 0) pe_int)) (pv 6)) (fun _ _ => rfl)))
      (pss_one (ps_if (pt_cmpR op_lt (pe_op op_modN (pv 7) pe_int) pe_int (nomark _)) (pss_one (ps_expr (pe_bm PySem.F.plainAttrs_list PySem.F.slot_list_append PySem.F.type_list_append mt_append (pv 5) (pa_cons pe_non pa_nil)))) (pss_one (ps_expr (pe_bm PySem.F.plainAttrs_list PySem.F.slot_list_append PySem.F.type_list_append mt_append (pv 5) (pa_cons (pe_op op_add (pe_op op_sub (pe_op op_modN (pe_op op_fdivZ (pv 7) pe_int) (pe_op op_mulW pe_int (pv 2))) (pe_op op_mulW pe_int (pv 2))) pe_int) pa_nil))))))))
      (pss_one (ps_expr (pe_bm PySem.F.plainAttrs_list PySem.F.slot_list_append PySem.F.type_list_append mt_append (pv 3) (pa_cons (pv 5) pa_nil)))))))
      (pss_one (ps_ret (pv 3))))), ?_⟩
    refine seq_step ?_
    walk_at "rd"
    intro l H1 s1 fl e1
    refine seq_step ?_
    refine for_rg ?_
    walk_at "rd"
    refine ⟨by omega, by omega, ?_⟩
    rw [show ((m : Int) + 1).toNat = m + 1 by omega]
    refine forR_by (fun i σ' H' => ∃ (as : List Addr) (M : Mx) (v4 v5 v6 v7 : Option V), σ' = [some (.int m), some (.ref px), some (.int most), some (.ref l), v4, v5, v6, v7] ∧ Same H H' ∧ Grow H H' l as i (m + 1) M ∧ SzM 50 M)
      ⟨[], fun _ _ => none, _, _, _, _, rfl, s1, ⟨e1, rfl, List.nodup_nil, (fun a h => by cases h), (fun j a h => by cases h)⟩, fun i j v h => by cases h⟩ ?_ ?_
    · rintro i σ' H2 hi ⟨as, M, v4, v5, v6, v7, rfl, s2, g, sM⟩
      walk_at "rd"
      refine seq_step ?_
      walk_at "rd"
      intro r H3 s3 fr e3
      refine seq_step ?_
      refine for_rg ?_
      walk_at "rd"
      refine ⟨by omega, by omega, ?_⟩
      rw [show ((m : Int) + 1).toNat = m + 1 by omega]
      have nl : r ≠ l := fun e => by rw [e, g.top] at fr; cases fr
      have nr : r ∉ as := fun hm => by
        obtain ⟨j, hj, e⟩ := List.mem_iff_getElem.mp hm
        have := g.row j r (by rw [List.getElem?_eq_getElem hj, e])
        rw [fr] at this; cases this
      have g3 : Grow H H3 l as i (m + 1) M := g.keep fun b o e _ => s3 b o e
      refine forR_by (fun j σ' H' => ∃ (f : Nat → Option Int) (v6 v7 : Option V), σ' = [some (.int m), some (.ref px), some (.int most), some (.ref l), some (.int i), some (.ref r), v6, v7] ∧ Same H H' ∧ Grow H H' l as i (m + 1) M ∧ H' r = some (.lst (zrow j f)) ∧ ∀ b v, f b = some v → Sz 50 v)
        ⟨fun _ => none, _, _, rfl, s2.trans s3, g3, e3, fun b v h => by cases h⟩ ?_ ?_
      · rintro j σ' H4 hj ⟨f, v6, v7, rfl, s4, g4, e4, hf⟩
        walk_at "rd"
        refine seq_step ?_
        walk_at "rd"
        refine ⟨Sz.mulW (a := 10) (b := 10) (by unfold Sz; omega) (by unfold Sz; omega) (by omega), ?_⟩
        have hidx : i * (m + 1) + j < xs.length := by
          have : i * (m + 1) + (m + 1) ≤ (m + 1) * (m + 1) := by rw [← Nat.succ_mul]; exact Nat.mul_le_mul_right _ hi
          omega
        have hcast : (i : Int) * ((m : Int) + 1) + (j : Int) = ((i * (m + 1) + j : Nat) : Int) := by push_cast; rfl
        rw [hcast]
        refine ix_l (s4.seq hX) (by omega) (by rw [Int.toNat_natCast, List.getElem?_map, List.getElem?_eq_getElem hidx]; rfl) ?_
        generalize xs[i * (m + 1) + j] = x
        walk_at "rd"
        have put : ∀ (y : Option Int), (∀ v, y = some v → Sz 50 v) → ∀ v6' v7' : Option V, ∃ (f : Nat → Option Int) (w6 w7 : Option V), [some (.int m), some (.ref px), some (.int most), some (.ref l), some (.int i), some (.ref r), v6', v7'] = [some (V.int m), some (.ref px), some (.int most), some (.ref l), some (.int i), some (.ref r), w6, w7] ∧ Same H (upd H4 r (.lst (zrow j f ++ [oV y]))) ∧ True := fun y _ v6' v7' => ⟨f, _, _, rfl, same_updN (s2.free fr) s4, trivial⟩
        have fin : ∀ (y : Option Int), (∀ v, y = some v → Sz 50 v) → Same H (upd H4 r (.lst (zrow j f ++ [oV y]))) ∧ Grow H (upd H4 r (.lst (zrow j f ++ [oV y]))) l as i (m + 1) M ∧ ∃ g' : Nat → Option Int, (upd H4 r (.lst (zrow j f ++ [oV y]))) r = some (.lst (zrow (j + 1) g')) ∧ ∀ b v, g' b = some v → Sz 50 v := by
          intro y hy
          refine ⟨same_updN (s2.free fr) s4, g4.keep fun b o e hb => ?_, fun b => if b = j then y else f b, by rw [upd_same, zrow_snoc], fun b v h => ?_⟩
          · rw [upd_ne (fun z => by rcases hb with h | h; exact nl (z ▸ h); exact nr (z ▸ h))]; exact e
          · dsimp only at h
            split at h
            · exact hy v h
            · exact hf b v h
        refine ite_d (fun _ => ?_) (fun _ => ?_)
        · refine ⟨.ref r, rfl, .inl ⟨rfl, _, .of e4⟩, ?_⟩
          walk_at "rd"
          refine app_at e4 (by rw [zrow_len]; omega) ?_
          walk_at "rd"
          obtain ⟨a1, a2, g', a3, a4⟩ := fin none (fun v h => by cases h)
          exact ⟨a1, a2, g', a3, a4⟩
        · refine ⟨.ref r, rfl, .inl ⟨rfl, _, .of e4⟩, ?_⟩
          walk_at "rd"
          have f5 := fm_pos (c := x.fdiv 5) (m := 4 * most) (by omega)
          refine ⟨Sz.mulW (a := 4) (by unfold Sz; decide) smo (by omega), by omega, Sz.mulW (a := 4) (by unfold Sz; decide) smo (by omega), ?_⟩
          have sy : Sz 50 ((x.fdiv 5).fmod (4 * most) - 2 * most + 1) := by unfold Sz at smo ⊢; omega
          refine app_at e4 (by rw [zrow_len]; omega) ?_
          walk_at "rd"
          obtain ⟨a1, a2, g', a3, a4⟩ := fin (some ((x.fdiv 5).fmod (4 * most) - 2 * most + 1)) (fun v h => by cases h; exact sy)
          exact ⟨a1, a2, g', a3, a4⟩
      · rintro σ' H4 ⟨f, v6', v7', rfl, s4, g4, e4, hf⟩
        walk_at "rd"
        refine ⟨.ref l, rfl, .inl ⟨rfl, _, .of g4.top⟩, ?_⟩
        walk_at "rd"
        refine app_at g4.top (by rw [List.length_map, g4.len]; omega) ?_
        walk_at "rd"
        refine ⟨same_updN fl s4, as ++ [r], _, g4.snoc e4 (s2.free fr) nr nl, fun a b v h => ?_⟩
        have h : (if a = i then f b else M a b) = some v := h
        split at h
        · exact hf b v h
        · exact sM a b v h
    · rintro σ' H2 ⟨as, M, v4, v5, v6, v7, rfl, s2, g, sM⟩
      walk_at "rd"
      exact q l as M H2 s2 g.done fl (fun a ha => (g.fr a ha).1) sM
def RgInv (m : Nat) (c : Int) (la lr : Addr) (H2 : Hp) (i : Nat) (σ' : L2.St) (H' : Hp) : Prop := ∃ (ring left : List Nat) (v4 : Option V), σ' = [some (.int m), some (.int c), some (.ref la), some (.ref lr), v4] ∧ (∀ b o, b ≠ la → b ≠ lr → H2 b = some o → H' b = some o) ∧ H' la = some (.lst (natV left)) ∧ H' lr = some (.lst (natV ring)) ∧ ring.length = i ∧ left.length = m + 1 - i ∧ (ring ++ left).Nodup ∧ ∀ x ∈ ring ++ left, x < m + 1
def spRing (K : PySem.W.Frag) : Sp := fun vs H Q _ => ∃ (m : Nat) (c : Int), vs = [.int m, .int c] ∧ m ≤ 6 ∧ ∀ (p : Addr) (ring : List Nat) (H' : Hp), Same H H' → H p = none → H' p = some (.lst (natV ring)) → 0 < ring.length → ring.length ≤ m + 1 → ring.Nodup → (∀ x ∈ ring, x < m + 1) → Q (.ref p) H'
theorem ok_l_ring (T : Top K mg) : FnOk P w K mg base CX0 1 T.f_l_ring T.d_l_ring ["_law_many", "_law_cell"] (spRing K) := by
  refine T.F_l_ring.ok sc_l_ring (fun vs H Q E h => ?_) (fun cdv A outer s H vs Q E hr h => ?_)
  · obtain ⟨m, c, rfl, _⟩ := h; rfl
  · obtain ⟨m, c, rfl, hm, q⟩ := h
    refine ⟨_, (pss_cons (ps_set (i := 2) sc_l_ring.nd rfl (.inl rfl) (pe_listRg rfl (by rfl) T.m_list (prg_1 (by rfl) T.m_range (pe_op op_add (pv 0) pe_int))))
      (pss_cons (ps_set (i := 3) sc_l_ring.nd rfl (.inl rfl) (pe_lstN pa_nil))
      (pss_cons (ps_for PassesOwn.never rfl (pi_range1 (by rfl) T.m_range (pa_cons (pe_op op_add pe_int (pe_op op_modN (pv 1) (pe_op op_add (pv 0) pe_int))) pa_nil)) (pg_name (i := 4) sc_l_ring.nd rfl (.inl rfl)) (pss_one (ps_expr (pe_bm PySem.F.plainAttrs_list PySem.F.slot_list_append PySem.F.type_list_append mt_append (pv 3) (pa_cons (pe_bm PySem.F.plainAttrs_list PySem.F.slot_list_pop PySem.F.type_list_pop mt_popAt (pv 2) (pa_cons (pe_op op_modN (pe_op op_fdivZ (pv 1) (pe_op op_add pe_int (pv 4))) (pe_callB call_len_seq (by rfl) T.m_len (by decide +kernel) (pa_cons (pv 2) pa_nil))) pa_nil)) pa_nil)))))
      (pss_one (ps_ret (pv 3)))))), ?_⟩
    refine seq_step ?_
    refine ⟨.int m, rfl, m, 1, rfl, rfl, ((m : Int) + 1), rfl, ?_⟩
    have erg : rgV 0 ((m : Int) + 1) = natV (List.range (m + 1)) := by
      unfold rgV natV
      rw [show ((m : Int) + 1 - 0).toNat = m + 1 by omega]
      exact List.map_congr_left fun i _ => by rw [Int.zero_add]
    refine ⟨⟨by omega, by omega, by omega, by omega, by omega⟩, fun la fla => ?_⟩
    rw [erg]
    have e1 : (upd H la (.lst (natV (List.range (m + 1))))) la = some (.lst (natV (List.range (m + 1)))) := upd_same
    have s1 : Same H (upd H la (.lst (natV (List.range (m + 1))))) := upd_keep fla
    generalize upd H la (.lst (natV (List.range (m + 1)))) = H1 at *
    walk_at "rd"
    refine seq_step ?_
    walk_at "rd"
    intro lr H2 s2 flr e2
    have ela := s2 _ _ e1
    have nlr : lr ≠ la := fun e => by rw [e, e1] at flr; cases flr
    refine seq_step ?_
    refine for_rg ?_
    walk_at "rd"
    have f := fm_pos (c := c) (m := (m : Int) + 1) (by omega)
    refine ⟨by omega, by omega, by omega, ?_⟩
    obtain ⟨cnt, hcnt⟩ : ∃ cnt : Nat, (1 + c.fmod ((m : Int) + 1)).toNat = cnt := ⟨_, rfl⟩
    rw [hcnt]
    have hc1 : 0 < cnt ∧ cnt ≤ m + 1 := by omega
    refine forR_by (RgInv m c la lr H2)
      ⟨[], List.range (m + 1), _, rfl, fun _ _ _ _ e => e, ela, e2, rfl, by simp, by simp [List.nodup_range], fun x h => by simpa using h⟩ ?_ ?_
    · rintro i σ' H3 hi ⟨ring, left, v4, rfl, kp, el, er, hr1, hl1, nd, hx⟩
      walk_at "rd"
      refine ⟨.ref lr, rfl, .inl ⟨rfl, _, .of er⟩, .ref la, rfl, .inl ⟨rfl, _, .of el⟩, ?_⟩
      walk_at "rd"
      have dv : DivOk (7 + (i : Int)) := .of (n := 10) (by omega) (by unfold Sz; omega) (by omega)
      refine ⟨dv, _, .inl (.of el), ?_⟩
      rw [natV_len, hl1]
      have f2 := fm_pos (c := c.fdiv (7 + (i : Int))) (m := ((m + 1 - i : Nat) : Int)) (by omega)
      refine ⟨by omega, ?_⟩
      obtain ⟨k, hk⟩ : ∃ k : Nat, (c.fdiv (7 + (i : Int))).fmod ((m + 1 - i : Nat) : Int) = (k : Int) := ⟨((c.fdiv (7 + (i : Int))).fmod ((m + 1 - i : Nat) : Int)).toNat, by omega⟩
      rw [hk]
      have hkl : k < left.length := by omega
      refine ⟨la, _, k, k, _, rfl, rfl, el, by omega, by omega, (ixN_seq (by rw [natV_len]; unfold ixN; rw [if_pos (by omega), if_pos (by omega), Int.toNat_natCast])).1, natV_get hkl, ?_⟩
      have er' : (upd H3 la (.lst ((natV left).eraseIdx k))) lr = some (.lst (natV ring)) := by rw [upd_ne nlr]; exact er
      refine app_at er' (by rw [natV_len]; omega) ?_
      walk_at "rd"
      have pm : List.Perm ((ring ++ [left[k]]) ++ left.eraseIdx k) (ring ++ left) := by
        rw [List.append_assoc]
        exact List.Perm.append_left ring (perm_erase hkl)
      refine ⟨ring ++ [left[k]], left.eraseIdx k, _, rfl, fun b o h1 h2 e => ?_, ?_, ?_, by simp [hr1], by rw [List.length_eraseIdx_of_lt hkl]; omega, pm.nodup_iff.mpr nd, fun x h => hx x (pm.mem_iff.mp h)⟩
      · rw [upd_ne h2, upd_ne h1]; exact kp b o h1 h2 e
      · rw [upd_ne (fun e => nlr e.symm), upd_same]
        congr 2
        unfold natV
        rw [erase_map]
      · rw [upd_same]; congr 2; unfold natV; rw [List.map_append]; rfl
    · rintro σ' H3 ⟨ring, left, v4, rfl, kp, el, er, hr1, hl1, nd, hx⟩
      walk_at "rd"
      refine q lr ring H3 (fun b o e => ?_) (s1.free flr) er (by omega) (by omega) (List.nodup_append.mp nd).1 fun x h => hx x (List.mem_append_left _ h)
      have h1 := s1 _ _ e
      have h2 := s2 _ _ h1
      exact kp b o (ne_of_none e fla) (ne_of_none h1 flr) h2
/-- what the ring comes to so far -/
def PInv (pz px pr : Addr) (as : List Addr) (n : Nat) (r0 : Nat) (l : List Nat) (most way : Int) (H : Hp) (i : Nat) (σ' : L2.St) (H' : Hp) : Prop := ∃ (M : Mx) (come closed : Int) (v7 v8 : Option V), σ' = [some (.ref pz), some (.ref pr), some (.ref px), some (.int most), some (.int way), some (.int come), some (.int closed), v7, v8, none, none] ∧
  ZAt H' pz as n M ∧ (∀ b o, b ∉ as → H b = some o → H' b = some o) ∧ SzM 60 M ∧ (closed = 0 ∨ closed = 1) ∧ come.natAbs ≤ i * 4000000000000 ∧ pathO M r0 (l.take i) = some (2 * come + closed)
def spPut (K : PySem.W.Frag) : Sp := fun vs H Q _ => ∃ (pz px pr : Addr) (as : List Addr) (n : Nat) (M : Mx) (r0 : Nat) (l : List Nat) (xs : List Int) (most way : Int), vs = [.ref pz, .ref pr, .ref px, .int most, .int way] ∧ ZAt H pz as n M ∧ n ≤ 7 ∧ SzM 50 M ∧
  H pr = some (.lst (natV (r0 :: l))) ∧ (r0 :: l).Nodup ∧ (∀ x ∈ r0 :: l, x < n) ∧ (r0 :: l).length ≤ 5 ∧ H px = some (.lst (xs.map V.int)) ∧ xs.length = 6 ∧ (∀ x ∈ xs, 0 ≤ x ∧ Sz 150 x) ∧ 0 < most ∧ most ≤ 1000000000000 ∧ pr ∉ as ∧ px ∉ as ∧
  ∀ (M' : Mx) (H' : Hp) (sv : Int), ZAt H' pz as n M' → (∀ b o, b ∉ as → H b = some o → H' b = some o) → SzM 60 M' → addO (M' (lastOf r0 l) r0) (pathO M' r0 l) = some sv → sv < 1 → Q .non H'
theorem ok_l_put_ring (T : Top K mg) : FnOk P w K mg base CX0 1 T.f_l_put_ring T.d_l_put_ring ["_law_rows_here", "_law_ring_here", "_law_xs", "_law_most", "_law_way"] (spPut K) := by
  refine T.F_l_put_ring.ok sc_l_put_ring (fun vs H Q E h => ?_) (fun cdv A outer s H vs Q E hr h => ?_)
  · obtain ⟨pz, px, pr, as, n, M, r0, l, xs, most, way, rfl, _⟩ := h; rfl
  · obtain ⟨pz, px, pr, as, n, M, r0, l, xs, most, way, rfl, z, hn, sM, er, nd, hx, hl5, ex, hxl, hxs, hm0, hm1, npr, npx, q⟩ := h
    refine ⟨_, (pss_cons (ps_set (i := 5) sc_l_put_ring.nd rfl (.inl rfl) pe_int)
      (pss_cons (ps_set (i := 6) sc_l_put_ring.nd rfl (.inl rfl) pe_int)
      (pss_cons (ps_for PassesOwn.never rfl (pi_range1 (by rfl) T.m_range (pa_cons (pe_op op_sub (pe_callB call_len_seq (by rfl) T.m_len (by decide +kernel) (pa_cons (pv 1) pa_nil)) pe_int) pa_nil)) (pg_name (i := 7) sc_l_put_ring.nd rfl (.inl rfl)) (pss_cons (ps_set (i := 8) sc_l_put_ring.nd rfl (.inl rfl) (pe_op op_add (pe_op op_sub (pe_op op_modN (pe_ix (ix_listA (K := K) rfl) (pv 2) (pv 7) (fun _ _ => rfl)) (pe_op op_mulW pe_int (pv 3))) (pe_op op_mulW pe_int (pv 3))) pe_int))
      (pss_cons (ps_set (i := 5) sc_l_put_ring.nd rfl (.inl rfl) (pe_op op_add (pv 5) (pe_op op_fdivZ (pv 8) pe_int)))
      (pss_cons (ps_set (i := 6) sc_l_put_ring.nd rfl (.inl rfl) (pe_op op_mulW (pv 6) (pe_op op_modN (pv 8) pe_int)))
      (pss_one (ps_asg (pv 8) (pg_sub (pe_ix (ix_listA (K := K) rfl) (pv 0) (pe_ix (ix_listA (K := K) rfl) (pv 1) (pv 7) (fun _ _ => rfl)) (fun _ _ => rfl)) (pe_ix (ix_listA (K := K) rfl) (pv 1) (pe_op op_add (pv 7) pe_int) (fun _ _ => rfl)) set_list)))))))
      (pss_cons (ps_set (i := 9) sc_l_put_ring.nd rfl (.inl rfl) (pe_op op_sub (pe_op op_sub pe_int (pv 5)) (pe_ix (ix_listA (K := K) rfl) (pe_lstN (pa_cons pe_int (pa_cons pe_int (pa_cons (pe_op op_add pe_int (pe_op op_modN (pe_ix (ix_listA (K := K) rfl) (pv 2) pe_int (fun _ _ => rfl)) (pv 3))) pa_nil)))) (pe_op op_modN (pv 4) pe_int) (fun _ _ => rfl))))
      (pss_cons (ps_set (i := 10) sc_l_put_ring.nd rfl (.inl rfl) (pe_op op_modN (pe_op op_fdivZ (pv 4) pe_int) pe_int))
      (pss_cons (ps_if (PW.pt (pw_and (pt_cmpR op_eq (pe_op op_modN (pv 4) pe_int) pe_int (nomark _)) (pw_and1 (pt_cmpR op_eq (pv 6) pe_int (nomark _))))) (pss_one (ps_set (i := 10) sc_l_put_ring.nd rfl (.inl rfl) pe_int)) pss_nil)
      (pss_one (ps_asg (pe_op op_add (pe_op op_mulW pe_int (pv 9)) (pv 10)) (pg_sub (pe_ix (ix_listA (K := K) rfl) (pv 0) (pe_ix (ix_listA (K := K) rfl) (pv 1) (pe_un un_neg pe_int) (fun _ _ => rfl)) (fun _ _ => rfl)) (pe_ix (ix_listA (K := K) rfl) (pv 1) pe_int (fun _ _ => rfl)) set_list))))))))), ?_⟩
    refine seq_step ?_
    walk_at "rd"
    refine seq_step ?_
    walk_at "rd"
    refine seq_step ?_
    refine for_rg ?_
    walk_at "rd"
    refine ⟨_, .inl (.of er), ?_⟩
    have hln : (natV (r0 :: l)).length = l.length + 1 := by rw [natV_len]; rfl
    have hl4 : l.length ≤ 4 := by simpa using hl5
    rw [hln]
    refine ⟨by omega, by omega, ?_⟩
    rw [show (((l.length + 1 : Nat) : Int) - 1).toNat = l.length by omega]
    refine forR_by (PInv pz px pr as n r0 l most way H) ⟨M, 0, 1, _, _, rfl, z, fun _ _ _ e => e, sM.mono (by omega), .inr rfl, by simp, rfl⟩ ?_ ?_
    · rintro i σ' H2 hi ⟨M2, come, closed, v7, v8, rfl, z2, kp, s2, hcl, hco, hp⟩
      walk_at "rd"
      refine seq_step ?_
      walk_at "rd"
      have ex2 := kp _ _ npx ex
      have er2 := kp _ _ npr er
      have hi6 : i < xs.length := by omega
      refine ix_l (.of ex2) (by omega) (by rw [Int.toNat_natCast, List.getElem?_map, List.getElem?_eq_getElem hi6]; rfl) ?_
      walk_at "rd"
      have smo : Sz 41 most := by unfold Sz; omega
      have four : Sz 3 4 := by unfold Sz; decide
      have two : Sz 2 2 := by unfold Sz; decide
      have f := fm_pos (c := xs[i]) (m := 4 * most) (by omega)
      refine ⟨four.mulW smo (by omega), by omega, two.mulW smo (by omega), ?_⟩
      obtain ⟨B, hB⟩ : ∃ B, xs[i].fmod (4 * most) - 2 * most + 1 = B := ⟨_, rfl⟩
      rw [hB]
      have bB : B.natAbs ≤ 2000000000001 := by omega
      refine seq_step ?_
      walk_at "rd"
      refine seq_step ?_
      walk_at "rd"
      have d2 : B.fdiv 2 = B / 2 := Int.fdiv_eq_ediv_of_nonneg _ (by omega)
      have m2 : B.fmod 2 = B % 2 := Int.fmod_eq_emod_of_nonneg _ (by omega)
      rw [d2, m2]
      refine ⟨Sz.mulW (a := 2) (b := 2) (by unfold Sz; omega) (by unfold Sz; omega) (by omega), ?_⟩
      obtain ⟨y, hy⟩ : ∃ y, (r0 :: l)[i]? = some y := ⟨_, List.getElem?_eq_getElem (by show i < l.length + 1; omega)⟩
      obtain ⟨c, hc⟩ : ∃ c, (r0 :: l)[i + 1]? = some c := ⟨_, List.getElem?_eq_getElem (by show i + 1 < l.length + 1; omega)⟩
      have hyn : y < n := hx y (List.mem_of_getElem? hy)
      have hcn : c < n := hx c (List.mem_of_getElem? hc)
      refine ix_l (v := .int (y : Nat)) (.of er2) (by omega) (by rw [Int.toNat_natCast]; unfold natV; rw [List.getElem?_map, hy]; rfl) ?_
      refine ix_top z2 hyn fun r er' hr' => ?_
      refine ix_l (v := .int (c : Nat)) (.of er2) (by omega) (by rw [show ((i : Int) + 1).toNat = i + 1 by omega]; unfold natV; rw [List.getElem?_map, hc]; rfl) ?_
      refine set_at (K := K) (x := some B) hr' hcn ?_
      have z3 := z2.set (j := c) (some B) er'
      have hcl' : closed * (B % 2) = 0 ∨ closed * (B % 2) = 1 := by
        rcases hcl with rfl | rfl
        · exact .inl (Int.zero_mul _)
        · rw [Int.one_mul]; omega
      have ndk : y ∉ (r0 :: l.take i).dropLast := by
        rw [show y = lastOf r0 (l.take i) from (lastOf_get l r0 i y hy).symm]
        refine nodup_last ?_
        have : List.Sublist (r0 :: l.take i) (r0 :: l) := (List.take_sublist i l).cons_cons r0
        exact this.nodup nd
      have hlc : l[i]? = some c := hc
      refine ⟨_, _, _, _, _, rfl, z3, fun b o hb e => ?_, ?_, hcl', ?_, ?_⟩
      · rw [upd_ne (fun q => hb (by rw [q]; exact List.mem_of_getElem? er'))]; exact kp b o hb e
      · exact up2_sz s2 fun v e => by cases e; unfold Sz; omega
      · omega
      · rw [List.take_add_one, hlc]
        show pathO _ r0 (l.take i ++ [c]) = _
        rw [path_snoc, path_up2 _ _ ndk, hp, lastOf_get l r0 i y hy]
        unfold up2
        rw [if_pos ⟨rfl, rfl⟩]
        show some _ = some _
        congr 1
        rcases hcl with rfl | rfl
        · rw [Int.zero_mul, if_neg (by omega)]; omega
        · rw [Int.one_mul]; split <;> omega
    · rintro σ' H2 ⟨M2, come, closed, v7, v8, rfl, z2, kp, s2, hcl, hco, hp⟩
      walk_at "rd"
      have ex2 := kp _ _ npx ex
      have er2 := kp _ _ npr er
      have h5 : 5 < xs.length := by omega
      have smo : Sz 41 most := by unfold Sz; omega
      refine seq_step ?_
      walk_at "rd"
      refine ix_l (.of ex2) (by omega) (by rw [List.getElem?_map]; exact congrArg _ (List.getElem?_eq_getElem h5)) ?_
      walk_at "rd"
      refine ⟨by omega, ?_⟩
      have f := fm_pos (c := xs[5]) hm0
      intro p3 H3 s3 _ e3
      have fw3 := fm_pos (c := way) (m := 3) (by decide)
      obtain ⟨ee, hee, he0, he1, he2⟩ : ∃ ee : Int, ([.int 0, .int 1, .int (1 + xs[5].fmod most)] : List V)[(way.fmod 3).toNat]? = some (.int ee) ∧ 0 ≤ ee ∧ ee ≤ 1000000000000 ∧ (ee = 0 ↔ way.fmod 3 = 0) := by
        have : way.fmod 3 = 0 ∨ way.fmod 3 = 1 ∨ way.fmod 3 = 2 := by omega
        rcases this with e | e | e <;> rw [e]
        · exact ⟨0, rfl, by omega, by omega, by omega⟩
        · exact ⟨1, rfl, by omega, by omega, by omega⟩
        · exact ⟨_, rfl, by omega, by omega, by omega⟩
      refine ix_l (.of e3) fw3.1 hee ?_
      walk_at "rd"
      have z3 := z2.keep s3
      have kp3 : ∀ b o, b ∉ as → H b = some o → H3 b = some o := fun b o hb e => s3 _ _ (kp b o hb e)
      rw [List.take_length] at hp
      refine seq_step ?_
      walk_at "rd"
      have fs := fm_pos (c := way.fdiv 3) (m := 2) (by decide)
      refine join_op (fun σ' H' => ∃ sh, σ' = [some (.ref pz), some (.ref pr), some (.ref px), some (.int most), some (.int way), some (.int come), some (.int closed), v7, v8, some (.int (0 - come - ee)), some (.int sh)] ∧ (0 ≤ sh ∧ sh < 2 ∧ (ee = 0 → closed = 1 → sh = 0)) ∧ H' = H3) (fun σ' H' h => ?_) (fun R j => ?_)
      rotate_left
      · refine seq_step ?_
        walk_at "rd"
        refine ite_d (fun c1 => ite_d (fun c2 => j _ _ ⟨0, rfl, ⟨by omega, by omega, fun _ _ => rfl⟩, rfl⟩) (fun c2 => j _ _ ⟨_, rfl, ⟨fs.1, fs.2, fun _ c => absurd c c2⟩, rfl⟩)) (fun c1 => j _ _ ⟨_, rfl, ⟨fs.1, fs.2, fun c _ => absurd (he2.mp c) c1⟩, rfl⟩)
      obtain ⟨sh, rfl, ⟨h0, h1, h2⟩, rfl⟩ := h
      have er3 := s3 _ _ er2
      have hlz : lastOf r0 l < n := hx _ (lastOf_mem l r0)
      have hr0 : r0 < n := hx r0 (List.mem_cons_self ..)
      walk_at "rd"
      refine ⟨Sz.mulW (a := 2) (b := 60) (by unfold Sz; decide) (by unfold Sz; omega) (by omega), ?_⟩
      refine ⟨pr, _, -1, _, rfl, rfl, .of er3, natV_last l r0, ?_⟩
      refine ix_top z3 hlz fun r er' hr' => ?_
      refine ix_l (v := .int (r0 : Nat)) (.of er3) (by omega) rfl ?_
      refine set_at (K := K) (x := some (2 * (0 - come - ee) + sh)) hr' hr0 ?_
      have nl := nodup_last nd
      refine q _ _ (2 * (0 - come - ee + come) + (if sh = 1 ∧ closed = 1 then 1 else 0)) (z3.set (j := r0) (some (2 * (0 - come - ee) + sh)) er') (fun b o hb e => ?_) (up2_sz s2 fun v e => by cases e; unfold Sz; omega) ?_ ?_
      · rw [upd_ne (fun q => hb (by rw [q]; exact List.mem_of_getElem? er'))]; exact kp3 b o hb e
      · rw [path_up2 _ _ nl, hp]
        unfold up2
        rw [if_pos ⟨rfl, rfl⟩]
        show some _ = some _
        congr 1
        rcases hcl with rfl | rfl
        · split <;> split <;> omega
        · split <;> split <;> omega
      · split <;> omega
def spLaw (K : PySem.W.Frag) : Sp := fun vs H Q _ => ∃ (a : Addr) (ns : List Int), vs = [.ref a] ∧ SqL K H a (ns.map V.int) ∧ ns.length ≤ 63 ∧ ∀ H', Q (.bl true) H'
theorem ok_law (T : Top K mg) : FnOk P w K mg base CX0 4 T.f_law T.d_law ["_law_script"] (spLaw K) := by
  refine T.F_law.ok sc_law (fun vs H Q E h => ?_) (fun cdv A outer s H vs Q E hr h => ?_)
  · obtain ⟨a, ns, rfl, _⟩ := h; rfl
  · obtain ⟨a, ns, rfl, hS, hlen, q⟩ := h
    refine ⟨_, (pss_cons (ps_set (i := 1) sc_law.nd rfl (.inl rfl) (pe_call (ok_l_cell_at T) (hr.mono (by decide)) rfl T.g_l_cell_at T.F_l_cell_at.kp T.b_l_cell_at .nil pass0 (pa_cons (pv 0) (pa_cons pe_int pa_nil))))
      (pss_cons (ps_set (i := 2) sc_law.nd rfl (.inl rfl) (pe_op op_add pe_int (pe_op op_modN (pv 1) pe_int)))
      (pss_cons (ps_set (i := 3) sc_law.nd rfl (.inl rfl) (pe_ix (ix_listA (K := K) rfl) (pe_lstN (pa_cons pe_int (pa_cons (pe_op op_pow pe_int pe_int) pa_nil))) (pe_op op_modN (pe_op op_fdivZ (pv 1) pe_int) pe_int) (fun _ _ => rfl)))
      (pss_cons (ps_set (i := 4) sc_law.nd rfl (.inl rfl) (pe_call (ok_l_rows T) (hr.mono (by decide)) rfl T.g_l_rows T.F_l_rows.kp T.b_l_rows .nil pass0 (pa_cons (pv 2) (pa_cons (pe_call (ok_l_stream T) (hr.mono (by decide)) rfl T.g_l_stream T.F_l_stream.kp T.b_l_stream .nil pass0 (pa_cons (pe_call (ok_l_cell_at T) (hr.mono (by decide)) rfl T.g_l_cell_at T.F_l_cell_at.kp T.b_l_cell_at .nil pass0 (pa_cons (pv 0) (pa_cons pe_int pa_nil))) (pa_cons pe_int pa_nil))) (pa_cons (pv 3) pa_nil)))))
      (pss_cons (ps_set (i := 5) sc_law.nd rfl (.inl rfl) (pe_call (ok_l_cell_at T) (hr.mono (by decide)) rfl T.g_l_cell_at T.F_l_cell_at.kp T.b_l_cell_at .nil pass0 (pa_cons (pv 0) (pa_cons pe_int pa_nil))))
      (pss_cons (ps_if (pt_cmpR op_eq (pe_op op_modN (pv 5) pe_int) pe_int (nomark _)) (pss_one (ps_asg (pe_ix (ix_listA (K := K) rfl) (pe_lstN (pa_cons pe_int (pa_cons (pe_op op_sub (pe_op op_sub pe_int pe_int) (pe_op op_modN (pe_op op_fdivZ (pv 5) pe_int) (pv 3))) (pa_cons (pe_op op_sub (pe_op op_sub pe_int pe_int) (pe_op op_mulW pe_int (pe_op op_modN (pe_op op_fdivZ (pv 5) pe_int) (pv 3)))) pa_nil)))) (pe_op op_modN (pe_op op_fdivZ (pv 5) pe_int) pe_int) (fun _ _ => rfl)) (pg_sub (pe_ix (ix_listA (K := K) rfl) (pv 4) (pe_op op_add pe_int (pe_op op_modN (pe_op op_fdivZ (pv 5) pe_int) (pv 2))) (fun _ _ => rfl)) pe_int set_list))) (pss_cons (ps_set (i := 6) sc_law.nd rfl (.inl rfl) (pe_call (ok_l_ring T) (hr.mono (by decide)) rfl T.g_l_ring T.F_l_ring.kp T.b_l_ring .nil pass0 (pa_cons (pv 2) (pa_cons (pe_op op_modN (pe_call (ok_l_cell_at T) (hr.mono (by decide)) rfl T.g_l_cell_at T.F_l_cell_at.kp T.b_l_cell_at .nil pass0 (pa_cons (pv 0) (pa_cons pe_int pa_nil))) (pe_op op_pow pe_int pe_int)) pa_nil))))
      (pss_one (ps_expr (pe_call (ok_l_put_ring T) (hr.mono (by decide)) rfl T.g_l_put_ring T.F_l_put_ring.kp T.b_l_put_ring .nil pass0 (pa_cons (pv 4) (pa_cons (pv 6) (pa_cons (pe_call (ok_l_stream T) (hr.mono (by decide)) rfl T.g_l_stream T.F_l_stream.kp T.b_l_stream .nil pass0 (pa_cons (pe_call (ok_l_cell_at T) (hr.mono (by decide)) rfl T.g_l_cell_at T.F_l_cell_at.kp T.b_l_cell_at .nil pass0 (pa_cons (pv 0) (pa_cons pe_int pa_nil))) (pa_cons pe_int pa_nil))) (pa_cons (pv 3) (pa_cons (pe_op op_fdivZ (pv 5) pe_int) pa_nil))))))))))
      (pss_cons (lc_vsS (vs := [8]) (ps_setLc (i := 7) (own := [("_law_row", 8)]) (g := gName 8) (tt := tYes) rfl sc_law.nd rfl rfl (sw_true rfl rfl rfl (by decide +kernel)) (pi_listA (K := K) rfl (pv 4)) (blkOk_by (own := [("_law_row", 8)]) (N := ["_law_script", "_law_first", "_law_many", "_law_most", "_law_rows_here", "_law_way", "_law_ring_here", "_law_handed", "_law_row"]) (sc := defScope s_law) (by decide +kernel)) (fun _ _ _ _ _ => (pg_name (i := 8) sc_law.nd rfl (.inl rfl))) (fun _ _ _ _ _ => pts_nil) (fun _ _ _ _ _ => (pe_callTy (call_listA (K := K) rfl) (by rfl) T.m_list (by decide +kernel) (pa_cons (pv 8) pa_nil)))) rfl)
      (pss_one (ps_ret (pe_and (pe_cmpR op_isN (pe_call (ok_narrowest T) (hr.mono (by decide)) rfl T.g_narrowest T.F_narrowest.kp T.b_narrowest .nil pass0 (pa_cons (pv 7) pa_nil)) pe_non (nomark _)) (pe_and (pe_cmpR (op_eqD hr.units) (pv 7) (pv 4) (nomark _)) (pe_one (pe_cmpR op_isN (pe_call (ok_narrowest T) (hr.mono (by decide)) rfl T.g_narrowest T.F_narrowest.kp T.b_narrowest .nil pass0 (pa_cons (pv 4) pa_nil)) pe_non (nomark _)))))))))))))), ?_⟩
    refine seq_step ?_
    walk_at "rd"
    refine ⟨a, ns, 0, rfl, hS, by decide, ?_⟩
    generalize ns.getD (Int.toNat 0) 0 = c0
    walk_at "rd"
    have f0 := fm_pos (c := c0) (m := 4) (by decide)
    obtain ⟨m, hm⟩ : ∃ m : Nat, 1 + c0.fmod 4 = (m : Int) := ⟨(1 + c0.fmod 4).toNat, by omega⟩
    have hm4 : 1 ≤ m ∧ m ≤ 4 := by omega
    refine seq_step ?_
    walk_at "rd"
    rw [hm]
    refine seq_step ?_
    walk_at "rd"
    intro p1 H1 s1 _ e1
    obtain ⟨most, hmo, hm0, hm1⟩ : ∃ most : Int, ([.int 12, .int 1000000000000] : List V)[((c0.fdiv 4).fmod 2).toNat]? = some (.int most) ∧ 0 < most ∧ most ≤ 1000000000000 := by
      rcases fm2 (c0.fdiv 4) with e | e <;> rw [e]
      · exact ⟨12, rfl, by decide, by decide⟩
      · exact ⟨_, rfl, by decide, by decide⟩
    refine ix_l (.of e1) (fm_pos (m := 2) (by decide)).1 hmo ?_
    walk_at "rd"
    refine seq_step ?_
    walk_at "rd"
    refine ⟨a, ns, 1, rfl, s1.seq hS, by decide, ?_⟩
    walk_at "rd"
    refine ⟨_, 25, rfl, by decide, fun px H2 xs s2 _ e2 hx1 hx2 => ?_⟩
    walk_at "rd"
    have s02 := s1.trans s2
    have smo : Sz 41 most := by unfold Sz; omega
    refine ⟨m, px, xs, most, rfl, by omega, .of e2, ?_, hm0, smo, fun pz as M H3 s3 z3 fz fas sM => ?_⟩
    · rw [hx1]
      have : m + 1 ≤ 5 := by omega
      exact Nat.mul_le_mul this this
    have hS3 : SqL K H3 a (ns.map V.int) := (s02.trans s3).seq hS
    clear s02 s1 s2 s3 e1 e2 hx1 hx2 fz fas
    walk_at "rd"
    refine seq_step ?_
    walk_at "rd"
    refine ⟨a, ns, 2, rfl, hS3, by decide, ?_⟩
    generalize ns.getD (Int.toNat 2) 0 = way
    walk_at "rd"
    refine join_op (fun σ' H' => ∃ M' v6, σ' = [some (.ref a), some (.int c0), some (.int m), some (.int most), some (.ref pz), some (.int way), v6, none, none] ∧ ZAt H' pz as (m + 1) M' ∧ SzM 60 M' ∧ ¬ ∀ i, i < m + 1 → Pos (nrw (m + 1) M') i) (fun σ' H' h => ?_) (fun R j => ?_)
    rotate_left
    · refine seq_step ?_
      walk_at "rd"
      refine ite_d (fun _ => ?_) (fun _ => ?_)
      · have f1 := fm_pos (c := way.fdiv 16) hm0
        have f2 := fm_pos (c := way.fdiv 4) (m := 3) (by decide)
        have f3 := fm_pos (c := way.fdiv 4) (m := (m : Int)) (by omega)
        refine ⟨by omega, by omega, Sz.mulW (a := 2) (b := 41) (by unfold Sz; decide) (Sz.nn f1.1 (by omega) smo) (by omega), ?_⟩
        intro p4 H4 s4 _ e4
        obtain ⟨val, hv, hv0, hv1⟩ : ∃ val : Int, ([.int 0, .int (-2 - (way.fdiv 16).fmod most), .int (-1 - 2 * (way.fdiv 16).fmod most)] : List V)[((way.fdiv 4).fmod 3).toNat]? = some (.int val) ∧ val < 1 ∧ Sz 60 val := by
          have : (way.fdiv 4).fmod 3 = 0 ∨ (way.fdiv 4).fmod 3 = 1 ∨ (way.fdiv 4).fmod 3 = 2 := by omega
          rcases this with e | e | e <;> rw [e]
          · exact ⟨0, rfl, by omega, by unfold Sz; decide⟩
          · exact ⟨_, rfl, by omega, by unfold Sz; omega⟩
          · exact ⟨_, rfl, by omega, by unfold Sz; omega⟩
        refine ix_l (.of e4) f2.1 hv ?_
        walk_at "rd"
        refine ⟨by omega, ?_⟩
        obtain ⟨w, hw⟩ : ∃ w : Nat, 1 + (way.fdiv 4).fmod (m : Int) = (w : Int) := ⟨(1 + (way.fdiv 4).fmod (m : Int)).toNat, by omega⟩
        rw [hw]
        have hwm : w < m + 1 := by omega
        have z4 := z3.keep s4
        refine ix_top z4 hwm fun r er hr' => ?_
        walk_at "rd"
        refine set_at (K := K) (j := 0) (x := some val) hr' (by omega) ?_
        refine j _ _ ⟨_, _, rfl, z4.set (j := 0) (some val) er, up2_sz (sM.mono (by omega)) fun v e => by cases e; exact hv1, ?_⟩
        exact below_empty (i := w) hwm (s := val) (by unfold up2; rw [if_pos ⟨rfl, rfl⟩]) hv0
      · refine seq_step ?_
        walk_at "rd"
        refine ⟨a, ns, 3, rfl, hS3, by decide, ?_⟩
        walk_at "rd"
        refine ⟨m, _, rfl, by omega, fun pr ring H4 s4 fpr er hr1 hr2 nd hrx => ?_⟩
        obtain ⟨r0, l, rfl⟩ : ∃ r0 l, ring = r0 :: l := by
          cases ring with
          | nil => cases hr1
          | cons r0 l => exact ⟨r0, l, rfl⟩
        walk_at "rd"
        refine ⟨a, ns, 4, rfl, s4.seq hS3, by decide, ?_⟩
        walk_at "rd"
        refine ⟨_, 6, rfl, by decide, fun px H5 xs5 s5 fpx e5 hx1 hx2 => ?_⟩
        walk_at "rd"
        have z5 := z3.keep (s4.trans s5)
        have er5 := s5 _ _ er
        have npr : pr ∉ as := fun hm => by
          obtain ⟨j', hj', e⟩ := List.mem_iff_getElem.mp hm
          have h1 := z3.row j' pr (by rw [List.getElem?_eq_getElem hj', e])
          rw [fpr] at h1; cases h1
        have npx : px ∉ as := fun hm => by
          obtain ⟨j', hj', e⟩ := List.mem_iff_getElem.mp hm
          have h1 := (z3.keep s4).row j' px (by rw [List.getElem?_eq_getElem hj', e])
          rw [fpx] at h1; cases h1
        have hlen5 : (r0 :: l).length ≤ 5 := by omega
        refine ⟨pz, px, pr, as, m + 1, M, r0, l, xs5, most, _, rfl, z5, by omega, sM, er5, nd, hrx, hlen5, e5, hx1, hx2, hm0, hm1, npr, npx, fun M' H6 sv z6 kp6 sM6 hsv hs1 => ?_⟩
        refine j _ _ ⟨M', _, rfl, z6, sM6, ?_⟩
        exact ring_empty (a := r0) (l := l) (hrx r0 (List.mem_cons_self ..)) (fun x hx => hrx x (List.mem_cons_of_mem _ hx)) hsv hs1
    obtain ⟨M', v6, rfl, z, sM', hno⟩ := h
    have hn : m + 1 ≤ 60 := by omega
    have cub := cube_le (n := m + 1) (by omega)
    refine seq_step ?_
    walk_at "rd"
    refine lc_copy z hn rfl (by simp) fun D as' H5 s5 zD fD fa => ?_
    refine ⟨D, as', m + 1, M', 60, rfl, zD, hn, by decide, sM', by omega, fun _ H6 s6 => ?_, fun hpos => ?_⟩
    rotate_left
    · exact absurd (fun i hi => by obtain ⟨d, e, h1⟩ := hpos i hi; show leO (some 1) _; rw [e]; exact h1) hno
    walk_at "rd"
    have zD6 := zD.keep s6
    have z6 := z.keep (s5.trans s6)
    refine ⟨_, _, zD6.dp, z6.dp, shaped_zone _ _, shaped_zone _ _, ?_⟩
    rw [SeqAt.eqv_refl _ (lay_zone _ _).1]
    walk_at "rd"
    refine ⟨pz, as, m + 1, M', 60, rfl, z6, hn, by decide, sM', by omega, fun _ H7 s7 => ?_, fun hpos => ?_⟩
    rotate_left
    · exact absurd (fun i hi => by obtain ⟨d, e, h1⟩ := hpos i hi; show leO (some 1) _; rw [e]; exact h1) hno
    walk_at "rd"
    exact q _
end
/-! ### what the top has left -/
theorem all_mk {P : Program} {w : World} {K : PySem.W.Frag} {h : Heap} {mg : Str → Option Value} {fa : Addr} (X : K.In h) (G : h.Ns mainGlobals mg) (hfa : mg "law" = some (.ref fa))
    {f0 : Addr} {od0 an0 : Option Addr} {sl0 : Array (Option Value)} {oc0 kV0 dc0 pm0 cd0 ct0 : Value}
    {f1 : Addr} {od1 an1 : Option Addr} {sl1 : Array (Option Value)} {oc1 kV1 dc1 pm1 cd1 ct1 : Value}
    {f2 : Addr} {od2 an2 : Option Addr} {sl2 : Array (Option Value)} {oc2 kV2 dc2 pm2 cd2 ct2 : Value}
    {f3 : Addr} {od3 an3 : Option Addr} {sl3 : Array (Option Value)} {oc3 kV3 dc3 pm3 cd3 ct3 : Value}
    {f4 : Addr} {od4 an4 : Option Addr} {sl4 : Array (Option Value)} {oc4 kV4 dc4 pm4 cd4 ct4 : Value}
    {f5 : Addr} {od5 an5 : Option Addr} {sl5 : Array (Option Value)} {oc5 kV5 dc5 pm5 cd5 ct5 : Value}
    {f6 : Addr} {od6 an6 : Option Addr} {sl6 : Array (Option Value)} {oc6 kV6 dc6 pm6 cd6 ct6 : Value}
    {f7 : Addr} {od7 an7 : Option Addr} {sl7 : Array (Option Value)} {oc7 kV7 dc7 pm7 cd7 ct7 : Value}
    {f8 : Addr} {od8 an8 : Option Addr} {sl8 : Array (Option Value)} {oc8 kV8 dc8 pm8 cd8 ct8 : Value}
    {f9 : Addr} {od9 an9 : Option Addr} {sl9 : Array (Option Value)} {oc9 kV9 dc9 pm9 cd9 ct9 : Value}
    {uNOUGHT : Tok}
    (a0 : PySem.W.nsIn K mainGlobals "added" = some (some (.ref f0)))
    (l0 : K.lookup f0 = some ⟨oc0, od0, .func (PySem.W.fnOf "added" "added" (defArgs s_added) (defBody s_added) (defScope s_added) .none kV0 dc0 pm0 an0 cd0 ct0), sl0⟩)
    (c0 : PySem.W.codeIn K cd0 "added" = true)
    (k0 : PySem.W.keepIn K (.ref f0) = true)
    (a1 : PySem.W.nsIn K mainGlobals "narrower" = some (some (.ref f1)))
    (l1 : K.lookup f1 = some ⟨oc1, od1, .func (PySem.W.fnOf "narrower" "narrower" (defArgs s_narrower) (defBody s_narrower) (defScope s_narrower) .none kV1 dc1 pm1 an1 cd1 ct1), sl1⟩)
    (c1 : PySem.W.codeIn K cd1 "narrower" = true)
    (k1 : PySem.W.keepIn K (.ref f1) = true)
    (a2 : PySem.W.nsIn K mainGlobals "through" = some (some (.ref f2)))
    (l2 : K.lookup f2 = some ⟨oc2, od2, .func (PySem.W.fnOf "through" "through" (defArgs s_through) (defBody s_through) (defScope s_through) .none kV2 dc2 pm2 an2 cd2 ct2), sl2⟩)
    (c2 : PySem.W.codeIn K cd2 "through" = true)
    (k2 : PySem.W.keepIn K (.ref f2) = true)
    (a3 : PySem.W.nsIn K mainGlobals "narrowest" = some (some (.ref f3)))
    (l3 : K.lookup f3 = some ⟨oc3, od3, .func (PySem.W.fnOf "narrowest" "narrowest" (defArgs s_narrowest) (defBody s_narrowest) (defScope s_narrowest) .none kV3 dc3 pm3 an3 cd3 ct3), sl3⟩)
    (c3 : PySem.W.codeIn K cd3 "narrowest" = true)
    (k3 : PySem.W.keepIn K (.ref f3) = true)
    (a4 : PySem.W.nsIn K mainGlobals "_law_cell_at" = some (some (.ref f4)))
    (l4 : K.lookup f4 = some ⟨oc4, od4, .func (PySem.W.fnOf "_law_cell_at" "_law_cell_at" (defArgs s_l_cell_at) (defBody s_l_cell_at) (defScope s_l_cell_at) .none kV4 dc4 pm4 an4 cd4 ct4), sl4⟩)
    (c4 : PySem.W.codeIn K cd4 "_law_cell_at" = true)
    (k4 : PySem.W.keepIn K (.ref f4) = true)
    (a5 : PySem.W.nsIn K mainGlobals "_law_stream" = some (some (.ref f5)))
    (l5 : K.lookup f5 = some ⟨oc5, od5, .func (PySem.W.fnOf "_law_stream" "_law_stream" (defArgs s_l_stream) (defBody s_l_stream) (defScope s_l_stream) .none kV5 dc5 pm5 an5 cd5 ct5), sl5⟩)
    (c5 : PySem.W.codeIn K cd5 "_law_stream" = true)
    (k5 : PySem.W.keepIn K (.ref f5) = true)
    (a6 : PySem.W.nsIn K mainGlobals "_law_rows" = some (some (.ref f6)))
    (l6 : K.lookup f6 = some ⟨oc6, od6, .func (PySem.W.fnOf "_law_rows" "_law_rows" (defArgs s_l_rows) (defBody s_l_rows) (defScope s_l_rows) .none kV6 dc6 pm6 an6 cd6 ct6), sl6⟩)
    (c6 : PySem.W.codeIn K cd6 "_law_rows" = true)
    (k6 : PySem.W.keepIn K (.ref f6) = true)
    (a7 : PySem.W.nsIn K mainGlobals "_law_ring" = some (some (.ref f7)))
    (l7 : K.lookup f7 = some ⟨oc7, od7, .func (PySem.W.fnOf "_law_ring" "_law_ring" (defArgs s_l_ring) (defBody s_l_ring) (defScope s_l_ring) .none kV7 dc7 pm7 an7 cd7 ct7), sl7⟩)
    (c7 : PySem.W.codeIn K cd7 "_law_ring" = true)
    (k7 : PySem.W.keepIn K (.ref f7) = true)
    (a8 : PySem.W.nsIn K mainGlobals "_law_put_ring" = some (some (.ref f8)))
    (l8 : K.lookup f8 = some ⟨oc8, od8, .func (PySem.W.fnOf "_law_put_ring" "_law_put_ring" (defArgs s_l_put_ring) (defBody s_l_put_ring) (defScope s_l_put_ring) .none kV8 dc8 pm8 an8 cd8 ct8), sl8⟩)
    (c8 : PySem.W.codeIn K cd8 "_law_put_ring" = true)
    (k8 : PySem.W.keepIn K (.ref f8) = true)
    (a9 : PySem.W.nsIn K mainGlobals "law" = some (some (.ref f9)))
    (l9 : K.lookup f9 = some ⟨oc9, od9, .func (PySem.W.fnOf "law" "law" (defArgs s_law) (defBody s_law) (defScope s_law) .none kV9 dc9 pm9 an9 cd9 ct9), sl9⟩)
    (c9 : PySem.W.codeIn K cd9 "law" = true)
    (k9 : PySem.W.keepIn K (.ref f9) = true)
    (gNOUGHT : PySem.W.nsIn K mainGlobals "NOUGHT" = some (some (.int 1 uNOUGHT)))
    (zlen : PySem.W.nsIn K mainGlobals "len" = some none)
    (zlist : PySem.W.nsIn K mainGlobals "list" = some none)
    (zmin : PySem.W.nsIn K mainGlobals "min" = some none)
    (zrange : PySem.W.nsIn K mainGlobals "range" = some none) :
    ∃ fd : FuncData, (∀ (s : Shared) (v : Value), BindsTo s fd ⟨[v], []⟩ [("_law_script", v)]) ∧ ∀ base : Heap, K.In base → base.Ns mainGlobals mg → FnOk P w K mg base CX0 4 fa fd ["_law_script"] (spLaw K) := by
  have e := hfa.symm.trans (PySem.W.mg_of X G a9)
  cases e
  let T : Top K mg := {
      f_added := f0,
      d_added := _,
      F_added := fun_mk (st := s_added) l0 c0 k0,
      g_added := PySem.W.mg_of X G a0,
      b_added := (fun_mk (st := s_added) l0 c0 k0).binds (ps := ["one", "other"]) fun _ _ _ _ _ _ us hl => match us, hl with | [_, _], _ => rfl,
      f_narrower := f1,
      d_narrower := _,
      F_narrower := fun_mk (st := s_narrower) l1 c1 k1,
      g_narrower := PySem.W.mg_of X G a1,
      b_narrower := (fun_mk (st := s_narrower) l1 c1 k1).binds (ps := ["one", "other"]) fun _ _ _ _ _ _ us hl => match us, hl with | [_, _], _ => rfl,
      f_through := f2,
      d_through := _,
      F_through := fun_mk (st := s_through) l2 c2 k2,
      g_through := PySem.W.mg_of X G a2,
      b_through := (fun_mk (st := s_through) l2 c2 k2).binds (ps := ["rows", "k"]) fun _ _ _ _ _ _ us hl => match us, hl with | [_, _], _ => rfl,
      f_narrowest := f3,
      d_narrowest := _,
      F_narrowest := fun_mk (st := s_narrowest) l3 c3 k3,
      g_narrowest := PySem.W.mg_of X G a3,
      b_narrowest := (fun_mk (st := s_narrowest) l3 c3 k3).binds (ps := ["zone"]) fun _ _ _ _ _ _ us hl => match us, hl with | [_], _ => rfl,
      f_l_cell_at := f4,
      d_l_cell_at := _,
      F_l_cell_at := fun_mk (st := s_l_cell_at) l4 c4 k4,
      g_l_cell_at := PySem.W.mg_of X G a4,
      b_l_cell_at := (fun_mk (st := s_l_cell_at) l4 c4 k4).binds (ps := ["_law_script", "_law_k"]) fun _ _ _ _ _ _ us hl => match us, hl with | [_, _], _ => rfl,
      f_l_stream := f5,
      d_l_stream := _,
      F_l_stream := fun_mk (st := s_l_stream) l5 c5 k5,
      g_l_stream := PySem.W.mg_of X G a5,
      b_l_stream := (fun_mk (st := s_l_stream) l5 c5 k5).binds (ps := ["_law_cell", "_law_many"]) fun _ _ _ _ _ _ us hl => match us, hl with | [_, _], _ => rfl,
      f_l_rows := f6,
      d_l_rows := _,
      F_l_rows := fun_mk (st := s_l_rows) l6 c6 k6,
      g_l_rows := PySem.W.mg_of X G a6,
      b_l_rows := (fun_mk (st := s_l_rows) l6 c6 k6).binds (ps := ["_law_many", "_law_xs", "_law_most"]) fun _ _ _ _ _ _ us hl => match us, hl with | [_, _, _], _ => rfl,
      f_l_ring := f7,
      d_l_ring := _,
      F_l_ring := fun_mk (st := s_l_ring) l7 c7 k7,
      g_l_ring := PySem.W.mg_of X G a7,
      b_l_ring := (fun_mk (st := s_l_ring) l7 c7 k7).binds (ps := ["_law_many", "_law_cell"]) fun _ _ _ _ _ _ us hl => match us, hl with | [_, _], _ => rfl,
      f_l_put_ring := f8,
      d_l_put_ring := _,
      F_l_put_ring := fun_mk (st := s_l_put_ring) l8 c8 k8,
      g_l_put_ring := PySem.W.mg_of X G a8,
      b_l_put_ring := (fun_mk (st := s_l_put_ring) l8 c8 k8).binds (ps := ["_law_rows_here", "_law_ring_here", "_law_xs", "_law_most", "_law_way"]) fun _ _ _ _ _ _ us hl => match us, hl with | [_, _, _, _, _], _ => rfl,
      f_law := fa,
      d_law := _,
      F_law := fun_mk (st := s_law) l9 c9 k9,
      g_law := PySem.W.mg_of X G a9,
      b_law := (fun_mk (st := s_law) l9 c9 k9).binds (ps := ["_law_script"]) fun _ _ _ _ _ _ us hl => match us, hl with | [_], _ => rfl,
      t_NOUGHT := uNOUGHT,
      g_NOUGHT := PySem.W.mg_of X G gNOUGHT,
      m_len := PySem.W.mg_none_of X G zlen,
      m_list := PySem.W.mg_none_of X G zlist,
      m_min := PySem.W.mg_none_of X G zmin,
      m_range := PySem.W.mg_none_of X G zrange }
  exact ⟨_, fun s v => .of_eq rfl, fun base _ _ => ok_law T⟩
end ZW
open PySem PySem.W PyProof.Rows
set_option maxRecDepth 100000 in
set_option maxHeartbeats 0 in
theorem PySem.Challenge.cw_zonewalk_k12_empty_zones_holds : PySem.Challenge.rw_zonewalk_k12_empty_zones.Holds := by
  w_on; o_law; k_head; (case hw => w_witness2)
  k_fill
  refine L2.walk_of (l := PySem.Challenge.rw_zonewalk_k12_empty_zones) (n := 63) (k := 4) (x := "_law_script") (CX := fun _ => L2.CX0) (sp := fun w => ZW.spLaw _) rfl (by decide) rfl ⟨rfl, by decide, by decide⟩ (fun w h Y => PySem.W.kIn_of Y) ?F (fun _ _ a ns hl _ hS => ⟨a, ns, rfl, hS, hl, fun _ => rfl⟩) (fun _ _ _ _ _ h => h)
  case F =>
    intro w mg fa h KX G hmg
    refine' ZW.all_mk KX G hmg ?a0 ?l0 ?c0 ?k0 ?a1 ?l1 ?c1 ?k1 ?a2 ?l2 ?c2 ?k2 ?a3 ?l3 ?c3 ?k3 ?a4 ?l4 ?c4 ?k4 ?a5 ?l5 ?c5 ?k5 ?a6 ?l6 ?c6 ?k6 ?a7 ?l7 ?c7 ?k7 ?a8 ?l8 ?c8 ?k8 ?a9 ?l9 ?c9 ?k9 ?gNOUGHT ?zlen ?zlist ?zmin ?zrange
    (case a0 => first | k_is | k_exc | rfl)
    (case l0 => first | k_is | k_exc | rfl)
    (case c0 => first | k_is | k_exc | rfl)
    (case k0 => first | k_is | k_exc | rfl)
    (case a1 => first | k_is | k_exc | rfl)
    (case l1 => first | k_is | k_exc | rfl)
    (case c1 => first | k_is | k_exc | rfl)
    (case k1 => first | k_is | k_exc | rfl)
    (case a2 => first | k_is | k_exc | rfl)
    (case l2 => first | k_is | k_exc | rfl)
    (case c2 => first | k_is | k_exc | rfl)
    (case k2 => first | k_is | k_exc | rfl)
    (case a3 => first | k_is | k_exc | rfl)
    (case l3 => first | k_is | k_exc | rfl)
    (case c3 => first | k_is | k_exc | rfl)
    (case k3 => first | k_is | k_exc | rfl)
    (case a4 => first | k_is | k_exc | rfl)
    (case l4 => first | k_is | k_exc | rfl)
    (case c4 => first | k_is | k_exc | rfl)
    (case k4 => first | k_is | k_exc | rfl)
    (case a5 => first | k_is | k_exc | rfl)
    (case l5 => first | k_is | k_exc | rfl)
    (case c5 => first | k_is | k_exc | rfl)
    (case k5 => first | k_is | k_exc | rfl)
    (case a6 => first | k_is | k_exc | rfl)
    (case l6 => first | k_is | k_exc | rfl)
    (case c6 => first | k_is | k_exc | rfl)
    (case k6 => first | k_is | k_exc | rfl)
    (case a7 => first | k_is | k_exc | rfl)
    (case l7 => first | k_is | k_exc | rfl)
    (case c7 => first | k_is | k_exc | rfl)
    (case k7 => first | k_is | k_exc | rfl)
    (case a8 => first | k_is | k_exc | rfl)
    (case l8 => first | k_is | k_exc | rfl)
    (case c8 => first | k_is | k_exc | rfl)
    (case k8 => first | k_is | k_exc | rfl)
    (case a9 => first | k_is | k_exc | rfl)
    (case l9 => first | k_is | k_exc | rfl)
    (case c9 => first | k_is | k_exc | rfl)
    (case k9 => first | k_is | k_exc | rfl)
    (case gNOUGHT => first | k_is | k_exc | rfl)
    (case zlen => first | k_is | k_exc | rfl)
    (case zlist => first | k_is | k_exc | rfl)
    (case zmin => first | k_is | k_exc | rfl)
    (case zrange => first | k_is | k_exc | rfl)
