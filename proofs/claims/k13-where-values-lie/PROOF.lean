import PyProof.Rows.All
import Wide.All
import OpenK.AllK
import Wide.FinOn
import HandS.ForMost
import HandS.ForExc
import HandS.Wide
import HandS.WideBits
import HandS.IsInst
import HandS.TupLe
import KE.BitLaws
import HandS.Defaults
import HandS.ExcIs
import HandS.Conv
import PySem.Challenge.RW_zonewalk_k13_where_values_lie
set_option Elab.async false
set_option linter.all false
set_option maxRecDepth 100000
set_option maxHeartbeats 4000000

namespace ZW
theorem fmod_gcd (a b : Int) : Int.gcd b (a.fmod b) = Int.gcd a b := by
  rw [Int.fmod_def, Int.gcd_comm a b]
  exact Int.gcd_sub_mul_left_right b a (a.fdiv b)
theorem fmod_lt (a b : Int) (hb : b ≠ 0) : (a.fmod b).natAbs < b.natAbs := by
  rcases Int.lt_or_lt_of_ne hb with h | h
  · have h1 := Int.fmod_def a b
    have e : a.fmod b = -((-a).fmod (-b)) := by simp
    rw [e, Int.fmod_eq_emod_of_nonneg _ (by omega)]
    have := Int.emod_lt_of_pos (-a) (b := -b) (by omega)
    have := Int.emod_nonneg (-a) (b := -b) (by omega)
    omega
  · rw [Int.fmod_eq_emod_of_nonneg a (by omega)]
    have := Int.emod_lt_of_pos a h
    have := Int.emod_nonneg a hb
    omega
theorem gcd_pos_right {a b : Int} (hb : b ≠ 0) : (0 : Int) < Int.gcd a b := by
  have := Int.gcd_pos_of_ne_zero_right a hb
  omega
/-- both divided by their gcd -/
structure Low (a b t u : Int) : Prop where
  pos : 0 < b → 0 < u
  top : t * Int.gcd a b = a
  bot : u * Int.gcd a b = b
  eq : t * b = a * u
  one : Int.gcd t u = 1
theorem low_of {a b : Int} (hb : b ≠ 0) : Low a b (a.fdiv (Int.gcd a b)) (b.fdiv (Int.gcd a b)) := by
  have g := gcd_pos_right (a := a) hb
  have d1 : (Int.gcd a b : Int) ∣ a := Int.gcd_dvd_left ..
  have d2 : (Int.gcd a b : Int) ∣ b := Int.gcd_dvd_right ..
  rw [Int.fdiv_eq_ediv_of_nonneg _ (by omega), Int.fdiv_eq_ediv_of_nonneg _ (by omega)]
  have e1 := Int.ediv_mul_cancel d1
  have e2 := Int.ediv_mul_cancel d2
  generalize hx : a / (Int.gcd a b : Int) = x at *
  generalize hy : b / (Int.gcd a b : Int) = y at *
  generalize hg : (Int.gcd a b : Int) = G at *
  refine ⟨fun h => ?_, ?_, ?_, ?_, ?_⟩
  · rcases Int.lt_or_le 0 y with z | z
    · exact z
    · have := Int.mul_nonpos_of_nonpos_of_nonneg z (Int.le_of_lt g)
      omega
  · rw [hg]; exact e1
  · rw [hg]; exact e2
  · rw [← e2, ← e1]; rw [Int.mul_comm y G, ← Int.mul_assoc]
  · have q : Int.gcd (x * G) (y * G) = Int.gcd x y * G.natAbs := Int.gcd_mul_right ..
    rw [e1, e2] at q
    have hG : G.natAbs = Int.gcd a b := by omega
    rw [hG] at q
    have gp : 0 < Int.gcd a b := by omega
    exact Nat.eq_of_mul_eq_mul_right gp (by rw [Nat.one_mul]; exact q.symm)
theorem quo_le {t G a : Int} (h : t * G = a) (hG : 0 < G) : t.natAbs ≤ a.natAbs := by
  rw [← h, Int.natAbs_mul]
  exact Nat.le_mul_of_pos_right _ (by omega)
/-- the fraction t / u, in lowest terms, that stands so to a and b -/
structure Red (a b t u : Int) : Prop where
  pos : 0 < u
  eq : t * b = a * u
  one : Int.gcd t u = 1
  tle : t.natAbs ≤ a.natAbs
  ule : u.natAbs ≤ b.natAbs
theorem Low.red {a b t u : Int} (l : Low a b t u) (h : 0 < b) : Red a b t u := ⟨l.pos h, l.eq, l.one, quo_le l.top (gcd_pos_right (by omega)), quo_le l.bot (gcd_pos_right (by omega))⟩
theorem red_neg {a b : Int} (hb : b < 0) : Red a b (a.fdiv (0 - (Int.gcd a b : Int))) (b.fdiv (0 - (Int.gcd a b : Int))) := by
  have l := low_of (a := a) (b := b) (by omega)
  have g := gcd_pos_right (a := a) (b := b) (by omega)
  have k : ∀ x t : Int, t * (Int.gcd a b : Int) = x → x.fdiv (0 - (Int.gcd a b : Int)) = - t := by
    intro x t e
    rw [Int.zero_sub, show x = (-(Int.gcd a b : Int)) * (-t) by rw [Int.neg_mul_neg, Int.mul_comm, e], Int.mul_fdiv_cancel_left _ (by omega)]
  rw [k _ _ l.top, k _ _ l.bot]
  have hu : b.fdiv (Int.gcd a b) < 0 := by
    rcases Int.lt_or_le (b.fdiv (Int.gcd a b)) 0 with z | z
    · exact z
    · have := Int.mul_nonneg z (Int.le_of_lt g); rw [l.bot] at this; omega
  refine ⟨by omega, by rw [Int.neg_mul, Int.mul_neg, l.eq], by rw [Int.gcd_neg, Int.neg_gcd]; exact l.one, by rw [Int.natAbs_neg]; exact quo_le l.top g, by rw [Int.natAbs_neg]; exact quo_le l.bot g⟩
theorem dvd_cop {u t v : Int} (h : u ∣ t * v) (c : Int.gcd t u = 1) : u ∣ v := by
  have h1 : u.natAbs ∣ t.natAbs * v.natAbs := by rw [← Int.natAbs_mul]; exact Int.natAbs_dvd_natAbs.mpr h
  have h2 : Nat.Coprime u.natAbs t.natAbs := by rw [Nat.coprime_comm]; exact c
  exact Int.natAbs_dvd_natAbs.mp (h2.dvd_of_dvd_mul_left h1)
theorem cop_uniq {t u t' u' : Int} (hu : 0 < u) (hu' : 0 < u') (c : Int.gcd t u = 1) (c' : Int.gcd t' u' = 1) (e : t * u' = t' * u) : t = t' ∧ u = u' := by
  have d1 : u ∣ u' := by
    have : u ∣ t * u' := ⟨t', by rw [e, Int.mul_comm]⟩
    exact dvd_cop this c
  have d2 : u' ∣ u := by
    have : u' ∣ t' * u := ⟨t, by rw [← e, Int.mul_comm]⟩
    exact dvd_cop this c'
  have eu : u = u' := by
    have h1 := Int.le_of_dvd hu' d1
    have h2 := Int.le_of_dvd hu d2
    omega
  subst eu
  exact ⟨Int.eq_of_mul_eq_mul_right (by omega) e, rfl⟩
theorem Red.uniq {a b t u t' u' : Int} (hb : b ≠ 0) (h : Red a b t u) (k : Red a b t' u') : t = t' ∧ u = u' := by
  refine cop_uniq h.pos k.pos h.one k.one ?_
  have : t * u' * b = t' * u * b := by
    rw [Int.mul_right_comm, h.eq, Int.mul_right_comm t', k.eq]; ac_rfl
  exact Int.eq_of_mul_eq_mul_right hb this
/-- fractions that stand so to the same two numbers, told by cross products -/
theorem red_cross {a b a' b' t u t' u' : Int} (hb : b ≠ 0) (hb' : b' ≠ 0) (x : a * b' = a' * b) (h : Red a b t u) (k : Red a' b' t' u') : t = t' ∧ u = u' := by
  refine cop_uniq h.pos k.pos h.one k.one ?_
  have e : t * u' * (b * b') = t' * u * (b * b') := by
    rw [show t * u' * (b * b') = (t * b) * (u' * b') by ac_rfl, show t' * u * (b * b') = (t' * b') * (u * b) by ac_rfl, h.eq, k.eq,
      show a * u * (u' * b') = (a * b') * (u * u') by ac_rfl, show a' * u' * (u * b) = (a' * b) * (u * u') by ac_rfl, x]
  exact Int.eq_of_mul_eq_mul_right (Int.mul_ne_zero hb hb') e
theorem gcd_le_size {a b : Int} (hb : b ≠ 0) : (Int.gcd a b) ≤ b.natAbs := by
  have := Int.gcd_dvd_right (a := a) (b := b)
  exact Nat.le_of_dvd (by omega) (by simpa using Int.natAbs_dvd_natAbs.mpr this)
theorem log_lt {i : Int} {n m : Nat} (h : i.natAbs < 2 ^ n) (h0 : 0 < n) (hm : n ≤ m) : i.natAbs.log2 < m := by
  by_cases e : i.natAbs = 0
  · rw [e]; simp; omega
  · exact Nat.lt_of_lt_of_le ((Nat.log2_lt e).mpr h) hm
open PySem PySem.Spec PyProof.Rows L2
theorem upd_keep {H : Hp} {p : Addr} {o : HO} (h : H p = none) : Same H (upd H p o) := fun b x e => by
  rw [upd_ne (ne_of_none e h)]
  exact e
theorem Same.to {H H' : Hp} (s : Same H H') {a : Addr} {o : HO} (h : H a = some o) : H' a = some o := s a o h
theorem seq_step {t u : TS} {D : Ends} {σ : L2.St} {H : Hp} (h : t { D with nx := u D } σ H) : tSeq t u D σ H := h
theorem ite_d {c : Prop} [Decidable c] {A B : Prop} (h1 : c → A) (h2 : ¬ c → B) : if decide c = true then A else B := by
  by_cases h : c
  · rw [if_pos (decide_eq_true h)]; exact h1 h
  · rw [if_neg (by rw [decide_eq_false h]; exact Bool.false_ne_true)]; exact h2 h
theorem shl1 {i : Int} {n : Nat} (h : i.natAbs < 2 ^ n) (hn : n ≤ 100000) : CShl i 1 := shl_ok (j := 1) h (by omega)
theorem one_ne : ((1 : Int) = 0) = False := by simp
theorem pow_lit (i : Int) : i ^ (1 : Nat) = i := Int.pow_one i
theorem cxK {CX : CXT} {P : Program} {w : World} {K : PySem.W.Frag} {mg : Str → Option Value} {base : Heap} {N : List Str} {qual : Str} {scope : Scope} {f : Addr} {cd : Value} {A : Around} {outer : List Env} {s : Shared} {H : Hp} {E : XK} :
    (cxOf CX P w K mg base N qual scope f cd A outer s H E).K = K := rfl
theorem ix_l {K : PySem.W.Frag} {H : Hp} {p : Addr} {xs : List V} {i : Int} {v : V} {Q : VK} (h : SqL K H p xs) (hi : 0 ≤ i) (hv : xs[i.toNat]? = some v) (q : Q v H) : rIxL K (.ref p) (.int i) H Q :=
  ⟨p, xs, i, v, rfl, rfl, h, at_of (j := i.toNat) (by omega) hv, q⟩
theorem ix_t {K : PySem.W.Frag} {H : Hp} {p : Addr} {xs : List V} {i : Int} {v : V} {Q : VK} (h : SqT K H p xs) (hi : 0 ≤ i) (hv : xs[i.toNat]? = some v) (q : Q v H) : rIxT K (.ref p) (.int i) H Q :=
  ⟨p, xs, i, v, rfl, rfl, h, at_of (j := i.toNat) (by omega) hv, q⟩
theorem sqL_upd {K : PySem.W.Frag} {H : Hp} {p : Addr} {xs : List V} : SqL K (upd H p (.lst xs)) p xs := SqL.of upd_same
theorem fm2 (c : Int) : c.fmod 2 = 0 ∨ c.fmod 2 = 1 := by
  rw [Int.fmod_eq_emod_of_nonneg _ (by omega)]; omega
theorem fm_pos {c m : Int} (h : 0 < m) : 0 ≤ c.fmod m ∧ c.fmod m < m := by
  rw [Int.fmod_eq_emod_of_nonneg _ (by omega)]
  exact ⟨Int.emod_nonneg _ (by omega), Int.emod_lt_of_pos _ h⟩
/-- a number of at most n bits -/
def Sz (n : Nat) (i : Int) : Prop := i.natAbs < 2 ^ n
theorem Sz.mono {i : Int} {a c : Nat} (ha : Sz a i) (h : a ≤ c) : Sz c i := Nat.lt_of_lt_of_le ha (Nat.pow_le_pow_right (by decide) h)
theorem Sz.mulW {i j : Int} {a b : Nat} (ha : Sz a i) (hb : Sz b j) (h : a + b ≤ 999998) : CMulW i j :=
  wide_mul (a := a + 1) (b := b + 1) (Sz.mono ha (by omega)) (Sz.mono hb (by omega)) (by omega) (by omega) (by omega)
theorem Sz.mul {i j : Int} {a b c : Nat} (ha : Sz a i) (hb : Sz b j) (h : a + b ≤ c) : Sz c (i * j) := Sz.mono (wide_lt ha hb) h
theorem Sz.add {i j : Int} {a b c : Nat} (ha : Sz a i) (hb : Sz b j) (h1 : a + 1 ≤ c) (h2 : b + 1 ≤ c) : Sz c (i + j) := by
  have x : Sz (c - 1) i := ha.mono (by omega)
  have y : Sz (c - 1) j := hb.mono (by omega)
  have e : (2 : Nat) ^ c = 2 ^ (c - 1) * 2 := by rw [← Nat.pow_succ]; congr 1; omega
  unfold Sz at x y ⊢
  omega
theorem Sz.sub {i j : Int} {a b c : Nat} (ha : Sz a i) (hb : Sz b j) (h1 : a + 1 ≤ c) (h2 : b + 1 ≤ c) : Sz c (i - j) := by
  have x : Sz (c - 1) i := ha.mono (by omega)
  have y : Sz (c - 1) j := hb.mono (by omega)
  have e : (2 : Nat) ^ c = 2 ^ (c - 1) * 2 := by rw [← Nat.pow_succ]; congr 1; omega
  unfold Sz at x y ⊢
  omega
theorem Sz.le {i j : Int} {a : Nat} (h : i.natAbs ≤ j.natAbs) (hj : Sz a j) : Sz a i := Nat.lt_of_le_of_lt h hj
theorem Sz.nn {i j : Int} {a : Nat} (h0 : 0 ≤ i) (h : i ≤ j) (hj : Sz a j) : Sz a i := Sz.le (by omega) hj
theorem Sz.rg {i j : Int} {a : Nat} (h0 : -j ≤ i) (h : i ≤ j) (hj : Sz a j) : Sz a i := Sz.le (by omega) hj
/-- a divisor that the rule takes -/
def DivOk (j : Int) : Prop := j ≠ 0 ∧ j.natAbs.log2 < 9000
theorem DivOk.of {j : Int} {n : Nat} (h : j ≠ 0) (hs : Sz n j) (hn : n ≤ 8000) : DivOk j := ⟨h, log_lt (n := 8000) (hs.mono hn) (by omega) (by omega)⟩
theorem sz_line {n : Nat} (h : n ≤ 1000) : (n ≤ sizeLine) = True := eq_true (Nat.le_of_lt (small1000 h))
section
variable {X : Cx}
theorem op_fdivZ : OpR X (binaryOp .FloorDiv) (rI (fun _ j => DivOk j) fun i j => .int (i.fdiv j)) := opI fun _ _ _ _ _ _ _ hc q =>
  floordiv_int hc.1 q (.inl (PyProof.noPylong_of_log2 hc.2))
end
theorem gTup_of {K : PySem.W.Frag} {a : Addr} {xs : List V} {n : Nat} {t : TGs} {σ : L2.St} {H : Hp} {Q : L2.St → Hp → Prop} (h : SqT K H a xs) (hn : xs.length = n) (q : t xs σ H Q) : gTup K n t (.ref a) σ H Q := ⟨a, xs, rfl, h, hn, q⟩
theorem sqt {K : PySem.W.Frag} {H : Hp} {a : Addr} {xs : List V} (h : H a = some (.tup xs)) : SqT K H a xs := SqT.of h
theorem Low.top_le {a b t u : Int} (l : Low a b t u) (hb : b ≠ 0) : t.natAbs ≤ a.natAbs := quo_le l.top (gcd_pos_right hb)
theorem Low.bot_le {a b t u : Int} (l : Low a b t u) (hb : b ≠ 0) : u.natAbs ≤ b.natAbs := quo_le l.bot (gcd_pos_right hb)
theorem ite_and {a : Bool} {c : Prop} [Decidable c] {A R : Prop} (h1 : a = true → c → A) (h2 : ¬ (a = true ∧ c) → R) : if a = true then (if decide c = true then A else R) else R := by
  by_cases ha : a = true
  · rw [if_pos ha]; exact ite_d (h1 ha) fun z => h2 fun q => z q.2
  · rw [if_neg ha]; exact h2 fun q => ha q.1
section
variable {X : Cx} {e : Expr} {es : List Expr} {t t' : TE} {ta : TA} {pos : Pos}
theorem pe_imp (h : PE X e t) (k : ∀ σ H Q, t' σ H Q → t σ H Q) : PE X e t' := ⟨fun pins s σ H Q I q => h.run pins s σ H Q I (k σ H Q q)⟩
def tWk (ta : TA) : TA := fun σ H Q => ∃ Q0 : List V → Hp → Prop, ta σ H Q0 ∧ ∀ xs H1, Q0 xs H1 → Q xs H1
theorem pa_wk (h : PA X es ta) : PA X es (tWk ta) := ⟨fun pos pins s σ H _ I ⟨Q0, a, k⟩ => thn (h.run pos pins s σ H Q0 I a) fun _ _ ⟨xs, H1, I1, r, q⟩ => ⟨xs, H1, I1, r, k _ _ q⟩⟩
/-- a new tuple, a new list: nothing but what is tracked is told of the heap behind -/
def tTupN (ta : TA) : TE := fun σ H Q => ta σ H fun xs H1 => xs.length ≤ sizeLine ∧ ∀ p H2, Same H1 H2 → H1 p = none → H2 p = some (.tup xs) → Q (.ref p) H2
def tLstN (ta : TA) : TE := fun σ H Q => ta σ H fun xs H1 => xs.length ≤ sizeLine ∧ ∀ p H2, Same H1 H2 → H1 p = none → H2 p = some (.lst xs) → Q (.ref p) H2
theorem pe_tupN {x1} (h : PA X es ta) : PE X (.Tuple es x1 pos) (tTupN ta) :=
  pe_imp (pe_tup (pa_wk h)) fun _ _ _ q => ⟨_, q, fun _ _ ⟨z, k⟩ => ⟨z, fun p hp => k p _ (upd_keep hp) hp upd_same⟩⟩
theorem pe_lstN (h : PA X es ta) : PE X (.List es pos) (tLstN ta) :=
  pe_imp (pe_lst (pa_wk h)) fun _ _ _ q => ⟨_, q, fun _ _ ⟨z, k⟩ => ⟨z, fun p hp => k p _ (upd_keep hp) hp upd_same⟩⟩
def rSlN (K : PySem.W.Frag) : V → Option Int → Option Int → Hp → VK → Prop := fun x lo hi H Q => ∃ a xs, x = .ref a ∧ SqL K H a xs ∧ ∀ p H2, Same H H2 → H p = none → H2 p = some (.lst (cutV xs lo hi)) → Q (.ref p) H2
theorem sl_listN : SlR X (rSlN X.K) := fun pins s σ H x v vl vu lo hi sl Q I rx hs p1 p2 ⟨a, xs, e, h, q⟩ =>
  sl_list pins s σ H x v vl vu lo hi sl Q I rx hs p1 p2 ⟨a, xs, e, h, fun p hp => q p _ (upd_keep hp) hp upd_same⟩
theorem op_imp {f : Value → Value → Sem Value} {r r' : R2} (h : OpR X f r) (k : ∀ x y H Q, r' x y H Q → r x y H Q) : OpR X f r' := fun pins s σ H x y v u Q I rx ry q => h pins s σ H x y v u Q I rx ry (k x y H Q q)
def rCatN : R2 := fun x y H Q => ∃ l b xs zs, x = .ref l ∧ y = .ref b ∧ H l = some (.lst xs) ∧ H b = some (.lst zs) ∧ xs.length + zs.length ≤ sizeLine ∧ ∀ p H2, Same H H2 → H p = none → H2 p = some (.lst (xs ++ zs)) → Q (.ref p) H2
theorem op_catN : OpR X (binaryOp .Add) rCatN := op_imp op_cat fun _ _ _ _ ⟨l, b, xs, zs, e1, e2, h1, h2, z, q⟩ => ⟨l, b, xs, zs, e1, e2, h1, h2, z, fun p hp => q p _ (upd_keep hp) hp upd_same⟩
def rRepN : R2 := fun x y H Q => ∃ l k xs, x = .ref l ∧ y = .int k ∧ H l = some (.lst xs) ∧ -(2 ^ 63) ≤ k ∧ k < 2 ^ 63 ∧ xs.length * k.toNat ≤ sizeLine ∧ ∀ p H2, Same H H2 → H p = none → H2 p = some (.lst (List.replicate k.toNat xs).flatten) → Q (.ref p) H2
theorem op_repN : OpR X (binaryOp .Mult) rRepN := op_imp op_rep fun _ _ _ _ ⟨l, k, xs, e1, e2, h, a, b, z, q⟩ => ⟨l, k, xs, e1, e2, h, a, b, z, fun p hp => q p _ (upd_keep hp) hp upd_same⟩
theorem small1000' {n : Nat} (h : n ≤ 1000) : n ≤ sizeLine := Nat.le_of_lt (small1000 h)
theorem call_imp {f : Value} {r r' : List V → Hp → VK → Prop} (h : CallR X f r) (k : ∀ x H Q, r' x H Q → r x H Q) : CallR X f r' := fun pins s σ H xs us Q I r q => h pins s σ H xs us Q I r (k xs H Q q)
def rListN (K : PySem.W.Frag) : List V → Hp → VK → Prop := fun xs H Q => ∃ p ys, xs = [.ref p] ∧ (SqL K H p ys ∨ SqT K H p ys) ∧ ∀ l H2, Same H H2 → H l = none → H2 l = some (.lst ys) → Q (.ref l) H2
theorem call_listN : CallR X (.type "list") (rListN X.K) := call_imp call_list_of fun _ _ _ ⟨p, ys, e, h, q⟩ => ⟨p, ys, e, h, fun l hl => q l _ (upd_keep hl) hl upd_same⟩
def rIntB : List V → Hp → VK → Prop := fun xs H Q => ∃ k, xs = [.bl k] ∧ Q (.int (if k then 1 else 0)) H
theorem call_intB : CallR X (.type "int") rIntB := call_imp call_int1 fun _ _ _ h => .inr h
end
theorem nat_and_mod (x y : Nat) : (x &&& y) % 2 = (x % 2) * (y % 2) := by
  have h := Nat.and_mod_two_pow (a := x) (b := y) (n := 1)
  have h1 : x % 2 = 0 ∨ x % 2 = 1 := by omega
  have h2 : y % 2 = 0 ∨ y % 2 = 1 := by omega
  rw [Nat.pow_one] at h
  rcases h1 with e | e <;> rcases h2 with f | f <;> rw [h, e, f] <;> rfl
theorem nat_or_mod (x y : Nat) : (x ||| y) % 2 = if x % 2 = 0 ∧ y % 2 = 0 then 0 else 1 := by
  have h := Nat.or_mod_two_pow (a := x) (b := y) (n := 1)
  have h1 : x % 2 = 0 ∨ x % 2 = 1 := by omega
  have h2 : y % 2 = 0 ∨ y % 2 = 1 := by omega
  rw [Nat.pow_one] at h
  rcases h1 with e | e <;> rcases h2 with f | f <;> rw [h, e, f] <;> rfl
theorem and_bit (a b : Int) : Builtin.bitAnd a b % 2 = (if a % 2 = 1 ∧ b % 2 = 1 then 1 else 0) := by
  have key : ∀ x y : Nat, x % 2 = 0 ∨ x % 2 = 1 := by omega
  have nn : ∀ x, Builtin.bitNot x = - x - 1 := by intro x; unfold Builtin.bitNot; omega
  by_cases ha : 0 ≤ a <;> by_cases hb : 0 ≤ b
  · rw [bitAnd_pp ha hb]
    have h := nat_and_mod a.toNat b.toNat
    have h1 : a.toNat % 2 = 0 ∨ a.toNat % 2 = 1 := by omega
    have h2 : b.toNat % 2 = 0 ∨ b.toNat % 2 = 1 := by omega
    rcases h1 with e | e <;> rcases h2 with f | f <;> rw [e, f] at h <;> split <;> omega
  · rw [bitAnd_pn ha hb, nn]
    have h := nat_and_mod a.toNat (-b-1).toNat
    have h1 : a.toNat % 2 = 0 ∨ a.toNat % 2 = 1 := by omega
    have h2 : (-b-1).toNat % 2 = 0 ∨ (-b-1).toNat % 2 = 1 := by omega
    rcases h1 with e | e <;> rcases h2 with f | f <;> rw [e, f] at h <;> split <;> omega
  · rw [bitAnd_np ha hb, nn]
    have h := nat_and_mod b.toNat (-a-1).toNat
    have h1 : b.toNat % 2 = 0 ∨ b.toNat % 2 = 1 := by omega
    have h2 : (-a-1).toNat % 2 = 0 ∨ (-a-1).toNat % 2 = 1 := by omega
    rcases h1 with e | e <;> rcases h2 with f | f <;> rw [e, f] at h <;> split <;> omega
  · rw [bitAnd_nn ha hb, nn, nn, nn]
    have h := nat_or_mod (-a-1).toNat (-b-1).toNat
    have h1 : (-a-1).toNat % 2 = 0 ∨ (-a-1).toNat % 2 = 1 := by omega
    have h2 : (-b-1).toNat % 2 = 0 ∨ (-b-1).toNat % 2 = 1 := by omega
    rcases h1 with e | e <;> rcases h2 with f | f <;> rw [e, f] at h <;> split at h <;> split <;> omega

theorem bit_sum (a b : Int) : Builtin.bitOr ((a / 2 + b / 2) * 2) (Builtin.bitAnd (Builtin.bitAnd a b) 1) = 2 * (a / 2 + b / 2) + (if a % 2 = 1 ∧ b % 2 = 1 then 1 else 0) := by
  rw [bitAnd_m1, and_bit, bitOr_and]
  split
  · rw [bitAnd_m1]; omega
  · rw [bitAnd_zero]; omega
theorem isi {K : PySem.W.Frag} {H : Hp} {x : V} {a b : String} {r : Bool} {Q : VK} (h : TyX K H x (.type a)) (k : kitB a b = some r) (q : Q (.bl r) H) : rIsi K [x, .ty b] H Q := ⟨x, .ty b, _, _, r, rfl, .ty b, h, kit_ty k, q⟩
theorem if_t {b : Bool} {A B : Prop} (h : b = true) (q : A) : if b = true then A else B := by rw [if_pos h]; exact q
theorem if_f {b : Bool} {A B : Prop} (h : b = false) (q : B) : if b = true then A else B := by rw [h, if_neg Bool.false_ne_true]; exact q
/-- a bound, as a value -/
def oV : Option Int → V
  | none => .non
  | some i => .int i
theorem oV_none : oV none = .non := rfl
theorem oV_some (i : Int) : oV (some i) = .int i := rfl
theorem funD_mk {K : PySem.W.Frag} {x qual : Str} {st : Stmt} {f t : Addr} {oc kV doc pm cdv ct : Value} {od an : Option Addr} {osl : Array (Option Value)} {o : Obj} {n : Nat} {its : List Value} {dvs : List V}
    (l : K.lookup f = some ⟨oc, od, .func (PySem.W.fnOf x qual (defArgs st) (defBody st) (defScope st) (.ref t) kV doc pm an cdv ct), osl⟩) (c : PySem.W.codeIn K cdv qual = true) (k : PySem.W.keepIn K (.ref f) = true)
    (lt : K.lookup t = some o) (ld : o.data = .seq its.toArray n) (hv : Vals dvs its) (hd : dvs ≠ []) : FunD K x qual (defArgs st) (defBody st) (defScope st) dvs [] f (PySem.W.fnOf x qual (defArgs st) (defBody st) (defScope st) (.ref t) kV doc pm an cdv ct) :=
  ⟨⟨oc, od, .ref t, kV, doc, pm, an, cdv, ct, osl, rfl, l, c, .inr ⟨hd, t, o, its, n, rfl, lt, ld, hv⟩, .inl rfl⟩, k⟩
section
variable {X : Cx} {D a : Addr} {cls : Value} {d : Option Addr} {oe : Obj} {pn : List (Addr × Obj)}
/-- isinstance of the caught error: its class is told in the reading -/
theorem call_isE2 (hz : Zc cls d oe) (hf : ∃ vs, oe.data = .fields vs) : CallR (X.suite a ((a, oe) :: pn)) (.builtin "isinstance") (fun xs H Q => ∃ D, cls = .ref D ∧ d = none ∧ ExcC X.K D ∧ rIsE X.K D a xs H Q) := by
  intro pins s σ H xs us Q I r ⟨D, h1, h2, C, h⟩
  subst h1; subst h2
  exact call_isE C hz hf pins s σ H xs us Q I r h
end
theorem cut_int {ns : List Int} {lo hi : Option Int} {i : Nat} {x : V} (h : (cutV (ns.map V.int) lo hi)[i]? = some x) : ∃ z, x = .int z := by
  have m := List.mem_of_mem_drop (List.mem_of_mem_take (List.mem_of_getElem? h))
  obtain ⟨z, _, e⟩ := List.mem_map.mp m
  exact ⟨z, e.symm⟩
def kinds : List String := ["int", "bool", "NoneType", "str", "list", "tuple", "dict"]
/-- whether a thing is a whole number -/
def spWhole (K : PySem.W.Frag) : Sp := fun vs H Q _ => ∃ (x : V) (t : String), vs = [x] ∧ TyX K H x (.type t) ∧ t ∈ kinds ∧ Q (.bl (decide (t = "int"))) H
/-- two numbers in lowest terms, as a new tuple -/
def LowT (a b : Int) (H : Hp) (Q : VK) : Prop := ∀ (t u : Int) (p : Addr) (H' : Hp), Low a b t u → Same H H' → H' p = some (.tup [.int t, .int u]) → Q (.ref p) H'
/-- two numbers in lowest terms with a bottom above 0, as a new tuple -/
def RedT (a b : Int) (H : Hp) (Q : VK) : Prop := ∀ (t u : Int) (p : Addr) (H' : Hp), Red a b t u → Same H H' → H' p = some (.tup [.int t, .int u]) → Q (.ref p) H'
theorem ncast (n : Nat) : ((no_index (OfNat.ofNat n) : Nat) : Int) = OfNat.ofNat n := rfl
theorem exm_two {K : PySem.W.Frag} {C : Addr} {cls : Value} {b : Bool} (h1 : PySem.W.subIn K (.ref C) (.type "BaseException") = some true) (h2 : PySem.W.hasDictIn K C = true) (h3 : PySem.W.typeIn K (.ref C) = some (.type "type")) (h4 : PySem.W.subIn K cls (.ref C) = some b) : PySem.W.exmOne K cls (.ref C) = some b := PySem.W.exm_ref h1 h2 h3 h4
/-- isinstance(e, c) of a caught error -/
theorem isE {K : PySem.W.Frag} {D a : Addr} {c : V} {cv : Value} {b : Bool} {H : Hp} {Q : VK} (X : ExcC K D) (hc : ∀ u, RelV c u → u = cv) (k : PySem.W.kitOne K (.ref D) cv = some b) (q : Q (.bl b) H) : ∃ D', Value.ref D = Value.ref D' ∧ (Option.none : Option Addr) = Option.none ∧ ExcC K D' ∧ rIsE K D' a [.ref a, c] H Q :=
  ⟨D, rfl, rfl, X, c, cv, b, rfl, hc, k, q⟩
theorem tyx_same {K : PySem.W.Frag} {H H2 : Hp} (s : Same H H2) {x : V} {t : Value} (h : TyX K H x t) : TyX K H2 x t := by
  cases h with
  | base b =>
    refine .base ?_
    cases b with
    | non => exact .non
    | bl y => exact .bl y
    | int i => exact .int i
    | str y => exact .str y
    | flt y => exact .flt y
    | lst e => exact .lst (s _ _ e)
    | frz e => exact .frz (s _ _ e)
    | tup e => exact .tup (s _ _ e)
    | dK e => exact .dK (s _ _ e)
    | dT e => exact .dT (s _ _ e)
    | ins e cl a b c d => exact .ins (s _ _ e) cl a b c d
  | byt b => exact .byt b
  | set e => exact .set (s _ _ e)
  | kList e c => exact .kList e c
  | kTuple e c => exact .kTuple e c
  | kDict e c => exact .kDict e c
  | fTuple e => exact .fTuple (s _ _ e)
  | fDict e => exact .fDict (s _ _ e)
/-- what stands behind a statement is shown once, for all its ways -/
theorem join_if {t R : TS} {D : Ends} {σ : L2.St} {H : Hp} (P : L2.St → Hp → Prop) (h2 : ∀ σ' H', P σ' H' → R D σ' H') (h1 : (∀ σ' H', P σ' H' → R D σ' H') → tSeq t R D σ H) : tSeq t R D σ H := h1 h2
theorem red_zero {b t u : Int} (R : Red 0 b t u) : Red 0 1 t u := by
  have h1 := R.tle
  have h2 : t = 0 := by simp at h1; exact h1
  subst h2
  have h3 := R.one
  rw [Int.gcd_zero_left] at h3
  exact ⟨R.pos, by simp, R.one, h1, by omega⟩
theorem shaped_ii (a b : Int) : SeqAt.shaped (.tuple [.int a, .int b]) = true := rfl
section
variable {X : Cx} {K : PySem.W.Frag}
theorem call_isiA (h : X.K = K) : CallR X (.builtin "isinstance") (rIsi K) := by subst h; exact call_isi
theorem ix_listA (h : X.K = K) : IxR X (rIxL K) := by subst h; exact ix_list
theorem ix_tupA (h : X.K = K) : IxR X (rIxT K) := by subst h; exact ix_tup
theorem sl_listA (h : X.K = K) : SlR X (rSlN K) := by subst h; exact sl_listN
theorem call_listA (h : X.K = K) : CallR X (.type "list") (rListN K) := by subst h; exact call_listN
theorem pi_listA {tg l : Expr} {tl : TE} (h : X.K = K) (hl : PE X l tl) : PI X tg l (iList K tl) := by subst h; exact pi_list hl
end
theorem lc_vs {X : Cx} {e : Expr} {wi : TI} {g : TG} {tt : TT} {te : TE} {own : List (Str × Nat)} {vs : List Nat} (h : PE X e (tLc wi g tt te (own.map (·.2)))) (hv : own.map (·.2) = vs) : PE X e (tLc wi g tt te vs) := hv ▸ h
theorem lc_vsS {X : Cx} {e : Stmt} {wi : TI} {g k : TG} {tt : TT} {te : TE} {own : List (Str × Nat)} {vs : List Nat} (h : PS X e (tAsg (tLc wi g tt te (own.map (·.2))) k)) (hv : own.map (·.2) = vs) : PS X e (tAsg (tLc wi g tt te vs) k) := hv ▸ h
theorem same_updN {H H2 : Hp} {D : Addr} {o : HO} (hD : H D = none) (s : Same H H2) : Same H (upd H2 D o) := fun b x e => by
  rw [upd_ne (ne_of_none e hD)]
  exact s b x e
theorem sql_keep {K : PySem.W.Frag} {H H' : Hp} {a : Addr} {xs : List V} (h : SqL K H a xs) (k : ∀ b o, H b = some o → H' b = some o) : SqL K H' a xs := Same.seq (show Same H H' from k) h
theorem dpall_of {K : PySem.W.Frag} {H : Hp} : ∀ {vs : List V} {ds : List PyData}, vs.length = ds.length → (∀ (k : Nat) (v : V) (d : PyData), vs[k]? = some v → ds[k]? = some d → Dp K H v d) → DpAll K H vs ds
  | [], [], _, _ => .nil
  | [], _ :: _, h, _ => by cases h
  | _ :: _, [], h, _ => by cases h
  | v :: vs, d :: ds, h, k => .cons (k 0 v d rfl rfl) (dpall_of (Nat.succ.inj h) fun j v' d' h1 h2 => k (j + 1) v' d' h1 h2)
theorem shaped_list {ds : List PyData} (h : ∀ d ∈ ds, d.canLay0 = true ∧ d.depth ≤ 60) : SeqAt.shaped (.list ds) = true := by
  have key : ∀ ds : List PyData, (∀ d ∈ ds, d.canLay0 = true ∧ d.depth ≤ 60) → PyData.canLayAll0 ds = true ∧ PyData.depthAll ds ≤ 60 := by
    intro ds
    induction ds with
    | nil => intro _; exact ⟨rfl, Nat.zero_le _⟩
    | cons d ds ih =>
      intro h
      have h1 := h d (List.mem_cons_self ..)
      have h2 := ih fun x hx => h x (List.mem_cons_of_mem _ hx)
      refine ⟨by show (d.canLay0 && PyData.canLayAll0 ds) = true; rw [h1.1, h2.1]; rfl, ?_⟩
      show max d.depth (PyData.depthAll ds) ≤ 60
      omega
  have z := key ds h
  refine Bool.and_eq_true_iff.mpr ⟨z.1, decide_eq_true ?_⟩
  show PyData.depthAll ds + 1 ≤ 64
  omega
/-- whether a fraction is let by a bound -/
def letsO : Option Int → Int → Int → Bool
  | none, _, _ => true
  | some b, t, u => decide (t < b / 2 * u ∨ (t = b / 2 * u ∧ b % 2 = 1))
def narO : Option Int → Option Int → Option Int
  | none, y => y
  | some a, none => some a
  | some a, some b => some (if b < a then b else a)
/-- a fraction's tuple -/
def FracAt (n : Nat) (H : Hp) (v : V) : Prop := ∃ (q : Addr) (t u : Int), v = .ref q ∧ H q = some (.tup [.int t, .int u]) ∧ 0 < u ∧ Sz n t ∧ Sz n u
theorem FracAt.keep {n : Nat} {H H' : Hp} {v : V} (s : Same H H') (h : FracAt n H v) : FracAt n H' v := by
  obtain ⟨q, t, u, e, e2, r⟩ := h
  exact ⟨q, t, u, e, s _ _ e2, r⟩
theorem join_bl {b : Bool} {P : Prop} (h1 : b = true → P) (h2 : b = false → P) : P := by cases b; exact h2 rfl; exact h1 rfl
/-- a for over a list, behind its iterable's reading -/
def ForL (K : PySem.W.Frag) (a : Addr) (g : TG) (tb : TS) (D : Ends) (σ : L2.St) (H : Hp) : Prop := ∃ W : Nat → Nat → L2.St → Hp → Prop, (∃ m, W 0 m σ H) ∧ ∀ i m σ H, W i m σ H →
  ((Itl K a).stop i H ∧ D.nx σ H) ∨ ((Itl K a).go i H ∧ ∃ N : L2.St → Hp → Prop, (∀ σ' H', N σ' H' → ∃ m', m' < m ∧ W (i + 1) m' σ' H') ∧ ∀ x H', (Itl K a).yld i H x H' → g x σ H' fun σ2 H2 => tb { D with nx := N, ct := N, bk := D.nx } σ2 H2)
theorem for_li {K : PySem.W.Frag} {te : TE} {g : TG} {tb : TS} {D : Ends} {σ : L2.St} {H : Hp} (h : te σ H fun x H1 => ∃ a, x = .ref a ∧ (∃ xs, SqL K H1 a xs) ∧ ForL K a g tb D σ H1) : tFor (iList K te) g tb D σ H := h
theorem forL_by {K : PySem.W.Frag} {a : Addr} {xs : List V} {g : TG} {tb : TS} {D : Ends} {σ : L2.St} {H : Hp} (Pv : Nat → L2.St → Hp → Prop) (h0 : Pv 0 σ H) (hl : ∀ i σ H, i ≤ xs.length → Pv i σ H → SqL K H a xs)
    (hs : ∀ i x σ H, xs[i]? = some x → Pv i σ H → g x σ H fun σ2 H2 => tb { D with nx := Pv (i + 1), ct := Pv (i + 1), bk := D.nx } σ2 H2) (hd : ∀ σ H, Pv xs.length σ H → D.nx σ H) : (∃ ys, SqL K H a ys) ∧ ForL K a g tb D σ H :=
  ⟨⟨xs, hl 0 σ H (Nat.zero_le _) h0⟩, for_list (K := K) (a := a) (xs := xs) Pv h0 hl hs hd⟩
/-- what is asked whether it is a fraction, and the answer -/
inductive FrIn (K : PySem.W.Frag) (H : Hp) : V → Bool → Prop where
  | other {x : V} {t : String} (h : TyX K H x (.type t)) (k : t ∈ kinds) (n : t ≠ "tuple") : FrIn K H x false
  | len {p : Addr} {xs : List V} (h : H p = some (.tup xs)) (n : xs.length ≠ 2) : FrIn K H (.ref p) false
  | odd {p : Addr} {v0 v1 : V} {t0 t1 : String} (h : H p = some (.tup [v0, v1])) (h0 : TyX K H v0 (.type t0)) (h1 : TyX K H v1 (.type t1)) (k0 : t0 ∈ kinds) (k1 : t1 ∈ kinds) (n : t0 ≠ "int" ∨ t1 ≠ "int") : FrIn K H (.ref p) false
  | num {p : Addr} {a b : Int} (h : H p = some (.tup [.int a, .int b])) : FrIn K H (.ref p) (decide (1 ≤ b ∧ Int.gcd a b = 1))
theorem FrIn.keep {K : PySem.W.Frag} {H H' : Hp} {x : V} {b : Bool} (s : Same H H') (h : FrIn K H x b) : FrIn K H' x b := by
  cases h with
  | other h k n => exact .other (tyx_same s h) k n
  | len h n => exact .len (s _ _ h) n
  | odd h h0 h1 k0 k1 n => exact .odd (s _ _ h) (tyx_same s h0) (tyx_same s h1) k0 k1 n
  | num h => exact .num (s _ _ h)
def tDictN : TE := fun _ H Q => ∀ p H2, Same H H2 → H p = none → H2 p = some (.dK []) → Q (.ref p) H2
theorem pe_dnewN {X : Cx} {pos : Pos} : PE X (.Dict [] [] pos) tDictN := pe_imp pe_dnewK fun _ _ _ q p hp => q p _ (upd_keep hp) hp upd_same
theorem fr_no {K : PySem.W.Frag} {H : Hp} {p : Addr} {a b : Int} (h : H p = some (.tup [.int a, .int b])) (n : ¬ (1 ≤ b ∧ Int.gcd a b = 1)) : FrIn K H (.ref p) false := by
  have z := FrIn.num (K := K) h
  rw [decide_eq_false n] at z
  exact z
def addO : Option Int → Option Int → Option Int
  | some a, some b => some (2 * (a / 2 + b / 2) + (if a % 2 = 1 ∧ b % 2 = 1 then 1 else 0))
  | _, _ => none
/-- a for over a range, behind its bound's reading -/
def ForR (n : Nat) (g : TG) (tb : TS) (D : Ends) (σ : L2.St) (H : Hp) : Prop := ∃ W : Nat → Nat → L2.St → Hp → Prop, (∃ m, W 0 m σ H) ∧ ∀ i m σ H, W i m σ H →
  ((Itr 0 n).stop i H ∧ D.nx σ H) ∨ ((Itr 0 n).go i H ∧ ∃ N : L2.St → Hp → Prop, (∀ σ' H', N σ' H' → ∃ m', m' < m ∧ W (i + 1) m' σ' H') ∧ ∀ x H', (Itr 0 n).yld i H x H' → g x σ H' fun σ2 H2 => tb { D with nx := N, ct := N, bk := D.nx } σ2 H2)
theorem for_rg {ta : TA} {g : TG} {tb : TS} {D : Ends} {σ : L2.St} {H : Hp} (h : ta σ H fun vs H1 => ∃ j : Int, vs = [.int j] ∧ -(2 ^ 62) ≤ j ∧ j < 2 ^ 62 ∧ ForR j.toNat g tb D σ H1) : tFor (iRng1 ta) g tb D σ H := h
theorem forR_by {n : Nat} {g : TG} {tb : TS} {D : Ends} {σ : L2.St} {H : Hp} (Pv : Nat → L2.St → Hp → Prop) (h0 : Pv 0 σ H)
    (hs : ∀ i σ H, i < n → Pv i σ H → g (.int (0 + i)) σ H fun σ2 H2 => tb { D with nx := Pv (i + 1), ct := Pv (i + 1), bk := D.nx } σ2 H2) (hd : ∀ σ H, Pv n σ H → D.nx σ H) : ForR n g tb D σ H := for_range (lo := 0) (n := n) Pv h0 hs hd
theorem rg_ok {n : Nat} (h : n ≤ 100000) : -(2 ^ 62) ≤ ((n : Nat) : Int) ∧ ((n : Nat) : Int) < 2 ^ 62 := by constructor <;> omega
theorem cut_from {xs : List V} {k : Nat} (h : k ≤ xs.length) : cutV xs (some (k : Int)) none = xs.drop k := by
  unfold cutV
  rw [HT.sIx_none, HT.sIx_nat, Nat.min_eq_left h]
  exact List.take_of_length_le (by rw [List.length_drop]; exact Nat.le_refl _)
/-- xs.append(v) -/
theorem app_at {H : Hp} {l : Addr} {xs : List V} {v : V} {Q : VK} (h : H l = some (.lst xs)) (hl : xs.length ≤ 1000) (q : Q .non (upd H l (.lst (xs ++ [v])))) : rAppend (.ref l) [v] H Q := ⟨l, xs, v, rfl, rfl, h, small1000 hl, q⟩
/-- the same, what stands behind kept closed -/
theorem join_op {t R : TS} {D : Ends} {σ : L2.St} {H : Hp} (P : L2.St → Hp → Prop) (h2 : ∀ σ' H', P σ' H' → R D σ' H') (h1 : ∀ R' : TS, (∀ σ' H', P σ' H' → R' D σ' H') → tSeq t R' D σ H) : tSeq t R D σ H := h1 R h2
theorem ex_int {i : Int} {P : Int → Prop} (h : P i) : ∃ j, V.int i = V.int j ∧ P j := ⟨i, rfl, h⟩
end ZW

namespace ZW
open PySem PySem.Spec PyProof.Rows L2
theorem dvl_2 : DivOk 2 = True := eq_true ⟨by decide, by decide +kernel⟩
theorem dvl_3 : DivOk 3 = True := eq_true ⟨by decide, by decide +kernel⟩
theorem dvl_5 : DivOk 5 = True := eq_true ⟨by decide, by decide +kernel⟩
theorem dvl_6 : DivOk 6 = True := eq_true ⟨by decide, by decide +kernel⟩
theorem dvl_7 : DivOk 7 = True := eq_true ⟨by decide, by decide +kernel⟩
theorem dvl_8 : DivOk 8 = True := eq_true ⟨by decide, by decide +kernel⟩
theorem dvl_12 : DivOk 12 = True := eq_true ⟨by decide, by decide +kernel⟩
theorem dvl_30 : DivOk 30 = True := eq_true ⟨by decide, by decide +kernel⟩
theorem dvl_64 : DivOk 64 = True := eq_true ⟨by decide, by decide +kernel⟩
theorem dvl_1000000000 : DivOk 1000000000 = True := eq_true ⟨by decide, by decide +kernel⟩
theorem dvl_1000000000000000000000000000000000000000000000 : DivOk 1000000000000000000000000000000000000000000000 = True := eq_true ⟨by decide, by decide +kernel⟩
theorem pwl_10_9 : CPow 10 9 = True := eq_true ⟨by decide, by decide, by decide +kernel⟩
theorem pwl_10_12 : CPow 10 12 = True := eq_true ⟨by decide, by decide, by decide +kernel⟩
theorem pwl_10_18 : CPow 10 18 = True := eq_true ⟨by decide, by decide, by decide +kernel⟩
theorem pwl_10_30 : CPow 10 30 = True := eq_true ⟨by decide, by decide, by decide +kernel⟩
theorem pwl_10_45 : CPow 10 45 = True := eq_true ⟨by decide, by decide, by decide +kernel⟩
end ZW
local macro_rules | `(tactic| walk_at "rd") => `(tactic| ((try simp only [L2.start, List.map_cons, List.map_nil, List.length_cons, List.length_nil, Nat.reduceAdd, Nat.zero_add, Nat.reduceSub, Nat.sub_self, List.replicate, List.cons_append, List.nil_append, List.append_nil]); try simp only [L2.tIfS, L2.tTest, L2.tB, L2.tOp, L2.tUn, L2.tVar, L2.tC, L2.tRet, L2.tRetN, L2.tNext, L2.tAsg, L2.tPar, L2.gName, L2.tCons, L2.tNil, L2.tCall, L2.tCB, L2.tAnd, L2.tOr, L2.tNot, L2.tAndV, L2.tOrV, L2.tNotV, L2.tIf, L2.rI0, L2.rI, L2.rU, L2.rAdd, L2.rSub, L2.rEq, L2.rNe, L2.scal, L2.tTup, L2.tLst, ZW.tTupN, ZW.tLstN, L2.tSl, L2.tPart, L2.tNoPart, ZW.rSlN, ZW.rCatN, ZW.rRepN, ZW.rListN, ZW.rIntB,  L2.tDrop, L2.tIsN, L2.tNotN, L2.tCmp, L2.t2I,
  List.map_cons, List.map_nil, List.length_cons, List.length_nil, List.append_nil, List.nil_append, List.cons_append, List.getElem?_cons_zero, List.getElem?_cons_succ, List.set_cons_zero, List.set_cons_succ, Nat.reduceSub, Nat.reduceAdd, Nat.sub_self, Nat.zero_add, List.getElem?_nil, List.append_eq,
  Option.some.injEq, L2.V.int.injEq, L2.V.bl.injEq, L2.V.ref.injEq, reduceCtorEq, exists_eq_left', exists_eq_left, exists_eq, true_and, and_true, exists_and_left, exists_eq_right, exists_eq_right', decide_true, decide_false, Bool.not_true, Bool.not_false, if_true, if_false, ite_true, ite_false, Bool.false_eq_true, List.cons.injEq, ite_self, and_self, and_assoc, L2.gCons, L2.gNil, Int.reduceToNat, Int.reduceMul, Int.reduceSub, Int.reduceAdd, Int.reduceNe, Int.reduceLE, Int.reduceLT, Int.reduceNeg, Int.reduceEq, ZW.dvl_2, ZW.dvl_3, ZW.dvl_5, ZW.dvl_6, ZW.dvl_7, ZW.dvl_8, ZW.dvl_12, ZW.dvl_30, ZW.dvl_64, ZW.dvl_1000000000, ZW.dvl_1000000000000000000000000000000000000000000000, ZW.pwl_10_9, ZW.pwl_10_12, ZW.pwl_10_18, ZW.pwl_10_30, ZW.pwl_10_45, ZW.sz_line, Nat.reduceLT, Nat.reduceLeDiff, Nat.reduceLeDiff, ne_eq, not_false_eq_true, Int.reducePow, Int.pow_one,  forall_const, implies_true, ZW.cxK, ZW.ncast, L2.tCallS, L2.tYes, L2.gSub, Int.zero_add, ZW.tDictN, L2.wipe]))
local macro_rules | `(tactic| walk_at "ix") => `(tactic| (walk_at "rd"; first | refine ZW.ix_l (L2.SqL.of (by assumption)) (by decide) rfl ?_ | refine ZW.ix_t (L2.SqT.of (by assumption)) (by decide) rfl ?_))
local macro_rules | `(tactic| walk_at "sq") => `(tactic| (walk_at "rd"; refine ZW.seq_step ?_; walk_at "rd"))
local macro_rules | `(tactic| walk_at "isT") => `(tactic| (walk_at "rd"; refine ZW.isi (r := true) (by first | exact .base (.int _) | exact .base (.bl _) | exact .base .non | exact .base (.str _) | exact .base (.tup (by assumption)) | exact .base (.lst (by assumption)) | exact .base (.dK (by assumption))) (by decide +kernel) ?_; walk_at "rd"))
local macro_rules | `(tactic| walk_at "isF") => `(tactic| (walk_at "rd"; refine ZW.isi (r := false) (by first | exact .base (.int _) | exact .base (.bl _) | exact .base .non | exact .base (.str _) | exact .base (.tup (by assumption)) | exact .base (.lst (by assumption)) | exact .base (.dK (by assumption))) (by decide +kernel) ?_; walk_at "rd"))

namespace ZW
open PySem PySem.Spec PyProof.Rows L2
def topS (i : Nat) : Stmt := PySem.Challenge.pw_zonewalk_k13_where_values_lie.main.body.getD i (.Pass ⟨0, 0, 0, 0⟩)
abbrev s_number_of : Stmt := topS 1
theorem sc_number_of : FnScope ["bound"] ["bound"] (defScope s_number_of) := ⟨rfl, rfl, rfl, by decide +kernel, rfl, by decide +kernel, by decide +kernel⟩
abbrev s_is_open : Stmt := topS 2
theorem sc_is_open : FnScope ["bound"] ["bound"] (defScope s_is_open) := ⟨rfl, rfl, rfl, by decide +kernel, rfl, by decide +kernel, by decide +kernel⟩
abbrev s_lets : Stmt := topS 3
theorem sc_lets : FnScope ["bound", "value", "top", "bottom", "most"] ["bound", "value"] (defScope s_lets) := ⟨rfl, rfl, rfl, by decide +kernel, rfl, by decide +kernel, by decide +kernel⟩
abbrev s_is_whole : Stmt := topS 8
theorem sc_is_whole : FnScope ["thing"] ["thing"] (defScope s_is_whole) := ⟨rfl, rfl, rfl, by decide +kernel, rfl, by decide +kernel, by decide +kernel⟩
abbrev s_divisor : Stmt := topS 9
theorem sc_divisor : FnScope ["one", "other"] ["one", "other"] (defScope s_divisor) := ⟨rfl, rfl, rfl, by decide +kernel, rfl, by decide +kernel, by decide +kernel⟩
abbrev s_fraction : Stmt := topS 10
theorem sc_fraction : FnScope ["top", "bottom", "share"] ["top", "bottom"] (defScope s_fraction) := ⟨rfl, rfl, rfl, by decide +kernel, rfl, by decide +kernel, by decide +kernel⟩
abbrev s_minus : Stmt := topS 11
theorem sc_minus : FnScope ["one", "other"] ["one", "other"] (defScope s_minus) := ⟨rfl, rfl, rfl, by decide +kernel, rfl, by decide +kernel, by decide +kernel⟩
abbrev s_everywhere : Stmt := topS 14
theorem sc_everywhere : FnScope ["many", "rows", "i", "row"] ["many"] (defScope s_everywhere) := ⟨rfl, rfl, rfl, by decide +kernel, rfl, by decide +kernel, by decide +kernel⟩
abbrev s_nought : Stmt := topS 15
theorem sc_nought : FnScope ["many", "i"] ["many"] (defScope s_nought) := ⟨rfl, rfl, rfl, by decide +kernel, rfl, by decide +kernel, by decide +kernel⟩
abbrev s_lies_in : Stmt := topS 16
theorem sc_lies_in : FnScope ["zone", "values", "places", "i", "j"] ["zone", "values"] (defScope s_lies_in) := ⟨rfl, rfl, rfl, by decide +kernel, rfl, by decide +kernel, by decide +kernel⟩
abbrev s_l_cell_at : Stmt := topS 18
theorem sc_l_cell_at : FnScope ["_law_script", "_law_k"] ["_law_script", "_law_k"] (defScope s_l_cell_at) := ⟨rfl, rfl, rfl, by decide +kernel, rfl, by decide +kernel, by decide +kernel⟩
abbrev s_l_stream : Stmt := topS 19
theorem sc_l_stream : FnScope ["_law_cell", "_law_many", "_law_found", "_law_rest", "_law_k", "_law_number"] ["_law_cell", "_law_many"] (defScope s_l_stream) := ⟨rfl, rfl, rfl, by decide +kernel, rfl, by decide +kernel, by decide +kernel⟩
abbrev s_l_lowest : Stmt := topS 20
theorem sc_l_lowest : FnScope ["_law_top", "_law_bottom", "_law_one", "_law_other"] ["_law_top", "_law_bottom"] (defScope s_l_lowest) := ⟨rfl, rfl, rfl, by decide +kernel, rfl, by decide +kernel, by decide +kernel⟩
abbrev s_l_values : Stmt := topS 21
theorem sc_l_values : FnScope ["_law_xs", "_law_many", "_law_unit", "_law_found", "_law_k", "_law_bottom"] ["_law_xs", "_law_many", "_law_unit"] (defScope s_l_values) := ⟨rfl, rfl, rfl, by decide +kernel, rfl, by decide +kernel, by decide +kernel⟩
abbrev s_l_minus : Stmt := topS 22
theorem sc_l_minus : FnScope ["_law_one", "_law_other"] ["_law_one", "_law_other"] (defScope s_l_minus) := ⟨rfl, rfl, rfl, by decide +kernel, rfl, by decide +kernel, by decide +kernel⟩
abbrev s_l_rows : Stmt := topS 23
theorem sc_l_rows : FnScope ["_law_values_here", "_law_xs", "_law_places", "_law_rows_here", "_law_i", "_law_row", "_law_j", "_law_x", "_law_top", "_law_bottom", "_law_near"] ["_law_values_here", "_law_xs"] (defScope s_l_rows) := ⟨rfl, rfl, rfl, by decide +kernel, rfl, by decide +kernel, by decide +kernel⟩
abbrev s_l_lets : Stmt := topS 24
theorem sc_l_lets : FnScope ["_law_bound", "_law_value", "_law_most"] ["_law_bound", "_law_value"] (defScope s_l_lets) := ⟨rfl, rfl, rfl, by decide +kernel, rfl, by decide +kernel, by decide +kernel⟩
abbrev s_l_lies : Stmt := topS 25
theorem sc_l_lies : FnScope ["_law_zone", "_law_values_here", "_law_places", "_law_i", "_law_j"] ["_law_zone", "_law_values_here"] (defScope s_l_lies) := ⟨rfl, rfl, rfl, by decide +kernel, rfl, by decide +kernel, by decide +kernel⟩
abbrev s_l_plain : Stmt := topS 26
theorem sc_l_plain : FnScope ["_law_many", "_law_rows_here", "_law_i"] ["_law_many"] (defScope s_l_plain) := ⟨rfl, rfl, rfl, by decide +kernel, rfl, by decide +kernel, by decide +kernel⟩
abbrev s_law : Stmt := topS 27
theorem sc_law : FnScope ["_law_script", "_law_first", "_law_many", "_law_unit", "_law_values_here", "_law_zone", "_law_others", "_law_cell", "_law_other", "_law_top", "_law_bottom", "_law_part", "_law_wide", "_law_one", "_law_handed", "_law_told", "_law_k", "_law_row"] ["_law_script"] (defScope s_law) := ⟨rfl, rfl, rfl, by decide +kernel, rfl, by decide +kernel, by decide +kernel⟩
structure Top (K : PySem.W.Frag) (mg : Str → Option Value) where
  f_number_of : Addr
  d_number_of : FuncData
  F_number_of : Fun K "number_of" "number_of" s_number_of f_number_of d_number_of
  g_number_of : mg "number_of" = some (.ref f_number_of)
  b_number_of : Binds K d_number_of ["bound"] []
  f_is_open : Addr
  d_is_open : FuncData
  F_is_open : Fun K "is_open" "is_open" s_is_open f_is_open d_is_open
  g_is_open : mg "is_open" = some (.ref f_is_open)
  b_is_open : Binds K d_is_open ["bound"] []
  f_lets : Addr
  d_lets : FuncData
  F_lets : Fun K "lets" "lets" s_lets f_lets d_lets
  g_lets : mg "lets" = some (.ref f_lets)
  b_lets : Binds K d_lets ["bound", "value"] []
  f_is_whole : Addr
  d_is_whole : FuncData
  F_is_whole : Fun K "is_whole" "is_whole" s_is_whole f_is_whole d_is_whole
  g_is_whole : mg "is_whole" = some (.ref f_is_whole)
  b_is_whole : Binds K d_is_whole ["thing"] []
  f_divisor : Addr
  d_divisor : FuncData
  F_divisor : Fun K "divisor" "divisor" s_divisor f_divisor d_divisor
  g_divisor : mg "divisor" = some (.ref f_divisor)
  b_divisor : Binds K d_divisor ["one", "other"] []
  f_fraction : Addr
  d_fraction : FuncData
  F_fraction : FunD K "fraction" "fraction" (defArgs s_fraction) (defBody s_fraction) (defScope s_fraction) [.int 1] [] f_fraction d_fraction
  g_fraction : mg "fraction" = some (.ref f_fraction)
  b_fraction : Binds K d_fraction ["top", "bottom"] []
  dv_fraction : List Value
  v_fraction : Vals [.int 1] dv_fraction
  bd_fraction : Binds K d_fraction ["top", "bottom"] dv_fraction
  f_minus : Addr
  d_minus : FuncData
  F_minus : Fun K "minus" "minus" s_minus f_minus d_minus
  g_minus : mg "minus" = some (.ref f_minus)
  b_minus : Binds K d_minus ["one", "other"] []
  f_everywhere : Addr
  d_everywhere : FuncData
  F_everywhere : Fun K "everywhere" "everywhere" s_everywhere f_everywhere d_everywhere
  g_everywhere : mg "everywhere" = some (.ref f_everywhere)
  b_everywhere : Binds K d_everywhere ["many"] []
  f_nought : Addr
  d_nought : FuncData
  F_nought : Fun K "nought" "nought" s_nought f_nought d_nought
  g_nought : mg "nought" = some (.ref f_nought)
  b_nought : Binds K d_nought ["many"] []
  f_lies_in : Addr
  d_lies_in : FuncData
  F_lies_in : Fun K "lies_in" "lies_in" s_lies_in f_lies_in d_lies_in
  g_lies_in : mg "lies_in" = some (.ref f_lies_in)
  b_lies_in : Binds K d_lies_in ["zone", "values"] []
  f_l_cell_at : Addr
  d_l_cell_at : FuncData
  F_l_cell_at : Fun K "_law_cell_at" "_law_cell_at" s_l_cell_at f_l_cell_at d_l_cell_at
  g_l_cell_at : mg "_law_cell_at" = some (.ref f_l_cell_at)
  b_l_cell_at : Binds K d_l_cell_at ["_law_script", "_law_k"] []
  f_l_stream : Addr
  d_l_stream : FuncData
  F_l_stream : Fun K "_law_stream" "_law_stream" s_l_stream f_l_stream d_l_stream
  g_l_stream : mg "_law_stream" = some (.ref f_l_stream)
  b_l_stream : Binds K d_l_stream ["_law_cell", "_law_many"] []
  f_l_lowest : Addr
  d_l_lowest : FuncData
  F_l_lowest : Fun K "_law_lowest" "_law_lowest" s_l_lowest f_l_lowest d_l_lowest
  g_l_lowest : mg "_law_lowest" = some (.ref f_l_lowest)
  b_l_lowest : Binds K d_l_lowest ["_law_top", "_law_bottom"] []
  f_l_values : Addr
  d_l_values : FuncData
  F_l_values : Fun K "_law_values" "_law_values" s_l_values f_l_values d_l_values
  g_l_values : mg "_law_values" = some (.ref f_l_values)
  b_l_values : Binds K d_l_values ["_law_xs", "_law_many", "_law_unit"] []
  f_l_minus : Addr
  d_l_minus : FuncData
  F_l_minus : Fun K "_law_minus" "_law_minus" s_l_minus f_l_minus d_l_minus
  g_l_minus : mg "_law_minus" = some (.ref f_l_minus)
  b_l_minus : Binds K d_l_minus ["_law_one", "_law_other"] []
  f_l_rows : Addr
  d_l_rows : FuncData
  F_l_rows : Fun K "_law_rows" "_law_rows" s_l_rows f_l_rows d_l_rows
  g_l_rows : mg "_law_rows" = some (.ref f_l_rows)
  b_l_rows : Binds K d_l_rows ["_law_values_here", "_law_xs"] []
  f_l_lets : Addr
  d_l_lets : FuncData
  F_l_lets : Fun K "_law_lets" "_law_lets" s_l_lets f_l_lets d_l_lets
  g_l_lets : mg "_law_lets" = some (.ref f_l_lets)
  b_l_lets : Binds K d_l_lets ["_law_bound", "_law_value"] []
  f_l_lies : Addr
  d_l_lies : FuncData
  F_l_lies : Fun K "_law_lies" "_law_lies" s_l_lies f_l_lies d_l_lies
  g_l_lies : mg "_law_lies" = some (.ref f_l_lies)
  b_l_lies : Binds K d_l_lies ["_law_zone", "_law_values_here"] []
  f_l_plain : Addr
  d_l_plain : FuncData
  F_l_plain : Fun K "_law_plain" "_law_plain" s_l_plain f_l_plain d_l_plain
  g_l_plain : mg "_law_plain" = some (.ref f_l_plain)
  b_l_plain : Binds K d_l_plain ["_law_many"] []
  f_law : Addr
  d_law : FuncData
  F_law : Fun K "law" "law" s_law f_law d_law
  g_law : mg "law" = some (.ref f_law)
  b_law : Binds K d_law ["_law_script"] []
  C_NoNumber : Addr
  g_NoNumber : mg "NoNumber" = some (.ref C_NoNumber)
  x_NoNumber : PySem.W.excIn K C_NoNumber [.type "ValueError", .type "Exception", .type "BaseException", .type "object"] "ValueError.__new__" = true
  k_NoNumber : PySem.W.keepIn K (.ref C_NoNumber) = true
  b_NoNumber : PySem.W.subIn K (.ref C_NoNumber) (.type "BaseException") = some true
  t_NoNumber : PySem.W.typeIn K (.ref C_NoNumber) = some (.type "type")
  i_NoNumber : PySem.W.isClsIn K C_NoNumber = true
  t_NOUGHT : Tok
  g_NOUGHT : mg "NOUGHT" = some (.int 1 t_NOUGHT)
  m_abs : mg "abs" = none
  m_bool : mg "bool" = none
  m_int : mg "int" = none
  m_isinstance : mg "isinstance" = none
  m_len : mg "len" = none
  m_list : mg "list" = none
  m_max : mg "max" = none
  m_range : mg "range" = none
/-! ### zones: lists of lists of bounds -/
abbrev Mx := Nat → Nat → Option Int
def up2 (M : Mx) (i j : Nat) (v : Option Int) : Mx := fun a b => if a = i ∧ b = j then v else M a b
def zrow (n : Nat) (f : Nat → Option Int) : List V := (List.range n).map fun j => oV (f j)
theorem zrow_len (n : Nat) (f : Nat → Option Int) : (zrow n f).length = n := by simp [zrow]
theorem zrow_get {n j : Nat} (f : Nat → Option Int) (h : j < n) : (zrow n f)[j]? = some (oV (f j)) := by simp [zrow, h]
theorem zrow_set {n i j : Nat} (M : Mx) (v : Option Int) : (zrow n (M i)).set j (oV v) = zrow n (up2 M i j v i) := by
  apply List.ext_getElem?
  intro k
  by_cases hk : k < n
  · rw [zrow_get _ hk, List.getElem?_set]
    by_cases e : j = k
    · subst e; simp [zrow_len, hk, up2]
    · rw [if_neg e, zrow_get _ hk]
      have : ¬ k = j := fun z => e z.symm
      simp [up2, this]
  · rw [List.getElem?_eq_none (by simp [zrow]; omega), List.getElem?_eq_none (by simp [zrow]; omega)]
theorem zrow_other {n i a j : Nat} (M : Mx) (v : Option Int) (h : a ≠ i) : zrow n (up2 M i j v a) = zrow n (M a) := by
  unfold zrow up2
  apply List.map_congr_left
  intro b _
  rw [if_neg (fun z => h z.1)]
/-- the zone M of n places stands at p, its rows at as -/
structure ZAt (H : Hp) (p : Addr) (as : List Addr) (n : Nat) (M : Mx) : Prop where
  top : H p = some (.lst (as.map V.ref))
  len : as.length = n
  row : ∀ (i : Nat) (a : Addr), as[i]? = some a → H a = some (.lst (zrow n (M i)))
  nd : as.Nodup
theorem ZAt.np {H : Hp} {p : Addr} {as : List Addr} {n : Nat} {M : Mx} (z : ZAt H p as n M) : p ∉ as := by
  intro hp
  obtain ⟨i, hi, e⟩ := List.mem_iff_getElem.mp hp
  have r := z.row i p (by rw [List.getElem?_eq_getElem hi, e])
  have t := z.top
  rw [r] at t
  have e2 : zrow n (M i) = as.map V.ref := by
    have := Option.some.inj t
    injection this
  have h0 : (zrow n (M i))[i]? = (as.map V.ref)[i]? := by rw [e2]
  rw [zrow_get _ (by rw [← z.len]; exact hi), List.getElem?_map, List.getElem?_eq_getElem hi] at h0
  have h1 := Option.some.inj h0
  cases hM : M i i with
  | none => rw [hM] at h1; cases h1
  | some v => rw [hM] at h1; cases h1
theorem ZAt.get {H : Hp} {p : Addr} {as : List Addr} {n : Nat} {M : Mx} (z : ZAt H p as n M) {i : Nat} (h : i < n) : ∃ a, as[i]? = some a ∧ (as.map V.ref)[i]? = some (.ref a) ∧ H a = some (.lst (zrow n (M i))) := by
  have hl : i < as.length := by rw [z.len]; exact h
  refine ⟨as[i], List.getElem?_eq_getElem hl, ?_, z.row i _ (List.getElem?_eq_getElem hl)⟩
  rw [List.getElem?_map, List.getElem?_eq_getElem hl]; rfl
theorem ZAt.set {H : Hp} {p a : Addr} {as : List Addr} {n i j : Nat} {M : Mx} (z : ZAt H p as n M) (v : Option Int) (ha : as[i]? = some a) : ZAt (upd H a (.lst ((zrow n (M i)).set j (oV v)))) p as n (up2 M i j v) := by
  refine ⟨?_, z.len, fun i' a' h' => ?_, z.nd⟩
  · rw [upd_ne (fun e => z.np (by rw [e]; exact List.mem_of_getElem? ha))]; exact z.top
  · by_cases e : i' = i
    · subst e
      obtain rfl : a = a' := Option.some.inj (ha.symm.trans h')
      rw [upd_same, zrow_set]
    · have na : a' ≠ a := fun q => e (nd_ix z.nd h' (by rw [q]; exact ha))
      rw [upd_ne na, z.row i' a' h', zrow_other _ _ e]
theorem ZAt.keep {H H' : Hp} {p : Addr} {as : List Addr} {n : Nat} {M : Mx} (z : ZAt H p as n M) (s : Same H H') : ZAt H' p as n M := ⟨s _ _ z.top, z.len, fun i a h => s _ _ (z.row i a h), z.nd⟩
def iter (f : Nat → Mx → Mx) : Nat → Mx → Mx
  | 0, M => M
  | i + 1, M => f i (iter f i M)
def cell1 (k i j : Nat) (M : Mx) : Mx := up2 M i j (narO (M i j) (addO (M i k) (M k j)))
def rowst (n k i : Nat) (M : Mx) : Mx := if M i k = none then M else iter (cell1 k i) n M
def thr (n k : Nat) (M : Mx) : Mx := iter (rowst n k) n M
def diag1 (i : Nat) (M : Mx) : Mx := up2 (up2 M i i (narO (M i i) (some 1))) 0 i (narO (up2 M i i (narO (M i i) (some 1)) 0 i) (some 1))
def nrw (n : Nat) (M : Mx) : Mx := iter (thr n) n (iter diag1 n M)
/-- all bounds of at most s bits -/
def SzM (s : Nat) (M : Mx) : Prop := ∀ i j v, M i j = some v → Sz s v
theorem SzM.mono {s t : Nat} {M : Mx} (h : SzM s M) (l : s ≤ t) : SzM t M := fun i j v e => (h i j v e).mono l
theorem addO_sz {s : Nat} {x y : Option Int} (hx : ∀ v, x = some v → Sz s v) (hy : ∀ v, y = some v → Sz s v) {v : Int} (h : addO x y = some v) : Sz (s + 2) v := by
  cases x with
  | none => cases h
  | some a =>
    cases y with
    | none => cases h
    | some b =>
      have e := Option.some.inj h
      have h1 := hx a rfl
      have h2 := hy b rfl
      have p : (2 : Nat) ^ (s + 2) = 2 ^ s * 4 := by rw [Nat.pow_add]
      have p0 : 0 < (2 : Nat) ^ s := Nat.pow_pos (by decide)
      unfold Sz at *
      rw [p, ← e]
      split <;> omega
theorem narO_sz {s : Nat} {x y : Option Int} (hx : ∀ v, x = some v → Sz s v) (hy : ∀ v, y = some v → Sz s v) {v : Int} (h : narO x y = some v) : Sz s v := by
  cases x with
  | none => exact hy v h
  | some a =>
    cases y with
    | none => exact hx v h
    | some b =>
      have e := Option.some.inj h
      rw [← e]
      split
      · exact hy b rfl
      · exact hx a rfl
theorem up2_sz {s : Nat} {M : Mx} {i j : Nat} {w : Option Int} (h : SzM s M) (hw : ∀ v, w = some v → Sz s v) : SzM s (up2 M i j w) := fun a b v e => by
  unfold up2 at e
  split at e
  · exact hw v e
  · exact h a b v e
theorem cell1_sz {s : Nat} {M : Mx} {k i j : Nat} (h : SzM s M) : SzM (s + 2) (cell1 k i j M) :=
  up2_sz (h.mono (by omega)) fun v e => narO_sz (fun v e => (h i j v e).mono (by omega)) (fun v e => addO_sz (fun v e => h i k v e) (fun v e => h k j v e) e) e
theorem iter_sz {f : Nat → Mx → Mx} {c s : Nat} {M : Mx} (hf : ∀ i s M, SzM s M → SzM (s + c) (f i M)) (h : SzM s M) : ∀ m, SzM (s + c * m) (iter f m M)
  | 0 => h
  | m + 1 => (hf m _ _ (iter_sz hf h m)).mono (by rw [Nat.mul_succ]; omega)
theorem rowst_sz {n k i s : Nat} {M : Mx} (h : SzM s M) : SzM (s + 2 * n) (rowst n k i M) := by
  unfold rowst
  split
  · exact h.mono (by omega)
  · exact iter_sz (fun _ _ _ h => cell1_sz h) h n
theorem thr_sz {n k s : Nat} {M : Mx} (h : SzM s M) : SzM (s + 2 * n * n) (thr n k M) := iter_sz (fun _ _ _ h => rowst_sz h) h n
theorem diag1_sz {i s : Nat} {M : Mx} (hs : 1 ≤ s) (h : SzM s M) : SzM s (diag1 i M) := by
  have one : Sz s 1 := by
    have : (2 : Nat) ^ 1 ≤ 2 ^ s := Nat.pow_le_pow_right (by decide) hs
    unfold Sz; omega
  have a : SzM s (up2 M i i (narO (M i i) (some 1))) := up2_sz h fun v e => narO_sz (fun v e => h i i v e) (fun v e => by cases e; exact one) e
  exact up2_sz a fun v e => narO_sz (fun v e => a 0 i v e) (fun v e => by cases e; exact one) e
theorem diags_sz {s : Nat} {M : Mx} (hs : 1 ≤ s) (h : SzM s M) : ∀ m, SzM s (iter diag1 m M)
  | 0 => h
  | m + 1 => diag1_sz hs (diags_sz hs h m)
theorem half_sz {s : Nat} {a b : Int} (h1 : Sz s a) (h2 : Sz s b) (h : s ≤ 9990) : Sz 10000 (a / 2 + b / 2) := by
  have p : (2 : Nat) ^ (s + 2) = 2 ^ s * 4 := by rw [Nat.pow_add]
  have p0 : 0 < (2 : Nat) ^ s := Nat.pow_pos (by decide)
  have g : Sz (s + 2) (a / 2 + b / 2) := by
    unfold Sz at *
    rw [p]; omega
  exact g.mono (by omega)
theorem set_at {K : PySem.W.Frag} {H : Hp} {r : Addr} {n j : Nat} {f : Nat → Option Int} {x : Option Int} {Q : Hp → Prop} (h : H r = some (.lst (zrow n f))) (hj : j < n) (q : Q (upd H r (.lst ((zrow n f).set j (oV x))))) : rSetL (.ref r) (.int j) (oV x) H Q := by
  refine ⟨r, _, j, j, rfl, rfl, h, ?_, q⟩
  rw [zrow_len]
  unfold ixN
  rw [if_pos (by omega), if_pos (by omega), Int.toNat_natCast]
theorem ix_row {K : PySem.W.Frag} {H : Hp} {r : Addr} {n j : Nat} {f : Nat → Option Int} {Q : VK} (h : H r = some (.lst (zrow n f))) (hj : j < n) (q : Q (oV (f j)) H) : rIxL K (.ref r) (.int j) H Q :=
  ix_l (.of h) (by omega) (by rw [Int.toNat_natCast]; exact zrow_get _ hj) q
theorem ix_top {K : PySem.W.Frag} {H : Hp} {p : Addr} {as : List Addr} {n i : Nat} {M : Mx} {Q : VK} (z : ZAt H p as n M) (hi : i < n) (q : ∀ a, as[i]? = some a → H a = some (.lst (zrow n (M i))) → Q (.ref a) H) : rIxL K (.ref p) (.int i) H Q := by
  obtain ⟨a, h1, h2, h3⟩ := z.get hi
  exact ix_l (.of z.top) (by omega) (by rw [Int.toNat_natCast]; exact h2) (q a h1 h3)
/-- [list(row) for row in zone]: fresh rows -/
theorem lc_copy {K : PySem.W.Frag} {H : Hp} {p : Addr} {as : List Addr} {n : Nat} {M : Mx} {s c : Nat} {σ : L2.St} {Q : VK} (z : ZAt H p as n M) (hn : n ≤ 60) (hσ : σ[s]? = some (some (.ref p))) (hc : c < σ.length)
    (q : ∀ D as' H', Same H H' → ZAt H' D as' n M → H D = none → (∀ a ∈ as', H a = none) → Q (.ref D) H') :
    tLc (iList K (tVar s)) (gName c) tYes (tCB (rListN K) (tCons (tVar c) tNil)) [c] σ H Q := by
  refine ⟨.ref p, hσ, p, rfl, ⟨_, .of z.top⟩, fun D hD => ?_⟩
  refine lc_list (K := K) (a := p) (xs := as.map V.ref) (fun i H' => ∃ as' : List Addr, Same H H' ∧ H' D = some (.lst (as'.map V.ref)) ∧ as'.length = i ∧ as'.Nodup ∧ (∀ a ∈ as', H a = none ∧ a ≠ D) ∧ ∀ (j : Nat) (a : Addr), as'[j]? = some a → H' a = some (.lst (zrow n (M j))))
    ⟨[], upd_keep hD, upd_same, rfl, List.nodup_nil, (fun a h => by cases h), (fun j a h => by cases h)⟩ (fun i H' _ ⟨_, sm, _⟩ => .of (sm _ _ z.top)) ?_ ?_
  · rintro i x H' hi ⟨as', sm, eD, hl, nd, hf, hr⟩
    have hin : i < n := by
      have := (List.getElem?_eq_some_iff.mp hi).1
      rw [List.length_map, z.len] at this; exact this
    obtain ⟨r, er, er2, hr1⟩ := z.get hin
    obtain rfl : x = .ref r := Option.some.inj (hi.symm.trans er2)
    refine ⟨?_, .ref r, ?_, r, _, rfl, .inl (.of (sm _ _ hr1)), fun l H2 s2 fl e2 => ?_⟩
    · show ((σ.set c none).set c (some (.ref r))).set c none = σ.set c none
      rw [List.set_set, List.set_set]
    · show ((σ.set c none).set c (some (.ref r)))[c]? = some (some (.ref r))
      rw [List.getElem?_set_self (by rw [List.length_set]; exact hc)]
    have nD : l ≠ D := fun e => by rw [e, eD] at fl; cases fl
    have nl : l ∉ as' := fun hm => by
      obtain ⟨j, hj, e⟩ := List.mem_iff_getElem.mp hm
      have := hr j l (by rw [List.getElem?_eq_getElem hj, e])
      rw [fl] at this; cases this
    refine ⟨as'.map V.ref, s2 _ _ eD, by rw [List.length_map, hl]; exact small1000 (by omega), as' ++ [l], same_updN hD (sm.trans s2), ?_, by simp [hl], ?_, ?_, ?_⟩
    · rw [upd_same, List.map_append]; rfl
    · rw [List.nodup_append]
      refine ⟨nd, by simp, fun a ha b hb e => ?_⟩
      have : b = l := by simpa using hb
      exact nl (by rw [← this, ← e]; exact ha)
    · intro a ha
      rcases List.mem_append.mp ha with h | h
      · exact hf a h
      · have : a = l := by simpa using h
        subst this
        exact ⟨sm.free fl, nD⟩
    · intro j a hj
      by_cases c1 : j < as'.length
      · rw [List.getElem?_append_left c1] at hj
        rw [upd_ne (hf a (List.mem_of_getElem? hj)).2]
        exact s2 _ _ (hr j a hj)
      · have hlt := (List.getElem?_eq_some_iff.mp hj).1
        rw [List.length_append, List.length_singleton] at hlt
        obtain rfl : j = as'.length := by omega
        rw [List.getElem?_append_right (Nat.le_refl _), Nat.sub_self] at hj
        have : l = a := by simpa using hj
        subst this
        rw [upd_ne nD, hl]
        exact e2
  · rintro H' ⟨as', sm, eD, hl, nd, hf, hr⟩
    rw [List.length_map, z.len] at hl
    exact q D as' H' sm ⟨eD, hl, hr, nd⟩ hD fun a ha => (hf a ha).1
/-- a bound that is there stays -/
def Has (M : Mx) (i j : Nat) : Prop := ∃ d, M i j = some d
theorem has_up2 {M : Mx} {i j a b : Nat} {x : Option Int} (h : Has M a b) : Has (up2 M i j (narO (M i j) x)) a b := by
  unfold Has up2
  by_cases c : a = i ∧ b = j
  · obtain ⟨rfl, rfl⟩ := c
    obtain ⟨d, e⟩ := h
    rw [if_pos ⟨rfl, rfl⟩, e]
    cases x with
    | none => exact ⟨d, rfl⟩
    | some y => exact ⟨_, rfl⟩
  · rw [if_neg c]; exact h
theorem has_new {M : Mx} {i j : Nat} {y : Int} : Has (up2 M i j (narO (M i j) (some y))) i j := by
  unfold Has up2
  rw [if_pos ⟨rfl, rfl⟩]
  cases M i j with
  | none => exact ⟨y, rfl⟩
  | some v => exact ⟨_, rfl⟩
theorem has_iter {f : Nat → Mx → Mx} {a b : Nat} (hf : ∀ i M, Has M a b → Has (f i M) a b) {M : Mx} (h : Has M a b) : ∀ m, Has (iter f m M) a b
  | 0 => h
  | m + 1 => hf m _ (has_iter hf h m)
theorem has_rowst {n k i a b : Nat} {M : Mx} (h : Has M a b) : Has (rowst n k i M) a b := by
  unfold rowst
  split
  · exact h
  · exact has_iter (fun _ _ h => has_up2 h) h n
theorem has_thr {n k a b : Nat} {M : Mx} (h : Has M a b) : Has (thr n k M) a b := has_iter (fun _ _ h => has_rowst h) h n
theorem has_diag {i a b : Nat} {M : Mx} (h : Has M a b) : Has (diag1 i M) a b := has_up2 (has_up2 h)
theorem has_diags {M : Mx} : ∀ m i, i < m → Has (iter diag1 m M) i i
  | m + 1, i, h => by
    by_cases c : i = m
    · subst c; exact has_up2 has_new
    · exact has_diag (has_diags m i (by omega))
theorem has_nrw {n i : Nat} {M : Mx} (h : i < n) : Has (nrw n M) i i := has_iter (fun _ _ h => has_thr h) (has_diags n i h) n
theorem nrw_sz {n s m : Nat} {M : Mx} (hs : 1 ≤ s) (h : SzM s M) : SzM (s + 2 * n * n * m) (iter (thr n) m (iter diag1 n M)) := iter_sz (fun _ _ _ h => thr_sz h) (diags_sz hs h n) m
theorem ZAt.upd_fresh {H0 H : Hp} {a : Addr} {o : HO} {as : List Addr} (s : Same H0 H) (f : ∀ a ∈ as, H0 a = none) (ha : a ∈ as) : Same H0 (upd H a o) := same_updN (f a ha) s
theorem zrow_snoc (j : Nat) (f : Nat → Option Int) (x : Option Int) : zrow j f ++ [oV x] = zrow (j + 1) (fun b => if b = j then x else f b) := by
  unfold zrow
  rw [List.range_succ, List.map_append]
  congr 1
  · apply List.map_congr_left
    intro b hb
    show oV (f b) = oV (if b = j then x else f b)
    rw [if_neg (by have := List.mem_range.mp hb; omega)]
  · simp
theorem zrow_congr {n : Nat} {f g : Nat → Option Int} (h : ∀ j, j < n → f j = g j) : zrow n f = zrow n g := List.map_congr_left fun j hj => by rw [h j (List.mem_range.mp hj)]
/-- a row is put behind the rows so far -/
structure Grow (H0 H : Hp) (l : Addr) (as : List Addr) (i n : Nat) (M : Mx) : Prop where
  top : H l = some (.lst (as.map V.ref))
  len : as.length = i
  nd : as.Nodup
  fr : ∀ a ∈ as, H0 a = none ∧ a ≠ l
  row : ∀ (j : Nat) (a : Addr), as[j]? = some a → H a = some (.lst (zrow n (M j)))
theorem Grow.snoc {H0 H : Hp} {l r : Addr} {as : List Addr} {i n : Nat} {M : Mx} {f : Nat → Option Int} (g : Grow H0 H l as i n M) (hr : H r = some (.lst (zrow n f))) (fr : H0 r = none) (nr : r ∉ as) (nl : r ≠ l) :
    Grow H0 (upd H l (.lst (as.map V.ref ++ [.ref r]))) l (as ++ [r]) (i + 1) n (fun a b => if a = i then f b else M a b) := by
  refine ⟨by rw [upd_same, List.map_append]; rfl, by simp [g.len], ?_, ?_, ?_⟩
  · rw [List.nodup_append]
    refine ⟨g.nd, by simp, fun a ha b hb e => ?_⟩
    have : b = r := by simpa using hb
    exact nr (by rw [← this, ← e]; exact ha)
  · intro a ha
    rcases List.mem_append.mp ha with h | h
    · exact g.fr a h
    · have : a = r := by simpa using h
      rw [this]; exact ⟨fr, nl⟩
  · intro j a hj
    have len := g.len
    by_cases c1 : j < as.length
    · rw [List.getElem?_append_left c1] at hj
      rw [upd_ne (g.fr a (List.mem_of_getElem? hj)).2, g.row j a hj]
      have : ¬ j = i := by omega
      simp [this]
    · have hlt := (List.getElem?_eq_some_iff.mp hj).1
      rw [List.length_append, List.length_singleton] at hlt
      obtain rfl : j = as.length := by omega
      rw [List.getElem?_append_right (Nat.le_refl _), Nat.sub_self] at hj
      have : r = a := by simpa using hj
      subst this
      rw [upd_ne nl, hr, len]
      simp
theorem Grow.keep {H0 H H' : Hp} {l : Addr} {as : List Addr} {i n : Nat} {M : Mx} (g : Grow H0 H l as i n M) (s : ∀ b o, H b = some o → (b = l ∨ b ∈ as) → H' b = some o) : Grow H0 H' l as i n M :=
  ⟨s _ _ g.top (.inl rfl), g.len, g.nd, g.fr, fun j a h => s _ _ (g.row j a h) (.inr (List.mem_of_getElem? h))⟩
theorem Grow.done {H0 H : Hp} {l : Addr} {as : List Addr} {n : Nat} {M : Mx} (g : Grow H0 H l as n n M) : ZAt H l as n M := ⟨g.top, g.len, g.row, g.nd⟩
def natV (xs : List Nat) : List V := xs.map fun x : Nat => V.int (x : Int)
theorem natV_len (xs : List Nat) : (natV xs).length = xs.length := by simp [natV]
theorem natV_get {xs : List Nat} {i : Nat} (h : i < xs.length) : (natV xs)[i]? = some (.int (xs[i] : Nat)) := by simp [natV, h]
theorem perm_erase {α : Type} : ∀ {l : List α} {k : Nat} (h : k < l.length), List.Perm (l[k] :: l.eraseIdx k) l
  | x :: l, 0, _ => .refl _
  | x :: l, k + 1, h => (List.Perm.swap x _ _).trans (.cons x (perm_erase (l := l) (k := k) (by simpa using h)))
theorem erase_map {α β : Type} (f : α → β) : ∀ (l : List α) (k : Nat), (l.map f).eraseIdx k = (l.eraseIdx k).map f
  | [], _ => rfl
  | _ :: _, 0 => rfl
  | x :: l, k + 1 => by show f x :: (l.map f).eraseIdx k = f x :: (l.eraseIdx k).map f; rw [erase_map f l k]
def oD : Option Int → PyData
  | none => .none
  | some i => .int i
theorem dp_oV {K : PySem.W.Frag} {H : Hp} : ∀ x : Option Int, Dp K H (oV x) (oD x)
  | none => .non
  | some i => .int i
def rdata (n : Nat) (f : Nat → Option Int) : PyData := .list ((List.range n).map fun j => oD (f j))
def zdata (n : Nat) (M : Mx) : PyData := .list ((List.range n).map fun i => rdata n (M i))
theorem dp_row {K : PySem.W.Frag} {H : Hp} {r : Addr} {n : Nat} {f : Nat → Option Int} (h : H r = some (.lst (zrow n f))) : Dp K H (.ref r) (rdata n f) := by
  refine .lst (.of h) (dpall_of (by simp [zrow]) fun k v d h1 h2 => ?_)
  have hk : k < n := by
    have := (List.getElem?_eq_some_iff.mp h1).1
    rwa [zrow_len] at this
  rw [zrow_get _ hk] at h1
  rw [List.getElem?_map, List.getElem?_range hk] at h2
  cases h1; cases h2
  exact dp_oV _
theorem ZAt.dp {K : PySem.W.Frag} {H : Hp} {p : Addr} {as : List Addr} {n : Nat} {M : Mx} (z : ZAt H p as n M) : Dp K H (.ref p) (zdata n M) := by
  refine .lst (.of z.top) (dpall_of (by simp [z.len]) fun k v d h1 h2 => ?_)
  have hk : k < n := by
    have := (List.getElem?_eq_some_iff.mp h1).1
    rwa [List.length_map, z.len] at this
  obtain ⟨a, _, e2, e3⟩ := z.get hk
  rw [e2] at h1
  rw [List.getElem?_map, List.getElem?_range hk] at h2
  cases h1; cases h2
  exact dp_row e3
theorem lay_list {ds : List PyData} {k : Nat} (h : ∀ d ∈ ds, d.canLay0 = true ∧ d.depth ≤ k) : (PyData.list ds).canLay0 = true ∧ (PyData.list ds).depth ≤ k + 1 := by
  have key : ∀ ds : List PyData, (∀ d ∈ ds, d.canLay0 = true ∧ d.depth ≤ k) → PyData.canLayAll0 ds = true ∧ PyData.depthAll ds ≤ k := by
    intro ds
    induction ds with
    | nil => intro _; exact ⟨rfl, Nat.zero_le _⟩
    | cons d ds ih =>
      intro h
      have h1 := h d (List.mem_cons_self ..)
      have h2 := ih fun x hx => h x (List.mem_cons_of_mem _ hx)
      refine ⟨by show (d.canLay0 && PyData.canLayAll0 ds) = true; rw [h1.1, h2.1]; rfl, ?_⟩
      show max d.depth (PyData.depthAll ds) ≤ k
      omega
  have z := key ds h
  exact ⟨z.1, by show PyData.depthAll ds + 1 ≤ k + 1; omega⟩
theorem lay_oD (x : Option Int) : (oD x).canLay0 = true ∧ (oD x).depth ≤ 0 := by cases x <;> exact ⟨rfl, Nat.le_refl _⟩
theorem lay_row (n : Nat) (f : Nat → Option Int) : (rdata n f).canLay0 = true ∧ (rdata n f).depth ≤ 1 := lay_list fun d h => by
  obtain ⟨j, _, rfl⟩ := List.mem_map.mp h
  exact lay_oD _
theorem lay_zone (n : Nat) (M : Mx) : (zdata n M).canLay0 = true ∧ (zdata n M).depth ≤ 2 := lay_list fun d h => by
  obtain ⟨j, _, rfl⟩ := List.mem_map.mp h
  exact lay_row _ _
theorem shaped_zone (n : Nat) (M : Mx) : SeqAt.shaped (zdata n M) = true := Bool.and_eq_true_iff.mpr ⟨(lay_zone n M).1, decide_eq_true (by have := (lay_zone n M).2; omega)⟩
theorem cube_le {n : Nat} (h : n ≤ 8) : 2 * n * n * n ≤ 1024 := Nat.mul_le_mul (Nat.mul_le_mul (Nat.mul_le_mul_left 2 h) h) h
/-! ### the narrowest form, as mathematics -/
/-- the first bound is no wider than the second -/
def leO : Option Int → Option Int → Prop
  | _, none => True
  | none, some _ => False
  | some a, some b => a ≤ b
theorem leO_refl : ∀ x, leO x x
  | none => trivial
  | some a => Int.le_refl a
theorem leO_trans : ∀ {x y z}, leO x y → leO y z → leO x z
  | _, _, none, _, _ => by cases ‹Option Int› <;> trivial
  | some a, some b, some c, h, k => Int.le_trans h k
  | none, some b, some c, h, _ => h.elim
  | _, none, some c, _, k => k.elim
theorem narO_le1 : ∀ x y, leO (narO x y) x
  | none, _ => by cases ‹Option Int› <;> trivial
  | some a, none => Int.le_refl a
  | some a, some b => by show (if b < a then b else a) ≤ a; split <;> omega
theorem narO_le2 : ∀ x y, leO (narO x y) y
  | none, y => leO_refl y
  | some a, none => trivial
  | some a, some b => by show (if b < a then b else a) ≤ b; split <;> omega
theorem le_narO : ∀ {x y z}, leO z x → leO z y → leO z (narO x y)
  | none, _, _, _, k => k
  | some a, none, _, h, _ => h
  | some a, some b, none, h, _ => h.elim
  | some a, some b, some c, h, k => by show c ≤ (if b < a then b else a); split <;> assumption
theorem leO_anti : ∀ {x y}, leO x y → leO y x → x = y
  | none, none, _, _ => rfl
  | some a, none, _, k => k.elim
  | none, some b, h, _ => h.elim
  | some a, some b, h, k => by rw [Int.le_antisymm h k]
theorem narO_of_le {x y : Option Int} (h : leO x y) : narO x y = x := leO_anti (narO_le1 x y) (le_narO (leO_refl x) h)
theorem addO_none (x : Option Int) : addO x none = none := by cases x <;> rfl
theorem none_addO (x : Option Int) : addO none x = none := rfl
theorem addO_comm : ∀ x y, addO x y = addO y x
  | none, y => by rw [addO_none]; rfl
  | some a, none => rfl
  | some a, some b => by show some _ = some _; rw [Int.add_comm (a / 2)]; congr 2; simp only [and_comm]
theorem addO_mono : ∀ {x x' y y'}, leO x x' → leO y y' → leO (addO x y) (addO x' y')
  | x, none, y, y', _, _ => by rw [none_addO]; cases addO x y <;> trivial
  | x, some b, y, none, _, _ => by cases addO x y <;> trivial
  | none, some b, _, some d, h, _ => h.elim
  | some a, some b, none, some d, _, k => k.elim
  | some a, some b, some c, some d, h, k => by
    have h : a ≤ b := h
    have k : c ≤ d := k
    show 2 * (a / 2 + c / 2) + (if a % 2 = 1 ∧ c % 2 = 1 then 1 else 0) ≤ 2 * (b / 2 + d / 2) + (if b % 2 = 1 ∧ d % 2 = 1 then 1 else 0)
    split <;> split <;> omega
theorem addO_assoc : ∀ x y z, addO (addO x y) z = addO x (addO y z)
  | none, y, z => rfl
  | some a, none, z => rfl
  | some a, some b, none => by rw [addO_none, addO_none]; rfl
  | some a, some b, some c => by
    show some _ = some _
    congr 1
    generalize hx : (2 * (a / 2 + b / 2) + if a % 2 = 1 ∧ b % 2 = 1 then 1 else 0) = x
    generalize hy : (2 * (b / 2 + c / 2) + if b % 2 = 1 ∧ c % 2 = 1 then 1 else 0) = y
    have x1 : x / 2 = a / 2 + b / 2 := by rw [← hx]; split <;> omega
    have x2 : x % 2 = 1 ↔ (a % 2 = 1 ∧ b % 2 = 1) := by rw [← hx]; split <;> (constructor <;> intro h) <;> omega
    have y1 : y / 2 = b / 2 + c / 2 := by rw [← hy]; split <;> omega
    have y2 : y % 2 = 1 ↔ (b % 2 = 1 ∧ c % 2 = 1) := by rw [← hy]; split <;> (constructor <;> intro h) <;> omega
    simp only [x2, y2, x1, y1, and_assoc]
    omega
theorem addO_one (x : Option Int) : addO x (some 1) = x := by
  cases x with
  | none => rfl
  | some a =>
    show some _ = some _
    congr 1
    split <;> omega
theorem one_addO (x : Option Int) : addO (some 1) x = x := by rw [addO_comm, addO_one]
/-- the diagonal's place is not below at most 0 -/
def Pos (M : Mx) (k : Nat) : Prop := leO (some 1) (M k k)
theorem pos_add {M : Mx} {k : Nat} (h : Pos M k) (x : Option Int) : leO x (addO x (M k k)) := by
  have := addO_mono (leO_refl x) h
  rwa [addO_one] at this
theorem pos_add' {M : Mx} {k : Nat} (h : Pos M k) (x : Option Int) : leO x (addO (M k k) x) := by rw [addO_comm]; exact pos_add h x
def fw (k : Nat) (M : Mx) : Mx := fun a b => narO (M a b) (addO (M a k) (M k b))
theorem fw_col {M : Mx} {k : Nat} (h : Pos M k) (a : Nat) : fw k M a k = M a k := narO_of_le (pos_add h _)
theorem fw_row {M : Mx} {k : Nat} (h : Pos M k) (b : Nat) : fw k M k b = M k b := narO_of_le (pos_add' h _)
theorem inner_eq {M : Mx} {n k m : Nat} (h : Pos M k) {M' : Mx} (e : ∀ a b, M' a b = if a < m ∧ b < n then fw k M a b else M a b) : ∀ l, l ≤ n → ∀ a b, iter (cell1 k m) l M' a b = if a = m ∧ b < l then fw k M m b else M' a b
  | 0, _, a, b => by rw [if_neg (by omega)]; rfl
  | l + 1, hl, a, b => by
    have ih := inner_eq h e l (by omega)
    have hk : ∀ b, M' k b = M k b := fun b => by
      rw [e]; split
      · exact fw_row h b
      · rfl
    have ik : M' m k = M m k := by rw [e, if_neg (by omega)]
    have c1 : iter (cell1 k m) l M' m l = M m l := by rw [ih, if_neg (by omega), e, if_neg (by omega)]
    have c2 : iter (cell1 k m) l M' m k = M m k := by
      rw [ih]; split
      · exact fw_col h m
      · exact ik
    have c3 : iter (cell1 k m) l M' k l = M k l := by
      rw [ih]; split
      · omega
      · exact hk l
    show up2 (iter (cell1 k m) l M') m l (narO (iter (cell1 k m) l M' m l) (addO (iter (cell1 k m) l M' m k) (iter (cell1 k m) l M' k l))) a b = _
    rw [c1, c2, c3]
    unfold up2
    by_cases c : a = m ∧ b = l
    · obtain ⟨rfl, rfl⟩ := c
      rw [if_pos ⟨rfl, rfl⟩, if_pos ⟨rfl, by omega⟩]; rfl
    · rw [if_neg c, ih]
      by_cases d : a = m ∧ b < l
      · rw [if_pos d, if_pos ⟨d.1, by omega⟩]
      · rw [if_neg d, if_neg (by omega)]
theorem rows_eq {M : Mx} {n k : Nat} (h : Pos M k) : ∀ m, ∀ a b, iter (rowst n k) m M a b = if a < m ∧ b < n then fw k M a b else M a b
  | 0, a, b => by rw [if_neg (by omega)]; rfl
  | m + 1, a, b => by
    have ih := rows_eq (n := n) h m
    have ik : iter (rowst n k) m M m k = M m k := by rw [ih, if_neg (by omega)]
    show (if iter (rowst n k) m M m k = none then iter (rowst n k) m M else iter (cell1 k m) n (iter (rowst n k) m M)) a b = _
    rw [ik]
    split
    · rename_i hz
      rw [ih]
      by_cases c : a = m
      · subst c
        rw [if_neg (by omega)]
        split
        · unfold fw; rw [hz, none_addO]; cases M a b <;> rfl
        · rfl
      · by_cases d : a < m ∧ b < n
        · rw [if_pos d, if_pos ⟨by omega, d.2⟩]
        · rw [if_neg d, if_neg (by omega)]
    · rw [inner_eq h ih n (Nat.le_refl _), ih]
      by_cases c : a = m ∧ b < n
      · obtain ⟨rfl, hb⟩ := c
        rw [if_pos ⟨rfl, hb⟩, if_pos ⟨by omega, hb⟩]
      · rw [if_neg c]
        by_cases d : a < m ∧ b < n
        · rw [if_pos d, if_pos ⟨by omega, d.2⟩]
        · rw [if_neg d, if_neg (by omega)]
theorem thr_eq {M : Mx} {n k : Nat} (h : Pos M k) {a b : Nat} (ha : a < n) (hb : b < n) : thr n k M a b = fw k M a b := by
  unfold thr; rw [rows_eq h n, if_pos ⟨ha, hb⟩]
/-- each place's bound only becomes narrower -/
def LeM (N M : Mx) : Prop := ∀ a b, leO (N a b) (M a b)
theorem LeM.refl (M : Mx) : LeM M M := fun _ _ => leO_refl _
theorem LeM.trans {A B C : Mx} (h : LeM A B) (k : LeM B C) : LeM A C := fun a b => leO_trans (h a b) (k a b)
theorem up2_le (M : Mx) (i j : Nat) (x : Option Int) : LeM (up2 M i j (narO (M i j) x)) M := fun a b => by
  unfold up2
  split
  · rename_i h; obtain ⟨rfl, rfl⟩ := h; exact narO_le1 _ _
  · exact leO_refl _
theorem iter_le {f : Nat → Mx → Mx} (hf : ∀ i M, LeM (f i M) M) (M : Mx) : ∀ m, LeM (iter f m M) M
  | 0 => .refl M
  | m + 1 => (hf m _).trans (iter_le hf M m)
theorem rowst_le (n k i : Nat) (M : Mx) : LeM (rowst n k i M) M := by
  unfold rowst
  split
  · exact .refl M
  · exact iter_le (fun j M => up2_le M i j _) M n
theorem thr_le (n k : Nat) (M : Mx) : LeM (thr n k M) M := iter_le (rowst_le n k) M n
theorem diag1_le (i : Nat) (M : Mx) : LeM (diag1 i M) M := (up2_le _ _ _ _).trans (up2_le _ _ _ _)
theorem nrw_le0 (n : Nat) (M : Mx) : LeM (nrw n M) (iter diag1 n M) := iter_le (thr_le n) _ n
theorem nrw_le (n : Nat) (M : Mx) : LeM (nrw n M) M := (nrw_le0 n M).trans (iter_le diag1_le M n)
theorem iter_le2 {f : Nat → Mx → Mx} (hf : ∀ i M, LeM (f i M) M) (M : Mx) {m : Nat} : ∀ d, LeM (iter f (m + d) M) (iter f m M)
  | 0 => .refl _
  | d + 1 => (hf _ _).trans (iter_le2 hf M d)
/-- through the first K places each bound is as narrow as the way makes it -/
def Tri (n K : Nat) (M : Mx) : Prop := ∀ k, k < K → ∀ i j, i < n → j < n → leO (M i j) (addO (M i k) (M k j))
theorem tri_step {n K : Nat} {M : Mx} (hK : K < n) (t : Tri n K M) (h : Pos M K) : Tri n (K + 1) (thr n K M) := by
  intro k hk i j hi hj
  have hkn : k < n := by omega
  rw [thr_eq h hi hj, thr_eq h hi hkn, thr_eq h hkn hj]
  by_cases c : k = K
  · subst c
    rw [fw_col h, fw_row h]
    exact narO_le2 _ _
  have t := t k (by omega)
  have key : ∀ x y, (leO (M i k) x ∨ leO (addO (M i K) (M K k)) x) → (leO (M k j) y ∨ leO (addO (M k K) (M K j)) y) → leO (fw K M i j) (addO x y) := by
    intro x y hx hy
    rcases hx with hx | hx <;> rcases hy with hy | hy
    · exact leO_trans (narO_le1 _ _) (leO_trans (t i j hi hj) (addO_mono hx hy))
    · refine leO_trans (narO_le2 _ _) (leO_trans ?_ (addO_mono hx hy))
      rw [← addO_assoc]
      exact addO_mono (t i K hi hK) (leO_refl _)
    · refine leO_trans (narO_le2 _ _) (leO_trans ?_ (addO_mono hx hy))
      rw [addO_assoc]
      exact addO_mono (leO_refl _) (t K j hK hj)
    · refine leO_trans (narO_le2 _ _) (leO_trans ?_ (addO_mono hx hy))
      rw [addO_assoc, ← addO_assoc (M K k)]
      have g : leO (some 1) (addO (M K k) (M k K)) := leO_trans h (t K K hK hK)
      have := addO_mono (leO_refl (M i K)) (addO_mono g (leO_refl (M K j)))
      rwa [one_addO] at this
  have nar_or : ∀ x y, leO x (narO x y) ∨ leO y (narO x y) := by
    intro x y
    cases x with
    | none => exact .inr (leO_refl _)
    | some a =>
      cases y with
      | none => exact .inl (leO_refl _)
      | some b =>
        show a ≤ (if b < a then b else a) ∨ b ≤ (if b < a then b else a)
        split
        · exact .inr (Int.le_refl _)
        · exact .inl (Int.le_refl _)
  exact key _ _ (nar_or _ _) (nar_or _ _)
theorem nrw_tri {n : Nat} {M : Mx} (h : ∀ i, i < n → Pos (nrw n M) i) : Tri n n (nrw n M) := by
  have key : ∀ K, K ≤ n → Tri n K (iter (thr n) K (iter diag1 n M)) := by
    intro K
    induction K with
    | zero => intro _ k hk; omega
    | succ K ih =>
      intro hK
      refine tri_step (by omega) (ih (by omega)) ?_
      have l : LeM (nrw n M) (iter (thr n) K (iter diag1 n M)) := by
        have := iter_le2 (thr_le n) (iter diag1 n M) (m := K) (n - K)
        rw [show K + (n - K) = n by omega] at this
        exact this
      exact leO_trans (h K (by omega)) (l K K)
  exact key n (Nat.le_refl _)
/-- a way's bound -/
def pathO (M : Mx) : Nat → List Nat → Option Int
  | _, [] => some 1
  | a, b :: l => addO (M a b) (pathO M b l)
def lastOf : Nat → List Nat → Nat
  | a, [] => a
  | _, b :: l => lastOf b l
theorem path_le {n : Nat} {N : Mx} (t : Tri n n N) : ∀ (l : List Nat) (a c : Nat), a < n → c < n → (∀ x ∈ l, x < n) → leO (N c (lastOf a l)) (addO (N c a) (pathO N a l))
  | [], a, c, ha, hc, _ => by show leO (N c a) (addO (N c a) (some 1)); rw [addO_one]; exact leO_refl _
  | b :: l, a, c, ha, hc, h => by
    have hb : b < n := h b (List.mem_cons_self ..)
    have ih := path_le t l b c hb hc fun x hx => h x (List.mem_cons_of_mem _ hx)
    show leO (N c (lastOf b l)) (addO (N c a) (addO (N a b) (pathO N b l)))
    rw [← addO_assoc]
    exact leO_trans ih (addO_mono (t a ha c b hc hb) (leO_refl _))
theorem path_mono {N M : Mx} (h : LeM N M) : ∀ (l : List Nat) (a : Nat), leO (pathO N a l) (pathO M a l)
  | [], _ => leO_refl _
  | b :: l, a => addO_mono (h a b) (path_mono h l b)
/-- a ring that comes to below at most 0 leaves no zone -/
theorem ring_empty {n a : Nat} {M : Mx} {l : List Nat} (ha : a < n) (hl : ∀ x ∈ l, x < n) {s : Int} (hs : addO (M (lastOf a l) a) (pathO M a l) = some s) (h1 : s < 1) : ¬ ∀ i, i < n → Pos (nrw n M) i := by
  intro h
  have t := nrw_tri h
  have hz : lastOf a l < n := by
    have : ∀ (l : List Nat) (a : Nat), a < n → (∀ x ∈ l, x < n) → lastOf a l < n := by
      intro l
      induction l with
      | nil => intro a ha _; exact ha
      | cons b l ih => intro a _ h; exact ih b (h b (List.mem_cons_self ..)) fun x hx => h x (List.mem_cons_of_mem _ hx)
    exact this l a ha hl
  have p := path_le t l a (lastOf a l) ha hz hl
  have q := addO_mono (nrw_le n M (lastOf a l) a) (path_mono (nrw_le n M) l a)
  rw [hs] at q
  have r := leO_trans (h _ hz) (leO_trans p q)
  have r : (1 : Int) ≤ s := r
  omega
theorem diags_row0 {M : Mx} : ∀ m i, i < m → leO (iter diag1 m M 0 i) (some 1)
  | m + 1, i, h => by
    by_cases c : i = m
    · subst c
      show leO (up2 _ 0 i (narO _ (some 1)) 0 i) (some 1)
      unfold up2
      rw [if_pos ⟨rfl, rfl⟩]
      exact narO_le2 _ _
    · exact leO_trans (diag1_le m _ 0 i) (diags_row0 m i (by omega))
/-- a watch below 0 leaves no zone -/
theorem below_empty {n i : Nat} {M : Mx} (hi : i < n) {s : Int} (hs : M i 0 = some s) (h1 : s < 1) : ¬ ∀ i, i < n → Pos (nrw n M) i := by
  intro h
  have t := nrw_tri h 0 (by omega) i i hi hi
  have a : leO (nrw n M i 0) (some s) := by have := nrw_le n M i 0; rwa [hs] at this
  have b : leO (nrw n M 0 i) (some 1) := leO_trans (nrw_le0 n M 0 i) (diags_row0 n i hi)
  have c := addO_mono a b
  rw [addO_one] at c
  have r := leO_trans (h _ hi) (leO_trans t c)
  have r : (1 : Int) ≤ s := r
  omega
theorem lastOf_snoc : ∀ (l : List Nat) (a c : Nat), lastOf a (l ++ [c]) = c
  | [], _, _ => rfl
  | b :: l, _, c => lastOf_snoc l b c
theorem path_snoc (M : Mx) : ∀ (l : List Nat) (a c : Nat), pathO M a (l ++ [c]) = addO (pathO M a l) (M (lastOf a l) c)
  | [], a, c => by show addO (M a c) (some 1) = addO (some 1) (M a c); rw [addO_one, one_addO]
  | b :: l, a, c => by
    show addO (M a b) (pathO M b (l ++ [c])) = addO (addO (M a b) (pathO M b l)) (M (lastOf b l) c)
    rw [path_snoc M l b c, addO_assoc]
theorem path_up2 {M : Mx} {y c : Nat} {v : Option Int} : ∀ (l : List Nat) (a : Nat), y ∉ (a :: l).dropLast → pathO (up2 M y c v) a l = pathO M a l
  | [], _, _ => rfl
  | b :: l, a, h => by
    have h : y ∉ a :: (b :: l).dropLast := h
    have h1 : a ≠ y := fun e => h (by rw [e]; exact List.mem_cons_self ..)
    show addO (up2 M y c v a b) (pathO (up2 M y c v) b l) = _
    rw [path_up2 l b (fun z => h (List.mem_cons_of_mem _ z))]
    unfold up2
    rw [if_neg (fun z => h1 z.1)]
    rfl
theorem lastOf_mem : ∀ (l : List Nat) (a : Nat), lastOf a l ∈ a :: l
  | [], a => List.mem_cons_self ..
  | b :: l, a => List.mem_cons_of_mem _ (lastOf_mem l b)
theorem lastOf_get : ∀ (l : List Nat) (a k x : Nat), (a :: l)[k]? = some x → lastOf a (l.take k) = x
  | l, a, 0, x, h => by rw [List.take_zero]; exact Option.some.inj h
  | [], a, k + 1, x, h => by cases h
  | b :: l, a, k + 1, x, h => lastOf_get l b k x h
theorem nodup_last {l : List Nat} {a : Nat} (nd : (a :: l).Nodup) : lastOf a l ∉ (a :: l).dropLast := by
  induction l generalizing a with
  | nil => simp [lastOf]
  | cons b l ih =>
    have nd2 := (List.nodup_cons.mp nd)
    show lastOf b l ∉ a :: (b :: l).dropLast
    intro h
    rcases List.mem_cons.mp h with e | h
    · exact nd2.1 (by rw [← e]; exact lastOf_mem l b)
    · exact ih nd2.2 h
theorem get_last : ∀ (l : List Nat) (a : Nat), (a :: l)[l.length]? = some (lastOf a l)
  | [], _ => rfl
  | b :: l, _ => get_last l b
theorem natV_last (l : List Nat) (a : Nat) : atI (natV (a :: l)) (-1) = some (.int (lastOf a l : Nat)) := by
  unfold atI
  have e : ixN (natV (a :: l)).length (-1) = some l.length := by
    rw [natV_len]
    unfold ixN
    rw [if_neg (by omega), if_pos (by rw [List.length_cons]; omega)]
    congr 1
    rw [List.length_cons]; omega
  rw [e]
  show (natV (a :: l))[l.length]? = _
  unfold natV
  rw [List.getElem?_map, get_last]; rfl
theorem not_pos {n : Nat} {M : Mx} (h : ¬ ∀ i, i < n → Pos (nrw n M) i) : ∃ i d, i < n ∧ nrw n M i i = some d ∧ d < 1 := by
  apply Classical.byContradiction
  intro c
  apply h
  intro i hi
  obtain ⟨d, e⟩ := has_nrw (M := M) hi
  show leO (some 1) (nrw n M i i)
  rw [e]
  apply Classical.byContradiction
  intro c2
  have c2 : ¬ (1 : Int) ≤ d := c2
  exact c ⟨i, d, hi, e, by omega⟩
theorem diags_diag {M : Mx} : ∀ m i, i < m → leO (iter diag1 m M i i) (some 1)
  | m + 1, i, h => by
    by_cases c : i = m
    · subst c
      have h1 : leO (up2 (iter diag1 i M) i i (narO (iter diag1 i M i i) (some 1)) i i) (some 1) := by
        unfold up2
        rw [if_pos ⟨rfl, rfl⟩]
        exact narO_le2 _ _
      exact leO_trans (up2_le _ _ _ _ i i) h1
    · exact leO_trans (diag1_le m _ i i) (diags_diag m i (by omega))
theorem nrw_diag {n i : Nat} {M : Mx} (hi : i < n) (h : Pos (nrw n M) i) : nrw n M i i = some 1 := leO_anti (leO_trans (nrw_le0 n M i i) (diags_diag n i hi)) h
theorem nrw_row0 {n i : Nat} {M : Mx} (hi : i < n) : leO (nrw n M 0 i) (some 1) := leO_trans (nrw_le0 n M 0 i) (diags_row0 n i hi)
theorem up2_id (M : Mx) (i j : Nat) : up2 M i j (M i j) = M := by
  funext a b
  unfold up2
  split
  · rename_i h; rw [h.1, h.2]
  · rfl
theorem iter_id {f : Nat → Mx → Mx} {M : Mx} : ∀ m, (∀ i, i < m → f i M = M) → iter f m M = M
  | 0, _ => rfl
  | m + 1, h => by
    show f m (iter f m M) = M
    rw [iter_id m fun i hi => h i (by omega)]
    exact h m (by omega)
/-- a narrow zone is its own narrowest form -/
theorem nrw_idem {n : Nat} {N : Mx} (h1 : ∀ i, i < n → N i i = some 1) (h0 : ∀ i, i < n → leO (N 0 i) (some 1)) (t : Tri n n N) : nrw n N = N := by
  have d : iter diag1 n N = N := iter_id n fun i hi => by
    unfold diag1
    have e : narO (N i i) (some 1) = N i i := by rw [h1 i hi]; rfl
    rw [e, up2_id, narO_of_le (h0 i hi), up2_id]
  unfold nrw
  rw [d]
  refine iter_id n fun k hk => ?_
  funext a b
  have p : Pos N k := by show leO (some 1) (N k k); rw [h1 k hk]; exact leO_refl _
  unfold thr
  rw [rows_eq p n]
  split
  · rename_i c
    exact narO_of_le (t k hk a b c.1 c.2)
  · rfl
/-! ### values: lists of fractions -/
/-- the values xs stand at p -/
def VAt (H : Hp) (p : Addr) (xs : List (Int × Int)) : Prop := ∃ qs : List Addr, H p = some (.lst (qs.map V.ref)) ∧ qs.length = xs.length ∧ ∀ (i : Nat) (q : Addr) (x : Int × Int), qs[i]? = some q → xs[i]? = some x → H q = some (.tup [.int x.1, .int x.2])
theorem VAt.keep {H H' : Hp} {p : Addr} {xs : List (Int × Int)} (v : VAt H p xs) (s : Same H H') : VAt H' p xs := by
  obtain ⟨qs, a, b, c⟩ := v
  exact ⟨qs, s _ _ a, b, fun i q x h1 h2 => s _ _ (c i q x h1 h2)⟩
theorem VAt.get {H : Hp} {p : Addr} {xs : List (Int × Int)} {K : PySem.W.Frag} {Q : VK} (v : VAt H p xs) {i : Nat} {x : Int × Int} (h : xs[i]? = some x) (q : ∀ a, H a = some (.tup [.int x.1, .int x.2]) → Q (.ref a) H) : rIxL K (.ref p) (.int i) H Q := by
  obtain ⟨qs, e1, e2, e3⟩ := v
  have hi : i < qs.length := by rw [e2]; exact (List.getElem?_eq_some_iff.mp h).1
  have hq := List.getElem?_eq_getElem hi
  exact ix_l (v := .ref qs[i]) (.of e1) (by omega) (by rw [Int.toNat_natCast, List.getElem?_map, hq]; rfl) (q _ (e3 i _ x hq h))
/-- good values: from 0 on, bottoms from 1 on, small -/
def GoodV (s : Nat) (xs : List (Int × Int)) : Prop := ∀ x ∈ xs, 0 ≤ x.1 ∧ 0 < x.2 ∧ Sz s x.1 ∧ Sz s x.2
def dif (a b : Int × Int) : Int × Int := (a.1 * b.2 - b.1 * a.2, a.2 * b.2)
/-- whether a fraction is let by hangs on what it stands for alone -/
theorem letsO_ratio {b : Option Int} {t u t' u' : Int} (hu : 0 < u) (hu' : 0 < u') (e : t * u' = t' * u) : letsO b t u = letsO b t' u' := by
  cases b with
  | none => rfl
  | some b =>
    show decide _ = decide _
    refine decide_eq_decide.mpr ?_
    have key : ∀ t u t' u' : Int, 0 < u → 0 < u' → t * u' = t' * u → (t < b / 2 * u → t' < b / 2 * u') ∧ (t = b / 2 * u → t' = b / 2 * u') := by
      intro t u t' u' hu hu' e
      refine ⟨fun h => ?_, fun h => ?_⟩
      · have h1 := Int.mul_lt_mul_of_pos_right h hu'
        rw [e, Int.mul_right_comm] at h1
        exact Int.lt_of_mul_lt_mul_right h1 (by omega)
      · rw [h] at e
        rw [Int.mul_right_comm] at e
        exact (Int.eq_of_mul_eq_mul_right (by omega) e).symm
    have k1 := key t u t' u' hu hu' e
    have k2 := key t' u' t u hu' hu e.symm
    constructor
    · rintro (h | h)
      · exact .inl (k1.1 h)
      · exact .inr ⟨k1.2 h.1, h.2⟩
    · rintro (h | h)
      · exact .inl (k2.1 h)
      · exact .inr ⟨k2.2 h.1, h.2⟩
theorem lets_iff {b t u : Int} : letsO (some b) t u = true ↔ (t < b / 2 * u ∨ (t = b / 2 * u ∧ b % 2 = 1)) := decide_eq_true_iff
/-- a narrower bound lets less by -/
theorem lets_mono {x y : Option Int} {t u : Int} (hu : 0 < u) (h : leO x y) (k : letsO x t u = true) : letsO y t u = true := by
  cases y with
  | none => rfl
  | some b =>
    cases x with
    | none => exact h.elim
    | some a =>
      have h : a ≤ b := h
      rw [lets_iff] at k ⊢
      by_cases c : a / 2 = b / 2
      · rw [← c]
        rcases k with k | k
        · exact .inl k
        · exact .inr ⟨k.1, by omega⟩
      · have l : a / 2 + 1 ≤ b / 2 := by omega
        have m := Int.mul_le_mul_of_nonneg_right l (Int.le_of_lt hu)
        rw [Int.add_mul, Int.one_mul] at m
        rcases k with k | k <;> (left; omega)
/-- sums are let by the sum -/
theorem lets_add {x y : Option Int} {t u t' u' : Int} (hu : 0 < u) (hu' : 0 < u') (h : letsO x t u = true) (k : letsO y t' u' = true) : letsO (addO x y) (t * u' + t' * u) (u * u') = true := by
  cases x with
  | none => rfl
  | some a =>
    cases y with
    | none => rfl
    | some b =>
      rw [lets_iff] at h k
      show letsO (some _) _ _ = true
      rw [lets_iff]
      obtain ⟨c, hc⟩ : ∃ c, (2 * (a / 2 + b / 2) + if a % 2 = 1 ∧ b % 2 = 1 then 1 else 0) = c := ⟨_, rfl⟩
      rw [hc]
      have c1 : c / 2 = a / 2 + b / 2 := by rw [← hc]; split <;> omega
      have c2 : a % 2 = 1 → b % 2 = 1 → c % 2 = 1 := by intro h1 h2; rw [← hc, if_pos ⟨h1, h2⟩]; omega
      rw [c1]
      have e : (a / 2 + b / 2) * (u * u') = a / 2 * u * u' + b / 2 * u' * u := by rw [Int.add_mul]; congr 1 <;> ac_rfl
      rw [e]
      rcases h with h | h <;> rcases k with k | k
      · have h1 := Int.mul_lt_mul_of_pos_right h hu'
        have k1 := Int.mul_lt_mul_of_pos_right k hu
        left; omega
      · have h1 := Int.mul_lt_mul_of_pos_right h hu'
        rw [k.1]
        left; omega
      · have k1 := Int.mul_lt_mul_of_pos_right k hu
        rw [h.1]
        left; omega
      · right
        exact ⟨by rw [h.1, k.1], c2 h.2 k.2⟩
/-- the values v (a fraction for each place) lie in M -/
def Lies (n : Nat) (M : Mx) (v : Nat → Int × Int) : Prop := ∀ i j, i < n → j < n → letsO (M i j) (dif (v i) (v j)).1 (dif (v i) (v j)).2 = true
structure Vals0 (n : Nat) (v : Nat → Int × Int) : Prop where
  zero : v 0 = (0, 1)
  pos : ∀ i, i < n → 0 < (v i).2
  nn : ∀ i, i < n → 0 ≤ (v i).1
theorem dif_pos {a b : Int × Int} (ha : 0 < a.2) (hb : 0 < b.2) : 0 < (dif a b).2 := Int.mul_pos ha hb
theorem lies_cell {n k i j : Nat} {M : Mx} {v : Nat → Int × Int} (h0 : Vals0 n v) (hk : k < n) (hi : i < n) (hj : j < n) (h : Lies n M v) : Lies n (cell1 k i j M) v := by
  intro a b ha hb
  unfold cell1 up2
  split
  · rename_i c
    obtain ⟨rfl, rfl⟩ := c
    have p1 := h0.pos a ha
    have p2 := h0.pos b hb
    have p3 := h0.pos k hk
    have s : letsO (addO (M a k) (M k b)) (dif (v a) (v b)).1 (dif (v a) (v b)).2 = true := by
      have := lets_add (dif_pos p1 p3) (dif_pos p3 p2) (h a k ha hk) (h k b hk hb)
      rw [letsO_ratio (dif_pos p1 p2) (Int.mul_pos (dif_pos p1 p3) (dif_pos p3 p2)) (t' := (dif (v a) (v k)).1 * (dif (v k) (v b)).2 + (dif (v k) (v b)).1 * (dif (v a) (v k)).2)]
      · exact this
      · generalize v a = x at *
        generalize v b = y at *
        generalize v k = z at *
        obtain ⟨x1, x2⟩ := x
        obtain ⟨y1, y2⟩ := y
        obtain ⟨z1, z2⟩ := z
        simp only [dif]
        grind
    have h1 := h a b ha hb
    cases hM : M a b with
    | none => exact s
    | some d =>
      cases hA : addO (M a k) (M k b) with
      | none => rw [hM] at h1; exact h1
      | some e =>
        rw [hM] at h1
        rw [hA] at s
        show letsO (some (if e < d then e else d)) _ _ = true
        split
        · exact s
        · exact h1
  · exact h a b ha hb
theorem lies_iter {n : Nat} {v : Nat → Int × Int} {f : Nat → Mx → Mx} {M : Mx} : ∀ m, (∀ i M, i < m → Lies n M v → Lies n (f i M) v) → Lies n M v → Lies n (iter f m M) v
  | 0, _, h => h
  | m + 1, hf, h => hf m _ (by omega) (lies_iter m (fun i M hi => hf i M (by omega)) h)
theorem lies_thr {n k : Nat} {M : Mx} {v : Nat → Int × Int} (h0 : Vals0 n v) (hk : k < n) (h : Lies n M v) : Lies n (thr n k M) v :=
  lies_iter n (fun i M hi h => by
    unfold rowst
    split
    · exact h
    · exact lies_iter n (fun j M hj h => lies_cell h0 hk hi hj h) h) h
theorem lies_up {n i j : Nat} {M : Mx} {v : Nat → Int × Int} (h : Lies n M v) (h1 : i < n → j < n → letsO (some 1) (dif (v i) (v j)).1 (dif (v i) (v j)).2 = true) : Lies n (up2 M i j (narO (M i j) (some 1))) v := by
  intro a b ha hb
  unfold up2
  split
  · rename_i c
    obtain ⟨rfl, rfl⟩ := c
    have h2 := h a b ha hb
    cases hM : M a b with
    | none => exact h1 ha hb
    | some d =>
      rw [hM] at h2
      show letsO (some (if 1 < d then 1 else d)) _ _ = true
      split
      · exact h1 ha hb
      · exact h2
  · exact h a b ha hb
theorem lies_diag {n i : Nat} {M : Mx} {v : Nat → Int × Int} (h0 : Vals0 n v) (hi : i < n) (h : Lies n M v) : Lies n (diag1 i M) v := by
  refine lies_up (lies_up h fun _ _ => ?_) fun hz _ => ?_
  · rw [lets_iff]
    right
    simp only [dif]
    exact ⟨by rw [show (1 : Int) / 2 = 0 from rfl]; omega, by decide⟩
  · rw [lets_iff]
    simp only [dif, h0.zero]
    have p := h0.nn i hi
    have : (1 : Int) / 2 = 0 := rfl
    rw [this]
    omega
theorem lies_nrw {n : Nat} {M : Mx} {v : Nat → Int × Int} (h0 : Vals0 n v) (h : Lies n M v) : Lies n (nrw n M) v :=
  lies_iter n (fun k M hk h => lies_thr h0 hk h) (lies_iter n (fun i M hi h => lies_diag h0 hi h) h)
theorem lies_of_le {n : Nat} {N M : Mx} {v : Nat → Int × Int} (h0 : Vals0 n v) (l : LeM N M) (h : Lies n N v) : Lies n M v := fun i j hi hj => lets_mono (dif_pos (h0.pos i hi) (h0.pos j hj)) (l i j) (h i j hi hj)
theorem nrw_lies {n : Nat} {M : Mx} {v : Nat → Int × Int} (h0 : Vals0 n v) : Lies n (nrw n M) v ↔ Lies n M v := ⟨lies_of_le h0 (nrw_le n M), lies_nrw h0⟩
/-- where values lie, the diagonal isn't below at most 0 -/
theorem lies_pos {n i : Nat} {M : Mx} {v : Nat → Int × Int} (h0 : Vals0 n v) (hi : i < n) (h : Lies n M v) : Pos M i := by
  have h1 := h i i hi hi
  cases hM : M i i with
  | none => show leO (some 1) (M i i); rw [hM]; trivial
  | some d =>
    show leO (some 1) (M i i)
    rw [hM] at h1 ⊢
    rw [lets_iff] at h1
    show 1 ≤ d
    have e : (dif (v i) (v i)).1 = 0 := by simp only [dif]; omega
    have p := dif_pos (h0.pos i hi) (h0.pos i hi)
    rw [e] at h1
    generalize (dif (v i) (v i)).2 = D at *
    rcases Int.lt_or_le (d / 2) 0 with c | c
    · have := Int.mul_neg_of_neg_of_pos c p
      rcases h1 with h1 | h1 <;> omega
    · rcases Int.lt_or_le 0 (d / 2) with c2 | c2
      · omega
      · have z : d / 2 = 0 := by omega
        rw [z, Int.zero_mul] at h1
        rcases h1 with h1 | h1 <;> omega
/-- the places: nought, then the values -/
def plc (xs : List (Int × Int)) : Nat → Int × Int := fun i => ((0, 1) :: xs).getD i (0, 1)
theorem plc_get {xs : List (Int × Int)} {i : Nat} (h : i < xs.length + 1) : ((0, 1) :: xs)[i]? = some (plc xs i) := by
  have h2 : i < ((0, 1) :: xs).length := h
  show _ = some (((0, 1) :: xs).getD i (0, 1))
  rw [List.getD_eq_getElem?_getD, List.getElem?_eq_getElem h2]; rfl
theorem plc_good {s : Nat} {xs : List (Int × Int)} (g : GoodV s xs) (hs : 1 ≤ s) (i : Nat) : 0 ≤ (plc xs i).1 ∧ 0 < (plc xs i).2 ∧ Sz s (plc xs i).1 ∧ Sz s (plc xs i).2 := by
  have one : Sz s 1 := by
    have : (2 : Nat) ^ 1 ≤ 2 ^ s := Nat.pow_le_pow_right (by decide) hs
    unfold Sz; omega
  have base : (0 : Int) ≤ ((0, 1) : Int × Int).1 ∧ 0 < ((0, 1) : Int × Int).2 ∧ Sz s ((0, 1) : Int × Int).1 ∧ Sz s ((0, 1) : Int × Int).2 := ⟨by decide, by decide, by unfold Sz; exact Nat.pow_pos (by decide), one⟩
  unfold plc
  cases h : ((0, 1) :: xs)[i]? with
  | none => rw [List.getD_eq_getElem?_getD, h]; exact base
  | some x =>
    rw [List.getD_eq_getElem?_getD, h]
    rcases List.mem_cons.mp (List.mem_of_getElem? h) with e | m
    · rw [e]; exact base
    · exact g x m
theorem plc_vals {s : Nat} {xs : List (Int × Int)} (g : GoodV s xs) (hs : 1 ≤ s) (n : Nat) : Vals0 n (plc xs) := ⟨rfl, fun i _ => (plc_good g hs i).2.1, fun i _ => (plc_good g hs i).1⟩
/-- at most the number from above, and more -/
theorem ceil_ok {t u k : Int} (hu : 0 < u) (hk : 0 ≤ k) : letsO (some (2 * (0 - (0 - t).fdiv u + k) + 1)) t u = true := by
  rw [lets_iff]
  rw [Int.fdiv_eq_ediv_of_nonneg _ (by omega)]
  have e : (2 * (0 - (0 - t) / u + k) + 1) / 2 = 0 - (0 - t) / u + k := by omega
  have e2 : (2 * (0 - (0 - t) / u + k) + 1) % 2 = 1 := by omega
  rw [e, e2]
  have h1 := Int.ediv_mul_le (0 - t) (b := u) (by omega)
  have h2 : 0 ≤ k * u := Int.mul_nonneg hk (by omega)
  rw [Int.add_mul, Int.sub_mul, Int.zero_mul]
  generalize (0 - t) / u * u = A at *
  omega
/-- below the number above, and more -/
theorem floor_ok {t u k : Int} (hu : 0 < u) (hk : 0 ≤ k) : letsO (some (2 * (t.fdiv u + 1 + k))) t u = true := by
  rw [lets_iff]
  rw [Int.fdiv_eq_ediv_of_nonneg _ (by omega)]
  have e : (2 * (t / u + 1 + k)) / 2 = t / u + 1 + k := by omega
  rw [e]
  have h1 := Int.lt_ediv_add_one_mul_self t hu
  have h2 : 0 ≤ k * u := Int.mul_nonneg hk (by omega)
  rw [Int.add_mul]
  generalize (t / u + 1) * u = A at *
  omega
theorem fdiv_sz {s : Nat} {t u : Int} (hu : 0 < u) (h : Sz s t) : Sz (s + 1) (t.fdiv u) := by
  rw [Int.fdiv_eq_ediv_of_nonneg _ (by omega)]
  have p : (2 : Nat) ^ (s + 1) = 2 ^ s * 2 := Nat.pow_succ ..
  unfold Sz at *
  rw [p]
  rcases Int.lt_or_le t 0 with c | c
  · have h1 : t ≤ t / u := by
      have := Int.ediv_le_ediv (c := u) (by omega) (Int.le_refl t)
      rcases Int.lt_or_le (t / u) t with z | z
      · have z1 : t / u + 1 ≤ t := by omega
        have z2 := Int.mul_le_mul_of_nonneg_right z1 (Int.le_of_lt hu)
        have z3 := Int.lt_ediv_add_one_mul_self t hu
        have z4 : t * u ≤ t * 1 := Int.mul_le_mul_of_nonpos_left (by omega) (by omega)
        omega
      · exact z
    have h2 : t / u < 0 := Int.ediv_neg_of_neg_of_pos c hu
    omega
  · have h1 := Int.ediv_nonneg c (Int.le_of_lt hu)
    have h2 := Int.ediv_le_self (a := t) u c
    omega
theorem half1 {b : Int} (h : Sz 9000 b) : Sz 10000 (b / 2) := Sz.le (j := b) (by omega) (h.mono (by omega))
theorem VAt.upd_ne {H : Hp} {o l : Addr} {xs : List (Int × Int)} {items items' : List V} (v : VAt H o xs) (hl : H l = some (.lst items)) (n : o ≠ l) : VAt (upd H l (.lst items')) o xs := by
  obtain ⟨qs, a, b, c⟩ := v
  refine ⟨qs, by rw [L2.upd_ne n]; exact a, b, fun i q x h1 h2 => ?_⟩
  have h3 := c i q x h1 h2
  rw [L2.upd_ne (ne_of h3 hl (by intro z; cases z))]
  exact h3
theorem VAt.set {H : Hp} {o q : Addr} {xs : List (Int × Int)} {i : Nat} {x : Int × Int} (v : VAt H o xs) (hq : H q = some (.tup [.int x.1, .int x.2])) : ∃ items, H o = some (.lst items) ∧ items.length = xs.length ∧ VAt (upd H o (.lst (items.set i (.ref q)))) o (xs.set i x) := by
  obtain ⟨qs, a, b, c⟩ := v
  refine ⟨_, a, by rw [List.length_map]; exact b, qs.set i q, by rw [upd_same, List.map_set], by simp [b], fun k q' x' h1 h2 => ?_⟩
  have nq : ∀ r y, H r = some (.tup y) → (upd H o (.lst ((qs.map V.ref).set i (.ref q)))) r = some (.tup y) := fun r y h => by
    rw [L2.upd_ne (ne_of h a (by intro z; cases z))]; exact h
  rw [List.getElem?_set] at h1 h2
  by_cases e : i = k
  · rw [if_pos e] at h1 h2
    split at h1
    · split at h2
      · cases h1; cases h2; exact nq _ _ hq
      · cases h2
    · cases h1
  · rw [if_neg e] at h1 h2
    exact nq _ _ (c k q' x' h1 h2)
theorem GoodV.set {s : Nat} {xs : List (Int × Int)} {i : Nat} {x : Int × Int} (g : GoodV s xs) (h : 0 ≤ x.1 ∧ 0 < x.2 ∧ Sz s x.1 ∧ Sz s x.2) : GoodV s (xs.set i x) := fun y hy => by
  rcases List.mem_or_eq_of_mem_set hy with h1 | h1
  · exact g y h1
  · rw [h1]; exact h
/-- all are in lowest terms -/
def RedV (xs : List (Int × Int)) : Prop := ∀ x ∈ xs, Int.gcd x.1 x.2 = 1
theorem RedV.set {xs : List (Int × Int)} {i : Nat} {x : Int × Int} (g : RedV xs) (h : Int.gcd x.1 x.2 = 1) : RedV (xs.set i x) := fun y hy => by
  rcases List.mem_or_eq_of_mem_set hy with h1 | h1
  · exact g y h1
  · rw [h1]; exact h
theorem GoodV.mono {s t : Nat} {xs : List (Int × Int)} (g : GoodV s xs) (h : s ≤ t) : GoodV t xs := fun x hx => ⟨(g x hx).1, (g x hx).2.1, (g x hx).2.2.1.mono h, (g x hx).2.2.2.mono h⟩
/-- list(values) -/
theorem list_vals {K : PySem.W.Frag} {H : Hp} {o : Addr} {xs : List (Int × Int)} {Q : VK} (v : VAt H o xs) (q : ∀ l H2, Same H H2 → H l = none → VAt H2 l xs → Q (.ref l) H2) : rListN K [.ref o] H Q := by
  obtain ⟨qs, a, b, c⟩ := v
  exact ⟨o, _, rfl, .inl (.of a), fun l H2 s f e => q l H2 s f ⟨qs, e, b, fun i q x h1 h2 => s _ _ (c i q x h1 h2)⟩⟩
/-! ### rows made anew -/
theorem zrow_rep (k : Nat) (x : Option Int) : (List.replicate k [oV x]).flatten = zrow k (fun _ => x) := by
  rw [List.flatten_replicate_singleton]
  unfold zrow
  rw [List.map_const', List.length_range]
theorem zrow_app (a b : Nat) (f : Nat → Option Int) : zrow a f ++ zrow b (fun j => f (a + j)) = zrow (a + b) f := by
  unfold zrow
  rw [List.range_add, List.map_append, List.map_map]
  rfl
theorem Grow.to {H0 H : Hp} {l : Addr} {as : List Addr} {i n : Nat} {M N : Mx} (g : Grow H0 H l as i n M) (h : ∀ a b, a < i → b < n → M a b = N a b) : Grow H0 H l as i n N :=
  ⟨g.top, g.len, g.nd, g.fr, fun j a hj => by
    have hl := (List.getElem?_eq_some_iff.mp hj).1
    have := g.len
    rw [g.row j a hj, zrow_congr fun b hb => h j b (by omega) hb]⟩
/-- [row for k in range(n)]: fresh rows -/
theorem lc_rowsR {H : Hp} {n c : Nat} {σ : L2.St} {M : Mx} {ta : TA} {te : TE} {Q : VK} (hn : n ≤ 60) (hc : c < σ.length)
    (ha : ∀ Q1 : List V → Hp → Prop, Q1 [.int n] H → ta σ H Q1)
    (ht : ∀ i H1 (Q1 : VK), i < n → (∀ r H2, Same H1 H2 → H1 r = none → H2 r = some (.lst (zrow n (M i))) → Q1 (.ref r) H2) → te ((σ.set c none).set c (some (.int (0 + (i : Int))))) H1 Q1)
    (q : ∀ D as' H', Same H H' → ZAt H' D as' n M → H D = none → (∀ a ∈ as', H a = none) → Q (.ref D) H') :
    tLc (iRng1 ta) (gName c) tYes te [c] σ H Q := by
  refine ha _ ⟨(n : Int), rfl, (rg_ok (by omega)).1, (rg_ok (by omega)).2, fun D hD => ?_⟩
  refine lc_range (lo := 0) (n := n) (fun i H' => ∃ as' : List Addr, Same H H' ∧ H' D = some (.lst (as'.map V.ref)) ∧ as'.length = i ∧ as'.Nodup ∧ (∀ a ∈ as', H a = none ∧ a ≠ D) ∧ ∀ (j : Nat) (a : Addr), as'[j]? = some a → H' a = some (.lst (zrow n (M j))))
    ⟨[], upd_keep hD, upd_same, rfl, List.nodup_nil, (fun a h => by cases h), (fun j a h => by cases h)⟩ ?_ ?_
  · rintro i H' hi ⟨as', sm, eD, hl, nd, hf, hr⟩
    refine ⟨?_, ?_⟩
    · show ((σ.set c none).set c (some (.int (0 + (i : Int))))).set c none = σ.set c none
      rw [List.set_set, List.set_set]
    refine ht i H' _ hi fun l H2 s2 fl e2 => ?_
    have nD : l ≠ D := fun e => by rw [e, eD] at fl; cases fl
    have nl : l ∉ as' := fun hm => by
      obtain ⟨j, hj, e⟩ := List.mem_iff_getElem.mp hm
      have := hr j l (by rw [List.getElem?_eq_getElem hj, e])
      rw [fl] at this; cases this
    refine ⟨as'.map V.ref, s2 _ _ eD, by rw [List.length_map, hl]; exact small1000 (by omega), as' ++ [l], same_updN hD (sm.trans s2), ?_, by simp [hl], ?_, ?_, ?_⟩
    · rw [upd_same, List.map_append]; rfl
    · rw [List.nodup_append]
      refine ⟨nd, by simp, fun a ha b hb e => ?_⟩
      have : b = l := by simpa using hb
      exact nl (by rw [← this, ← e]; exact ha)
    · intro a ha
      rcases List.mem_append.mp ha with h | h
      · exact hf a h
      · have : a = l := by simpa using h
        subst this
        exact ⟨sm.free fl, nD⟩
    · intro j a hj
      by_cases c1 : j < as'.length
      · rw [List.getElem?_append_left c1] at hj
        rw [upd_ne (hf a (List.mem_of_getElem? hj)).2]
        exact s2 _ _ (hr j a hj)
      · have hlt := (List.getElem?_eq_some_iff.mp hj).1
        rw [List.length_append, List.length_singleton] at hlt
        obtain rfl : j = as'.length := by omega
        rw [List.getElem?_append_right (Nat.le_refl _), Nat.sub_self] at hj
        have : l = a := by simpa using hj
        subst this
        rw [upd_ne nD, hl]
        exact e2
  · rintro H' ⟨as', sm, eD, hl, nd, hf, hr⟩
    exact q D as' H' sm ⟨eD, hl, hr, nd⟩ hD fun a ha => (hf a ha).1
/-- a for over a range from a place on -/
def ForR2 (lo : Int) (n : Nat) (g : TG) (tb : TS) (D : Ends) (σ : L2.St) (H : Hp) : Prop := ∃ W : Nat → Nat → L2.St → Hp → Prop, (∃ m, W 0 m σ H) ∧ ∀ i m σ H, W i m σ H →
  ((Itr lo n).stop i H ∧ D.nx σ H) ∨ ((Itr lo n).go i H ∧ ∃ N : L2.St → Hp → Prop, (∀ σ' H', N σ' H' → ∃ m', m' < m ∧ W (i + 1) m' σ' H') ∧ ∀ x H', (Itr lo n).yld i H x H' → g x σ H' fun σ2 H2 => tb { D with nx := N, ct := N, bk := D.nx } σ2 H2)
theorem for_rg2 {ta : TA} {g : TG} {tb : TS} {D : Ends} {σ : L2.St} {H : Hp} (h : ta σ H fun vs H1 => ∃ i j : Int, vs = [.int i, .int j] ∧ (-(2 ^ 62) ≤ i ∧ i < 2 ^ 62 ∧ -(2 ^ 62) ≤ j ∧ j < 2 ^ 62) ∧ ForR2 i (j - i).toNat g tb D σ H1) : tFor (iRng2 ta) g tb D σ H := h
theorem forR2_by {lo : Int} {n : Nat} {g : TG} {tb : TS} {D : Ends} {σ : L2.St} {H : Hp} (Pv : Nat → L2.St → Hp → Prop) (h0 : Pv 0 σ H)
    (hs : ∀ i σ H, i < n → Pv i σ H → g (.int (lo + i)) σ H fun σ2 H2 => tb { D with nx := Pv (i + 1), ct := Pv (i + 1), bk := D.nx } σ2 H2) (hd : ∀ σ H, Pv n σ H → D.nx σ H) : ForR2 lo n g tb D σ H := for_range (lo := lo) (n := n) Pv h0 hs hd
/-- the zone of all stands -/
def evM : Mx := fun i j => if i = 0 ∨ i = j then some 1 else none
def oneM : Mx := fun _ _ => some 1
/-! ### values as data, and the zones of all and of the noughts alone -/
def vdata (xs : List (Int × Int)) : PyData := .list (xs.map fun x => .tuple [.int x.1, .int x.2])
theorem VAt.dp {K : PySem.W.Frag} {H : Hp} {p : Addr} {xs : List (Int × Int)} (v : VAt H p xs) : Dp K H (.ref p) (vdata xs) := by
  obtain ⟨qs, a, b, c⟩ := v
  refine .lst (.of a) (dpall_of (by simp [b]) fun k v d h1 h2 => ?_)
  rw [List.getElem?_map] at h1 h2
  obtain ⟨q, hq, rfl⟩ := Option.map_eq_some_iff.mp h1
  obtain ⟨x, hx, rfl⟩ := Option.map_eq_some_iff.mp h2
  exact .tup (.of (c k q x hq hx)) (.cons (.int _) (.cons (.int _) .nil))
theorem lay_vals (xs : List (Int × Int)) : (vdata xs).canLay0 = true ∧ (vdata xs).depth ≤ 2 := lay_list fun d h => by
  obtain ⟨x, _, rfl⟩ := List.mem_map.mp h
  exact ⟨rfl, Nat.le_refl _⟩
theorem shaped_vals (xs : List (Int × Int)) : SeqAt.shaped (vdata xs) = true := Bool.and_eq_true_iff.mpr ⟨(lay_vals xs).1, decide_eq_true (by have := (lay_vals xs).2; omega)⟩
theorem eqv_vals {xs ys : List (Int × Int)} (h : xs.length = ys.length) : PyData.eqv (vdata xs) (vdata ys) = decide (xs = ys) := by
  have key : ∀ xs ys : List (Int × Int), xs.length = ys.length → PyData.eqvAll (xs.map fun x => .tuple [.int x.1, .int x.2]) (ys.map fun x => .tuple [.int x.1, .int x.2]) = decide (xs = ys) := by
    intro xs
    induction xs with
    | nil =>
      intro ys h
      cases ys with
      | nil => rfl
      | cons y ys => cases h
    | cons x xs ih =>
      intro ys h
      cases ys with
      | nil => cases h
      | cons y ys =>
        obtain ⟨a, b⟩ := x
        obtain ⟨c, d⟩ := y
        have := ih ys (by simpa using h)
        simp only [List.map_cons]
        rw [PyData.eqvAll, this]
        simp [PyData.eqv, PyData.eqvAll, and_assoc]
        rw [Bool.eq_iff_iff]
        simp [and_assoc]
  rw [show PyData.eqv (vdata xs) (vdata ys) = PyData.eqvAll (xs.map fun x => .tuple [.int x.1, .int x.2]) (ys.map fun x => .tuple [.int x.1, .int x.2]) by unfold vdata; rw [PyData.eqv]]
  exact key xs ys h
theorem lies_ev {n : Nat} {v : Nat → Int × Int} (h0 : Vals0 n v) : Lies n evM v := fun i j hi hj => by
  unfold evM
  split
  · rename_i c
    rw [lets_iff]
    rcases c with rfl | rfl
    · simp only [dif, h0.zero]
      have p := h0.nn j hj
      have : (1 : Int) / 2 = 0 := rfl
      rw [this]
      omega
    · right
      simp only [dif]
      exact ⟨by rw [show (1 : Int) / 2 = 0 from rfl]; omega, by decide⟩
  · rfl
theorem lies_one {n : Nat} {v : Nat → Int × Int} (h0 : Vals0 n v) : Lies n oneM v ↔ ∀ i, i < n → (v i).1 = 0 := by
  constructor
  · intro h i hi
    have h1 := h i 0 hi (by omega)
    have h1 : letsO (some 1) _ _ = true := h1
    rw [lets_iff] at h1
    simp only [dif, h0.zero] at h1
    have p := h0.nn i hi
    have : (1 : Int) / 2 = 0 := rfl
    rw [this] at h1
    omega
  · intro h i j hi hj
    show letsO (some 1) _ _ = true
    rw [lets_iff]
    right
    simp only [dif, h i hi, h j hj]
    exact ⟨by rw [show (1 : Int) / 2 = 0 from rfl]; omega, by decide⟩
theorem noughts {s : Nat} {xs : List (Int × Int)} (g : GoodV s xs) (r : RedV xs) : (∀ i, i < xs.length + 1 → (plc xs i).1 = 0) ↔ xs = List.replicate xs.length (0, 1) := by
  constructor
  · intro h
    rw [List.eq_replicate_iff]
    refine ⟨rfl, fun b hb => ?_⟩
    obtain ⟨i, hi, e⟩ := List.mem_iff_getElem.mp hb
    have h1 := h (i + 1) (by omega)
    have h2 := plc_get (xs := xs) (i := i + 1) (by omega)
    rw [List.getElem?_cons_succ, List.getElem?_eq_getElem hi, e] at h2
    have h2 := Option.some.inj h2
    rw [← h2] at h1
    have h3 := r b hb
    have h4 := (g b hb).2.1
    obtain ⟨t, u⟩ := b
    have h1 : t = 0 := h1
    subst h1
    have h3 : Int.gcd 0 u = 1 := h3
    rw [Int.gcd_zero_left] at h3
    have h4 : 0 < u := h4
    rw [show u = 1 by omega]
  · intro h i hi
    have h2 := List.mem_of_getElem? (plc_get (xs := xs) hi)
    rcases List.mem_cons.mp h2 with e | e
    · rw [e]
    · rw [List.eq_of_mem_replicate (h.subst (motive := fun l => plc xs i ∈ l) e)]
theorem lies_noughts {s n : Nat} {xs : List (Int × Int)} (g : GoodV s xs) (hs : 1 ≤ s) (r : RedV xs) (hn : xs.length + 1 = n) : Lies n oneM (plc xs) ↔ xs = List.replicate xs.length (0, 1) := by
  subst hn
  exact (lies_one (plc_vals g hs _)).trans (noughts g r)
/-- a zone and values, in one list -/
def pdata (n : Nat) (M : Mx) (xs : List (Int × Int)) : PyData := .list [zdata n M, vdata xs]
theorem dp_pair {K : PySem.W.Frag} {H : Hp} {p a b : Addr} {n : Nat} {M : Mx} {xs : List (Int × Int)} {as : List Addr} (h : H p = some (.lst [.ref a, .ref b])) (z : ZAt H a as n M) (v : VAt H b xs) : Dp K H (.ref p) (pdata n M xs) := .lst (.of h) (.cons z.dp (.cons v.dp .nil))
theorem lay_pair (n : Nat) (M : Mx) (xs : List (Int × Int)) : (pdata n M xs).canLay0 = true ∧ (pdata n M xs).depth ≤ 3 := lay_list fun d h => by
  rcases List.mem_cons.mp h with h | h
  · rw [h]; exact lay_zone _ _
  · rw [List.mem_singleton.mp h]; exact lay_vals _
theorem shaped_pair (n : Nat) (M : Mx) (xs : List (Int × Int)) : SeqAt.shaped (pdata n M xs) = true := Bool.and_eq_true_iff.mpr ⟨(lay_pair n M xs).1, decide_eq_true (by have := (lay_pair n M xs).2; omega)⟩
section
variable {P : Program} {w : World} {K : PySem.W.Frag} {mg : Str → Option Value} {base : Heap}
def spCell_at (K : PySem.W.Frag) : Sp := fun vs H Q _ => ∃ (a : Addr) (ns : List Int) (k : Int), vs = [.ref a, .int k] ∧ SqL K H a (ns.map V.int) ∧ 0 ≤ k ∧ Q (.int (ns.getD k.toNat 0)) H
theorem ok_l_cell_at (T : Top K mg) : FnOk P w K mg base CX0 1 T.f_l_cell_at T.d_l_cell_at ["_law_script", "_law_k"] (spCell_at K) := by
  refine T.F_l_cell_at.ok sc_l_cell_at (fun vs H Q E h => ?_) (fun cdv A outer s H vs Q E hr h => ?_)
  · obtain ⟨a, ns, k, rfl, _⟩ := h; rfl
  · obtain ⟨a, ns, k, rfl, hS, hk, q⟩ := h
    refine ⟨_, (pss_cons (ps_if (pt_cmpR op_lt (pv 1) (pe_callB call_len_seq (by rfl) T.m_len (by decide +kernel) (pa_cons (pv 0) pa_nil)) (nomark _)) (pss_one (ps_ret (pe_ix (ix_listA (K := K) rfl) (pv 0) (pv 1) (fun _ _ => rfl)))) pss_nil)
      (pss_one (ps_ret pe_int))), ?_⟩
    refine seq_step ?_
    walk_at "rd"
    refine ⟨_, .inl hS, ite_d (fun c => ?_) (fun c => ?_)⟩
    · rw [List.length_map] at c
      have hl : k.toNat < ns.length := by omega
      refine ⟨a, _, k, .int (ns[k.toNat]), rfl, rfl, hS, at_of (j := k.toNat) (by omega) (by rw [List.getElem?_map, List.getElem?_eq_getElem hl]; rfl), ?_⟩
      rw [List.getD_eq_getElem?_getD, List.getElem?_eq_getElem hl] at q
      exact q
    · rw [List.length_map] at c
      rw [List.getD_eq_getElem?_getD, List.getElem?_eq_none (by omega)] at q
      exact q
def spNumber_of : Sp := fun vs H Q _ => ∃ b : Int, vs = [.int b] ∧ Q (.int (b / 2)) H
theorem ok_number_of (T : Top K mg) : FnOk P w K mg base CX0 1 T.f_number_of T.d_number_of ["bound"] spNumber_of := by
  refine T.F_number_of.ok sc_number_of (fun vs H Q E h => ?_) (fun cdv A outer s H vs Q E hr h => ?_)
  · obtain ⟨b, rfl, _⟩ := h; rfl
  · obtain ⟨b, rfl, q⟩ := h
    refine ⟨_, (pss_one (ps_ret (pe_op op_shr (pv 0) pe_int))), ?_⟩
    walk_at "rd"
    exact q
def spIs_open : Sp := fun vs H Q _ => ∃ b : Int, vs = [.int b] ∧ Q (.bl (decide (b % 2 = 0))) H
theorem ok_is_open (T : Top K mg) : FnOk P w K mg base CX0 1 T.f_is_open T.d_is_open ["bound"] spIs_open := by
  refine T.F_is_open.ok sc_is_open (fun vs H Q E h => ?_) (fun cdv A outer s H vs Q E hr h => ?_)
  · obtain ⟨b, rfl, _⟩ := h; rfl
  · obtain ⟨b, rfl, q⟩ := h
    refine ⟨_, (pss_one (ps_ret (pe_cmpR op_eq (pe_op op_and (pv 0) pe_int) pe_int (nomark _)))), ?_⟩
    walk_at "rd"
    rw [bitAnd_m1]; exact q
def spLets (K : PySem.W.Frag) : Sp := fun vs H Q _ => ∃ (x : Option Int) (t u : Int) (p : Addr), vs = [oV x, .ref p] ∧ H p = some (.tup [.int t, .int u]) ∧ (∀ b, x = some b → Sz 10000 (b / 2)) ∧ Sz 10000 u ∧ Q (.bl (letsO x t u)) H
theorem ok_lets (T : Top K mg) : FnOk P w K mg base CX0 2 T.f_lets T.d_lets ["bound", "value"] (spLets K) := by
  refine T.F_lets.ok sc_lets (fun vs H Q E h => ?_) (fun cdv A outer s H vs Q E hr h => ?_)
  · obtain ⟨x, t, u, p, rfl, _⟩ := h; rfl
  · obtain ⟨x, t, u, p, rfl, hp, h1, h2, q⟩ := h
    refine ⟨_, (pss_cons (ps_if (pt_cmpR op_isN (pv 0) pe_non (nomark _)) (pss_one (ps_ret pe_bl)) pss_nil)
      (pss_cons (ps_asg (pv 1) (pg_tup (by rfl) (pgs_cons (pg_name (i := 2) sc_lets.nd rfl (.inl rfl)) (pgs_cons (pg_name (i := 3) sc_lets.nd rfl (.inl rfl)) pgs_nil))))
      (pss_cons (ps_set (i := 4) sc_lets.nd rfl (.inl rfl) (pe_op op_mulW (pe_call (ok_number_of T) (hr.mono (by decide)) rfl T.g_number_of T.F_number_of.kp T.b_number_of .nil pass0 (pa_cons (pv 0) pa_nil)) (pv 3)))
      (pss_one (ps_ret (pe_or (pe_cmpR op_lt (pv 2) (pv 4) (nomark _)) (pe_one (pe_and (pe_cmpR op_eq (pv 2) (pv 4) (nomark _)) (pe_one (pe_not (pe_call (ok_is_open T) (hr.mono (by decide)) rfl T.g_is_open T.F_is_open.kp T.b_is_open .nil pass0 (pa_cons (pv 0) pa_nil)))))))))))), ?_⟩
    refine seq_step ?_
    cases x with
    | none =>
      simp only [oV_none]
      walk_at "rd"
      exact q
    | some b =>
    simp only [oV_some]
    have h1 := h1 b rfl
    walk_at "rd"
    refine seq_step ?_
    walk_at "rd"
    refine gTup_of (sqt hp) rfl ?_
    walk_at "rd"
    refine seq_step ?_
    walk_at "rd"
    simp only [spNumber_of, spIs_open]
    walk_at "rd"
    have q : Q (V.bl (decide (t < b / 2 * u ∨ t = b / 2 * u ∧ b % 2 = 1))) H := q
    refine ⟨h1.mulW h2 (by omega), ite_d (fun c => ?_) (fun c => ite_d (fun c2 => ?_) (fun c2 => ?_))⟩
    · rw [decide_eq_true (Or.inl c)] at q; exact q
    · rw [show (!decide (b % 2 = 0)) = decide (t < b / 2 * u ∨ (t = b / 2 * u ∧ b % 2 = 1)) by
        rw [← decide_not]; exact decide_eq_decide.mpr ⟨fun z => .inr ⟨c2, by omega⟩, fun z => by rcases z with z | z <;> omega⟩]
      exact q
    · rw [decide_eq_false (by rintro (z | z); exact c z; exact c2 z.1)] at q; exact q
def spDiv_divisor (K : PySem.W.Frag) : Sp := fun vs H Q _ => ∃ a b : Int, vs = [.int a, .int b] ∧ Q (.int (Int.gcd a b)) H
theorem ok_divisor (T : Top K mg) : FnOk P w K mg base CX0 1 T.f_divisor T.d_divisor ["one", "other"] (spDiv_divisor K) := by
  refine T.F_divisor.ok sc_divisor (fun vs H Q E h => ?_) (fun cdv A outer s H vs Q E hr h => ?_)
  · obtain ⟨a, b, rfl, _⟩ := h; rfl
  · obtain ⟨a, b, rfl, q⟩ := h
    refine ⟨_, (pss_cons (ps_while PassesOwn.never (pt_cmpR op_ne (pv 1) pe_int (nomark _)) (pss_one (ps_par (i := 0) (j := 1) (by rfl) sc_divisor.nd rfl rfl (by decide) rfl rfl (pa_cons (pv 1) (pa_cons (pe_op op_modN (pv 0) (pv 1)) pa_nil)) (by rfl))))
      (pss_one (ps_ret (pe_callB call_abs (by rfl) T.m_abs (by decide +kernel) (pa_cons (pv 0) pa_nil))))), ?_⟩
    refine seq_step ?_
    refine while_by (fun σ H' => H' = H ∧ ∃ x y : Int, σ = [some (.int x), some (.int y)] ∧ Int.gcd x y = Int.gcd a b) (fun σ _ => match σ with | [_, some (.int y)] => y.natAbs | _ => 0) ⟨rfl, a, b, rfl, rfl⟩ ?_ ?_
    · rintro σ H' ⟨rfl, x, y, rfl, hg⟩
      walk_at "rd"
      by_cases c : y = 0
      · subst c
        rw [decide_eq_true rfl, Bool.not_true, if_neg Bool.false_ne_true]
        have e : (if x < 0 then -x else x) = ((Int.gcd a b : Nat) : Int) := by
          rw [← hg, Int.gcd_zero_right]; split <;> omega
        rw [e]; exact q
      · rw [decide_eq_false c, Bool.not_false, if_pos rfl]
        exact ⟨c, by rw [fmod_gcd, hg], fmod_lt x y c⟩
    · rintro σ H Q Q' m ⟨v, hv, hs, k, hk, q⟩
      exact ⟨v, hv, hs, k, hk, m _ _ q⟩
theorem ok_is_whole (T : Top K mg) : FnOk P w K mg base CX0 1 T.f_is_whole T.d_is_whole ["thing"] (spWhole K) := by
  refine T.F_is_whole.ok sc_is_whole (fun vs H Q E h => ?_) (fun cdv A outer s H vs Q E hr h => ?_)
  · obtain ⟨x, t, rfl, _⟩ := h; rfl
  · obtain ⟨x, t, rfl, hx, ht, q⟩ := h
    refine ⟨_, (pss_one (ps_ret (pe_and (pe_callB (call_isiA (K := K) rfl) (by rfl) T.m_isinstance (by decide +kernel) (pa_cons (pv 0) (pa_cons (pe_bltn (v := .ty "int") (u := .type "int") (by rfl) T.m_int (by decide +kernel) rfl) pa_nil))) (pe_one (pe_not (pe_callB (call_isiA (K := K) rfl) (by rfl) T.m_isinstance (by decide +kernel) (pa_cons (pv 0) (pa_cons (pe_bltn (v := .ty "bool") (u := .type "bool") (by rfl) T.m_bool (by decide +kernel) rfl) pa_nil)))))))), ?_⟩
    walk_at "rd"
    have k1 : ∃ r, kitB t "int" = some r ∧ ∃ r2, kitB t "bool" = some r2 ∧ (decide (t = "int")) = (r && !r2) := by
      simp only [kinds, List.mem_cons, List.not_mem_nil, or_false] at ht
      rcases ht with rfl | rfl | rfl | rfl | rfl | rfl | rfl
      · exact ⟨true, by decide +kernel, false, by decide +kernel, by decide +kernel⟩
      · exact ⟨true, by decide +kernel, true, by decide +kernel, by decide +kernel⟩
      · exact ⟨false, by decide +kernel, false, by decide +kernel, by decide +kernel⟩
      · exact ⟨false, by decide +kernel, false, by decide +kernel, by decide +kernel⟩
      · exact ⟨false, by decide +kernel, false, by decide +kernel, by decide +kernel⟩
      · exact ⟨false, by decide +kernel, false, by decide +kernel, by decide +kernel⟩
      · exact ⟨false, by decide +kernel, false, by decide +kernel, by decide +kernel⟩
    obtain ⟨r, e1, r2, e2, e3⟩ := k1
    refine isi hx e1 ?_
    rw [e3] at q
    walk_at "rd"
    cases r with
    | false => exact q
    | true =>
      walk_at "rd"
      refine isi hx e2 ?_
      walk_at "rd"
      exact q
def spFraction (C : Addr) (K : PySem.W.Frag) : Sp := fun vs H Q E => (∃ a b : Int, vs = [.int a, .int b] ∧ b ≠ 0 ∧ Sz 8000 b ∧ RedT a b H Q) ∨
  (∃ (x y : V) (t u : String), vs = [x, y] ∧ TyX K H x (.type t) ∧ TyX K H y (.type u) ∧ t ∈ kinds ∧ u ∈ kinds ∧ (t ≠ "int" ∨ u ≠ "int" ∨ y = .int 0) ∧ E (.ref C) none H)
theorem ok_fraction (T : Top K mg) : FnOk P w K mg base (L2.CX P w) 2 T.f_fraction T.d_fraction ["top", "bottom"] (spFraction T.C_NoNumber K) := by
  refine T.F_fraction.ok sc_fraction (fun vs H Q E h => ?_) (fun cdv A outer s H vs Q E hr h => ?_)
  · rcases h with ⟨a, b, rfl, _⟩ | ⟨a, b, _, _, rfl, _⟩ <;> rfl
  · refine ⟨_, (pss_cons (ps_if (PW.pt (pw_or (pt_not (pt_val (pe_call (ok_is_whole T) (hr.mono (by decide)) rfl T.g_is_whole T.F_is_whole.kp T.b_is_whole .nil pass0 (pa_cons (pv 0) pa_nil)))) (pw_or (pt_not (pt_val (pe_call (ok_is_whole T) (hr.mono (by decide)) rfl T.g_is_whole T.F_is_whole.kp T.b_is_whole .nil pass0 (pa_cons (pv 1) pa_nil)))) (pw_or1 (pt_cmpR op_eq (pv 1) pe_int (nomark _)))))) (pss_one (ps_raise rfl (takes_of rfl rfl rfl rfl) (pmk_own PySem.F.excBase_ValueError T.x_NoNumber T.g_NoNumber T.k_NoNumber (raises_own T.b_NoNumber T.t_NoNumber) rfl))) pss_nil)
      (pss_cons (ps_set (i := 2) sc_fraction.nd rfl (.inl rfl) (pe_call (ok_divisor T) (hr.mono (by decide)) rfl T.g_divisor T.F_divisor.kp T.b_divisor .nil pass0 (pa_cons (pv 0) (pa_cons (pv 1) pa_nil))))
      (pss_cons (ps_if (pt_cmpR op_lt (pv 1) pe_int (nomark _)) (pss_one (ps_set (i := 2) sc_fraction.nd rfl (.inl rfl) (pe_op op_sub pe_int (pv 2)))) pss_nil)
      (pss_one (ps_ret (pe_tupN (pa_cons (pe_op op_fdivZ (pv 0) (pv 2)) (pa_cons (pe_op op_fdivZ (pv 1) (pv 2)) pa_nil)))))))), ?_⟩
    rcases h with ⟨a, b, rfl, hb, hz, q⟩ | ⟨x, y, t, u, rfl, hx, hy, ht, hu, hbad, e⟩
    · refine seq_step ?_
      walk_at "rd"
      refine ⟨_, "int", rfl, .base (.int _), by decide, ?_⟩
      walk_at "rd"
      refine ⟨_, "int", rfl, .base (.int _), by decide, ?_⟩
      walk_at "rd"
      rw [decide_eq_false hb, if_neg Bool.false_ne_true]
      refine seq_step ?_
      walk_at "rd"
      refine ⟨a, b, rfl, ?_⟩
      walk_at "rd"
      have g := gcd_pos_right (a := a) hb
      have gs := gcd_le_size (a := a) hb
      refine seq_step ?_
      walk_at "rd"
      refine ite_d (fun c => ?_) (fun c => ?_)
      · have d : DivOk (0 - ((Int.gcd a b : Nat) : Int)) := .of (by omega) (Sz.le (j := b) (by omega) hz) (by omega)
        exact ⟨d, d, fun p H2 s2 _ e2 => q _ _ p H2 (red_neg c) s2 e2⟩
      · have d : DivOk ((Int.gcd a b : Nat) : Int) := .of (by omega) (Sz.le (by omega) hz) (by omega)
        exact ⟨d, d, fun p H2 s2 _ e2 => q _ _ p H2 ((low_of hb).red (by omega)) s2 e2⟩
    · refine seq_step ?_
      walk_at "rd"
      refine ⟨_, t, rfl, hx, ht, ?_⟩
      walk_at "rd"
      by_cases c : t = "int"
      · rw [decide_eq_true c]
        walk_at "rd"
        refine ⟨_, u, rfl, hy, hu, ?_⟩
        walk_at "rd"
        by_cases c2 : u = "int"
        · rw [decide_eq_true c2]
          walk_at "rd"
          obtain rfl : y = .int 0 := by
            rcases hbad with z | z | z
            · exact absurd c z
            · exact absurd c2 z
            · exact z
          walk_at "rd"
          exact e
        · rw [decide_eq_false c2]
          walk_at "rd"
          exact e
      · rw [decide_eq_false c]
        walk_at "rd"
        exact e
theorem frac_ok {C : Addr} {K : PySem.W.Frag} {a b : Int} {H : Hp} {Q : VK} {E : XK} (hb : b ≠ 0) (hz : Sz 8000 b) (q : RedT a b H Q) : spFraction C K [.int a, .int b] H Q E := .inl ⟨a, b, rfl, hb, hz, q⟩
def spMinus (K : PySem.W.Frag) : Sp := fun vs H Q _ => ∃ (a b c d : Int) (p1 p2 : Addr), vs = [.ref p1, .ref p2] ∧ H p1 = some (.tup [.int a, .int b]) ∧ H p2 = some (.tup [.int c, .int d]) ∧ 0 < b ∧ 0 < d ∧ Sz 3900 a ∧ Sz 3900 b ∧ Sz 3900 c ∧ Sz 3900 d ∧ RedT (a * d - c * b) (b * d) H Q
theorem ok_minus (T : Top K mg) : FnOk P w K mg base CX0 3 T.f_minus T.d_minus ["one", "other"] (spMinus K) := by
  refine T.F_minus.ok sc_minus (fun vs H Q E h => ?_) (fun cdv A outer s H vs Q E hr h => ?_)
  · obtain ⟨a, b, c, d, p1, p2, rfl, _⟩ := h; rfl
  · obtain ⟨a, b, c, d, p1, p2, rfl, h1, h2, hb, hd, sa, sb, sc, sd, q⟩ := h
    refine ⟨_, (pss_one (ps_ret (pe_call (ok_fraction T) (hr.mono (by decide)) rfl T.g_fraction T.F_fraction.kp T.b_fraction .nil passL (pa_cons (pe_op op_sub (pe_op op_mulW (pe_ix (ix_tupA (K := K) rfl) (pv 0) pe_int (fun _ _ => rfl)) (pe_ix (ix_tupA (K := K) rfl) (pv 1) pe_int (fun _ _ => rfl))) (pe_op op_mulW (pe_ix (ix_tupA (K := K) rfl) (pv 1) pe_int (fun _ _ => rfl)) (pe_ix (ix_tupA (K := K) rfl) (pv 0) pe_int (fun _ _ => rfl)))) (pa_cons (pe_op op_mulW (pe_ix (ix_tupA (K := K) rfl) (pv 0) pe_int (fun _ _ => rfl)) (pe_ix (ix_tupA (K := K) rfl) (pv 1) pe_int (fun _ _ => rfl))) pa_nil))))), ?_⟩
    walk_at "ix"
    walk_at "ix"
    walk_at "rd"
    refine ⟨sa.mulW sd (by omega), ?_⟩
    walk_at "ix"
    walk_at "ix"
    walk_at "rd"
    refine ⟨sc.mulW sb (by omega), ?_⟩
    walk_at "ix"
    walk_at "ix"
    walk_at "rd"
    exact ⟨sb.mulW sd (by omega), frac_ok (Int.ne_of_gt (Int.mul_pos hb hd)) (sb.mul sd (by omega)) q⟩
def spEvery (K : PySem.W.Frag) : Sp := fun vs H Q _ => ∃ m : Nat, vs = [.int m] ∧ m ≤ 8 ∧ ∀ (p : Addr) (as : List Addr) (H' : Hp), Same H H' → ZAt H' p as (m + 1) evM → H p = none → (∀ a ∈ as, H a = none) → Q (.ref p) H'
def EvInv (H : Hp) (m : Nat) (l : Addr) (i : Nat) (σ' : L2.St) (H' : Hp) : Prop := ∃ (as : List Addr) (v2 v3 : Option V), σ' = [some (.int m), some (.ref l), v2, v3] ∧ Same H H' ∧ Grow H H' l as (i + 1) (m + 1) evM
theorem ok_everywhere (T : Top K mg) : FnOk P w K mg base CX0 1 T.f_everywhere T.d_everywhere ["many"] (spEvery K) := by
  refine T.F_everywhere.ok sc_everywhere (fun vs H Q E h => ?_) (fun cdv A outer s H vs Q E hr h => ?_)
  · obtain ⟨m, rfl, _⟩ := h; rfl
  · obtain ⟨m, rfl, hm, q⟩ := h
    refine ⟨_, (pss_cons (ps_set (i := 1) sc_everywhere.nd rfl (.inl rfl) (pe_lstN (pa_cons (pe_op op_repN (pe_lstN (pa_cons (pe_glob (v := .int 1) rfl T.g_NOUGHT ⟨_, rfl⟩) pa_nil)) (pe_op op_add (pv 0) pe_int)) pa_nil)))
      (pss_cons (ps_for PassesOwn.never rfl (pi_range2 (by rfl) T.m_range (pa_cons pe_int (pa_cons (pe_op op_add (pv 0) pe_int) pa_nil))) (pg_name (i := 2) sc_everywhere.nd rfl (.inl rfl)) (pss_cons (ps_set (i := 3) sc_everywhere.nd rfl (.inl rfl) (pe_op op_repN (pe_lstN (pa_cons pe_non pa_nil)) (pe_op op_add (pv 0) pe_int)))
      (pss_cons (ps_asg (pe_glob (v := .int 1) rfl T.g_NOUGHT ⟨_, rfl⟩) (pg_sub (pv 3) (pv 2) set_list))
      (pss_one (ps_expr (pe_bm PySem.F.plainAttrs_list PySem.F.slot_list_append PySem.F.type_list_append mt_append (pv 1) (pa_cons (pv 3) pa_nil)))))))
      (pss_one (ps_ret (pv 1))))), ?_⟩
    refine seq_step ?_
    walk_at "rd"
    intro p1 H1 s1 _ e1
    refine ⟨_, e1, by omega, by omega, small1000' (by simp; omega), fun r0 H2 s2 f2 e2 => ?_⟩
    intro l H3 s3 fl e3
    refine seq_step ?_
    refine for_rg2 ?_
    walk_at "rd"
    refine ⟨by omega, by omega, ?_⟩
    rw [show ((m : Int) + 1 - 1).toNat = m by omega]
    have z0 : (List.replicate ((m : Int) + 1).toNat [V.int 1]).flatten = zrow (m + 1) (evM 0) := by
      rw [show ((m : Int) + 1).toNat = m + 1 by omega]
      exact (zrow_rep (m + 1) (some 1)).trans (zrow_congr fun j _ => by simp [evM])
    rw [z0] at e2
    have s13 : Same H H2 := s1.trans s2
    have nl0 : r0 ≠ l := ne_of_none e2 fl
    refine forR2_by (EvInv H m l) ⟨[r0], _, _, rfl, s13.trans s3, e3, rfl, by simp, (fun a h => by
        have : a = r0 := by simpa using h
        rw [this]; exact ⟨s1.free f2, nl0⟩), fun j a h => by
        cases j with
        | zero => cases h; exact s3 _ _ e2
        | succ j => cases h⟩ ?_ ?_
    · rintro i σ' H4 hi ⟨as, v2, v3, rfl, s4, g⟩
      walk_at "rd"
      refine seq_step ?_
      walk_at "rd"
      intro p5 H5 s5 _ e5
      refine ⟨_, e5, by omega, by omega, small1000' (by simp; omega), fun r H6 s6 fr e6 => ?_⟩
      walk_at "rd"
      have s46 := s5.trans s6
      have er : H6 r = some (.lst (zrow (m + 1) (fun _ => none))) := by
        rw [e6, show ((m : Int) + 1).toNat = m + 1 by omega]
        exact congrArg (fun x => some (HO.lst x)) (zrow_rep (m + 1) none)
      refine seq_step ?_
      walk_at "rd"
      rw [show (1 : Int) + (i : Int) = ((i + 1 : Nat) : Int) by omega]
      refine set_at (K := K) (x := some 1) er (by omega) ?_
      walk_at "rd"
      have g6 : Grow H H6 l as (i + 1) (m + 1) evM := g.keep fun b o e _ => s46 _ _ e
      have eset : (zrow (m + 1) fun _ => none).set (i + 1) (oV (some 1)) = zrow (m + 1) (evM (i + 1)) := by
        exact (zrow_set (i := i + 1) (j := i + 1) (fun _ _ => none : Mx) (some 1)).trans (zrow_congr fun j _ => by simp [up2, evM, eq_comm])
      rw [eset]
      have nl : r ≠ l := fun e => by rw [e, s5 _ _ g.top] at fr; cases fr
      have nr : r ∉ as := fun hm => by
        obtain ⟨j, hj, e⟩ := List.mem_iff_getElem.mp hm
        have := s5 _ _ (g.row j r (by rw [List.getElem?_eq_getElem hj, e]))
        rw [fr] at this; cases this
      have fr0 : H r = none := (s4.trans s5).free fr
      have g7 : Grow H (upd H6 r (.lst (zrow (m + 1) (evM (i + 1))))) l as (i + 1) (m + 1) evM := g6.keep fun b o e hb => by
        rw [upd_ne (fun z => by rcases hb with h | h; exact nl (z ▸ h); exact nr (z ▸ h))]; exact e
      have s7 : Same H (upd H6 r (.lst (zrow (m + 1) (evM (i + 1))))) := same_updN fr0 (s4.trans s46)
      have e7 : upd H6 r (.lst (zrow (m + 1) (evM (i + 1)))) r = some (.lst (zrow (m + 1) (evM (i + 1)))) := upd_same
      generalize upd H6 r (.lst (zrow (m + 1) (evM (i + 1)))) = H7 at *
      refine ⟨.ref l, rfl, .inl ⟨rfl, _, .of g7.top⟩, ?_⟩
      walk_at "rd"
      refine app_at g7.top (by rw [List.length_map, g7.len]; omega) ?_
      refine ⟨as ++ [r], _, _, rfl, same_updN (s13.free fl) s7, (g7.snoc e7 fr0 nr nl).to fun a b ha hb => ?_⟩
      show (if a = i + 1 then evM (i + 1) b else evM a b) = evM a b
      split
      · rename_i e; rw [e]
      · rfl
    · rintro σ' H4 ⟨as, v2, v3, rfl, s4, g⟩
      walk_at "rd"
      exact q l as H4 s4 g.done (s13.free fl) fun a h => (g.fr a h).1
def spNought (K : PySem.W.Frag) : Sp := fun vs H Q _ => ∃ m : Nat, vs = [.int m] ∧ m ≤ 8 ∧ ∀ (p : Addr) (as : List Addr) (H' : Hp), Same H H' → ZAt H' p as (m + 1) oneM → H p = none → (∀ a ∈ as, H a = none) → Q (.ref p) H'
theorem ok_nought (T : Top K mg) : FnOk P w K mg base CX0 1 T.f_nought T.d_nought ["many"] (spNought K) := by
  refine T.F_nought.ok sc_nought (fun vs H Q E h => ?_) (fun cdv A outer s H vs Q E hr h => ?_)
  · obtain ⟨m, rfl, _⟩ := h; rfl
  · obtain ⟨m, rfl, hm, q⟩ := h
    refine ⟨_, (pss_one (ps_ret (lc_vs (vs := [1]) (pe_lc (own := [("i", 1)]) (g := gName 1) (tt := tYes) rfl sc_nought.nd (pi_range1 (by rfl) T.m_range (pa_cons (pe_op op_add (pv 0) pe_int) pa_nil)) (blkOk_by (own := [("i", 1)]) (N := ["many", "i"]) (sc := defScope s_nought) (by decide +kernel)) (fun _ _ _ _ _ => (pg_name (i := 1) sc_nought.nd rfl (.inl rfl))) (fun _ _ _ _ _ => pts_nil) (fun _ _ _ _ _ => (pe_op op_repN (pe_lstN (pa_cons (pe_glob (v := .int 1) rfl T.g_NOUGHT ⟨_, rfl⟩) pa_nil)) (pe_op op_add (pv 0) pe_int)))) rfl))), ?_⟩
    walk_at "rd"
    refine lc_rowsR (n := m + 1) (M := oneM) (by omega) (by simp) (fun Q1 h => ?_) (fun i H1 Q1 hi h => ?_) q
    · walk_at "rd"
      exact h
    · walk_at "rd"
      intro p5 H5 s5 _ e5
      refine ⟨_, e5, by omega, by omega, small1000' (by simp; omega), fun r H6 s6 fr e6 => ?_⟩
      refine h r H6 (s5.trans s6) (s5.free fr) ?_
      rw [e6, show ((m : Int) + 1).toNat = m + 1 by omega]
      exact congrArg (fun x => some (HO.lst x)) (zrow_rep (m + 1) (some 1))
def spStream (K : PySem.W.Frag) : Sp := fun vs H Q _ => ∃ (c : Int) (m : Nat), vs = [.int c, .int m] ∧ m ≤ 60 ∧ ∀ (p : Addr) (H' : Hp) (xs : List Int), Same H H' → H p = none → H' p = some (.lst (xs.map V.int)) → xs.length = m → (∀ x ∈ xs, 0 ≤ x ∧ Sz 150 x) → Q (.ref p) H'
theorem ok_l_stream (T : Top K mg) : FnOk P w K mg base CX0 1 T.f_l_stream T.d_l_stream ["_law_cell", "_law_many"] (spStream K) := by
  refine T.F_l_stream.ok sc_l_stream (fun vs H Q E h => ?_) (fun cdv A outer s H vs Q E hr h => ?_)
  · obtain ⟨c, m, rfl, _⟩ := h; rfl
  · obtain ⟨c, m, rfl, hm, q⟩ := h
    refine ⟨_, (pss_cons (ps_set (i := 2) sc_l_stream.nd rfl (.inl rfl) (pe_lstN pa_nil))
      (pss_cons (ps_if (pt_cmpR op_ge (pv 0) (pe_op op_pow pe_int pe_int) (nomark _)) (pss_cons (ps_set (i := 3) sc_l_stream.nd rfl (.inl rfl) (pe_op op_sub (pv 0) (pe_op op_pow pe_int pe_int)))
      (pss_cons (ps_for PassesOwn.never rfl (pi_range1 (by rfl) T.m_range (pa_cons (pv 1) pa_nil)) (pg_name (i := 4) sc_l_stream.nd rfl (.inl rfl)) (pss_cons (ps_expr (pe_bm PySem.F.plainAttrs_list PySem.F.slot_list_append PySem.F.type_list_append mt_append (pv 2) (pa_cons (pe_op op_modN (pv 3) (pe_op op_pow pe_int pe_int)) pa_nil)))
      (pss_one (ps_set (i := 3) sc_l_stream.nd rfl (.inl rfl) (pe_op op_fdivZ (pv 3) (pe_op op_pow pe_int pe_int))))))
      (pss_one (ps_ret (pv 2))))) pss_nil)
      (pss_cons (ps_set (i := 5) sc_l_stream.nd rfl (.inl rfl) (pe_op op_add (pe_op op_modN (pv 0) (pe_op op_add (pe_op op_pow pe_int pe_int) pe_int)) pe_int))
      (pss_cons (ps_for PassesOwn.never rfl (pi_range1 (by rfl) T.m_range (pa_cons (pe_op op_add (pv 1) pe_int) pa_nil)) (pg_name (i := 4) sc_l_stream.nd rfl (.inl rfl)) (pss_cons (ps_set (i := 5) sc_l_stream.nd rfl (.inl rfl) (pe_op op_modN (pe_op op_add (pe_op op_add (pe_op op_mulW (pv 5) (pv 5)) (pe_op op_mulW pe_int (pv 5))) (pv 4)) (pe_op op_add (pe_op op_pow pe_int pe_int) pe_int)))
      (pss_one (ps_expr (pe_bm PySem.F.plainAttrs_list PySem.F.slot_list_append PySem.F.type_list_append mt_append (pv 2) (pa_cons (pv 5) pa_nil))))))
      (pss_one (ps_ret (pe_slice (sl_listA (K := K) rfl) (pv 2) (po_some pe_int) po_none))))))), ?_⟩
    refine seq_step ?_
    walk_at "rd"
    intro l H1 s1 fl e1
    refine seq_step ?_
    walk_at "rd"
    refine ite_d (fun _ => ?_) (fun _ => ?_)
    · refine seq_step ?_
      walk_at "rd"
      refine seq_step ?_
      refine for_rg ?_
      walk_at "rd"
      refine ⟨(rg_ok (by omega)).1, (rg_ok (by omega)).2, ?_⟩
      rw [Int.toNat_natCast]
      refine forR_by (fun i σ' H' => ∃ (r : Int) (v4 : Option V) (xs : List Int), σ' = [some (.int c), some (.int m), some (.ref l), some (.int r), v4, none] ∧ Same H H' ∧ H' l = some (.lst (xs.map V.int)) ∧ xs.length = i ∧ ∀ x ∈ xs, 0 ≤ x ∧ Sz 150 x) ⟨_, _, [], rfl, s1, e1, rfl, fun x h => by cases h⟩ ?_ ?_
      · rintro i σ' H2 hi ⟨r, v4, xs, rfl, s2, el, hl, hx⟩
        walk_at "rd"
        refine seq_step ?_
        refine ⟨.ref l, rfl, .inl ⟨rfl, _, .of el⟩, ?_⟩
        walk_at "rd"
        refine app_at el (by rw [List.length_map]; omega) ?_
        walk_at "rd"
        have f := fm_pos (c := r) (m := 1000000000000000000000000000000000000000000000) (by decide)
        refine ⟨same_updN fl s2, xs ++ [r.fmod 1000000000000000000000000000000000000000000000], by rw [upd_same, List.map_append]; rfl, by simp [hl], fun x hx' => ?_⟩
        rcases List.mem_append.mp hx' with h | h
        · exact hx x h
        · have : x = r.fmod 1000000000000000000000000000000000000000000000 := by simpa using h
          rw [this]
          exact ⟨f.1, Sz.nn f.1 (Int.le_of_lt f.2) (by unfold Sz; decide +kernel)⟩
      · rintro σ' H2 ⟨r, v4, xs, rfl, s2, el, hl, hx⟩
        walk_at "rd"
        exact q l H2 xs s2 fl el hl hx
    · refine seq_step ?_
      walk_at "rd"
      have f0 := fm_pos (c := c) (m := 1000000000000000009) (by decide)
      refine seq_step ?_
      refine for_rg ?_
      walk_at "rd"
      refine ⟨by omega, by omega, ?_⟩
      rw [show ((m : Int) + 2).toNat = m + 2 by omega]
      refine forR_by (fun i σ' H' => ∃ (r : Int) (v4 : Option V) (xs : List Int), σ' = [some (.int c), some (.int m), some (.ref l), none, v4, some (.int r)] ∧ 0 ≤ r ∧ Sz 62 r ∧ Same H H' ∧ H' l = some (.lst (xs.map V.int)) ∧ xs.length = i ∧ ∀ x ∈ xs, 0 ≤ x ∧ Sz 150 x) ⟨_, _, [], rfl, by omega, by unfold Sz; omega, s1, e1, rfl, fun x h => by cases h⟩ ?_ ?_
      · rintro i σ' H2 hi ⟨r, v4, xs, rfl, r0, sr, s2, el, hl, hx⟩
        walk_at "rd"
        refine seq_step ?_
        walk_at "rd"
        refine ⟨sr.mulW sr (by omega), Sz.mulW (a := 20) (by unfold Sz; decide) sr (by omega), ?_⟩
        have f := fm_pos (c := r * r + 48271 * r + i) (m := 1000000000000000009) (by decide)
        generalize (r * r + 48271 * r + i).fmod 1000000000000000009 = r2 at *
        refine ⟨.ref l, rfl, .inl ⟨rfl, _, .of el⟩, ?_⟩
        walk_at "rd"
        refine app_at el (by rw [List.length_map]; omega) ?_
        walk_at "rd"
        refine ⟨f.1, by unfold Sz; omega, same_updN fl s2, xs ++ [r2], by rw [upd_same, List.map_append]; rfl, by simp [hl], fun x hx' => ?_⟩
        rcases List.mem_append.mp hx' with h | h
        · exact hx x h
        · have : x = r2 := by simpa using h
          rw [this]
          exact ⟨f.1, by unfold Sz; omega⟩
      · rintro σ' H2 ⟨r, v4, xs, rfl, r0, sr, s2, el, hl, hx⟩
        walk_at "rd"
        refine ⟨_, .of el, fun p2 H3 s3 f3 e3 => ?_⟩
        have ec : cutV (xs.map V.int) (some 2) none = (xs.drop 2).map V.int := by
          rw [List.map_drop]
          exact cut_from (k := 2) (by rw [List.length_map]; omega)
        rw [ec] at e3
        exact q p2 H3 (xs.drop 2) (s2.trans s3) (s2.free f3) e3 (by rw [List.length_drop]; omega) fun x h => hx x (List.mem_of_mem_drop h)
def spLowest (K : PySem.W.Frag) : Sp := fun vs H Q _ => ∃ a b : Int, vs = [.int a, .int b] ∧ b ≠ 0 ∧ Sz 8000 b ∧ LowT a b H Q
theorem ok_l_lowest (T : Top K mg) : FnOk P w K mg base CX0 1 T.f_l_lowest T.d_l_lowest ["_law_top", "_law_bottom"] (spLowest K) := by
  refine T.F_l_lowest.ok sc_l_lowest (fun vs H Q E h => ?_) (fun cdv A outer s H vs Q E hr h => ?_)
  · obtain ⟨a, b, rfl, _⟩ := h; rfl
  · obtain ⟨a, b, rfl, hb, hz, q⟩ := h
    refine ⟨_, (pss_cons (ps_set (i := 2) sc_l_lowest.nd rfl (.inl rfl) (pv 0))
      (pss_cons (ps_set (i := 3) sc_l_lowest.nd rfl (.inl rfl) (pv 1))
      (pss_cons (ps_while PassesOwn.never (pt_cmpR op_ne (pv 3) pe_int (nomark _)) (pss_one (ps_par (i := 2) (j := 3) (by rfl) sc_l_lowest.nd rfl rfl (by decide) rfl rfl (pa_cons (pv 3) (pa_cons (pe_op op_modN (pv 2) (pv 3)) pa_nil)) (by rfl))))
      (pss_one (ps_ret (pe_tupN (pa_cons (pe_op op_fdivZ (pv 0) (pe_callB call_abs (by rfl) T.m_abs (by decide +kernel) (pa_cons (pv 2) pa_nil))) (pa_cons (pe_op op_fdivZ (pv 1) (pe_callB call_abs (by rfl) T.m_abs (by decide +kernel) (pa_cons (pv 2) pa_nil))) pa_nil)))))))), ?_⟩
    refine seq_step ?_
    walk_at "rd"
    refine seq_step ?_
    walk_at "rd"
    refine seq_step ?_
    refine while_by (fun σ H' => H' = H ∧ ∃ x y : Int, σ = [some (.int a), some (.int b), some (.int x), some (.int y)] ∧ Int.gcd x y = Int.gcd a b) (fun σ _ => match σ with | [_, _, _, some (.int y)] => y.natAbs | _ => 0) ⟨rfl, a, b, rfl, rfl⟩ ?_ ?_
    · rintro σ H' ⟨rfl, x, y, rfl, hg⟩
      walk_at "rd"
      by_cases c : y = 0
      · subst c
        rw [decide_eq_true rfl, Bool.not_true, if_neg Bool.false_ne_true]
        have e : (if x < 0 then -x else x) = ((Int.gcd a b : Nat) : Int) := by
          rw [← hg, Int.gcd_zero_right]; split <;> omega
        rw [e]
        have g := gcd_pos_right (a := a) hb
        have gs := gcd_le_size (a := a) hb
        have c : DivOk ((Int.gcd a b : Nat) : Int) := .of (by omega) (Sz.le (by omega) hz) (by omega)
        exact ⟨c, c, fun p H2 s2 _ e2 => q _ _ p H2 (low_of hb) s2 e2⟩
      · rw [decide_eq_false c, Bool.not_false, if_pos rfl]
        exact ⟨c, by rw [fmod_gcd, hg], fmod_lt x y c⟩
    · rintro σ H Q Q' m ⟨v, hv, hs, k, hk, q⟩
      exact ⟨v, hv, hs, k, hk, m _ _ q⟩
def ValInv (H : Hp) (px : Addr) (m : Nat) (unit : Int) (l : Addr) (i : Nat) (σ' : L2.St) (H' : Hp) : Prop := ∃ (qs : List Addr) (vals : List (Int × Int)) (v4 v5 : Option V), σ' = [some (.ref px), some (.int m), some (.int unit), some (.ref l), v4, v5] ∧ Same H H' ∧ vals.length = i ∧ GoodV 50 vals ∧ RedV vals ∧ H' l = some (.lst (qs.map V.ref)) ∧ qs.length = vals.length ∧ ∀ (i : Nat) (q : Addr) (x : Int × Int), qs[i]? = some q → vals[i]? = some x → H' q = some (.tup [.int x.1, .int x.2])
def spValues (K : PySem.W.Frag) : Sp := fun vs H Q _ => ∃ (px : Addr) (xs : List Int) (m : Nat) (unit : Int), vs = [.ref px, .int m, .int unit] ∧ H px = some (.lst (xs.map V.int)) ∧ 2 * m ≤ xs.length ∧ m ≤ 8 ∧ 0 < unit ∧ unit ≤ 1000000000000 ∧
  ∀ (p : Addr) (H' : Hp) (vals : List (Int × Int)), Same H H' → H p = none → VAt H' p vals → vals.length = m → GoodV 50 vals → RedV vals → Q (.ref p) H'
theorem ok_l_values (T : Top K mg) : FnOk P w K mg base CX0 2 T.f_l_values T.d_l_values ["_law_xs", "_law_many", "_law_unit"] (spValues K) := by
  refine T.F_l_values.ok sc_l_values (fun vs H Q E h => ?_) (fun cdv A outer s H vs Q E hr h => ?_)
  · obtain ⟨px, xs, m, unit, rfl, _⟩ := h; rfl
  · obtain ⟨px, xs, m, unit, rfl, ex, hx, hm, hu0, hu1, q⟩ := h
    refine ⟨_, (pss_cons (ps_set (i := 3) sc_l_values.nd rfl (.inl rfl) (pe_lstN pa_nil))
      (pss_cons (ps_for PassesOwn.never rfl (pi_range1 (by rfl) T.m_range (pa_cons (pv 1) pa_nil)) (pg_name (i := 4) sc_l_values.nd rfl (.inl rfl)) (pss_cons (ps_set (i := 5) sc_l_values.nd rfl (.inl rfl) (pe_op op_add pe_int (pe_op op_modN (pe_ix (ix_listA (K := K) rfl) (pv 0) (pe_op op_mulW pe_int (pv 4)) (fun _ _ => rfl)) pe_int)))
      (pss_one (ps_expr (pe_bm PySem.F.plainAttrs_list PySem.F.slot_list_append PySem.F.type_list_append mt_append (pv 3) (pa_cons (pe_call (ok_l_lowest T) (hr.mono (by decide)) rfl T.g_l_lowest T.F_l_lowest.kp T.b_l_lowest .nil pass0 (pa_cons (pe_op op_modN (pe_ix (ix_listA (K := K) rfl) (pv 0) (pe_op op_add (pe_op op_mulW pe_int (pv 4)) pe_int) (fun _ _ => rfl)) (pe_op op_mulW (pe_op op_mulW pe_int (pv 2)) (pv 5))) (pa_cons (pv 5) pa_nil))) pa_nil))))))
      (pss_one (ps_ret (pv 3))))), ?_⟩
    refine seq_step ?_
    walk_at "rd"
    intro l H1 s1 fl e1
    refine seq_step ?_
    refine for_rg ?_
    walk_at "rd"
    refine ⟨(rg_ok (by omega)).1, (rg_ok (by omega)).2, ?_⟩
    rw [Int.toNat_natCast]
    have VI : ∀ (qs : List Addr) (H' : Hp) (vals : List (Int × Int)), H' l = some (.lst (qs.map V.ref)) → qs.length = vals.length → (∀ (i : Nat) (q : Addr) (x : Int × Int), qs[i]? = some q → vals[i]? = some x → H' q = some (.tup [.int x.1, .int x.2])) → VAt H' l vals := fun qs H' vals a b c => ⟨qs, a, b, c⟩
    refine forR_by (ValInv H px m unit l)
      ⟨[], [], _, _, rfl, s1, rfl, (fun x h => by cases h), (fun x h => by cases h), e1, rfl, fun i q x h => by cases h⟩ ?_ ?_
    · rintro i σ' H2 hi ⟨qs, vals, v4, v5, rfl, s2, hl, gv, rv, el, hql, hqs⟩
      walk_at "rd"
      refine seq_step ?_
      walk_at "rd"
      have exx := s2 _ _ ex
      have two : Sz 2 2 := by unfold Sz; decide
      have si : Sz 10 (i : Int) := by unfold Sz; omega
      have i1 : 2 * i < xs.length := by omega
      have i2 : 2 * i + 1 < xs.length := by omega
      refine ⟨two.mulW si (by omega), ?_⟩
      refine ix_l (.of exx) (by omega) (by rw [show (2 * (i : Int)).toNat = 2 * i by omega, List.getElem?_map, List.getElem?_eq_getElem i1]; rfl) ?_
      walk_at "rd"
      have f1 := fm_pos (c := xs[2 * i]) (m := 6) (by decide)
      obtain ⟨B, hB⟩ : ∃ B, 1 + xs[2 * i].fmod 6 = B := ⟨_, rfl⟩
      rw [hB]
      have sB : Sz 3 B := by unfold Sz; omega
      have su : Sz 41 unit := by unfold Sz; omega
      refine ⟨.ref l, rfl, .inl ⟨rfl, _, .of el⟩, ?_⟩
      walk_at "rd"
      refine ⟨two.mulW si (by omega), ?_⟩
      refine ix_l (.of exx) (by omega) (by rw [show (2 * (i : Int) + 1).toNat = 2 * i + 1 by omega, List.getElem?_map, List.getElem?_eq_getElem i2]; rfl) ?_
      walk_at "rd"
      have s4u : Sz 45 (4 * unit) := by unfold Sz; omega
      have p4 : 0 < 4 * unit * B := Int.mul_pos (by omega) (by omega)
      have f2 := fm_pos (c := xs[2 * i + 1]) p4
      refine ⟨Sz.mulW (a := 3) (by unfold Sz; decide) su (by omega), s4u.mulW sB (by omega), by omega, ?_⟩
      refine ⟨_, _, rfl, by omega, sB.mono (by omega), fun t u p H3 low s3 e3 => ?_⟩
      have R := low.red (by omega)
      have st : Sz 50 t := Sz.le R.tle (Sz.nn f2.1 (Int.le_of_lt f2.2) (s4u.mul sB (by omega)))
      have tn : 0 ≤ t := by
        have e := low.top
        have g := gcd_pos_right (a := xs[2 * i + 1].fmod (4 * unit * B)) (b := B) (by omega)
        rcases Int.lt_or_le t 0 with z | z
        · have := Int.mul_neg_of_neg_of_pos z g; omega
        · exact z
      have el3 := s3 _ _ el
      have npl : p ≠ l := ne_of e3 el3 (by intro z; cases z)
      refine app_at el3 (by rw [List.length_map]; omega) ?_
      walk_at "rd"
      refine ⟨qs ++ [p], vals ++ [(t, u)], _, _, rfl, same_updN fl (s2.trans s3), by simp [hl], fun x hx' => ?_, fun x hx' => ?_, by rw [upd_same, List.map_append]; rfl, by simp [hql], fun k q x h1 h2 => ?_⟩
      · rcases List.mem_append.mp hx' with h | h
        · exact gv x h
        · have : x = (t, u) := by simpa using h
          rw [this]
          exact ⟨tn, R.pos, st, Sz.le R.ule (sB.mono (by omega))⟩
      · rcases List.mem_append.mp hx' with h | h
        · exact rv x h
        · have : x = (t, u) := by simpa using h
          rw [this]
          exact R.one
      · by_cases c : k < qs.length
        · rw [List.getElem?_append_left c] at h1
          rw [List.getElem?_append_left (by omega)] at h2
          have h3 := hqs k q x h1 h2
          rw [upd_ne (ne_of h3 el (by intro z; cases z))]
          exact s3 _ _ h3
        · have hlt := (List.getElem?_eq_some_iff.mp h1).1
          rw [List.length_append, List.length_singleton] at hlt
          obtain rfl : k = qs.length := by omega
          rw [List.getElem?_append_right (Nat.le_refl _), Nat.sub_self] at h1
          rw [hql, List.getElem?_append_right (Nat.le_refl _), Nat.sub_self] at h2
          have a1 : p = q := by simpa using h1
          have a2 : (t, u) = x := by simpa using h2
          subst a1; subst a2
          rw [upd_ne npl]; exact e3
    · rintro σ' H2 ⟨qs, vals, v4, v5, rfl, s2, hl, gv, rv, el, hql, hqs⟩
      walk_at "rd"
      exact q l H2 vals s2 fl (VI qs H2 vals el hql hqs) hl gv rv
def spLMinus (K : PySem.W.Frag) : Sp := fun vs H Q _ => ∃ (a b : Int × Int) (p1 p2 : Addr), vs = [.ref p1, .ref p2] ∧ H p1 = some (.tup [.int a.1, .int a.2]) ∧ H p2 = some (.tup [.int b.1, .int b.2]) ∧ Sz 3900 a.1 ∧ Sz 3900 a.2 ∧ Sz 3900 b.1 ∧ Sz 3900 b.2 ∧
  ∀ (p : Addr) (H' : Hp), Same H H' → H p = none → H' p = some (.tup [.int (dif a b).1, .int (dif a b).2]) → Q (.ref p) H'
theorem ok_l_minus (T : Top K mg) : FnOk P w K mg base CX0 1 T.f_l_minus T.d_l_minus ["_law_one", "_law_other"] (spLMinus K) := by
  refine T.F_l_minus.ok sc_l_minus (fun vs H Q E h => ?_) (fun cdv A outer s H vs Q E hr h => ?_)
  · obtain ⟨a, b, p1, p2, rfl, _⟩ := h; rfl
  · obtain ⟨a, b, p1, p2, rfl, h1, h2, sa, sb, sc, sd, q⟩ := h
    refine ⟨_, (pss_one (ps_ret (pe_tupN (pa_cons (pe_op op_sub (pe_op op_mulW (pe_ix (ix_tupA (K := K) rfl) (pv 0) pe_int (fun _ _ => rfl)) (pe_ix (ix_tupA (K := K) rfl) (pv 1) pe_int (fun _ _ => rfl))) (pe_op op_mulW (pe_ix (ix_tupA (K := K) rfl) (pv 1) pe_int (fun _ _ => rfl)) (pe_ix (ix_tupA (K := K) rfl) (pv 0) pe_int (fun _ _ => rfl)))) (pa_cons (pe_op op_mulW (pe_ix (ix_tupA (K := K) rfl) (pv 0) pe_int (fun _ _ => rfl)) (pe_ix (ix_tupA (K := K) rfl) (pv 1) pe_int (fun _ _ => rfl))) pa_nil))))), ?_⟩
    walk_at "ix"
    walk_at "ix"
    walk_at "rd"
    refine ⟨sa.mulW sd (by omega), ?_⟩
    walk_at "ix"
    walk_at "ix"
    walk_at "rd"
    refine ⟨sc.mulW sb (by omega), ?_⟩
    walk_at "ix"
    walk_at "ix"
    walk_at "rd"
    exact ⟨sb.mulW sd (by omega), fun p H2 s2 f2 e2 => q p H2 s2 f2 e2⟩
def lies_inI1 (Hb : Hp) (pz pvl pp : Addr) (vals : List (Int × Int)) (n : Nat) (M : Mx) (i : Nat) (σ' : L2.St) (H' : Hp) : Prop := ∃ (v3 v4 : Option V), σ' = [some (.ref pz), some (.ref pvl), some (.ref pp), v3, v4] ∧ Same Hb H' ∧ ∀ a b, a < i → b < n → letsO (M a b) (dif (plc vals a) (plc vals b)).1 (dif (plc vals a) (plc vals b)).2 = true
def lies_inI2 (Hb : Hp) (pz pvl pp : Addr) (vals : List (Int × Int)) (n : Nat) (M : Mx) (i j : Nat) (σ' : L2.St) (H' : Hp) : Prop := ∃ (v4 : Option V), σ' = [some (.ref pz), some (.ref pvl), some (.ref pp), some (.int i), v4] ∧ Same Hb H' ∧ ∀ b, b < j → letsO (M i b) (dif (plc vals i) (plc vals b)).1 (dif (plc vals i) (plc vals b)).2 = true
def splies_in (K : PySem.W.Frag) : Sp := fun vs H Q _ => ∃ (pz pvl : Addr) (as : List Addr) (n : Nat) (M : Mx) (vals : List (Int × Int)), vs = [.ref pz, .ref pvl] ∧ ZAt H pz as n M ∧ VAt H pvl vals ∧ GoodV 60 vals ∧ vals.length + 1 = n ∧ n ≤ 8 ∧ SzM 9000 M ∧
  ∀ (r : Bool) (H' : Hp), Same H H' → (r = true ↔ Lies n M (plc vals)) → Q (.bl r) H'
theorem ok_lies_in (T : Top K mg) : FnOk P w K mg base CX0 4 T.f_lies_in T.d_lies_in ["zone", "values"] (splies_in K) := by
  refine T.F_lies_in.ok sc_lies_in (fun vs H Q E h => ?_) (fun cdv A outer s H vs Q E hr h => ?_)
  · obtain ⟨pz, pvl, as, n, M, vals, rfl, _⟩ := h; rfl
  · obtain ⟨pz, pvl, as, n, M, vals, rfl, z, hv, gv, hN, hn, sM, q⟩ := h
    refine ⟨_, (pss_cons (ps_set (i := 2) sc_lies_in.nd rfl (.inl rfl) (pe_op op_catN (pe_lstN (pa_cons (pe_tupN (pa_cons pe_int (pa_cons pe_int pa_nil))) pa_nil)) (pv 1)))
      (pss_cons (ps_for PassesOwn.never rfl (pi_range1 (by rfl) T.m_range (pa_cons (pe_callB call_len_seq (by rfl) T.m_len (by decide +kernel) (pa_cons (pv 2) pa_nil)) pa_nil)) (pg_name (i := 3) sc_lies_in.nd rfl (.inl rfl)) (pss_one (ps_for PassesOwn.never rfl (pi_range1 (by rfl) T.m_range (pa_cons (pe_callB call_len_seq (by rfl) T.m_len (by decide +kernel) (pa_cons (pv 2) pa_nil)) pa_nil)) (pg_name (i := 4) sc_lies_in.nd rfl (.inl rfl)) (pss_one (ps_if (pt_not (pt_val (pe_call (ok_lets T) (hr.mono (by decide)) rfl T.g_lets T.F_lets.kp T.b_lets .nil pass0 (pa_cons (pe_ix (ix_listA (K := K) rfl) (pe_ix (ix_listA (K := K) rfl) (pv 0) (pv 3) (fun _ _ => rfl)) (pv 4) (fun _ _ => rfl)) (pa_cons (pe_call (ok_minus T) (hr.mono (by decide)) rfl T.g_minus T.F_minus.kp T.b_minus .nil pass0 (pa_cons (pe_ix (ix_listA (K := K) rfl) (pv 2) (pv 3) (fun _ _ => rfl)) (pa_cons (pe_ix (ix_listA (K := K) rfl) (pv 2) (pv 4) (fun _ _ => rfl)) pa_nil))) pa_nil))))) (pss_one (ps_ret pe_bl)) pss_nil)))))
      (pss_one (ps_ret pe_bl)))), ?_⟩
    refine seq_step ?_
    walk_at "rd"
    intro q0 H1 s1 _ e1 p1 H2 s2 _ e2
    obtain ⟨qs, hv1, hv2, hv3⟩ := hv.keep (s1.trans s2)
    have hlq : qs.length ≤ 8 := by omega
    refine ⟨_, e2, _, hv1, Nat.le_of_lt (small1000 (by simp; omega)), fun pp H3 s3 _ e3 => ?_⟩
    have sHb : Same H H3 := s1.trans (s2.trans s3)
    have vp : VAt H3 pp ((0, 1) :: vals) := ⟨q0 :: qs, e3, by simp [hv2], fun i q' x h1 h2 => by
      cases i with
      | zero =>
        cases h1; cases h2
        exact s3 _ _ (s2 _ _ e1)
      | succ i => exact s3 _ _ (hv3 i q' x h1 h2)⟩
    obtain ⟨qs', ep1, ep2, _⟩ := id vp
    refine seq_step ?_
    refine for_rg ?_
    walk_at "rd"
    have hn' : (qs'.map V.ref).length = n := by rw [List.length_map, ep2]; exact hN
    refine ⟨_, .inl (.of ep1), (rg_ok (by omega)).1, (rg_ok (by omega)).2, ?_⟩
    rw [hn', Int.toNat_natCast]
    refine forR_by (lies_inI1 H3 pz pvl pp vals n M) ⟨_, _, rfl, Same.refl _, fun a b h => by omega⟩ ?_ ?_
    · rintro i σ' H5 hi ⟨v3, v4, rfl, s5, hl⟩
      walk_at "rd"
      refine for_rg ?_
      walk_at "rd"
      refine ⟨_, .inl (.of (s5 _ _ ep1)), (rg_ok (by omega)).1, (rg_ok (by omega)).2, ?_⟩
      rw [hn', Int.toNat_natCast]
      refine forR_by (lies_inI2 H3 pz pvl pp vals n M i) ⟨_, rfl, s5, fun b h => by omega⟩ ?_ ?_
      · rintro j σ' H7 hj ⟨v4', rfl, s7, hlf⟩
        walk_at "rd"
        have gi := plc_good gv (by decide) i
        have gj := plc_good gv (by decide) j
        have dp := dif_pos gi.2.1 gj.2.1
        refine ix_top (z.keep (sHb.trans s7)) hi fun r er hr1 => ?_
        refine ix_row hr1 hj ?_
        refine (vp.keep s7).get (plc_get (by omega)) fun a1 ha1 => ?_
        refine (vp.keep s7).get (plc_get (by omega)) fun a2 ha2 => ?_
        refine ⟨_, _, _, _, a1, a2, rfl, ha1, ha2, gi.2.1, gj.2.1, gi.2.2.1.mono (by omega), gi.2.2.2.mono (by omega), gj.2.2.1.mono (by omega), gj.2.2.2.mono (by omega), fun t u p8 H8 R s8 e8 => ?_⟩
        walk_at "rd"
        have ratio : letsO (M i j) t u = letsO (M i j) (dif (plc vals i) (plc vals j)).1 (dif (plc vals i) (plc vals j)).2 := letsO_ratio R.pos dp R.eq
        refine ⟨_, t, u, p8, rfl, e8, (fun b e => half1 (sM i j b e)), Sz.le R.ule ((gi.2.2.2.mul gj.2.2.2 (Nat.le_refl _)).mono (by omega)), ?_⟩
        rw [ratio]
        walk_at "rd"
        have s48 : Same H3 H8 := s7.trans s8
        cases hres : letsO (M i j) (dif (plc vals i) (plc vals j)).1 (dif (plc vals i) (plc vals j)).2 with
        | false =>
          walk_at "rd"
          exact q false _ (sHb.trans s48) ⟨(fun h => by cases h), (fun h => by rw [h i j hi hj] at hres; cases hres)⟩
        | true =>
          walk_at "rd"
          refine ⟨_, rfl, s48, fun b hb => ?_⟩
          by_cases c : b = j
          · subst c; exact hres
          · exact hlf b (by omega)
      · rintro σ' H7 ⟨v4', rfl, s7, hlf⟩
        refine ⟨_, _, rfl, s7, fun a b ha hb => ?_⟩
        by_cases c : a = i
        · subst c; exact hlf b hb
        · exact hl a b (by omega) hb
    · rintro σ' H5 ⟨v3, v4, rfl, s5, hl⟩
      walk_at "rd"
      exact q true _ (sHb.trans s5) ⟨fun _ a b ha hb => hl a b ha hb, fun _ => rfl⟩
def spLLets (K : PySem.W.Frag) : Sp := fun vs H Q _ => ∃ (x : Option Int) (t u : Int) (p : Addr), vs = [oV x, .ref p] ∧ H p = some (.tup [.int t, .int u]) ∧ (∀ b, x = some b → Sz 10000 (b / 2)) ∧ Sz 10000 u ∧ Q (.bl (letsO x t u)) H
theorem ok_l_lets (T : Top K mg) : FnOk P w K mg base CX0 1 T.f_l_lets T.d_l_lets ["_law_bound", "_law_value"] (spLLets K) := by
  refine T.F_l_lets.ok sc_l_lets (fun vs H Q E h => ?_) (fun cdv A outer s H vs Q E hr h => ?_)
  · obtain ⟨x, t, u, p, rfl, _⟩ := h; rfl
  · obtain ⟨x, t, u, p, rfl, hp, h1, h2, q⟩ := h
    refine ⟨_, (pss_cons (ps_if (pt_cmpR op_isN (pv 0) pe_non (nomark _)) (pss_one (ps_ret pe_bl)) pss_nil)
      (pss_cons (ps_set (i := 2) sc_l_lets.nd rfl (.inl rfl) (pe_op op_mulW (pe_op op_fdivZ (pv 0) pe_int) (pe_ix (ix_tupA (K := K) rfl) (pv 1) pe_int (fun _ _ => rfl))))
      (pss_one (ps_ret (pe_or (pe_cmpR op_lt (pe_ix (ix_tupA (K := K) rfl) (pv 1) pe_int (fun _ _ => rfl)) (pv 2) (nomark _)) (pe_one (pe_and (pe_cmpR op_eq (pe_ix (ix_tupA (K := K) rfl) (pv 1) pe_int (fun _ _ => rfl)) (pv 2) (nomark _)) (pe_one (pe_cmpR op_eq (pe_op op_modN (pv 0) pe_int) pe_int (nomark _)))))))))), ?_⟩
    refine seq_step ?_
    cases x with
    | none =>
      simp only [oV_none]
      walk_at "rd"
      exact q
    | some b =>
    simp only [oV_some]
    have h1 := h1 b rfl
    have d2 : b.fdiv 2 = b / 2 := Int.fdiv_eq_ediv_of_nonneg _ (by omega)
    have m2 : b.fmod 2 = b % 2 := Int.fmod_eq_emod_of_nonneg _ (by omega)
    walk_at "rd"
    refine seq_step ?_
    walk_at "rd"
    walk_at "ix"
    walk_at "rd"
    rw [d2]
    refine ⟨h1.mulW h2 (by omega), ?_⟩
    walk_at "ix"
    walk_at "rd"
    have q : Q (V.bl (decide (t < b / 2 * u ∨ t = b / 2 * u ∧ b % 2 = 1))) H := q
    refine ite_d (fun c => ?_) (fun c => ?_)
    · rw [decide_eq_true (Or.inl c)] at q; exact q
    · walk_at "ix"
      walk_at "rd"
      refine ite_d (fun c2 => ?_) (fun c2 => ?_)
      · rw [m2, show decide (b % 2 = 1) = decide (t < b / 2 * u ∨ (t = b / 2 * u ∧ b % 2 = 1)) from decide_eq_decide.mpr ⟨fun z => .inr ⟨c2, z⟩, fun z => by rcases z with z | z; exact absurd z c; exact z.2⟩]
        exact q
      · rw [decide_eq_false (by rintro (z | z); exact c z; exact c2 z.1)] at q; exact q
def l_liesI1 (Hb : Hp) (pz pvl pp : Addr) (vals : List (Int × Int)) (n : Nat) (M : Mx) (i : Nat) (σ' : L2.St) (H' : Hp) : Prop := ∃ (v3 v4 : Option V), σ' = [some (.ref pz), some (.ref pvl), some (.ref pp), v3, v4] ∧ Same Hb H' ∧ ∀ a b, a < i → b < n → letsO (M a b) (dif (plc vals a) (plc vals b)).1 (dif (plc vals a) (plc vals b)).2 = true
def l_liesI2 (Hb : Hp) (pz pvl pp : Addr) (vals : List (Int × Int)) (n : Nat) (M : Mx) (i j : Nat) (σ' : L2.St) (H' : Hp) : Prop := ∃ (v4 : Option V), σ' = [some (.ref pz), some (.ref pvl), some (.ref pp), some (.int i), v4] ∧ Same Hb H' ∧ ∀ b, b < j → letsO (M i b) (dif (plc vals i) (plc vals b)).1 (dif (plc vals i) (plc vals b)).2 = true
def spl_lies (K : PySem.W.Frag) : Sp := fun vs H Q _ => ∃ (pz pvl : Addr) (as : List Addr) (n : Nat) (M : Mx) (vals : List (Int × Int)), vs = [.ref pz, .ref pvl] ∧ ZAt H pz as n M ∧ VAt H pvl vals ∧ GoodV 60 vals ∧ vals.length + 1 = n ∧ n ≤ 8 ∧ SzM 9000 M ∧
  ∀ (r : Bool) (H' : Hp), Same H H' → (r = true ↔ Lies n M (plc vals)) → Q (.bl r) H'
theorem ok_l_lies (T : Top K mg) : FnOk P w K mg base CX0 2 T.f_l_lies T.d_l_lies ["_law_zone", "_law_values_here"] (spl_lies K) := by
  refine T.F_l_lies.ok sc_l_lies (fun vs H Q E h => ?_) (fun cdv A outer s H vs Q E hr h => ?_)
  · obtain ⟨pz, pvl, as, n, M, vals, rfl, _⟩ := h; rfl
  · obtain ⟨pz, pvl, as, n, M, vals, rfl, z, hv, gv, hN, hn, sM, q⟩ := h
    refine ⟨_, (pss_cons (ps_set (i := 2) sc_l_lies.nd rfl (.inl rfl) (pe_op op_catN (pe_lstN (pa_cons (pe_tupN (pa_cons pe_int (pa_cons pe_int pa_nil))) pa_nil)) (pv 1)))
      (pss_cons (ps_for PassesOwn.never rfl (pi_range1 (by rfl) T.m_range (pa_cons (pe_callB call_len_seq (by rfl) T.m_len (by decide +kernel) (pa_cons (pv 2) pa_nil)) pa_nil)) (pg_name (i := 3) sc_l_lies.nd rfl (.inl rfl)) (pss_one (ps_for PassesOwn.never rfl (pi_range1 (by rfl) T.m_range (pa_cons (pe_callB call_len_seq (by rfl) T.m_len (by decide +kernel) (pa_cons (pv 2) pa_nil)) pa_nil)) (pg_name (i := 4) sc_l_lies.nd rfl (.inl rfl)) (pss_one (ps_if (pt_not (pt_val (pe_call (ok_l_lets T) (hr.mono (by decide)) rfl T.g_l_lets T.F_l_lets.kp T.b_l_lets .nil pass0 (pa_cons (pe_ix (ix_listA (K := K) rfl) (pe_ix (ix_listA (K := K) rfl) (pv 0) (pv 3) (fun _ _ => rfl)) (pv 4) (fun _ _ => rfl)) (pa_cons (pe_call (ok_l_minus T) (hr.mono (by decide)) rfl T.g_l_minus T.F_l_minus.kp T.b_l_minus .nil pass0 (pa_cons (pe_ix (ix_listA (K := K) rfl) (pv 2) (pv 3) (fun _ _ => rfl)) (pa_cons (pe_ix (ix_listA (K := K) rfl) (pv 2) (pv 4) (fun _ _ => rfl)) pa_nil))) pa_nil))))) (pss_one (ps_ret pe_bl)) pss_nil)))))
      (pss_one (ps_ret pe_bl)))), ?_⟩
    refine seq_step ?_
    walk_at "rd"
    intro q0 H1 s1 _ e1 p1 H2 s2 _ e2
    obtain ⟨qs, hv1, hv2, hv3⟩ := hv.keep (s1.trans s2)
    have hlq : qs.length ≤ 8 := by omega
    refine ⟨_, e2, _, hv1, Nat.le_of_lt (small1000 (by simp; omega)), fun pp H3 s3 _ e3 => ?_⟩
    have sHb : Same H H3 := s1.trans (s2.trans s3)
    have vp : VAt H3 pp ((0, 1) :: vals) := ⟨q0 :: qs, e3, by simp [hv2], fun i q' x h1 h2 => by
      cases i with
      | zero =>
        cases h1; cases h2
        exact s3 _ _ (s2 _ _ e1)
      | succ i => exact s3 _ _ (hv3 i q' x h1 h2)⟩
    obtain ⟨qs', ep1, ep2, _⟩ := id vp
    refine seq_step ?_
    refine for_rg ?_
    walk_at "rd"
    have hn' : (qs'.map V.ref).length = n := by rw [List.length_map, ep2]; exact hN
    refine ⟨_, .inl (.of ep1), (rg_ok (by omega)).1, (rg_ok (by omega)).2, ?_⟩
    rw [hn', Int.toNat_natCast]
    refine forR_by (l_liesI1 H3 pz pvl pp vals n M) ⟨_, _, rfl, Same.refl _, fun a b h => by omega⟩ ?_ ?_
    · rintro i σ' H5 hi ⟨v3, v4, rfl, s5, hl⟩
      walk_at "rd"
      refine for_rg ?_
      walk_at "rd"
      refine ⟨_, .inl (.of (s5 _ _ ep1)), (rg_ok (by omega)).1, (rg_ok (by omega)).2, ?_⟩
      rw [hn', Int.toNat_natCast]
      refine forR_by (l_liesI2 H3 pz pvl pp vals n M i) ⟨_, rfl, s5, fun b h => by omega⟩ ?_ ?_
      · rintro j σ' H7 hj ⟨v4', rfl, s7, hlf⟩
        walk_at "rd"
        have gi := plc_good gv (by decide) i
        have gj := plc_good gv (by decide) j
        have dp := dif_pos gi.2.1 gj.2.1
        refine ix_top (z.keep (sHb.trans s7)) hi fun r er hr1 => ?_
        refine ix_row hr1 hj ?_
        refine (vp.keep s7).get (plc_get (by omega)) fun a1 ha1 => ?_
        refine (vp.keep s7).get (plc_get (by omega)) fun a2 ha2 => ?_
        refine ⟨plc vals i, plc vals j, a1, a2, rfl, ha1, ha2, gi.2.2.1.mono (by omega), gi.2.2.2.mono (by omega), gj.2.2.1.mono (by omega), gj.2.2.2.mono (by omega), fun p8 H8 s8 _ e8 => ?_⟩
        walk_at "rd"
        refine ⟨_, _, _, p8, rfl, e8, (fun b e => half1 (sM i j b e)), (gi.2.2.2.mul gj.2.2.2 (Nat.le_refl _)).mono (by omega), ?_⟩
        walk_at "rd"
        have s48 : Same H3 H8 := s7.trans s8
        cases hres : letsO (M i j) (dif (plc vals i) (plc vals j)).1 (dif (plc vals i) (plc vals j)).2 with
        | false =>
          walk_at "rd"
          exact q false _ (sHb.trans s48) ⟨(fun h => by cases h), (fun h => by rw [h i j hi hj] at hres; cases hres)⟩
        | true =>
          walk_at "rd"
          refine ⟨_, rfl, s48, fun b hb => ?_⟩
          by_cases c : b = j
          · subst c; exact hres
          · exact hlf b (by omega)
      · rintro σ' H7 ⟨v4', rfl, s7, hlf⟩
        refine ⟨_, _, rfl, s7, fun a b ha hb => ?_⟩
        by_cases c : a = i
        · subst c; exact hlf b hb
        · exact hl a b (by omega) hb
    · rintro σ' H5 ⟨v3, v4, rfl, s5, hl⟩
      walk_at "rd"
      exact q true _ (sHb.trans s5) ⟨fun _ a b ha hb => hl a b ha hb, fun _ => rfl⟩
def RwInv1 (Hb : Hp) (pvl px pp l : Addr) (n i : Nat) (σ' : L2.St) (H' : Hp) : Prop := ∃ (as : List Addr) (M : Mx) (v4 v5 v6 v7 v8 v9 v10 : Option V), σ' = [some (.ref pvl), some (.ref px), some (.ref pp), some (.ref l), v4, v5, v6, v7, v8, v9, v10] ∧ Same Hb H' ∧ Grow Hb H' l as i n M ∧ SzM 400 M
def RwInv2 (Hb : Hp) (pvl px pp l r : Addr) (as : List Addr) (M : Mx) (n i j : Nat) (σ' : L2.St) (H' : Hp) : Prop := ∃ (f : Nat → Option Int) (v6 v7 v8 v9 v10 : Option V), σ' = [some (.ref pvl), some (.ref px), some (.ref pp), some (.ref l), some (.int i), some (.ref r), v6, v7, v8, v9, v10] ∧ Same Hb H' ∧ Grow Hb H' l as i n M ∧ H' r = some (.lst (zrow j f)) ∧ (∀ b v, f b = some v → Sz 400 v)
def spRows13 (K : PySem.W.Frag) : Sp := fun vs H Q _ => ∃ (pvl px : Addr) (vals : List (Int × Int)) (xs : List Int), vs = [.ref pvl, .ref px] ∧ VAt H pvl vals ∧ GoodV 50 vals ∧ vals.length ≤ 6 ∧ H px = some (.lst (xs.map V.int)) ∧ (vals.length + 1) * (vals.length + 1) ≤ xs.length ∧
  ∀ (p : Addr) (as : List Addr) (M : Mx) (H' : Hp), Same H H' → ZAt H' p as (vals.length + 1) M → H p = none → (∀ a ∈ as, H a = none) → SzM 400 M → Q (.ref p) H'
theorem ok_l_rows (T : Top K mg) : FnOk P w K mg base CX0 2 T.f_l_rows T.d_l_rows ["_law_values_here", "_law_xs"] (spRows13 K) := by
  refine T.F_l_rows.ok sc_l_rows (fun vs H Q E h => ?_) (fun cdv A outer s H vs Q E hr h => ?_)
  · obtain ⟨pvl, px, vals, xs, rfl, _⟩ := h; rfl
  · obtain ⟨pvl, px, vals, xs, rfl, hv, gv, hm, ex, hx, q⟩ := h
    refine ⟨_, (pss_cons (ps_set (i := 2) sc_l_rows.nd rfl (.inl rfl) (pe_op op_catN (pe_lstN (pa_cons (pe_tupN (pa_cons pe_int (pa_cons pe_int pa_nil))) pa_nil)) (pv 0)))
      (pss_cons (ps_set (i := 3) sc_l_rows.nd rfl (.inl rfl) (pe_lstN pa_nil))
      (pss_cons (ps_for PassesOwn.never rfl (pi_range1 (by rfl) T.m_range (pa_cons (pe_callB call_len_seq (by rfl) T.m_len (by decide +kernel) (pa_cons (pv 2) pa_nil)) pa_nil)) (pg_name (i := 4) sc_l_rows.nd rfl (.inl rfl)) (pss_cons (ps_set (i := 5) sc_l_rows.nd rfl (.inl rfl) (pe_lstN pa_nil))
      (pss_cons (ps_for PassesOwn.never rfl (pi_range1 (by rfl) T.m_range (pa_cons (pe_callB call_len_seq (by rfl) T.m_len (by decide +kernel) (pa_cons (pv 2) pa_nil)) pa_nil)) (pg_name (i := 6) sc_l_rows.nd rfl (.inl rfl)) (pss_cons (ps_set (i := 7) sc_l_rows.nd rfl (.inl rfl) (pe_ix (ix_listA (K := K) rfl) (pv 1) (pe_op op_add (pe_op op_mulW (pv 4) (pe_callB call_len_seq (by rfl) T.m_len (by decide +kernel) (pa_cons (pv 2) pa_nil))) (pv 6)) (fun _ _ => rfl)))
      (pss_cons (ps_asg (pe_call (ok_l_minus T) (hr.mono (by decide)) rfl T.g_l_minus T.F_l_minus.kp T.b_l_minus .nil pass0 (pa_cons (pe_ix (ix_listA (K := K) rfl) (pv 2) (pv 4) (fun _ _ => rfl)) (pa_cons (pe_ix (ix_listA (K := K) rfl) (pv 2) (pv 6) (fun _ _ => rfl)) pa_nil))) (pg_tup (by rfl) (pgs_cons (pg_name (i := 8) sc_l_rows.nd rfl (.inl rfl)) (pgs_cons (pg_name (i := 9) sc_l_rows.nd rfl (.inl rfl)) pgs_nil))))
      (pss_cons (ps_set (i := 10) sc_l_rows.nd rfl (.inl rfl) (pe_op op_add (pe_op op_mulW pe_int (pe_op op_fdivZ (pv 8) (pv 9))) (pe_ix (ix_listA (K := K) rfl) (pe_lstN (pa_cons pe_int (pa_cons pe_int (pa_cons pe_int (pa_cons (pe_op op_add (pe_op op_mulW pe_int (pe_op op_modN (pe_op op_fdivZ (pv 7) pe_int) (pe_op op_pow pe_int pe_int))) (pe_op op_modN (pv 7) pe_int)) (pa_cons pe_int (pa_cons pe_int (pa_cons pe_int (pa_cons pe_int pa_nil))))))))) (pe_op op_modN (pe_op op_fdivZ (pv 7) pe_int) pe_int) (fun _ _ => rfl))))
      (pss_cons (ps_if (pt_cmpR op_eq (pe_op op_modN (pe_op op_fdivZ (pv 7) pe_int) pe_int) pe_int (nomark _)) (pss_one (ps_set (i := 10) sc_l_rows.nd rfl (.inl rfl) (pe_op op_sub (pe_op op_sub (pv 10) pe_int) (pe_op op_modN (pv 7) pe_int)))) pss_nil)
      (pss_cons (ps_if (pt_cmpR op_eq (pe_op op_modN (pv 7) pe_int) pe_int (nomark _)) (pss_one (ps_set (i := 10) sc_l_rows.nd rfl (.inl rfl) pe_non)) pss_nil)
      (pss_one (ps_expr (pe_bm PySem.F.plainAttrs_list PySem.F.slot_list_append PySem.F.type_list_append mt_append (pv 5) (pa_cons (pv 10) pa_nil))))))))))
      (pss_one (ps_expr (pe_bm PySem.F.plainAttrs_list PySem.F.slot_list_append PySem.F.type_list_append mt_append (pv 3) (pa_cons (pv 5) pa_nil)))))))
      (pss_one (ps_ret (pv 3)))))), ?_⟩
    refine seq_step ?_
    walk_at "rd"
    intro q0 H1 s1 _ e1 p1 H2 s2 _ e2
    obtain ⟨qs, hv1, hv2, hv3⟩ := hv.keep (s1.trans s2)
    have hlq : qs.length ≤ 6 := by omega
    refine ⟨_, e2, _, hv1, Nat.le_of_lt (small1000 (by simp; omega)), fun pp H3 s3 _ e3 => ?_⟩
    have sHb : Same H H3 := s1.trans (s2.trans s3)
    have vp : VAt H3 pp ((0, 1) :: vals) := ⟨q0 :: qs, e3, by simp [hv2], fun i q' x h1 h2 => by
      cases i with
      | zero =>
        cases h1; cases h2
        exact s3 _ _ (s2 _ _ e1)
      | succ i => exact s3 _ _ (hv3 i q' x h1 h2)⟩
    obtain ⟨qs', ep1, ep2, _⟩ := id vp
    refine seq_step ?_
    walk_at "rd"
    intro l H4 s4 fl e4
    refine seq_step ?_
    refine for_rg ?_
    walk_at "rd"
    have hn : (qs'.map V.ref).length = vals.length + 1 := by rw [List.length_map, ep2]; rfl
    refine ⟨_, .inl (.of (s4 _ _ ep1)), (rg_ok (by omega)).1, (rg_ok (by omega)).2, ?_⟩
    rw [hn, Int.toNat_natCast]
    generalize hN : vals.length + 1 = n at *
    have hn7 : n ≤ 7 := by omega
    refine forR_by (RwInv1 H3 pvl px pp l n) ⟨[], fun _ _ => none, _, _, _, _, _, _, _, rfl, s4, ⟨e4, rfl, List.nodup_nil, (fun a h => by cases h), (fun j a h => by cases h)⟩, (fun i j v h => by cases h)⟩ ?_ ?_
    · rintro i σ' H5 hi ⟨as, M, v4, v5, v6, v7, v8, v9, v10, rfl, s5, g, sM⟩
      walk_at "rd"
      refine seq_step ?_
      walk_at "rd"
      intro r H6 s6 fr e6
      refine seq_step ?_
      refine for_rg ?_
      walk_at "rd"
      have s36 := s5.trans s6
      refine ⟨_, .inl (.of (s36 _ _ ep1)), (rg_ok (by omega)).1, (rg_ok (by omega)).2, ?_⟩
      rw [hn, Int.toNat_natCast]
      have nl : r ≠ l := fun e => by rw [e, g.top] at fr; cases fr
      have nr : r ∉ as := fun hm => by
        obtain ⟨j, hj, e⟩ := List.mem_iff_getElem.mp hm
        have := g.row j r (by rw [List.getElem?_eq_getElem hj, e])
        rw [fr] at this; cases this
      refine forR_by (RwInv2 H3 pvl px pp l r as M n i) ⟨fun _ => none, _, _, _, _, _, rfl, s36, g.keep fun b o e _ => s6 b o e, e6, (fun b v h => by cases h)⟩ ?_ ?_
      · rintro j σ' H7 hj ⟨f, v6', v7', v8', v9', v10', rfl, s7, g7, e7, hf⟩
        walk_at "rd"
        refine seq_step ?_
        walk_at "rd"
        have gi := plc_good gv (by decide) i
        have gj := plc_good gv (by decide) j
        refine ⟨_, .inl (.of (s7 _ _ ep1)), ?_⟩
        rw [hn]
        have hidx : i * n + j < xs.length := by
          have : i * n + n ≤ n * n := by rw [← Nat.succ_mul]; exact Nat.mul_le_mul_right _ hi
          omega
        refine ⟨Sz.mulW (a := 10) (b := 10) (by unfold Sz; omega) (by unfold Sz; omega) (by omega), ?_⟩
        rw [show (i : Int) * (n : Int) + (j : Int) = ((i * n + j : Nat) : Int) by push_cast; rfl]
        refine ix_l (.of (s7 _ _ (sHb _ _ ex))) (by omega) (by rw [Int.toNat_natCast, List.getElem?_map, List.getElem?_eq_getElem hidx]; rfl) ?_
        generalize xs[i * n + j] = x
        walk_at "rd"
        refine seq_step ?_
        walk_at "rd"
        refine (vp.keep s7).get (plc_get (by omega)) fun a1 ha1 => ?_
        refine (vp.keep s7).get (plc_get (by omega)) fun a2 ha2 => ?_
        refine ⟨plc vals i, plc vals j, a1, a2, rfl, ha1, ha2, gi.2.2.1.mono (by omega), gi.2.2.2.mono (by omega), gj.2.2.1.mono (by omega), gj.2.2.2.mono (by omega), fun p8 H8 s8 _ e8 => ?_⟩
        refine gTup_of (sqt e8) rfl ?_
        walk_at "rd"
        have dp := dif_pos gi.2.1 gj.2.1
        have d1 : Sz 300 (dif (plc vals i) (plc vals j)).1 := (gi.2.2.1.mul gj.2.2.2 (c := 100) (by omega)).sub (gj.2.2.1.mul gi.2.2.2 (c := 100) (by omega)) (by omega) (by omega)
        have d2 : Sz 300 (dif (plc vals i) (plc vals j)).2 := gi.2.2.2.mul gj.2.2.2 (by omega)
        generalize (dif (plc vals i) (plc vals j)).1 = t at *
        generalize (dif (plc vals i) (plc vals j)).2 = u at *
        refine seq_step ?_
        walk_at "rd"
        have du : DivOk u := .of (by omega) d2 (by omega)
        have s1t := fdiv_sz dp d1
        have f9 := fm_pos (c := x.fdiv 12) (m := 1000000000) (by decide)
        have f2 := fm_pos (c := x) (m := 2) (by decide)
        have f8 := fm_pos (c := x.fdiv 3) (m := 8) (by decide)
        refine ⟨du, Sz.mulW (a := 2) (by unfold Sz; decide) s1t (by omega), Sz.mulW (a := 2) (b := 31) (by unfold Sz; decide) (by unfold Sz; omega) (by omega), fun p9 H9 s9 _ e9 => ?_⟩
        obtain ⟨k, hk, hk0, hk1⟩ : ∃ k : Int, ([.int 1, .int 3, .int 2, .int (2 * (x.fdiv 12).fmod 1000000000 + x.fmod 2), .int 1, .int 3, .int 2, .int 1] : List V)[((x.fdiv 3).fmod 8).toNat]? = some (.int k) ∧ 0 ≤ k ∧ k ≤ 2000000001 := by
          generalize (x.fdiv 3).fmod 8 = z at *
          have h : z = 0 ∨ z = 1 ∨ z = 2 ∨ z = 3 ∨ z = 4 ∨ z = 5 ∨ z = 6 ∨ z = 7 := by omega
          rcases h with h | h | h | h | h | h | h | h <;> subst h <;> refine ⟨_, rfl, ?_, ?_⟩ <;> omega
        refine ix_l (.of e9) f8.1 hk ?_
        refine ⟨k, rfl, ?_⟩
        have sk : Sz 40 k := by unfold Sz; omega
        have s0 : Sz 310 (2 * t.fdiv u + k) := ((show Sz 2 2 by unfold Sz; decide).mul s1t (c := 305) (by omega)).add sk (by omega) (by omega)
        generalize 2 * t.fdiv u + k = near at *
        have e79 := s9 _ _ (s8 _ _ e7)
        have g9 : Grow H3 H9 l as i n M := g7.keep fun b o e _ => s9 _ _ (s8 _ _ e)
        have s39 : Same H3 H9 := s7.trans (s8.trans s9)
        have fin : ∀ (y : Option Int), (∀ v, y = some v → Sz 400 v) → RwInv2 H3 pvl px pp l r as M n i (j + 1) [some (.ref pvl), some (.ref px), some (.ref pp), some (.ref l), some (.int i), some (.ref r), some (.int j), some (.int x), some (.int t), some (.int u), some (oV y)] (upd H9 r (.lst (zrow j f ++ [oV y]))) := fun y hy => by
          refine ⟨fun c => if c = j then y else f c, _, _, _, _, _, rfl, same_updN (s5.free fr) s39, g9.keep fun c o e hc => ?_, by rw [upd_same, zrow_snoc], fun c v h => ?_⟩
          · rw [upd_ne (fun z => by rcases hc with h | h; exact nl (z ▸ h); exact nr (z ▸ h))]; exact e
          · have h : (if c = j then y else f c) = some v := h
            split at h
            · exact hy v h
            · exact hf c v h
        clear s8 s9 e8 e9 f9 f8 hk e7 g7 s7
        refine join_op (fun σ' H' => ∃ w : Int, Sz 400 w ∧ σ' = [some (.ref pvl), some (.ref px), some (.ref pp), some (.ref l), some (.int i), some (.ref r), some (.int j), some (.int x), some (.int t), some (.int u), some (.int w)] ∧ H' = H9) (fun σ' H' h => ?_) (fun R jj => ?_)
        rotate_left
        · refine seq_step ?_
          walk_at "rd"
          refine ite_d (fun _ => jj _ _ ⟨_, ?_, rfl, rfl⟩) (fun _ => jj _ _ ⟨_, s0.mono (by omega), rfl, rfl⟩)
          exact (s0.sub (show Sz 3 2 by unfold Sz; decide) (c := 311) (by omega) (by omega)).sub (show Sz 3 (x.fmod 2) by unfold Sz; omega) (by omega) (by omega)
        obtain ⟨w, sw, rfl, rfl⟩ := h
        refine seq_step ?_
        walk_at "rd"
        refine ite_d (fun _ => ?_) (fun _ => ?_)
        · refine ⟨.ref r, rfl, .inl ⟨rfl, _, .of e79⟩, ?_⟩
          walk_at "rd"
          exact app_at e79 (by rw [zrow_len]; omega) (fin none (fun v h => by cases h))
        · refine ⟨.ref r, rfl, .inl ⟨rfl, _, .of e79⟩, ?_⟩
          walk_at "rd"
          exact app_at e79 (by rw [zrow_len]; omega) (fin (some w) (fun v h => by cases h; exact sw))
      · rintro σ' H7 ⟨f, v6', v7', v8', v9', v10', rfl, s7, g7, e7, hf⟩
        walk_at "rd"
        refine ⟨.ref l, rfl, .inl ⟨rfl, _, .of g7.top⟩, ?_⟩
        walk_at "rd"
        refine app_at g7.top (by rw [List.length_map, g7.len]; omega) ?_
        refine ⟨as ++ [r], _, _, _, _, _, _, _, _, rfl, same_updN fl s7, g7.snoc e7 (s5.free fr) nr nl, fun a b v h => ?_⟩
        have h : (if a = i then f b else M a b) = some v := h
        split at h
        · exact hf b v h
        · exact sM a b v h
    · rintro σ' H5 ⟨as, M, v4, v5, v6, v7, v8, v9, v10, rfl, s5, g, sM⟩
      walk_at "rd"
      exact q l as M H5 (sHb.trans s5) g.done (sHb.free fl) (fun a h => sHb.free (g.fr a h).1) sM
def spPlain (K : PySem.W.Frag) : Sp := fun vs H Q _ => ∃ m : Nat, vs = [.int m] ∧ m ≤ 8 ∧ ∀ (p : Addr) (as : List Addr) (H' : Hp), Same H H' → ZAt H' p as (m + 1) evM → Q (.ref p) H'
def PlInv (H : Hp) (m : Nat) (l : Addr) (i : Nat) (σ' : L2.St) (H' : Hp) : Prop := ∃ (as : List Addr) (v2 : Option V), σ' = [some (.int m), some (.ref l), v2] ∧ Same H H' ∧ Grow H H' l as (i + 1) (m + 1) evM
theorem ok_l_plain (T : Top K mg) : FnOk P w K mg base CX0 1 T.f_l_plain T.d_l_plain ["_law_many"] (spPlain K) := by
  refine T.F_l_plain.ok sc_l_plain (fun vs H Q E h => ?_) (fun cdv A outer s H vs Q E hr h => ?_)
  · obtain ⟨m, rfl, _⟩ := h; rfl
  · obtain ⟨m, rfl, hm, q⟩ := h
    refine ⟨_, (pss_cons (ps_set (i := 1) sc_l_plain.nd rfl (.inl rfl) (pe_lstN (pa_cons (pe_op op_repN (pe_lstN (pa_cons pe_int pa_nil)) (pe_op op_add (pv 0) pe_int)) pa_nil)))
      (pss_cons (ps_for PassesOwn.never rfl (pi_range1 (by rfl) T.m_range (pa_cons (pv 0) pa_nil)) (pg_name (i := 2) sc_l_plain.nd rfl (.inl rfl)) (pss_one (ps_expr (pe_bm PySem.F.plainAttrs_list PySem.F.slot_list_append PySem.F.type_list_append mt_append (pv 1) (pa_cons (pe_op op_catN (pe_op op_catN (pe_op op_repN (pe_lstN (pa_cons pe_non pa_nil)) (pe_op op_add (pv 2) pe_int)) (pe_lstN (pa_cons pe_int pa_nil))) (pe_op op_repN (pe_lstN (pa_cons pe_non pa_nil)) (pe_op op_sub (pe_op op_sub (pv 0) (pv 2)) pe_int))) pa_nil)))))
      (pss_one (ps_ret (pv 1))))), ?_⟩
    refine seq_step ?_
    walk_at "rd"
    intro p1 H1 s1 _ e1
    refine ⟨_, e1, by omega, by omega, small1000' (by simp; omega), fun r0 H2 s2 f2 e2 => ?_⟩
    intro l H3 s3 fl e3
    refine seq_step ?_
    refine for_rg ?_
    walk_at "rd"
    refine ⟨by omega, by omega, ?_⟩
    have z0 : (List.replicate ((m : Int) + 1).toNat [V.int 1]).flatten = zrow (m + 1) (evM 0) := by
      rw [show ((m : Int) + 1).toNat = m + 1 by omega]
      exact (zrow_rep (m + 1) (some 1)).trans (zrow_congr fun j _ => by simp [evM])
    rw [z0] at e2
    have s13 : Same H H2 := s1.trans s2
    have nl0 : r0 ≠ l := ne_of_none e2 fl
    refine forR_by (PlInv H m l) ⟨[r0], _, rfl, s13.trans s3, e3, rfl, by simp, (fun a h => by
        have : a = r0 := by simpa using h
        rw [this]; exact ⟨s1.free f2, nl0⟩), fun j a h => by
        cases j with
        | zero => cases h; exact s3 _ _ e2
        | succ j => cases h⟩ ?_ ?_
    · rintro i σ' H4 hi ⟨as, v2, rfl, s4, g⟩
      walk_at "rd"
      refine ⟨.ref l, rfl, .inl ⟨rfl, _, .of g.top⟩, ?_⟩
      walk_at "rd"
      intro p5 H5 s5 _ e5
      refine ⟨_, e5, by omega, by omega, small1000' (by simp; omega), fun p6 H6 s6 _ e6 => ?_⟩
      intro p7 H7 s7 _ e7
      have h6 : (List.replicate ((i : Int) + 1).toNat [V.non]).flatten.length = i + 1 := by rw [List.flatten_replicate_singleton, List.length_replicate]; omega
      refine ⟨_, s7 _ _ e6, _, e7, small1000' (by rw [h6]; simp; omega), fun p8 H8 s8 _ e8 => ?_⟩
      intro p9 H9 s9 _ e9
      refine ⟨_, e9, by omega, by omega, small1000' (by simp; omega), fun pa Ha sa _ ea => ?_⟩
      have ha : (List.replicate ((m : Int) - (i : Int) - 1).toNat [V.non]).flatten.length = m - i - 1 := by rw [List.flatten_replicate_singleton, List.length_replicate]; omega
      refine ⟨_, sa _ _ (s9 _ _ e8), _, ea, small1000' (by rw [List.length_append, h6, ha]; simp; omega), fun r Hr sr fr er => ?_⟩
      have s4r : Same H4 Ha := s5.trans (s6.trans (s7.trans (s8.trans (s9.trans sa))))
      clear s5 s6 s7 s8 s9 sa e5 e6 e7 e8 e9 ea h6 ha
      have a1 : (List.replicate ((i : Int) + 1).toNat [V.non]).flatten = zrow (i + 1) (evM (i + 1)) := by
        rw [show ((i : Int) + 1).toNat = i + 1 by omega]
        exact (zrow_rep (i + 1) none).trans (zrow_congr fun j hj => by
          show none = (if i + 1 = 0 ∨ i + 1 = j then some 1 else none)
          rw [if_neg (by omega)])
      have a2 : [V.int 1] = zrow 1 (fun j => evM (i + 1) (i + 1 + j)) := by simp [zrow, evM, oV]
      have a3 : (List.replicate ((m : Int) - (i : Int) - 1).toNat [V.non]).flatten = zrow (m - i - 1) (fun j => evM (i + 1) (i + 1 + 1 + j)) := by
        rw [show ((m : Int) - (i : Int) - 1).toNat = m - i - 1 by omega]
        exact (zrow_rep (m - i - 1) none).trans (zrow_congr fun j hj => by
          show none = (if i + 1 = 0 ∨ i + 1 = i + 1 + 1 + j then some 1 else none)
          rw [if_neg (by omega)])
      rw [a1, a2, a3, zrow_app, zrow_app, show i + 1 + 1 + (m - i - 1) = m + 1 by omega] at er
      have gr : Grow H Hr l as (i + 1) (m + 1) evM := g.keep fun b o e _ => sr _ _ (s4r _ _ e)
      have fr0 : H r = none := (s4.trans s4r).free fr
      have nl : r ≠ l := fun e => by rw [e, s4r _ _ g.top] at fr; cases fr
      have nr : r ∉ as := fun hm => by
        obtain ⟨j, hj, e⟩ := List.mem_iff_getElem.mp hm
        have := s4r _ _ (g.row j r (by rw [List.getElem?_eq_getElem hj, e]))
        rw [fr] at this; cases this
      refine app_at gr.top (by rw [List.length_map, gr.len]; omega) ?_
      refine ⟨as ++ [r], _, rfl, same_updN (s13.free fl) (s4.trans (s4r.trans sr)), (gr.snoc er fr0 nr nl).to fun a b ha hb => ?_⟩
      show (if a = i + 1 then evM (i + 1) b else evM a b) = evM a b
      split
      · rename_i e; rw [e]
      · rfl
    · rintro σ' H4 ⟨as, v2, rfl, s4, g⟩
      walk_at "rd"
      exact q l as H4 s4 g.done
def spLaw (K : PySem.W.Frag) : Sp := fun vs H Q _ => ∃ (a : Addr) (ns : List Int), vs = [.ref a] ∧ SqL K H a (ns.map V.int) ∧ ns.length ≤ 63 ∧ ∀ H', Q (.bl true) H'
/-- a further list of values -/
def OV (m : Nat) (H : Hp) (o : Addr) : Prop := ∃ xs, VAt H o xs ∧ GoodV 60 xs ∧ RedV xs ∧ xs.length = m
theorem OV.keep {m : Nat} {H H' : Hp} {o : Addr} (s : Same H H') (h : OV m H o) : OV m H' o := by
  obtain ⟨xs, a, b⟩ := h
  exact ⟨xs, a.keep s, b⟩
theorem OV.upd {m : Nat} {H : Hp} {o l : Addr} {items items' : List V} (h : OV m H o) (hl : H l = some (.lst items)) (n : o ≠ l) : OV m (upd H l (.lst items')) o := by
  obtain ⟨xs, a, b⟩ := h
  exact ⟨xs, a.upd_ne hl n, b⟩
theorem OV.some {m : Nat} {H : Hp} {o : Addr} (h : OV m H o) : ∃ x, H o = some x := by
  obtain ⟨xs, ⟨qs, a, _⟩, _⟩ := h
  exact ⟨_, a⟩
def TstInv (Hb : Hp) (pre mid : List (Option V)) (i : Nat) (σ' : L2.St) (H' : Hp) : Prop := ∃ (v8 v14 v15 : Option V), σ' = pre ++ (v8 :: (mid ++ [v14, v15, none, none])) ∧ Same Hb H'
theorem ZAt.kp {H H' : Hp} {p po : Addr} {as : List Addr} {n : Nat} {M : Mx} (z : ZAt H p as n M) (h1 : p ≠ po) (h2 : po ∉ as) (k : ∀ b o, b ≠ po → H b = some o → H' b = some o) : ZAt H' p as n M :=
  ⟨k _ _ h1 z.top, z.len, fun j a h => k _ _ (fun e => h2 (by rw [← e]; exact List.mem_of_getElem? h)) (z.row j a h), z.nd⟩
def OthInv (Hb : Hp) (pre : List (Option V)) (po : Addr) (m i : Nat) (σ' : L2.St) (H' : Hp) : Prop := ∃ (ol : List Addr) (v7 v8 v9 v10 v11 : Option V), σ' = pre ++ [some (.ref po), v7, v8, v9, v10, v11, none, none, none, none, none, none] ∧ (∀ b o, b ≠ po → Hb b = some o → H' b = some o) ∧ H' po = some (.lst (ol.map V.ref)) ∧ ol.length = i + 2 ∧ ∀ o ∈ ol, o ≠ po ∧ OV m H' o
theorem ok_law (T : Top K mg) : FnOk P w K mg base CX0 5 T.f_law T.d_law ["_law_script"] (spLaw K) := by
  refine T.F_law.ok sc_law (fun vs H Q E h => ?_) (fun cdv A outer s H vs Q E hr h => ?_)
  · obtain ⟨a, ns, rfl, _⟩ := h; rfl
  · obtain ⟨a, ns, rfl, hS, hlen, q⟩ := h
    refine ⟨_, (pss_cons (ps_set (i := 1) sc_law.nd rfl (.inl rfl) (pe_call (ok_l_cell_at T) (hr.mono (by decide)) rfl T.g_l_cell_at T.F_l_cell_at.kp T.b_l_cell_at .nil pass0 (pa_cons (pv 0) (pa_cons pe_int pa_nil))))
      (pss_cons (ps_set (i := 2) sc_law.nd rfl (.inr rfl) (pe_op op_modN (pv 1) pe_int))
      (pss_cons (ps_set (i := 3) sc_law.nd rfl (.inl rfl) (pe_ix (ix_listA (K := K) rfl) (pe_lstN (pa_cons pe_int (pa_cons (pe_op op_pow pe_int pe_int) pa_nil))) (pe_op op_modN (pe_op op_fdivZ (pv 1) pe_int) pe_int) (fun _ _ => rfl)))
      (pss_cons (ps_set (i := 4) sc_law.nd rfl (.inl rfl) (pe_call (ok_l_values T) (hr.mono (by decide)) rfl T.g_l_values T.F_l_values.kp T.b_l_values .nil pass0 (pa_cons (pe_call (ok_l_stream T) (hr.mono (by decide)) rfl T.g_l_stream T.F_l_stream.kp T.b_l_stream .nil pass0 (pa_cons (pe_call (ok_l_cell_at T) (hr.mono (by decide)) rfl T.g_l_cell_at T.F_l_cell_at.kp T.b_l_cell_at .nil pass0 (pa_cons (pv 0) (pa_cons pe_int pa_nil))) (pa_cons pe_int pa_nil))) (pa_cons (pv 2) (pa_cons (pv 3) pa_nil)))))
      (pss_cons (ps_set (i := 5) sc_law.nd rfl (.inl rfl) (pe_call (ok_l_rows T) (hr.mono (by decide)) rfl T.g_l_rows T.F_l_rows.kp T.b_l_rows .nil pass0 (pa_cons (pv 4) (pa_cons (pe_call (ok_l_stream T) (hr.mono (by decide)) rfl T.g_l_stream T.F_l_stream.kp T.b_l_stream .nil pass0 (pa_cons (pe_call (ok_l_cell_at T) (hr.mono (by decide)) rfl T.g_l_cell_at T.F_l_cell_at.kp T.b_l_cell_at .nil pass0 (pa_cons (pv 0) (pa_cons pe_int pa_nil))) (pa_cons pe_int pa_nil))) pa_nil))))
      (pss_cons (ps_set (i := 6) sc_law.nd rfl (.inl rfl) (pe_lstN (pa_cons (pv 4) (pa_cons (pe_op op_repN (pe_lstN (pa_cons (pe_tupN (pa_cons pe_int (pa_cons pe_int pa_nil))) pa_nil)) (pv 2)) pa_nil))))
      (pss_cons (ps_for PassesOwn.never rfl (pi_listA (K := K) rfl (pe_slice (sl_listA (K := K) rfl) (pv 0) (po_some pe_int) (po_some pe_int))) (pg_name (i := 7) sc_law.nd rfl (.inl rfl)) (pss_cons (ps_set (i := 8) sc_law.nd rfl (.inl rfl) (pe_callTy (call_listA (K := K) rfl) (by rfl) T.m_list (by decide +kernel) (pa_cons (pv 4) pa_nil)))
      (pss_cons (ps_if (pt_cmpR op_gt (pv 2) pe_int (nomark _)) (pss_cons (ps_asg (pe_ix (ix_listA (K := K) rfl) (pv 4) (pe_op op_modN (pv 7) (pv 2)) (fun _ _ => rfl)) (pg_tup (by rfl) (pgs_cons (pg_name (i := 9) sc_law.nd rfl (.inl rfl)) (pgs_cons (pg_name (i := 10) sc_law.nd rfl (.inl rfl)) pgs_nil))))
      (pss_cons (ps_set (i := 11) sc_law.nd rfl (.inl rfl) (pe_op op_add pe_int (pe_op op_modN (pe_op op_fdivZ (pv 7) pe_int) pe_int)))
      (pss_one (ps_asg (pe_call (ok_l_lowest T) (hr.mono (by decide)) rfl T.g_l_lowest T.F_l_lowest.kp T.b_l_lowest .nil pass0 (pa_cons (pe_callB (call_max2 rfl) (by rfl) T.m_max (by decide +kernel) (pa_cons pe_int (pa_cons (pe_op op_sub (pe_op op_add (pe_op op_mulW (pv 9) (pv 11)) (pe_op op_modN (pe_op op_fdivZ (pv 7) pe_int) pe_int)) pe_int) pa_nil))) (pa_cons (pe_op op_mulW (pv 10) (pv 11)) pa_nil))) (pg_sub (pv 8) (pe_op op_modN (pv 7) (pv 2)) set_list))))) pss_nil)
      (pss_one (ps_expr (pe_bm PySem.F.plainAttrs_list PySem.F.slot_list_append PySem.F.type_list_append mt_append (pv 6) (pa_cons (pv 8) pa_nil)))))))
      (pss_cons (ps_set (i := 12) sc_law.nd rfl (.inl rfl) (pe_call (ok_everywhere T) (hr.mono (by decide)) rfl T.g_everywhere T.F_everywhere.kp T.b_everywhere .nil pass0 (pa_cons (pv 2) pa_nil)))
      (pss_cons (ps_set (i := 13) sc_law.nd rfl (.inl rfl) (pe_call (ok_nought T) (hr.mono (by decide)) rfl T.g_nought T.F_nought.kp T.b_nought .nil pass0 (pa_cons (pv 2) pa_nil)))
      (pss_cons (ps_if (PW.pt (pw_or (pt_cmpR (op_neD hr.units) (pv 12) (pe_call (ok_l_plain T) (hr.mono (by decide)) rfl T.g_l_plain T.F_l_plain.kp T.b_l_plain .nil pass0 (pa_cons (pv 2) pa_nil)) (nomark _)) (pw_or1 (pt_cmpR (op_neD hr.units) (pv 13) (lc_vs (vs := [16]) (pe_lc (own := [("_law_k", 16)]) (g := gName 16) (tt := tYes) rfl sc_law.nd (pi_range1 (by rfl) T.m_range (pa_cons (pe_op op_add (pv 2) pe_int) pa_nil)) (blkOk_by (own := [("_law_k", 16)]) (N := ["_law_script", "_law_first", "_law_many", "_law_unit", "_law_values_here", "_law_zone", "_law_others", "_law_cell", "_law_other", "_law_top", "_law_bottom", "_law_part", "_law_wide", "_law_one", "_law_handed", "_law_told", "_law_k", "_law_row"]) (sc := defScope s_law) (by decide +kernel)) (fun _ _ _ _ _ => (pg_name (i := 16) sc_law.nd rfl (.inl rfl))) (fun _ _ _ _ _ => pts_nil) (fun _ _ _ _ _ => (pe_op op_repN (pe_lstN (pa_cons pe_int pa_nil)) (pe_op op_add (pv 2) pe_int)))) rfl) (nomark _))))) (pss_one (ps_ret pe_bl)) pss_nil)
      (pss_cons (ps_for PassesOwn.never rfl (pi_listA (K := K) rfl (pv 6)) (pg_name (i := 8) sc_law.nd rfl (.inl rfl)) (pss_cons (ps_set (i := 14) sc_law.nd rfl (.inl rfl) (pe_lstN (pa_cons (lc_vs (vs := [17]) (pe_lc (own := [("_law_row", 17)]) (g := gName 17) (tt := tYes) rfl sc_law.nd (pi_listA (K := K) rfl (pv 5)) (blkOk_by (own := [("_law_row", 17)]) (N := ["_law_script", "_law_first", "_law_many", "_law_unit", "_law_values_here", "_law_zone", "_law_others", "_law_cell", "_law_other", "_law_top", "_law_bottom", "_law_part", "_law_wide", "_law_one", "_law_handed", "_law_told", "_law_k", "_law_row"]) (sc := defScope s_law) (by decide +kernel)) (fun _ _ _ _ _ => (pg_name (i := 17) sc_law.nd rfl (.inl rfl))) (fun _ _ _ _ _ => pts_nil) (fun _ _ _ _ _ => (pe_callTy (call_listA (K := K) rfl) (by rfl) T.m_list (by decide +kernel) (pa_cons (pv 17) pa_nil)))) rfl) (pa_cons (pe_callTy (call_listA (K := K) rfl) (by rfl) T.m_list (by decide +kernel) (pa_cons (pv 8) pa_nil)) pa_nil))))
      (pss_cons (ps_set (i := 15) sc_law.nd rfl (.inl rfl) (pe_call (ok_lies_in T) (hr.mono (by decide)) rfl T.g_lies_in T.F_lies_in.kp T.b_lies_in .nil pass0 (pa_cons (pe_ix (ix_listA (K := K) rfl) (pv 14) pe_int (fun _ _ => rfl)) (pa_cons (pe_ix (ix_listA (K := K) rfl) (pv 14) pe_int (fun _ _ => rfl)) pa_nil))))
      (pss_cons (ps_if (PW.pt (pw_or (pt_not (pt_val (pe_callB (call_isiA (K := K) rfl) (by rfl) T.m_isinstance (by decide +kernel) (pa_cons (pv 15) (pa_cons (pe_bltn (v := .ty "bool") (u := .type "bool") (by rfl) T.m_bool (by decide +kernel) rfl) pa_nil))))) (pw_or (pt_cmpR op_ne (pv 15) (pe_call (ok_l_lies T) (hr.mono (by decide)) rfl T.g_l_lies T.F_l_lies.kp T.b_l_lies .nil pass0 (pa_cons (pv 5) (pa_cons (pv 8) pa_nil))) (nomark _)) (pw_or1 (pt_cmpR (op_neD hr.units) (pv 14) (pe_lstN (pa_cons (pv 5) (pa_cons (pv 8) pa_nil))) (nomark _)))))) (pss_one (ps_ret pe_bl)) pss_nil)
      (pss_one (ps_if (PW.pt (pw_or (pt_cmpR op_isnot_bl (pe_call (ok_lies_in T) (hr.mono (by decide)) rfl T.g_lies_in T.F_lies_in.kp T.b_lies_in .nil pass0 (pa_cons (pv 12) (pa_cons (pv 8) pa_nil))) pe_bl (nomark _)) (pw_or1 (pt_cmpR op_ne (pe_call (ok_lies_in T) (hr.mono (by decide)) rfl T.g_lies_in T.F_lies_in.kp T.b_lies_in .nil pass0 (pa_cons (pv 13) (pa_cons (pv 8) pa_nil))) (pe_cmpR (op_eqD hr.units) (pv 8) (pe_op op_repN (pe_lstN (pa_cons (pe_tupN (pa_cons pe_int (pa_cons pe_int pa_nil))) pa_nil)) (pv 2)) (nomark _)) (nomark _))))) (pss_one (ps_ret pe_bl)) pss_nil))))))
      (pss_cons (ps_asg pe_int (pg_sub (pe_ix (ix_listA (K := K) rfl) (pv 12) pe_int (fun _ _ => rfl)) pe_int set_list))
      (pss_cons (ps_expr (pe_bm0 PySem.F.plainAttrs_list PySem.F.slot_list_clear PySem.F.type_list_clear mt_clear (pv 13)))
      (pss_one (ps_ret (pe_and (pe_cmpR (op_eqD hr.units) (pe_call (ok_everywhere T) (hr.mono (by decide)) rfl T.g_everywhere T.F_everywhere.kp T.b_everywhere .nil pass0 (pa_cons (pv 2) pa_nil)) (pe_call (ok_l_plain T) (hr.mono (by decide)) rfl T.g_l_plain T.F_l_plain.kp T.b_l_plain .nil pass0 (pa_cons (pv 2) pa_nil)) (nomark _)) (pe_one (pe_cmpR (op_eqD hr.units) (pe_call (ok_nought T) (hr.mono (by decide)) rfl T.g_nought T.F_nought.kp T.b_nought .nil pass0 (pa_cons (pv 2) pa_nil)) (lc_vs (vs := [16]) (pe_lc (own := [("_law_k", 16)]) (g := gName 16) (tt := tYes) rfl sc_law.nd (pi_range1 (by rfl) T.m_range (pa_cons (pe_op op_add (pv 2) pe_int) pa_nil)) (blkOk_by (own := [("_law_k", 16)]) (N := ["_law_script", "_law_first", "_law_many", "_law_unit", "_law_values_here", "_law_zone", "_law_others", "_law_cell", "_law_other", "_law_top", "_law_bottom", "_law_part", "_law_wide", "_law_one", "_law_handed", "_law_told", "_law_k", "_law_row"]) (sc := defScope s_law) (by decide +kernel)) (fun _ _ _ _ _ => (pg_name (i := 16) sc_law.nd rfl (.inl rfl))) (fun _ _ _ _ _ => pts_nil) (fun _ _ _ _ _ => (pe_op op_repN (pe_lstN (pa_cons pe_int pa_nil)) (pe_op op_add (pv 2) pe_int)))) rfl) (nomark _))))))))))))))))))), ?_⟩
    refine seq_step ?_
    walk_at "rd"
    refine ⟨a, ns, 0, rfl, hS, by decide, ?_⟩
    generalize ns.getD (Int.toNat 0) 0 = c0
    walk_at "rd"
    have f0 := fm_pos (c := c0) (m := 6) (by decide)
    obtain ⟨m, hm⟩ : ∃ m : Nat, c0.fmod 6 = (m : Int) := ⟨(c0.fmod 6).toNat, by omega⟩
    have hm4 : m ≤ 5 := by omega
    refine seq_step ?_
    walk_at "rd"
    rw [hm]
    refine seq_step ?_
    walk_at "rd"
    intro p1 H1 s1 _ e1
    obtain ⟨unit, hun, hu0, hu1⟩ : ∃ unit : Int, ([.int 3, .int 1000000000000] : List V)[((c0.fdiv 6).fmod 2).toNat]? = some (.int unit) ∧ 0 < unit ∧ unit ≤ 1000000000000 := by
      rcases fm2 (c0.fdiv 6) with e | e <;> rw [e]
      · exact ⟨3, rfl, by decide, by decide⟩
      · exact ⟨_, rfl, by decide, by decide⟩
    refine ix_l (.of e1) (fm_pos (m := 2) (by decide)).1 hun ?_
    walk_at "rd"
    refine seq_step ?_
    walk_at "rd"
    refine ⟨a, ns, 1, rfl, s1.seq hS, by decide, ?_⟩
    walk_at "rd"
    refine ⟨_, 10, rfl, by decide, fun px H2 xs s2 _ e2 hx1 _ => ?_⟩
    walk_at "rd"
    refine ⟨px, xs, m, unit, rfl, e2, by omega, by omega, hu0, hu1, fun pvl H3 vals s3 _ hv hvl gv rv => ?_⟩
    have s13 := s1.trans (s2.trans s3)
    walk_at "rd"
    refine seq_step ?_
    walk_at "rd"
    refine ⟨a, ns, 2, rfl, s13.seq hS, by decide, ?_⟩
    walk_at "rd"
    refine ⟨_, 36, rfl, by decide, fun px2 H4 xs2 s4 _ e4 hx2 _ => ?_⟩
    walk_at "rd"
    have hn5 : vals.length + 1 ≤ 6 := by omega
    refine ⟨pvl, px2, vals, xs2, rfl, hv.keep s4, gv, by omega, e4, by rw [hx2]; exact Nat.mul_le_mul hn5 hn5, fun pz az M H5 s5 z5 fz faz sM => ?_⟩
    have hv5 := hv.keep (s4.trans s5)
    have hS5 : SqL K H5 a (ns.map V.int) := (s13.trans (s4.trans s5)).seq hS
    rw [hvl] at z5
    clear s1 s2 s3 s4 s5 s13 e1 e2 e4 fz faz hx1 hx2 hv
    walk_at "rd"
    refine seq_step ?_
    walk_at "rd"
    intro q6 H6 s6 _ e6 p7 H7 s7 _ e7
    refine ⟨_, e7, by omega, by omega, small1000' (by simp; omega), fun pno H8 s8 _ e8 => ?_⟩
    intro po H9 s9 fpo e9
    have s59 : Same H5 H9 := s6.trans (s7.trans (s8.trans s9))
    have e8 : H8 pno = some (.lst ((List.replicate m q6).map V.ref)) := by
      rw [e8, List.flatten_replicate_singleton, List.map_replicate, Int.toNat_natCast]
    have vno : VAt H9 pno (List.replicate m (0, 1)) := ⟨List.replicate m q6, s9 _ _ e8, by simp, fun i q x h1 h2 => by
      have h1 := List.eq_of_mem_replicate (List.mem_of_getElem? h1)
      have h2 := List.eq_of_mem_replicate (List.mem_of_getElem? h2)
      subst h1; subst h2
      exact s9 _ _ (s8 _ _ (s7 _ _ e6))⟩
    have gno : GoodV 60 (List.replicate m ((0, 1) : Int × Int)) := fun x h => by
      rw [List.eq_of_mem_replicate h]
      exact ⟨by decide, by decide, by unfold Sz; decide, by unfold Sz; decide⟩
    have rno : RedV (List.replicate m ((0, 1) : Int × Int)) := fun x h => by
      rw [List.eq_of_mem_replicate h]
      rfl
    have hv9 := hv5.keep s59
    have z9 := z5.keep s59
    have npv : pvl ≠ po := by
      obtain ⟨qs, a, _⟩ := hv5.keep (s6.trans (s7.trans s8))
      exact ne_of_none a fpo
    have npno : pno ≠ po := ne_of_none e8 fpo
    have npz : pz ≠ po ∧ po ∉ az := ⟨ne_of_none (z5.keep (s6.trans (s7.trans s8))).top fpo, fun hm => by
      obtain ⟨j, hj, e⟩ := List.mem_iff_getElem.mp hm
      have h := (z5.keep (s6.trans (s7.trans s8))).row j po (by rw [List.getElem?_eq_getElem hj, e])
      rw [fpo] at h; cases h⟩
    have hS9 : SqL K H9 a (ns.map V.int) := s59.seq hS5
    clear s6 s7 s8 e6 e7 z5 hv5 hS5 e8
    refine seq_step ?_
    refine for_li ?_
    walk_at "rd"
    refine ⟨_, hS9, fun pl H10 s10 fpl e10 => ?_⟩
    have npl : pl ≠ po := fun e => by rw [e, e9] at fpl; cases fpl
    have hv10 := hv9.keep s10
    have eo10 := s10 _ _ e9
    refine forL_by (OthInv H10 [some (.ref a), some (.int c0), some (.int m), some (.int unit), some (.ref pvl), some (.ref pz)] po m) ⟨[pvl, pno], _, _, _, _, _, rfl, fun _ _ _ e => e, eo10, rfl, fun o h => by
        rcases List.mem_cons.mp h with h | h
        · rw [h]; exact ⟨npv, vals, hv10, gv.mono (by omega), rv, hvl⟩
        · have : o = pno := by simpa using h
          rw [this]; exact ⟨npno, _, vno.keep s10, gno, rno, by simp⟩⟩ (fun i σ H' _ ⟨_, _, _, _, _, _, _, kp, _⟩ => .of (kp _ _ npl e10)) ?_ ?_
    · rintro i x σ' H11 hi ⟨ol, v7, v8, v9, v10, v11, rfl, kp, eo, hol, hO⟩
      obtain ⟨z, rfl⟩ := cut_int hi
      have hi30 : i < 64 := by
        have h1 := (List.getElem?_eq_some_iff.mp hi).1
        have h2 := cutV_length (ns.map V.int) (some 3) (some 15)
        rw [List.length_map] at h2
        omega
      walk_at "rd"
      refine seq_step ?_
      walk_at "rd"
      have hv11 : VAt H11 pvl vals := by
        obtain ⟨qs, e1, e2, e3⟩ := hv10
        refine ⟨qs, kp _ _ npv e1, e2, fun k q x h1 h2 => ?_⟩
        have h3 := e3 k q x h1 h2
        exact kp _ _ (ne_of h3 eo10 (by intro z; cases z)) h3
      obtain ⟨qs11, a11, b11, c11⟩ := id hv11
      refine ⟨_, .inl (.of a11), fun o1 H12 s12 fo1 e12 => ?_⟩
      have hl2 : VAt H12 o1 vals := ⟨qs11, e12, b11, fun i q x h1 h2 => s12 _ _ (c11 i q x h1 h2)⟩
      have hv12 := hv11.keep s12
      have no1 : o1 ≠ po := fun e => by rw [e, eo] at fo1; cases fo1
      have eo12 := s12 _ _ eo
      have kp12 : ∀ b o, b ≠ po → H10 b = some o → H12 b = some o := fun b o n e => s12 _ _ (kp b o n e)
      have hO12 : ∀ o ∈ ol, o ≠ po ∧ o ≠ o1 ∧ OV m H12 o := fun o h => ⟨(hO o h).1, by
        obtain ⟨y, ey⟩ := (hO o h).2.some
        exact ne_of_none ey fo1, (hO o h).2.keep s12⟩
      have ko1 : ∀ b o, H10 b = some o → b ≠ po → b ≠ o1 := fun b o e n => ne_of_none (kp b o n e) fo1
      walk_at "rd"
      clear s12 fo1 hO eo kp a11 b11 c11
      refine join_op (fun σ' H' => ∃ v9 v10 v11, σ' = [some (.ref a), some (.int c0), some (.int m), some (.int unit), some (.ref pvl), some (.ref pz), some (.ref po), some (.int z), some (.ref o1), v9, v10, v11, none, none, none, none, none, none] ∧ (∀ b o, b ≠ po → H10 b = some o → H' b = some o) ∧ H' po = some (.lst (ol.map V.ref)) ∧ (∀ o ∈ ol, o ≠ po ∧ OV m H' o) ∧ OV m H' o1) (fun σ' H' h => ?_) (fun R j => ?_)
      rotate_left
      · refine seq_step ?_
        walk_at "rd"
        refine ite_d (fun hm0 => ?_) (fun _ => j _ _ ⟨_, _, _, rfl, kp12, eo12, fun o h => ⟨(hO12 o h).1, (hO12 o h).2.2⟩, vals, hl2, gv.mono (by omega), rv, hvl⟩)
        refine seq_step ?_
        walk_at "rd"
        have fa := fm_pos (c := z) (m := (m : Int)) (by omega)
        obtain ⟨w, hw⟩ : ∃ w : Nat, z.fmod (m : Int) = (w : Int) := ⟨(z.fmod (m : Int)).toNat, by omega⟩
        refine ⟨by omega, ?_⟩
        rw [hw]
        have hwm : w < vals.length := by omega
        have gw := gv _ (List.getElem_mem hwm)
        refine hv12.get (List.getElem?_eq_getElem hwm) fun q1 hq1 => ?_
        refine gTup_of (sqt hq1) rfl ?_
        walk_at "rd"
        refine seq_step ?_
        walk_at "rd"
        have f5 := fm_pos (c := z.fdiv 6) (m := 5) (by decide)
        have f7 := fm_pos (c := z.fdiv 30) (m := 7) (by decide)
        obtain ⟨part, hpart⟩ : ∃ part, 1 + (z.fdiv 6).fmod 5 = part := ⟨_, rfl⟩
        rw [hpart]
        have sp : Sz 3 part := by unfold Sz; omega
        have sT := gw.2.2.1.mul sp (c := 53) (by omega)
        have sU := gw.2.2.2.mul sp (c := 53) (by omega)
        have pU : 0 < vals[w].2 * part := Int.mul_pos gw.2.1 (by omega)
        refine ⟨gw.2.2.1.mulW sp (by omega), ?_⟩
        refine ⟨gw.2.2.2.mulW sp (by omega), ?_⟩
        obtain ⟨T, hT, hT0, sT2⟩ : ∃ T : Int, (if vals[w].1 * part + (z.fdiv 30).fmod 7 - 3 > 0 then vals[w].1 * part + (z.fdiv 30).fmod 7 - 3 else 0) = T ∧ 0 ≤ T ∧ Sz 55 T := by
          refine ⟨_, rfl, ?_, ?_⟩
          · split <;> omega
          · split
            · exact (sT.add (show Sz 3 ((z.fdiv 30).fmod 7) by unfold Sz; omega) (c := 54) (by omega) (by omega)).sub (show Sz 3 3 by unfold Sz; decide) (by omega) (by omega)
            · unfold Sz; decide
        rw [hT]
        refine ⟨_, _, rfl, by omega, sU.mono (by omega), fun t u p14 H14 low s14 e14 => ?_⟩
        have Rr := low.red pU
        have tn : 0 ≤ t := by
          have e := low.top
          have g := gcd_pos_right (a := T) (b := vals[w].2 * part) (by omega)
          rcases Int.lt_or_le t 0 with zz | zz
          · have := Int.mul_neg_of_neg_of_pos zz g; omega
          · exact zz
        refine ⟨by omega, ?_⟩
        rw [hw]
        obtain ⟨items, ei, li, hset⟩ := (hl2.keep s14).set (i := w) (x := (t, u)) e14
        refine ⟨o1, items, w, w, rfl, rfl, ei, by unfold ixN; rw [if_pos (by omega), if_pos (by omega), Int.toNat_natCast], ?_⟩
        refine j _ _ ⟨_, _, _, rfl, fun b o n e => ?_, ?_, fun o h => ⟨(hO12 o h).1, ?_⟩, _, hset, (gv.mono (by omega)).set ⟨tn, Rr.pos, Sz.le Rr.tle (sT2.mono (by omega)), Sz.le Rr.ule (sU.mono (by omega))⟩, rv.set Rr.one, by simp [hvl]⟩
        · rw [upd_ne (ko1 b o e n)]; exact s14 _ _ (kp12 b o n e)
        · rw [upd_ne (Ne.symm no1)]; exact s14 _ _ eo12
        · exact ((hO12 o h).2.2.keep s14).upd ei (hO12 o h).2.1
      obtain ⟨v9, v10, v11, rfl, kp', eo', hO', hv'⟩ := h
      walk_at "rd"
      refine ⟨.ref po, rfl, .inl ⟨rfl, _, .of eo'⟩, ?_⟩
      walk_at "rd"
      refine app_at eo' (by rw [List.length_map, hol]; omega) ?_
      walk_at "rd"
      refine ⟨ol ++ [o1], _, _, _, _, _, rfl, fun b o n e => ?_, ?_, by simp [hol], fun o h => ?_⟩
      · rw [upd_ne n]; exact kp' b o n e
      · rw [upd_same, List.map_append]; rfl
      · rcases List.mem_append.mp h with h | h
        · exact ⟨(hO' o h).1, (hO' o h).2.upd eo' (hO' o h).1⟩
        · have : o = o1 := by simpa using h
          rw [this]
          exact ⟨no1, hv'.upd eo' no1⟩
    · rintro σ' H11 ⟨ol, v7, v8, v9, v10, v11, rfl, kp, eo, hol, hO⟩
      walk_at "rd"
      have z11 := (z9.keep s10).kp npz.1 npz.2 kp
      have hO2 : ∀ o ∈ ol, OV m H11 o := fun o h => (hO o h).2
      clear kp hO hv10 hv9 hS9 e9 e10 s10 eo10 z9 fpl npl vno
      refine seq_step ?_
      walk_at "rd"
      refine ⟨m, rfl, by omega, fun pw aw H12 s12 zw fw faw => ?_⟩
      walk_at "rd"
      refine seq_step ?_
      walk_at "rd"
      refine ⟨m, rfl, by omega, fun pn an H13 s13 zn fn fan => ?_⟩
      walk_at "rd"
      refine seq_step ?_
      walk_at "rd"
      refine ⟨m, rfl, by omega, fun pp ap H14 s14 zp => ?_⟩
      refine ⟨_, _, (zw.keep (s13.trans s14)).dp, zp.dp, shaped_zone _ _, shaped_zone _ _, ?_⟩
      rw [SeqAt.eqv_refl _ (lay_zone _ _).1]
      walk_at "rd"
      refine lc_rowsR (n := m + 1) (M := oneM) (by omega) (by simp) (fun Q1 h => ?_) (fun i H1 Q1 hi h => ?_) (fun po1 ao1 H15 s15 z15 _ _ => ?_)
      · walk_at "rd"
        exact h
      · walk_at "rd"
        intro p5 H5 s5 _ e5
        refine ⟨_, e5, by omega, by omega, small1000' (by simp; omega), fun r H6 s6 fr e6 => ?_⟩
        refine h r H6 (s5.trans s6) (s5.free fr) ?_
        rw [e6, show ((m : Int) + 1).toNat = m + 1 by omega]
        exact congrArg (fun x => some (HO.lst x)) (zrow_rep (m + 1) (some 1))
      walk_at "rd"
      refine ⟨_, _, (zn.keep (s14.trans s15)).dp, z15.dp, shaped_zone _ _, shaped_zone _ _, ?_⟩
      rw [SeqAt.eqv_refl _ (lay_zone _ _).1]
      walk_at "rd"
      have sHH := s12.trans (s13.trans (s14.trans s15))
      have zz := z11.keep sHH
      have zw15 := zw.keep (s13.trans (s14.trans s15))
      have zn15 := zn.keep (s14.trans s15)
      have eo15 := sHH _ _ eo
      have hO15 : ∀ o ∈ ol, OV m H15 o := fun o h => (hO2 o h).keep sHH
      have sM9 : SzM 9000 M := sM.mono (by omega)
      have sE : SzM 9000 evM := fun i j v h => by
        unfold evM at h
        split at h
        · cases h; unfold Sz; exact Nat.one_lt_two_pow (by decide)
        · cases h
      have sO : SzM 9000 oneM := fun i j v h => by
        cases h; unfold Sz; exact Nat.one_lt_two_pow (by decide)
      have nrows : ∀ r ∈ aw, r ≠ pn := fun r h => by
        obtain ⟨j, hj, e⟩ := List.mem_iff_getElem.mp h
        exact ne_of_none (zw.row j r (by rw [List.getElem?_eq_getElem hj, e])) fn
      clear sHH s12 s13 s14 s15 z11 zw zn eo hO2 zp z15
      refine seq_step ?_
      refine for_li ?_
      walk_at "rd"
      refine forL_by (xs := ol.map V.ref) (TstInv H15 [some (.ref a), some (.int c0), some (.int m), some (.int unit), some (.ref pvl), some (.ref pz), some (.ref po), v7] [v9, v10, v11, some (.ref pw), some (.ref pn)]) ⟨_, _, _, rfl, Same.refl _⟩ (fun i σ H' _ ⟨_, _, _, _, s⟩ => .of (s _ _ eo15)) ?_ ?_
      · rintro i x σ' H16 hi ⟨u8, u14, u15, rfl, s16⟩
        obtain ⟨o1, ho1, rfl⟩ : ∃ o1, o1 ∈ ol ∧ x = .ref o1 := by
          obtain ⟨o1, h1, h2⟩ := List.mem_map.mp (List.mem_of_getElem? hi)
          exact ⟨o1, h1, h2.symm⟩
        obtain ⟨xs1, hv1, gv1, rv1, hl1⟩ := hO15 o1 ho1
        have v1 : Vals0 (m + 1) (plc xs1) := plc_vals gv1 (by decide) _
        walk_at "rd"
        refine seq_step ?_
        walk_at "rd"
        refine lc_copy (zz.keep s16) (by omega) rfl (by simp) fun ph ah H17 s17 zh _ _ => ?_
        walk_at "rd"
        have s17' := s16.trans s17
        obtain ⟨qs, qa, qb, qc⟩ := hv1.keep s17'
        refine ⟨_, .inl (.of qa), fun l3 H18 s18 _ e18 => ?_⟩
        have hl3 : VAt H18 l3 xs1 := ⟨qs, e18, qb, fun i q x h1 h2 => s18 _ _ (qc i q x h1 h2)⟩
        intro phd H19 s19 _ e19
        have s19' := s17'.trans (s18.trans s19)
        refine seq_step ?_
        walk_at "rd"
        refine ix_l (.of e19) (by decide) rfl ?_
        walk_at "rd"
        refine ix_l (.of e19) (by decide) rfl ?_
        walk_at "rd"
        refine ⟨ph, l3, ah, m + 1, M, xs1, rfl, zh.keep (s18.trans s19), hl3.keep s19, gv1, by omega, by omega, sM9, fun told H20 s20 htold => ?_⟩
        walk_at "rd"
        refine seq_step ?_
        walk_at "rd"
        refine isi (r := true) (.base (.bl _)) (by decide +kernel) ?_
        walk_at "rd"
        have s20' := s19'.trans s20
        refine ⟨pz, o1, az, m + 1, M, xs1, rfl, zz.keep s20', hv1.keep s20', gv1, by omega, by omega, sM9, fun due H21 s21 hdue => ?_⟩
        have htd : due = told := by
          have h := hdue.trans htold.symm
          cases due <;> cases told <;> simp_all
        subst htd
        walk_at "rd"
        intro pq H22 s22 _ e22
        have s22' := s20'.trans (s21.trans s22)
        refine ⟨_, _, dp_pair ((s20.trans (s21.trans s22)) _ _ e19) (zh.keep (s18.trans (s19.trans (s20.trans (s21.trans s22))))) (hl3.keep (s19.trans (s20.trans (s21.trans s22)))), dp_pair e22 (zz.keep s22') (hv1.keep s22'), shaped_pair _ _ _, shaped_pair _ _ _, ?_⟩
        rw [SeqAt.eqv_refl _ (lay_pair _ _ _).1]
        walk_at "rd"
        refine ⟨pw, o1, aw, m + 1, evM, xs1, rfl, zw15.keep s22', hv1.keep s22', gv1, by omega, by omega, sE, fun all H23 s23 hall => ?_⟩
        obtain rfl : all = true := hall.mpr (lies_ev v1)
        walk_at "rd"
        have s23' := s22'.trans s23
        refine ⟨pn, o1, an, m + 1, oneM, xs1, rfl, zn15.keep s23', hv1.keep s23', gv1, by omega, by omega, sO, fun one H24 s24 hone => ?_⟩
        walk_at "rd"
        intro p25 H25 s25 _ e25 p26 H26 s26 _ e26
        refine ⟨_, e26, by omega, by omega, small1000' (by simp; omega), fun p27 H27 s27 _ e27 => ?_⟩
        have vno : VAt H27 p27 (List.replicate m (0, 1)) := ⟨List.replicate m p25, by rw [e27, List.flatten_replicate_singleton, List.map_replicate, Int.toNat_natCast], by simp, fun i q x h1 h2 => by
          have h1 := List.eq_of_mem_replicate (List.mem_of_getElem? h1)
          have h2 := List.eq_of_mem_replicate (List.mem_of_getElem? h2)
          subst h1; subst h2
          exact s27 _ _ (s26 _ _ e25)⟩
        have s27' := s23'.trans (s24.trans (s25.trans (s26.trans s27)))
        refine ⟨_, _, (hv1.keep s27').dp, vno.dp, shaped_vals _, shaped_vals _, ?_⟩
        rw [eqv_vals (by simp [hl1])]
        have hx : one = decide (xs1 = List.replicate m (0, 1)) := by
          have h := hone.trans (lies_noughts gv1 (by decide) rv1 (by omega))
          rw [hl1] at h
          exact Bool.eq_iff_iff.mpr (h.trans decide_eq_true_iff.symm)
        rw [← hx]
        walk_at "rd"
        exact ⟨_, _, _, rfl, s16.trans ((s17.trans (s18.trans s19)).trans (s20.trans (s21.trans (s22.trans (s23.trans (s24.trans (s25.trans (s26.trans s27))))))))⟩
      · rintro σ' H16 ⟨u8, u14, u15, rfl, s16⟩
        walk_at "rd"
        refine seq_step ?_
        walk_at "rd"
        have zw16 := zw15.keep s16
        have zn16 := zn15.keep s16
        refine ix_top (i := 0) zw16 (by omega) fun r er hr => ?_
        refine set_at (K := K) (x := some 9) (j := 0) hr (by omega) ?_
        have ep : upd H16 r (.lst ((zrow (m + 1) (evM 0)).set 0 (oV (some 9)))) pn = some (.lst (an.map V.ref)) := by
          rw [upd_ne (Ne.symm (nrows r (List.mem_of_getElem? er)))]; exact zn16.top
        generalize upd H16 r (.lst ((zrow (m + 1) (evM 0)).set 0 (oV (some 9)))) = H17 at ep ⊢
        refine seq_step ?_
        walk_at "rd"
        refine ⟨.ref pn, rfl, .inl ⟨rfl, _, .of ep⟩, pn, _, rfl, rfl, ep, ?_⟩
        generalize upd H17 pn _ = H18
        walk_at "rd"
        refine ⟨m, rfl, by omega, fun pa aa H19 s19 za _ _ => ?_⟩
        refine ⟨m, rfl, by omega, fun pb ab H20 s20 zb => ?_⟩
        refine ⟨_, _, (za.keep s20).dp, zb.dp, shaped_zone _ _, shaped_zone _ _, ?_⟩
        rw [SeqAt.eqv_refl _ (lay_zone _ _).1]
        walk_at "rd"
        refine ⟨m, rfl, by omega, fun pc ac H21 s21 zc _ _ => ?_⟩
        refine lc_rowsR (n := m + 1) (M := oneM) (by omega) (by simp) (fun Q1 h => ?_) (fun i H1 Q1 hi h => ?_) (fun po1 ao1 H22 s22 z22 _ _ => ?_)
        · walk_at "rd"
          exact h
        · walk_at "rd"
          intro p5 H5 s5 _ e5
          refine ⟨_, e5, by omega, by omega, small1000' (by simp; omega), fun r H6 s6 fr e6 => ?_⟩
          refine h r H6 (s5.trans s6) (s5.free fr) ?_
          rw [e6, show ((m : Int) + 1).toNat = m + 1 by omega]
          exact congrArg (fun x => some (HO.lst x)) (zrow_rep (m + 1) (some 1))
        refine ⟨_, _, (zc.keep s22).dp, z22.dp, shaped_zone _ _, shaped_zone _ _, ?_⟩
        rw [SeqAt.eqv_refl _ (lay_zone _ _).1]
        exact q _
end
/-! ### what the top has left -/
theorem all_mk {P : Program} {w : World} {K : PySem.W.Frag} {h : Heap} {mg : Str → Option Value} {fa : Addr} (X : K.In h) (G : h.Ns mainGlobals mg) (hfa : mg "law" = some (.ref fa))
    {f0 : Addr} {od0 an0 : Option Addr} {sl0 : Array (Option Value)} {oc0 kV0 dc0 pm0 cd0 ct0 : Value}
    {f1 : Addr} {od1 an1 : Option Addr} {sl1 : Array (Option Value)} {oc1 kV1 dc1 pm1 cd1 ct1 : Value}
    {f2 : Addr} {od2 an2 : Option Addr} {sl2 : Array (Option Value)} {oc2 kV2 dc2 pm2 cd2 ct2 : Value}
    {f3 : Addr} {od3 an3 : Option Addr} {sl3 : Array (Option Value)} {oc3 kV3 dc3 pm3 cd3 ct3 : Value}
    {f4 : Addr} {od4 an4 : Option Addr} {sl4 : Array (Option Value)} {oc4 kV4 dc4 pm4 cd4 ct4 : Value}
    {f5 : Addr} {od5 an5 : Option Addr} {sl5 : Array (Option Value)} {oc5 kV5 dc5 pm5 cd5 ct5 : Value}
    {t5 : Addr} {o5 : Obj} {n5 : Nat}
    {tk5 : Tok}
    {f6 : Addr} {od6 an6 : Option Addr} {sl6 : Array (Option Value)} {oc6 kV6 dc6 pm6 cd6 ct6 : Value}
    {f7 : Addr} {od7 an7 : Option Addr} {sl7 : Array (Option Value)} {oc7 kV7 dc7 pm7 cd7 ct7 : Value}
    {f8 : Addr} {od8 an8 : Option Addr} {sl8 : Array (Option Value)} {oc8 kV8 dc8 pm8 cd8 ct8 : Value}
    {f9 : Addr} {od9 an9 : Option Addr} {sl9 : Array (Option Value)} {oc9 kV9 dc9 pm9 cd9 ct9 : Value}
    {f10 : Addr} {od10 an10 : Option Addr} {sl10 : Array (Option Value)} {oc10 kV10 dc10 pm10 cd10 ct10 : Value}
    {f11 : Addr} {od11 an11 : Option Addr} {sl11 : Array (Option Value)} {oc11 kV11 dc11 pm11 cd11 ct11 : Value}
    {f12 : Addr} {od12 an12 : Option Addr} {sl12 : Array (Option Value)} {oc12 kV12 dc12 pm12 cd12 ct12 : Value}
    {f13 : Addr} {od13 an13 : Option Addr} {sl13 : Array (Option Value)} {oc13 kV13 dc13 pm13 cd13 ct13 : Value}
    {f14 : Addr} {od14 an14 : Option Addr} {sl14 : Array (Option Value)} {oc14 kV14 dc14 pm14 cd14 ct14 : Value}
    {f15 : Addr} {od15 an15 : Option Addr} {sl15 : Array (Option Value)} {oc15 kV15 dc15 pm15 cd15 ct15 : Value}
    {f16 : Addr} {od16 an16 : Option Addr} {sl16 : Array (Option Value)} {oc16 kV16 dc16 pm16 cd16 ct16 : Value}
    {f17 : Addr} {od17 an17 : Option Addr} {sl17 : Array (Option Value)} {oc17 kV17 dc17 pm17 cd17 ct17 : Value}
    {f18 : Addr} {od18 an18 : Option Addr} {sl18 : Array (Option Value)} {oc18 kV18 dc18 pm18 cd18 ct18 : Value}
    {f19 : Addr} {od19 an19 : Option Addr} {sl19 : Array (Option Value)} {oc19 kV19 dc19 pm19 cd19 ct19 : Value}
    {CNoNumber : Addr}
    {uNOUGHT : Tok}
    (a0 : PySem.W.nsIn K mainGlobals "number_of" = some (some (.ref f0)))
    (l0 : K.lookup f0 = some ⟨oc0, od0, .func (PySem.W.fnOf "number_of" "number_of" (defArgs s_number_of) (defBody s_number_of) (defScope s_number_of) .none kV0 dc0 pm0 an0 cd0 ct0), sl0⟩)
    (c0 : PySem.W.codeIn K cd0 "number_of" = true)
    (k0 : PySem.W.keepIn K (.ref f0) = true)
    (a1 : PySem.W.nsIn K mainGlobals "is_open" = some (some (.ref f1)))
    (l1 : K.lookup f1 = some ⟨oc1, od1, .func (PySem.W.fnOf "is_open" "is_open" (defArgs s_is_open) (defBody s_is_open) (defScope s_is_open) .none kV1 dc1 pm1 an1 cd1 ct1), sl1⟩)
    (c1 : PySem.W.codeIn K cd1 "is_open" = true)
    (k1 : PySem.W.keepIn K (.ref f1) = true)
    (a2 : PySem.W.nsIn K mainGlobals "lets" = some (some (.ref f2)))
    (l2 : K.lookup f2 = some ⟨oc2, od2, .func (PySem.W.fnOf "lets" "lets" (defArgs s_lets) (defBody s_lets) (defScope s_lets) .none kV2 dc2 pm2 an2 cd2 ct2), sl2⟩)
    (c2 : PySem.W.codeIn K cd2 "lets" = true)
    (k2 : PySem.W.keepIn K (.ref f2) = true)
    (a3 : PySem.W.nsIn K mainGlobals "is_whole" = some (some (.ref f3)))
    (l3 : K.lookup f3 = some ⟨oc3, od3, .func (PySem.W.fnOf "is_whole" "is_whole" (defArgs s_is_whole) (defBody s_is_whole) (defScope s_is_whole) .none kV3 dc3 pm3 an3 cd3 ct3), sl3⟩)
    (c3 : PySem.W.codeIn K cd3 "is_whole" = true)
    (k3 : PySem.W.keepIn K (.ref f3) = true)
    (a4 : PySem.W.nsIn K mainGlobals "divisor" = some (some (.ref f4)))
    (l4 : K.lookup f4 = some ⟨oc4, od4, .func (PySem.W.fnOf "divisor" "divisor" (defArgs s_divisor) (defBody s_divisor) (defScope s_divisor) .none kV4 dc4 pm4 an4 cd4 ct4), sl4⟩)
    (c4 : PySem.W.codeIn K cd4 "divisor" = true)
    (k4 : PySem.W.keepIn K (.ref f4) = true)
    (a5 : PySem.W.nsIn K mainGlobals "fraction" = some (some (.ref f5)))
    (l5 : K.lookup f5 = some ⟨oc5, od5, .func (PySem.W.fnOf "fraction" "fraction" (defArgs s_fraction) (defBody s_fraction) (defScope s_fraction) (.ref t5) kV5 dc5 pm5 an5 cd5 ct5), sl5⟩)
    (c5 : PySem.W.codeIn K cd5 "fraction" = true)
    (k5 : PySem.W.keepIn K (.ref f5) = true)
    (lt5 : K.lookup t5 = some o5)
    (ld5 : o5.data = .seq ([Value.int 1 tk5] : List Value).toArray n5)
    (a6 : PySem.W.nsIn K mainGlobals "minus" = some (some (.ref f6)))
    (l6 : K.lookup f6 = some ⟨oc6, od6, .func (PySem.W.fnOf "minus" "minus" (defArgs s_minus) (defBody s_minus) (defScope s_minus) .none kV6 dc6 pm6 an6 cd6 ct6), sl6⟩)
    (c6 : PySem.W.codeIn K cd6 "minus" = true)
    (k6 : PySem.W.keepIn K (.ref f6) = true)
    (a7 : PySem.W.nsIn K mainGlobals "everywhere" = some (some (.ref f7)))
    (l7 : K.lookup f7 = some ⟨oc7, od7, .func (PySem.W.fnOf "everywhere" "everywhere" (defArgs s_everywhere) (defBody s_everywhere) (defScope s_everywhere) .none kV7 dc7 pm7 an7 cd7 ct7), sl7⟩)
    (c7 : PySem.W.codeIn K cd7 "everywhere" = true)
    (k7 : PySem.W.keepIn K (.ref f7) = true)
    (a8 : PySem.W.nsIn K mainGlobals "nought" = some (some (.ref f8)))
    (l8 : K.lookup f8 = some ⟨oc8, od8, .func (PySem.W.fnOf "nought" "nought" (defArgs s_nought) (defBody s_nought) (defScope s_nought) .none kV8 dc8 pm8 an8 cd8 ct8), sl8⟩)
    (c8 : PySem.W.codeIn K cd8 "nought" = true)
    (k8 : PySem.W.keepIn K (.ref f8) = true)
    (a9 : PySem.W.nsIn K mainGlobals "lies_in" = some (some (.ref f9)))
    (l9 : K.lookup f9 = some ⟨oc9, od9, .func (PySem.W.fnOf "lies_in" "lies_in" (defArgs s_lies_in) (defBody s_lies_in) (defScope s_lies_in) .none kV9 dc9 pm9 an9 cd9 ct9), sl9⟩)
    (c9 : PySem.W.codeIn K cd9 "lies_in" = true)
    (k9 : PySem.W.keepIn K (.ref f9) = true)
    (a10 : PySem.W.nsIn K mainGlobals "_law_cell_at" = some (some (.ref f10)))
    (l10 : K.lookup f10 = some ⟨oc10, od10, .func (PySem.W.fnOf "_law_cell_at" "_law_cell_at" (defArgs s_l_cell_at) (defBody s_l_cell_at) (defScope s_l_cell_at) .none kV10 dc10 pm10 an10 cd10 ct10), sl10⟩)
    (c10 : PySem.W.codeIn K cd10 "_law_cell_at" = true)
    (k10 : PySem.W.keepIn K (.ref f10) = true)
    (a11 : PySem.W.nsIn K mainGlobals "_law_stream" = some (some (.ref f11)))
    (l11 : K.lookup f11 = some ⟨oc11, od11, .func (PySem.W.fnOf "_law_stream" "_law_stream" (defArgs s_l_stream) (defBody s_l_stream) (defScope s_l_stream) .none kV11 dc11 pm11 an11 cd11 ct11), sl11⟩)
    (c11 : PySem.W.codeIn K cd11 "_law_stream" = true)
    (k11 : PySem.W.keepIn K (.ref f11) = true)
    (a12 : PySem.W.nsIn K mainGlobals "_law_lowest" = some (some (.ref f12)))
    (l12 : K.lookup f12 = some ⟨oc12, od12, .func (PySem.W.fnOf "_law_lowest" "_law_lowest" (defArgs s_l_lowest) (defBody s_l_lowest) (defScope s_l_lowest) .none kV12 dc12 pm12 an12 cd12 ct12), sl12⟩)
    (c12 : PySem.W.codeIn K cd12 "_law_lowest" = true)
    (k12 : PySem.W.keepIn K (.ref f12) = true)
    (a13 : PySem.W.nsIn K mainGlobals "_law_values" = some (some (.ref f13)))
    (l13 : K.lookup f13 = some ⟨oc13, od13, .func (PySem.W.fnOf "_law_values" "_law_values" (defArgs s_l_values) (defBody s_l_values) (defScope s_l_values) .none kV13 dc13 pm13 an13 cd13 ct13), sl13⟩)
    (c13 : PySem.W.codeIn K cd13 "_law_values" = true)
    (k13 : PySem.W.keepIn K (.ref f13) = true)
    (a14 : PySem.W.nsIn K mainGlobals "_law_minus" = some (some (.ref f14)))
    (l14 : K.lookup f14 = some ⟨oc14, od14, .func (PySem.W.fnOf "_law_minus" "_law_minus" (defArgs s_l_minus) (defBody s_l_minus) (defScope s_l_minus) .none kV14 dc14 pm14 an14 cd14 ct14), sl14⟩)
    (c14 : PySem.W.codeIn K cd14 "_law_minus" = true)
    (k14 : PySem.W.keepIn K (.ref f14) = true)
    (a15 : PySem.W.nsIn K mainGlobals "_law_rows" = some (some (.ref f15)))
    (l15 : K.lookup f15 = some ⟨oc15, od15, .func (PySem.W.fnOf "_law_rows" "_law_rows" (defArgs s_l_rows) (defBody s_l_rows) (defScope s_l_rows) .none kV15 dc15 pm15 an15 cd15 ct15), sl15⟩)
    (c15 : PySem.W.codeIn K cd15 "_law_rows" = true)
    (k15 : PySem.W.keepIn K (.ref f15) = true)
    (a16 : PySem.W.nsIn K mainGlobals "_law_lets" = some (some (.ref f16)))
    (l16 : K.lookup f16 = some ⟨oc16, od16, .func (PySem.W.fnOf "_law_lets" "_law_lets" (defArgs s_l_lets) (defBody s_l_lets) (defScope s_l_lets) .none kV16 dc16 pm16 an16 cd16 ct16), sl16⟩)
    (c16 : PySem.W.codeIn K cd16 "_law_lets" = true)
    (k16 : PySem.W.keepIn K (.ref f16) = true)
    (a17 : PySem.W.nsIn K mainGlobals "_law_lies" = some (some (.ref f17)))
    (l17 : K.lookup f17 = some ⟨oc17, od17, .func (PySem.W.fnOf "_law_lies" "_law_lies" (defArgs s_l_lies) (defBody s_l_lies) (defScope s_l_lies) .none kV17 dc17 pm17 an17 cd17 ct17), sl17⟩)
    (c17 : PySem.W.codeIn K cd17 "_law_lies" = true)
    (k17 : PySem.W.keepIn K (.ref f17) = true)
    (a18 : PySem.W.nsIn K mainGlobals "_law_plain" = some (some (.ref f18)))
    (l18 : K.lookup f18 = some ⟨oc18, od18, .func (PySem.W.fnOf "_law_plain" "_law_plain" (defArgs s_l_plain) (defBody s_l_plain) (defScope s_l_plain) .none kV18 dc18 pm18 an18 cd18 ct18), sl18⟩)
    (c18 : PySem.W.codeIn K cd18 "_law_plain" = true)
    (k18 : PySem.W.keepIn K (.ref f18) = true)
    (a19 : PySem.W.nsIn K mainGlobals "law" = some (some (.ref f19)))
    (l19 : K.lookup f19 = some ⟨oc19, od19, .func (PySem.W.fnOf "law" "law" (defArgs s_law) (defBody s_law) (defScope s_law) .none kV19 dc19 pm19 an19 cd19 ct19), sl19⟩)
    (c19 : PySem.W.codeIn K cd19 "law" = true)
    (k19 : PySem.W.keepIn K (.ref f19) = true)
    (gNoNumber : PySem.W.nsIn K mainGlobals "NoNumber" = some (some (.ref CNoNumber)))
    (xNoNumber : PySem.W.excIn K CNoNumber [.type "ValueError", .type "Exception", .type "BaseException", .type "object"] "ValueError.__new__" = true)
    (kNoNumber : PySem.W.keepIn K (.ref CNoNumber) = true)
    (bNoNumber : PySem.W.subIn K (.ref CNoNumber) (.type "BaseException") = some true)
    (tNoNumber : PySem.W.typeIn K (.ref CNoNumber) = some (.type "type"))
    (iNoNumber : PySem.W.isClsIn K CNoNumber = true)
    (gNOUGHT : PySem.W.nsIn K mainGlobals "NOUGHT" = some (some (.int 1 uNOUGHT)))
    (zabs : PySem.W.nsIn K mainGlobals "abs" = some none)
    (zbool : PySem.W.nsIn K mainGlobals "bool" = some none)
    (zint : PySem.W.nsIn K mainGlobals "int" = some none)
    (zisinstance : PySem.W.nsIn K mainGlobals "isinstance" = some none)
    (zlen : PySem.W.nsIn K mainGlobals "len" = some none)
    (zlist : PySem.W.nsIn K mainGlobals "list" = some none)
    (zmax : PySem.W.nsIn K mainGlobals "max" = some none)
    (zrange : PySem.W.nsIn K mainGlobals "range" = some none) :
    ∃ fd : FuncData, (∀ (s : Shared) (v : Value), BindsTo s fd ⟨[v], []⟩ [("_law_script", v)]) ∧ ∀ base : Heap, K.In base → base.Ns mainGlobals mg → FnOk P w K mg base CX0 5 fa fd ["_law_script"] (spLaw K) := by
  have e := hfa.symm.trans (PySem.W.mg_of X G a19)
  cases e
  have F5 := funD_mk (st := s_fraction) (dvs := [.int 1]) l5 c5 k5 lt5 ld5 (.cons ⟨_, rfl⟩ .nil) (by simp)
  obtain ⟨dz5, vz5, bz5⟩ := F5.binds1 (ps := ["top", "bottom"]) 2 1 (by simp) rfl fun _ _ _ _ _ _ _ us its h1 h2 => match us, h1, its, h2 with | [_, _], _, [_], _ => ⟨_, rfl, rfl⟩
  cases vz5
  obtain ⟨dd5, vd5, bd5⟩ := F5.binds1 (ps := ["top", "bottom"]) 1 0 (by simp) rfl fun _ _ _ _ _ _ _ us its h1 h2 => match us, h1, its, h2 with | [_], _, [_], _ => ⟨_, rfl, rfl⟩
  let T : Top K mg := {
      f_number_of := f0,
      d_number_of := _,
      F_number_of := fun_mk (st := s_number_of) l0 c0 k0,
      g_number_of := PySem.W.mg_of X G a0,
      b_number_of := (fun_mk (st := s_number_of) l0 c0 k0).binds (ps := ["bound"]) fun _ _ _ _ _ _ us hl => match us, hl with | [_], _ => rfl,
      f_is_open := f1,
      d_is_open := _,
      F_is_open := fun_mk (st := s_is_open) l1 c1 k1,
      g_is_open := PySem.W.mg_of X G a1,
      b_is_open := (fun_mk (st := s_is_open) l1 c1 k1).binds (ps := ["bound"]) fun _ _ _ _ _ _ us hl => match us, hl with | [_], _ => rfl,
      f_lets := f2,
      d_lets := _,
      F_lets := fun_mk (st := s_lets) l2 c2 k2,
      g_lets := PySem.W.mg_of X G a2,
      b_lets := (fun_mk (st := s_lets) l2 c2 k2).binds (ps := ["bound", "value"]) fun _ _ _ _ _ _ us hl => match us, hl with | [_, _], _ => rfl,
      f_is_whole := f3,
      d_is_whole := _,
      F_is_whole := fun_mk (st := s_is_whole) l3 c3 k3,
      g_is_whole := PySem.W.mg_of X G a3,
      b_is_whole := (fun_mk (st := s_is_whole) l3 c3 k3).binds (ps := ["thing"]) fun _ _ _ _ _ _ us hl => match us, hl with | [_], _ => rfl,
      f_divisor := f4,
      d_divisor := _,
      F_divisor := fun_mk (st := s_divisor) l4 c4 k4,
      g_divisor := PySem.W.mg_of X G a4,
      b_divisor := (fun_mk (st := s_divisor) l4 c4 k4).binds (ps := ["one", "other"]) fun _ _ _ _ _ _ us hl => match us, hl with | [_, _], _ => rfl,
      f_fraction := f5,
      d_fraction := _,
      F_fraction := F5,
      g_fraction := PySem.W.mg_of X G a5,
      b_fraction := bz5,
      dv_fraction := dd5,
      v_fraction := vd5,
      bd_fraction := bd5,
      f_minus := f6,
      d_minus := _,
      F_minus := fun_mk (st := s_minus) l6 c6 k6,
      g_minus := PySem.W.mg_of X G a6,
      b_minus := (fun_mk (st := s_minus) l6 c6 k6).binds (ps := ["one", "other"]) fun _ _ _ _ _ _ us hl => match us, hl with | [_, _], _ => rfl,
      f_everywhere := f7,
      d_everywhere := _,
      F_everywhere := fun_mk (st := s_everywhere) l7 c7 k7,
      g_everywhere := PySem.W.mg_of X G a7,
      b_everywhere := (fun_mk (st := s_everywhere) l7 c7 k7).binds (ps := ["many"]) fun _ _ _ _ _ _ us hl => match us, hl with | [_], _ => rfl,
      f_nought := f8,
      d_nought := _,
      F_nought := fun_mk (st := s_nought) l8 c8 k8,
      g_nought := PySem.W.mg_of X G a8,
      b_nought := (fun_mk (st := s_nought) l8 c8 k8).binds (ps := ["many"]) fun _ _ _ _ _ _ us hl => match us, hl with | [_], _ => rfl,
      f_lies_in := f9,
      d_lies_in := _,
      F_lies_in := fun_mk (st := s_lies_in) l9 c9 k9,
      g_lies_in := PySem.W.mg_of X G a9,
      b_lies_in := (fun_mk (st := s_lies_in) l9 c9 k9).binds (ps := ["zone", "values"]) fun _ _ _ _ _ _ us hl => match us, hl with | [_, _], _ => rfl,
      f_l_cell_at := f10,
      d_l_cell_at := _,
      F_l_cell_at := fun_mk (st := s_l_cell_at) l10 c10 k10,
      g_l_cell_at := PySem.W.mg_of X G a10,
      b_l_cell_at := (fun_mk (st := s_l_cell_at) l10 c10 k10).binds (ps := ["_law_script", "_law_k"]) fun _ _ _ _ _ _ us hl => match us, hl with | [_, _], _ => rfl,
      f_l_stream := f11,
      d_l_stream := _,
      F_l_stream := fun_mk (st := s_l_stream) l11 c11 k11,
      g_l_stream := PySem.W.mg_of X G a11,
      b_l_stream := (fun_mk (st := s_l_stream) l11 c11 k11).binds (ps := ["_law_cell", "_law_many"]) fun _ _ _ _ _ _ us hl => match us, hl with | [_, _], _ => rfl,
      f_l_lowest := f12,
      d_l_lowest := _,
      F_l_lowest := fun_mk (st := s_l_lowest) l12 c12 k12,
      g_l_lowest := PySem.W.mg_of X G a12,
      b_l_lowest := (fun_mk (st := s_l_lowest) l12 c12 k12).binds (ps := ["_law_top", "_law_bottom"]) fun _ _ _ _ _ _ us hl => match us, hl with | [_, _], _ => rfl,
      f_l_values := f13,
      d_l_values := _,
      F_l_values := fun_mk (st := s_l_values) l13 c13 k13,
      g_l_values := PySem.W.mg_of X G a13,
      b_l_values := (fun_mk (st := s_l_values) l13 c13 k13).binds (ps := ["_law_xs", "_law_many", "_law_unit"]) fun _ _ _ _ _ _ us hl => match us, hl with | [_, _, _], _ => rfl,
      f_l_minus := f14,
      d_l_minus := _,
      F_l_minus := fun_mk (st := s_l_minus) l14 c14 k14,
      g_l_minus := PySem.W.mg_of X G a14,
      b_l_minus := (fun_mk (st := s_l_minus) l14 c14 k14).binds (ps := ["_law_one", "_law_other"]) fun _ _ _ _ _ _ us hl => match us, hl with | [_, _], _ => rfl,
      f_l_rows := f15,
      d_l_rows := _,
      F_l_rows := fun_mk (st := s_l_rows) l15 c15 k15,
      g_l_rows := PySem.W.mg_of X G a15,
      b_l_rows := (fun_mk (st := s_l_rows) l15 c15 k15).binds (ps := ["_law_values_here", "_law_xs"]) fun _ _ _ _ _ _ us hl => match us, hl with | [_, _], _ => rfl,
      f_l_lets := f16,
      d_l_lets := _,
      F_l_lets := fun_mk (st := s_l_lets) l16 c16 k16,
      g_l_lets := PySem.W.mg_of X G a16,
      b_l_lets := (fun_mk (st := s_l_lets) l16 c16 k16).binds (ps := ["_law_bound", "_law_value"]) fun _ _ _ _ _ _ us hl => match us, hl with | [_, _], _ => rfl,
      f_l_lies := f17,
      d_l_lies := _,
      F_l_lies := fun_mk (st := s_l_lies) l17 c17 k17,
      g_l_lies := PySem.W.mg_of X G a17,
      b_l_lies := (fun_mk (st := s_l_lies) l17 c17 k17).binds (ps := ["_law_zone", "_law_values_here"]) fun _ _ _ _ _ _ us hl => match us, hl with | [_, _], _ => rfl,
      f_l_plain := f18,
      d_l_plain := _,
      F_l_plain := fun_mk (st := s_l_plain) l18 c18 k18,
      g_l_plain := PySem.W.mg_of X G a18,
      b_l_plain := (fun_mk (st := s_l_plain) l18 c18 k18).binds (ps := ["_law_many"]) fun _ _ _ _ _ _ us hl => match us, hl with | [_], _ => rfl,
      f_law := fa,
      d_law := _,
      F_law := fun_mk (st := s_law) l19 c19 k19,
      g_law := PySem.W.mg_of X G a19,
      b_law := (fun_mk (st := s_law) l19 c19 k19).binds (ps := ["_law_script"]) fun _ _ _ _ _ _ us hl => match us, hl with | [_], _ => rfl,
      C_NoNumber := CNoNumber,
      g_NoNumber := PySem.W.mg_of X G gNoNumber,
      x_NoNumber := xNoNumber,
      k_NoNumber := kNoNumber,
      b_NoNumber := bNoNumber,
      t_NoNumber := tNoNumber,
      i_NoNumber := iNoNumber,
      t_NOUGHT := uNOUGHT,
      g_NOUGHT := PySem.W.mg_of X G gNOUGHT,
      m_abs := PySem.W.mg_none_of X G zabs,
      m_bool := PySem.W.mg_none_of X G zbool,
      m_int := PySem.W.mg_none_of X G zint,
      m_isinstance := PySem.W.mg_none_of X G zisinstance,
      m_len := PySem.W.mg_none_of X G zlen,
      m_list := PySem.W.mg_none_of X G zlist,
      m_max := PySem.W.mg_none_of X G zmax,
      m_range := PySem.W.mg_none_of X G zrange }
  exact ⟨_, fun s v => .of_eq rfl, fun base _ _ => ok_law T⟩
end ZW
open PySem PySem.W PyProof.Rows
set_option maxRecDepth 100000 in
set_option maxHeartbeats 0 in
theorem PySem.Challenge.cw_zonewalk_k13_where_values_lie_holds : PySem.Challenge.rw_zonewalk_k13_where_values_lie.Holds := by
  w_on; o_law; k_head; (case hw => w_witness2)
  k_fill
  refine L2.walk_of (l := PySem.Challenge.rw_zonewalk_k13_where_values_lie) (n := 63) (k := 5) (x := "_law_script") (CX := fun _ => L2.CX0) (sp := fun w => ZW.spLaw _) rfl (by decide) rfl ⟨rfl, by decide, by decide⟩ (fun w h Y => PySem.W.kIn_of Y) ?F (fun _ _ a ns hl _ hS => ⟨a, ns, rfl, hS, hl, fun _ => rfl⟩) (fun _ _ _ _ _ h => h)
  case F =>
    intro w mg fa h KX G hmg
    refine' ZW.all_mk KX G hmg ?a0 ?l0 ?c0 ?k0 ?a1 ?l1 ?c1 ?k1 ?a2 ?l2 ?c2 ?k2 ?a3 ?l3 ?c3 ?k3 ?a4 ?l4 ?c4 ?k4 ?a5 ?l5 ?c5 ?k5 ?lt5 ?ld5 ?a6 ?l6 ?c6 ?k6 ?a7 ?l7 ?c7 ?k7 ?a8 ?l8 ?c8 ?k8 ?a9 ?l9 ?c9 ?k9 ?a10 ?l10 ?c10 ?k10 ?a11 ?l11 ?c11 ?k11 ?a12 ?l12 ?c12 ?k12 ?a13 ?l13 ?c13 ?k13 ?a14 ?l14 ?c14 ?k14 ?a15 ?l15 ?c15 ?k15 ?a16 ?l16 ?c16 ?k16 ?a17 ?l17 ?c17 ?k17 ?a18 ?l18 ?c18 ?k18 ?a19 ?l19 ?c19 ?k19 ?gNoNumber ?xNoNumber ?kNoNumber ?bNoNumber ?tNoNumber ?iNoNumber ?gNOUGHT ?zabs ?zbool ?zint ?zisinstance ?zlen ?zlist ?zmax ?zrange
    (case a0 => first | k_is | k_exc | rfl)
    (case l0 => first | k_is | k_exc | rfl)
    (case c0 => first | k_is | k_exc | rfl)
    (case k0 => first | k_is | k_exc | rfl)
    (case a1 => first | k_is | k_exc | rfl)
    (case l1 => first | k_is | k_exc | rfl)
    (case c1 => first | k_is | k_exc | rfl)
    (case k1 => first | k_is | k_exc | rfl)
    (case a2 => first | k_is | k_exc | rfl)
    (case l2 => first | k_is | k_exc | rfl)
    (case c2 => first | k_is | k_exc | rfl)
    (case k2 => first | k_is | k_exc | rfl)
    (case a3 => first | k_is | k_exc | rfl)
    (case l3 => first | k_is | k_exc | rfl)
    (case c3 => first | k_is | k_exc | rfl)
    (case k3 => first | k_is | k_exc | rfl)
    (case a4 => first | k_is | k_exc | rfl)
    (case l4 => first | k_is | k_exc | rfl)
    (case c4 => first | k_is | k_exc | rfl)
    (case k4 => first | k_is | k_exc | rfl)
    (case a5 => first | k_is | k_exc | rfl)
    (case l5 => first | k_is | k_exc | rfl)
    (case c5 => first | k_is | k_exc | rfl)
    (case k5 => first | k_is | k_exc | rfl)
    (case lt5 => first | k_is | k_exc | rfl)
    (case ld5 => first | k_is | k_exc | rfl)
    (case a6 => first | k_is | k_exc | rfl)
    (case l6 => first | k_is | k_exc | rfl)
    (case c6 => first | k_is | k_exc | rfl)
    (case k6 => first | k_is | k_exc | rfl)
    (case a7 => first | k_is | k_exc | rfl)
    (case l7 => first | k_is | k_exc | rfl)
    (case c7 => first | k_is | k_exc | rfl)
    (case k7 => first | k_is | k_exc | rfl)
    (case a8 => first | k_is | k_exc | rfl)
    (case l8 => first | k_is | k_exc | rfl)
    (case c8 => first | k_is | k_exc | rfl)
    (case k8 => first | k_is | k_exc | rfl)
    (case a9 => first | k_is | k_exc | rfl)
    (case l9 => first | k_is | k_exc | rfl)
    (case c9 => first | k_is | k_exc | rfl)
    (case k9 => first | k_is | k_exc | rfl)
    (case a10 => first | k_is | k_exc | rfl)
    (case l10 => first | k_is | k_exc | rfl)
    (case c10 => first | k_is | k_exc | rfl)
    (case k10 => first | k_is | k_exc | rfl)
    (case a11 => first | k_is | k_exc | rfl)
    (case l11 => first | k_is | k_exc | rfl)
    (case c11 => first | k_is | k_exc | rfl)
    (case k11 => first | k_is | k_exc | rfl)
    (case a12 => first | k_is | k_exc | rfl)
    (case l12 => first | k_is | k_exc | rfl)
    (case c12 => first | k_is | k_exc | rfl)
    (case k12 => first | k_is | k_exc | rfl)
    (case a13 => first | k_is | k_exc | rfl)
    (case l13 => first | k_is | k_exc | rfl)
    (case c13 => first | k_is | k_exc | rfl)
    (case k13 => first | k_is | k_exc | rfl)
    (case a14 => first | k_is | k_exc | rfl)
    (case l14 => first | k_is | k_exc | rfl)
    (case c14 => first | k_is | k_exc | rfl)
    (case k14 => first | k_is | k_exc | rfl)
    (case a15 => first | k_is | k_exc | rfl)
    (case l15 => first | k_is | k_exc | rfl)
    (case c15 => first | k_is | k_exc | rfl)
    (case k15 => first | k_is | k_exc | rfl)
    (case a16 => first | k_is | k_exc | rfl)
    (case l16 => first | k_is | k_exc | rfl)
    (case c16 => first | k_is | k_exc | rfl)
    (case k16 => first | k_is | k_exc | rfl)
    (case a17 => first | k_is | k_exc | rfl)
    (case l17 => first | k_is | k_exc | rfl)
    (case c17 => first | k_is | k_exc | rfl)
    (case k17 => first | k_is | k_exc | rfl)
    (case a18 => first | k_is | k_exc | rfl)
    (case l18 => first | k_is | k_exc | rfl)
    (case c18 => first | k_is | k_exc | rfl)
    (case k18 => first | k_is | k_exc | rfl)
    (case a19 => first | k_is | k_exc | rfl)
    (case l19 => first | k_is | k_exc | rfl)
    (case c19 => first | k_is | k_exc | rfl)
    (case k19 => first | k_is | k_exc | rfl)
    (case gNoNumber => first | k_is | k_exc | rfl)
    (case xNoNumber => first | k_is | k_exc | rfl)
    (case kNoNumber => first | k_is | k_exc | rfl)
    (case bNoNumber => first | k_is | k_exc | rfl)
    (case tNoNumber => first | k_is | k_exc | rfl)
    (case iNoNumber => first | k_is | k_exc | rfl)
    (case gNOUGHT => first | k_is | k_exc | rfl)
    (case zabs => first | k_is | k_exc | rfl)
    (case zbool => first | k_is | k_exc | rfl)
    (case zint => first | k_is | k_exc | rfl)
    (case zisinstance => first | k_is | k_exc | rfl)
    (case zlen => first | k_is | k_exc | rfl)
    (case zlist => first | k_is | k_exc | rfl)
    (case zmax => first | k_is | k_exc | rfl)
    (case zrange => first | k_is | k_exc | rfl)