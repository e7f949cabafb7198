import PyProof.Rows.All
import Wide.All
import OpenK.AllK
import Wide.FinOn
import HandS.ForMost
import HandS.ForExc
import HandS.Wide
import HandS.WideBits
import HandS.IsInst
import HandS.TupLe
import KE.BitLaws
import HandS.Defaults
import HandS.ExcIs
import HandS.Conv
import HandS.Zip
import PySem.Challenge.RW_zonewalk_k19_folded
set_option Elab.async false
set_option linter.all false
set_option maxRecDepth 100000
set_option maxHeartbeats 4000000

namespace ZW
theorem fmod_gcd (a b : Int) : Int.gcd b (a.fmod b) = Int.gcd a b := by
  rw [Int.fmod_def, Int.gcd_comm a b]
  exact Int.gcd_sub_mul_left_right b a (a.fdiv b)
theorem fmod_lt (a b : Int) (hb : b ≠ 0) : (a.fmod b).natAbs < b.natAbs := by
  rcases Int.lt_or_lt_of_ne hb with h | h
  · have h1 := Int.fmod_def a b
    have e : a.fmod b = -((-a).fmod (-b)) := by simp
    rw [e, Int.fmod_eq_emod_of_nonneg _ (by omega)]
    have := Int.emod_lt_of_pos (-a) (b := -b) (by omega)
    have := Int.emod_nonneg (-a) (b := -b) (by omega)
    omega
  · rw [Int.fmod_eq_emod_of_nonneg a (by omega)]
    have := Int.emod_lt_of_pos a h
    have := Int.emod_nonneg a hb
    omega
theorem gcd_pos_right {a b : Int} (hb : b ≠ 0) : (0 : Int) < Int.gcd a b := by
  have := Int.gcd_pos_of_ne_zero_right a hb
  omega
/-- both divided by their gcd -/
structure Low (a b t u : Int) : Prop where
  pos : 0 < b → 0 < u
  top : t * Int.gcd a b = a
  bot : u * Int.gcd a b = b
  eq : t * b = a * u
  one : Int.gcd t u = 1
theorem low_of {a b : Int} (hb : b ≠ 0) : Low a b (a.fdiv (Int.gcd a b)) (b.fdiv (Int.gcd a b)) := by
  have g := gcd_pos_right (a := a) hb
  have d1 : (Int.gcd a b : Int) ∣ a := Int.gcd_dvd_left ..
  have d2 : (Int.gcd a b : Int) ∣ b := Int.gcd_dvd_right ..
  rw [Int.fdiv_eq_ediv_of_nonneg _ (by omega), Int.fdiv_eq_ediv_of_nonneg _ (by omega)]
  have e1 := Int.ediv_mul_cancel d1
  have e2 := Int.ediv_mul_cancel d2
  generalize hx : a / (Int.gcd a b : Int) = x at *
  generalize hy : b / (Int.gcd a b : Int) = y at *
  generalize hg : (Int.gcd a b : Int) = G at *
  refine ⟨fun h => ?_, ?_, ?_, ?_, ?_⟩
  · rcases Int.lt_or_le 0 y with z | z
    · exact z
    · have := Int.mul_nonpos_of_nonpos_of_nonneg z (Int.le_of_lt g)
      omega
  · rw [hg]; exact e1
  · rw [hg]; exact e2
  · rw [← e2, ← e1]; rw [Int.mul_comm y G, ← Int.mul_assoc]
  · have q : Int.gcd (x * G) (y * G) = Int.gcd x y * G.natAbs := Int.gcd_mul_right ..
    rw [e1, e2] at q
    have hG : G.natAbs = Int.gcd a b := by omega
    rw [hG] at q
    have gp : 0 < Int.gcd a b := by omega
    exact Nat.eq_of_mul_eq_mul_right gp (by rw [Nat.one_mul]; exact q.symm)
theorem quo_le {t G a : Int} (h : t * G = a) (hG : 0 < G) : t.natAbs ≤ a.natAbs := by
  rw [← h, Int.natAbs_mul]
  exact Nat.le_mul_of_pos_right _ (by omega)
/-- the fraction t / u, in lowest terms, that stands so to a and b -/
structure Red (a b t u : Int) : Prop where
  pos : 0 < u
  eq : t * b = a * u
  one : Int.gcd t u = 1
  tle : t.natAbs ≤ a.natAbs
  ule : u.natAbs ≤ b.natAbs
theorem Low.red {a b t u : Int} (l : Low a b t u) (h : 0 < b) : Red a b t u := ⟨l.pos h, l.eq, l.one, quo_le l.top (gcd_pos_right (by omega)), quo_le l.bot (gcd_pos_right (by omega))⟩
theorem red_neg {a b : Int} (hb : b < 0) : Red a b (a.fdiv (0 - (Int.gcd a b : Int))) (b.fdiv (0 - (Int.gcd a b : Int))) := by
  have l := low_of (a := a) (b := b) (by omega)
  have g := gcd_pos_right (a := a) (b := b) (by omega)
  have k : ∀ x t : Int, t * (Int.gcd a b : Int) = x → x.fdiv (0 - (Int.gcd a b : Int)) = - t := by
    intro x t e
    rw [Int.zero_sub, show x = (-(Int.gcd a b : Int)) * (-t) by rw [Int.neg_mul_neg, Int.mul_comm, e], Int.mul_fdiv_cancel_left _ (by omega)]
  rw [k _ _ l.top, k _ _ l.bot]
  have hu : b.fdiv (Int.gcd a b) < 0 := by
    rcases Int.lt_or_le (b.fdiv (Int.gcd a b)) 0 with z | z
    · exact z
    · have := Int.mul_nonneg z (Int.le_of_lt g); rw [l.bot] at this; omega
  refine ⟨by omega, by rw [Int.neg_mul, Int.mul_neg, l.eq], by rw [Int.gcd_neg, Int.neg_gcd]; exact l.one, by rw [Int.natAbs_neg]; exact quo_le l.top g, by rw [Int.natAbs_neg]; exact quo_le l.bot g⟩
theorem dvd_cop {u t v : Int} (h : u ∣ t * v) (c : Int.gcd t u = 1) : u ∣ v := by
  have h1 : u.natAbs ∣ t.natAbs * v.natAbs := by rw [← Int.natAbs_mul]; exact Int.natAbs_dvd_natAbs.mpr h
  have h2 : Nat.Coprime u.natAbs t.natAbs := by rw [Nat.coprime_comm]; exact c
  exact Int.natAbs_dvd_natAbs.mp (h2.dvd_of_dvd_mul_left h1)
theorem cop_uniq {t u t' u' : Int} (hu : 0 < u) (hu' : 0 < u') (c : Int.gcd t u = 1) (c' : Int.gcd t' u' = 1) (e : t * u' = t' * u) : t = t' ∧ u = u' := by
  have d1 : u ∣ u' := by
    have : u ∣ t * u' := ⟨t', by rw [e, Int.mul_comm]⟩
    exact dvd_cop this c
  have d2 : u' ∣ u := by
    have : u' ∣ t' * u := ⟨t, by rw [← e, Int.mul_comm]⟩
    exact dvd_cop this c'
  have eu : u = u' := by
    have h1 := Int.le_of_dvd hu' d1
    have h2 := Int.le_of_dvd hu d2
    omega
  subst eu
  exact ⟨Int.eq_of_mul_eq_mul_right (by omega) e, rfl⟩
theorem Red.uniq {a b t u t' u' : Int} (hb : b ≠ 0) (h : Red a b t u) (k : Red a b t' u') : t = t' ∧ u = u' := by
  refine cop_uniq h.pos k.pos h.one k.one ?_
  have : t * u' * b = t' * u * b := by
    rw [Int.mul_right_comm, h.eq, Int.mul_right_comm t', k.eq]; ac_rfl
  exact Int.eq_of_mul_eq_mul_right hb this
/-- fractions that stand so to the same two numbers, told by cross products -/
theorem red_cross {a b a' b' t u t' u' : Int} (hb : b ≠ 0) (hb' : b' ≠ 0) (x : a * b' = a' * b) (h : Red a b t u) (k : Red a' b' t' u') : t = t' ∧ u = u' := by
  refine cop_uniq h.pos k.pos h.one k.one ?_
  have e : t * u' * (b * b') = t' * u * (b * b') := by
    rw [show t * u' * (b * b') = (t * b) * (u' * b') by ac_rfl, show t' * u * (b * b') = (t' * b') * (u * b) by ac_rfl, h.eq, k.eq,
      show a * u * (u' * b') = (a * b') * (u * u') by ac_rfl, show a' * u' * (u * b) = (a' * b) * (u * u') by ac_rfl, x]
  exact Int.eq_of_mul_eq_mul_right (Int.mul_ne_zero hb hb') e
theorem gcd_le_size {a b : Int} (hb : b ≠ 0) : (Int.gcd a b) ≤ b.natAbs := by
  have := Int.gcd_dvd_right (a := a) (b := b)
  exact Nat.le_of_dvd (by omega) (by simpa using Int.natAbs_dvd_natAbs.mpr this)
theorem log_lt {i : Int} {n m : Nat} (h : i.natAbs < 2 ^ n) (h0 : 0 < n) (hm : n ≤ m) : i.natAbs.log2 < m := by
  by_cases e : i.natAbs = 0
  · rw [e]; simp; omega
  · exact Nat.lt_of_lt_of_le ((Nat.log2_lt e).mpr h) hm
open PySem PySem.Spec PyProof.Rows L2
theorem upd_keep {H : Hp} {p : Addr} {o : HO} (h : H p = none) : Same H (upd H p o) := fun b x e => by
  rw [upd_ne (ne_of_none e h)]
  exact e
theorem Same.to {H H' : Hp} (s : Same H H') {a : Addr} {o : HO} (h : H a = some o) : H' a = some o := s a o h
theorem seq_step {t u : TS} {D : Ends} {σ : L2.St} {H : Hp} (h : t { D with nx := u D } σ H) : tSeq t u D σ H := h
theorem ite_d {c : Prop} [Decidable c] {A B : Prop} (h1 : c → A) (h2 : ¬ c → B) : if decide c = true then A else B := by
  by_cases h : c
  · rw [if_pos (decide_eq_true h)]; exact h1 h
  · rw [if_neg (by rw [decide_eq_false h]; exact Bool.false_ne_true)]; exact h2 h
theorem shl1 {i : Int} {n : Nat} (h : i.natAbs < 2 ^ n) (hn : n ≤ 100000) : CShl i 1 := shl_ok (j := 1) h (by omega)
theorem one_ne : ((1 : Int) = 0) = False := by simp
theorem pow_lit (i : Int) : i ^ (1 : Nat) = i := Int.pow_one i
theorem cxK {CX : CXT} {P : Program} {w : World} {K : PySem.W.Frag} {mg : Str → Option Value} {base : Heap} {N : List Str} {qual : Str} {scope : Scope} {f : Addr} {cd : Value} {A : Around} {outer : List Env} {s : Shared} {H : Hp} {E : XK} :
    (cxOf CX P w K mg base N qual scope f cd A outer s H E).K = K := rfl
theorem ix_l {K : PySem.W.Frag} {H : Hp} {p : Addr} {xs : List V} {i : Int} {v : V} {Q : VK} (h : SqL K H p xs) (hi : 0 ≤ i) (hv : xs[i.toNat]? = some v) (q : Q v H) : rIxL K (.ref p) (.int i) H Q :=
  ⟨p, xs, i, v, rfl, rfl, h, at_of (j := i.toNat) (by omega) hv, q⟩
theorem ix_t {K : PySem.W.Frag} {H : Hp} {p : Addr} {xs : List V} {i : Int} {v : V} {Q : VK} (h : SqT K H p xs) (hi : 0 ≤ i) (hv : xs[i.toNat]? = some v) (q : Q v H) : rIxT K (.ref p) (.int i) H Q :=
  ⟨p, xs, i, v, rfl, rfl, h, at_of (j := i.toNat) (by omega) hv, q⟩
theorem sqL_upd {K : PySem.W.Frag} {H : Hp} {p : Addr} {xs : List V} : SqL K (upd H p (.lst xs)) p xs := SqL.of upd_same
theorem fm2 (c : Int) : c.fmod 2 = 0 ∨ c.fmod 2 = 1 := by
  rw [Int.fmod_eq_emod_of_nonneg _ (by omega)]; omega
theorem fm_pos {c m : Int} (h : 0 < m) : 0 ≤ c.fmod m ∧ c.fmod m < m := by
  rw [Int.fmod_eq_emod_of_nonneg _ (by omega)]
  exact ⟨Int.emod_nonneg _ (by omega), Int.emod_lt_of_pos _ h⟩
/-- a number of at most n bits -/
def Sz (n : Nat) (i : Int) : Prop := i.natAbs < 2 ^ n
theorem Sz.mono {i : Int} {a c : Nat} (ha : Sz a i) (h : a ≤ c) : Sz c i := Nat.lt_of_lt_of_le ha (Nat.pow_le_pow_right (by decide) h)
theorem Sz.mulW {i j : Int} {a b : Nat} (ha : Sz a i) (hb : Sz b j) (h : a + b ≤ 999998) : CMulW i j :=
  wide_mul (a := a + 1) (b := b + 1) (Sz.mono ha (by omega)) (Sz.mono hb (by omega)) (by omega) (by omega) (by omega)
theorem Sz.mul {i j : Int} {a b c : Nat} (ha : Sz a i) (hb : Sz b j) (h : a + b ≤ c) : Sz c (i * j) := Sz.mono (wide_lt ha hb) h
theorem Sz.add {i j : Int} {a b c : Nat} (ha : Sz a i) (hb : Sz b j) (h1 : a + 1 ≤ c) (h2 : b + 1 ≤ c) : Sz c (i + j) := by
  have x : Sz (c - 1) i := ha.mono (by omega)
  have y : Sz (c - 1) j := hb.mono (by omega)
  have e : (2 : Nat) ^ c = 2 ^ (c - 1) * 2 := by rw [← Nat.pow_succ]; congr 1; omega
  unfold Sz at x y ⊢
  omega
theorem Sz.sub {i j : Int} {a b c : Nat} (ha : Sz a i) (hb : Sz b j) (h1 : a + 1 ≤ c) (h2 : b + 1 ≤ c) : Sz c (i - j) := by
  have x : Sz (c - 1) i := ha.mono (by omega)
  have y : Sz (c - 1) j := hb.mono (by omega)
  have e : (2 : Nat) ^ c = 2 ^ (c - 1) * 2 := by rw [← Nat.pow_succ]; congr 1; omega
  unfold Sz at x y ⊢
  omega
theorem Sz.le {i j : Int} {a : Nat} (h : i.natAbs ≤ j.natAbs) (hj : Sz a j) : Sz a i := Nat.lt_of_le_of_lt h hj
theorem Sz.nn {i j : Int} {a : Nat} (h0 : 0 ≤ i) (h : i ≤ j) (hj : Sz a j) : Sz a i := Sz.le (by omega) hj
theorem Sz.rg {i j : Int} {a : Nat} (h0 : -j ≤ i) (h : i ≤ j) (hj : Sz a j) : Sz a i := Sz.le (by omega) hj
/-- a divisor that the rule takes -/
def DivOk (j : Int) : Prop := j ≠ 0 ∧ j.natAbs.log2 < 9000
theorem DivOk.of {j : Int} {n : Nat} (h : j ≠ 0) (hs : Sz n j) (hn : n ≤ 8000) : DivOk j := ⟨h, log_lt (n := 8000) (hs.mono hn) (by omega) (by omega)⟩
theorem sz_line {n : Nat} (h : n ≤ 1000) : (n ≤ sizeLine) = True := eq_true (Nat.le_of_lt (small1000 h))
section
variable {X : Cx}
theorem op_fdivZ : OpR X (binaryOp .FloorDiv) (rI (fun _ j => DivOk j) fun i j => .int (i.fdiv j)) := opI fun _ _ _ _ _ _ _ hc q =>
  floordiv_int hc.1 q (.inl (PyProof.noPylong_of_log2 hc.2))
end
theorem gTup_of {K : PySem.W.Frag} {a : Addr} {xs : List V} {n : Nat} {t : TGs} {σ : L2.St} {H : Hp} {Q : L2.St → Hp → Prop} (h : SqT K H a xs) (hn : xs.length = n) (q : t xs σ H Q) : gTup K n t (.ref a) σ H Q := ⟨a, xs, rfl, h, hn, q⟩
theorem sqt {K : PySem.W.Frag} {H : Hp} {a : Addr} {xs : List V} (h : H a = some (.tup xs)) : SqT K H a xs := SqT.of h
theorem Low.top_le {a b t u : Int} (l : Low a b t u) (hb : b ≠ 0) : t.natAbs ≤ a.natAbs := quo_le l.top (gcd_pos_right hb)
theorem Low.bot_le {a b t u : Int} (l : Low a b t u) (hb : b ≠ 0) : u.natAbs ≤ b.natAbs := quo_le l.bot (gcd_pos_right hb)
theorem ite_and {a : Bool} {c : Prop} [Decidable c] {A R : Prop} (h1 : a = true → c → A) (h2 : ¬ (a = true ∧ c) → R) : if a = true then (if decide c = true then A else R) else R := by
  by_cases ha : a = true
  · rw [if_pos ha]; exact ite_d (h1 ha) fun z => h2 fun q => z q.2
  · rw [if_neg ha]; exact h2 fun q => ha q.1
section
variable {X : Cx} {e : Expr} {es : List Expr} {t t' : TE} {ta : TA} {pos : Pos}
theorem pe_imp (h : PE X e t) (k : ∀ σ H Q, t' σ H Q → t σ H Q) : PE X e t' := ⟨fun pins s σ H Q I q => h.run pins s σ H Q I (k σ H Q q)⟩
def tWk (ta : TA) : TA := fun σ H Q => ∃ Q0 : List V → Hp → Prop, ta σ H Q0 ∧ ∀ xs H1, Q0 xs H1 → Q xs H1
theorem pa_wk (h : PA X es ta) : PA X es (tWk ta) := ⟨fun pos pins s σ H _ I ⟨Q0, a, k⟩ => thn (h.run pos pins s σ H Q0 I a) fun _ _ ⟨xs, H1, I1, r, q⟩ => ⟨xs, H1, I1, r, k _ _ q⟩⟩
/-- a new tuple, a new list: nothing but what is tracked is told of the heap behind -/
def tTupN (ta : TA) : TE := fun σ H Q => ta σ H fun xs H1 => xs.length ≤ sizeLine ∧ ∀ p H2, Same H1 H2 → H1 p = none → H2 p = some (.tup xs) → Q (.ref p) H2
def tLstN (ta : TA) : TE := fun σ H Q => ta σ H fun xs H1 => xs.length ≤ sizeLine ∧ ∀ p H2, Same H1 H2 → H1 p = none → H2 p = some (.lst xs) → Q (.ref p) H2
theorem pe_tupN {x1} (h : PA X es ta) : PE X (.Tuple es x1 pos) (tTupN ta) :=
  pe_imp (pe_tup (pa_wk h)) fun _ _ _ q => ⟨_, q, fun _ _ ⟨z, k⟩ => ⟨z, fun p hp => k p _ (upd_keep hp) hp upd_same⟩⟩
theorem pe_lstN (h : PA X es ta) : PE X (.List es pos) (tLstN ta) :=
  pe_imp (pe_lst (pa_wk h)) fun _ _ _ q => ⟨_, q, fun _ _ ⟨z, k⟩ => ⟨z, fun p hp => k p _ (upd_keep hp) hp upd_same⟩⟩
def rSlN (K : PySem.W.Frag) : V → Option Int → Option Int → Hp → VK → Prop := fun x lo hi H Q => ∃ a xs, x = .ref a ∧ SqL K H a xs ∧ ∀ p H2, Same H H2 → H p = none → H2 p = some (.lst (cutV xs lo hi)) → Q (.ref p) H2
theorem sl_listN : SlR X (rSlN X.K) := fun pins s σ H x v vl vu lo hi sl Q I rx hs p1 p2 ⟨a, xs, e, h, q⟩ =>
  sl_list pins s σ H x v vl vu lo hi sl Q I rx hs p1 p2 ⟨a, xs, e, h, fun p hp => q p _ (upd_keep hp) hp upd_same⟩
theorem op_imp {f : Value → Value → Sem Value} {r r' : R2} (h : OpR X f r) (k : ∀ x y H Q, r' x y H Q → r x y H Q) : OpR X f r' := fun pins s σ H x y v u Q I rx ry q => h pins s σ H x y v u Q I rx ry (k x y H Q q)
def rCatN : R2 := fun x y H Q => ∃ l b xs zs, x = .ref l ∧ y = .ref b ∧ H l = some (.lst xs) ∧ H b = some (.lst zs) ∧ xs.length + zs.length ≤ sizeLine ∧ ∀ p H2, Same H H2 → H p = none → H2 p = some (.lst (xs ++ zs)) → Q (.ref p) H2
theorem op_catN : OpR X (binaryOp .Add) rCatN := op_imp op_cat fun _ _ _ _ ⟨l, b, xs, zs, e1, e2, h1, h2, z, q⟩ => ⟨l, b, xs, zs, e1, e2, h1, h2, z, fun p hp => q p _ (upd_keep hp) hp upd_same⟩
def rRepN : R2 := fun x y H Q => ∃ l k xs, x = .ref l ∧ y = .int k ∧ H l = some (.lst xs) ∧ -(2 ^ 63) ≤ k ∧ k < 2 ^ 63 ∧ xs.length * k.toNat ≤ sizeLine ∧ ∀ p H2, Same H H2 → H p = none → H2 p = some (.lst (List.replicate k.toNat xs).flatten) → Q (.ref p) H2
theorem op_repN : OpR X (binaryOp .Mult) rRepN := op_imp op_rep fun _ _ _ _ ⟨l, k, xs, e1, e2, h, a, b, z, q⟩ => ⟨l, k, xs, e1, e2, h, a, b, z, fun p hp => q p _ (upd_keep hp) hp upd_same⟩
theorem small1000' {n : Nat} (h : n ≤ 1000) : n ≤ sizeLine := Nat.le_of_lt (small1000 h)
theorem call_imp {f : Value} {r r' : List V → Hp → VK → Prop} (h : CallR X f r) (k : ∀ x H Q, r' x H Q → r x H Q) : CallR X f r' := fun pins s σ H xs us Q I r q => h pins s σ H xs us Q I r (k xs H Q q)
def rListN (K : PySem.W.Frag) : List V → Hp → VK → Prop := fun xs H Q => ∃ p ys, xs = [.ref p] ∧ (SqL K H p ys ∨ SqT K H p ys) ∧ ∀ l H2, Same H H2 → H l = none → H2 l = some (.lst ys) → Q (.ref l) H2
theorem call_listN : CallR X (.type "list") (rListN X.K) := call_imp call_list_of fun _ _ _ ⟨p, ys, e, h, q⟩ => ⟨p, ys, e, h, fun l hl => q l _ (upd_keep hl) hl upd_same⟩
def rIntB : List V → Hp → VK → Prop := fun xs H Q => ∃ k, xs = [.bl k] ∧ Q (.int (if k then 1 else 0)) H
theorem call_intB : CallR X (.type "int") rIntB := call_imp call_int1 fun _ _ _ h => .inr h
end
theorem nat_and_mod (x y : Nat) : (x &&& y) % 2 = (x % 2) * (y % 2) := by
  have h := Nat.and_mod_two_pow (a := x) (b := y) (n := 1)
  have h1 : x % 2 = 0 ∨ x % 2 = 1 := by omega
  have h2 : y % 2 = 0 ∨ y % 2 = 1 := by omega
  rw [Nat.pow_one] at h
  rcases h1 with e | e <;> rcases h2 with f | f <;> rw [h, e, f] <;> rfl
theorem nat_or_mod (x y : Nat) : (x ||| y) % 2 = if x % 2 = 0 ∧ y % 2 = 0 then 0 else 1 := by
  have h := Nat.or_mod_two_pow (a := x) (b := y) (n := 1)
  have h1 : x % 2 = 0 ∨ x % 2 = 1 := by omega
  have h2 : y % 2 = 0 ∨ y % 2 = 1 := by omega
  rw [Nat.pow_one] at h
  rcases h1 with e | e <;> rcases h2 with f | f <;> rw [h, e, f] <;> rfl
theorem and_bit (a b : Int) : Builtin.bitAnd a b % 2 = (if a % 2 = 1 ∧ b % 2 = 1 then 1 else 0) := by
  have key : ∀ x y : Nat, x % 2 = 0 ∨ x % 2 = 1 := by omega
  have nn : ∀ x, Builtin.bitNot x = - x - 1 := by intro x; unfold Builtin.bitNot; omega
  by_cases ha : 0 ≤ a <;> by_cases hb : 0 ≤ b
  · rw [bitAnd_pp ha hb]
    have h := nat_and_mod a.toNat b.toNat
    have h1 : a.toNat % 2 = 0 ∨ a.toNat % 2 = 1 := by omega
    have h2 : b.toNat % 2 = 0 ∨ b.toNat % 2 = 1 := by omega
    rcases h1 with e | e <;> rcases h2 with f | f <;> rw [e, f] at h <;> split <;> omega
  · rw [bitAnd_pn ha hb, nn]
    have h := nat_and_mod a.toNat (-b-1).toNat
    have h1 : a.toNat % 2 = 0 ∨ a.toNat % 2 = 1 := by omega
    have h2 : (-b-1).toNat % 2 = 0 ∨ (-b-1).toNat % 2 = 1 := by omega
    rcases h1 with e | e <;> rcases h2 with f | f <;> rw [e, f] at h <;> split <;> omega
  · rw [bitAnd_np ha hb, nn]
    have h := nat_and_mod b.toNat (-a-1).toNat
    have h1 : b.toNat % 2 = 0 ∨ b.toNat % 2 = 1 := by omega
    have h2 : (-a-1).toNat % 2 = 0 ∨ (-a-1).toNat % 2 = 1 := by omega
    rcases h1 with e | e <;> rcases h2 with f | f <;> rw [e, f] at h <;> split <;> omega
  · rw [bitAnd_nn ha hb, nn, nn, nn]
    have h := nat_or_mod (-a-1).toNat (-b-1).toNat
    have h1 : (-a-1).toNat % 2 = 0 ∨ (-a-1).toNat % 2 = 1 := by omega
    have h2 : (-b-1).toNat % 2 = 0 ∨ (-b-1).toNat % 2 = 1 := by omega
    rcases h1 with e | e <;> rcases h2 with f | f <;> rw [e, f] at h <;> split at h <;> split <;> omega

theorem bit_sum (a b : Int) : Builtin.bitOr ((a / 2 + b / 2) * 2) (Builtin.bitAnd (Builtin.bitAnd a b) 1) = 2 * (a / 2 + b / 2) + (if a % 2 = 1 ∧ b % 2 = 1 then 1 else 0) := by
  rw [bitAnd_m1, and_bit, bitOr_and]
  split
  · rw [bitAnd_m1]; omega
  · rw [bitAnd_zero]; omega
theorem isi {K : PySem.W.Frag} {H : Hp} {x : V} {a b : String} {r : Bool} {Q : VK} (h : TyX K H x (.type a)) (k : kitB a b = some r) (q : Q (.bl r) H) : rIsi K [x, .ty b] H Q := ⟨x, .ty b, _, _, r, rfl, .ty b, h, kit_ty k, q⟩
theorem if_t {b : Bool} {A B : Prop} (h : b = true) (q : A) : if b = true then A else B := by rw [if_pos h]; exact q
theorem if_f {b : Bool} {A B : Prop} (h : b = false) (q : B) : if b = true then A else B := by rw [h, if_neg Bool.false_ne_true]; exact q
/-- a bound, as a value -/
def oV : Option Int → V
  | none => .non
  | some i => .int i
theorem oV_none : oV none = .non := rfl
theorem oV_some (i : Int) : oV (some i) = .int i := rfl
theorem funD_mk {K : PySem.W.Frag} {x qual : Str} {st : Stmt} {f t : Addr} {oc kV doc pm cdv ct : Value} {od an : Option Addr} {osl : Array (Option Value)} {o : Obj} {n : Nat} {its : List Value} {dvs : List V}
    (l : K.lookup f = some ⟨oc, od, .func (PySem.W.fnOf x qual (defArgs st) (defBody st) (defScope st) (.ref t) kV doc pm an cdv ct), osl⟩) (c : PySem.W.codeIn K cdv qual = true) (k : PySem.W.keepIn K (.ref f) = true)
    (lt : K.lookup t = some o) (ld : o.data = .seq its.toArray n) (hv : Vals dvs its) (hd : dvs ≠ []) : FunD K x qual (defArgs st) (defBody st) (defScope st) dvs [] f (PySem.W.fnOf x qual (defArgs st) (defBody st) (defScope st) (.ref t) kV doc pm an cdv ct) :=
  ⟨⟨oc, od, .ref t, kV, doc, pm, an, cdv, ct, osl, rfl, l, c, .inr ⟨hd, t, o, its, n, rfl, lt, ld, hv⟩, .inl rfl⟩, k⟩
section
variable {X : Cx} {D a : Addr} {cls : Value} {d : Option Addr} {oe : Obj} {pn : List (Addr × Obj)}
/-- isinstance of the caught error: its class is told in the reading -/
theorem call_isE2 (hz : Zc cls d oe) (hf : ∃ vs, oe.data = .fields vs) : CallR (X.suite a ((a, oe) :: pn)) (.builtin "isinstance") (fun xs H Q => ∃ D, cls = .ref D ∧ d = none ∧ ExcC X.K D ∧ rIsE X.K D a xs H Q) := by
  intro pins s σ H xs us Q I r ⟨D, h1, h2, C, h⟩
  subst h1; subst h2
  exact call_isE C hz hf pins s σ H xs us Q I r h
end
theorem cut_int {ns : List Int} {lo hi : Option Int} {i : Nat} {x : V} (h : (cutV (ns.map V.int) lo hi)[i]? = some x) : ∃ z, x = .int z := by
  have m := List.mem_of_mem_drop (List.mem_of_mem_take (List.mem_of_getElem? h))
  obtain ⟨z, _, e⟩ := List.mem_map.mp m
  exact ⟨z, e.symm⟩
def kinds : List String := ["int", "bool", "NoneType", "str", "list", "tuple", "dict"]
/-- whether a thing is a whole number -/
def spWhole (K : PySem.W.Frag) : Sp := fun vs H Q _ => ∃ (x : V) (t : String), vs = [x] ∧ TyX K H x (.type t) ∧ t ∈ kinds ∧ Q (.bl (decide (t = "int"))) H
/-- two numbers in lowest terms, as a new tuple -/
def LowT (a b : Int) (H : Hp) (Q : VK) : Prop := ∀ (t u : Int) (p : Addr) (H' : Hp), Low a b t u → Same H H' → H' p = some (.tup [.int t, .int u]) → Q (.ref p) H'
/-- two numbers in lowest terms with a bottom above 0, as a new tuple -/
def RedT (a b : Int) (H : Hp) (Q : VK) : Prop := ∀ (t u : Int) (p : Addr) (H' : Hp), Red a b t u → Same H H' → H' p = some (.tup [.int t, .int u]) → Q (.ref p) H'
theorem ncast (n : Nat) : ((no_index (OfNat.ofNat n) : Nat) : Int) = OfNat.ofNat n := rfl
theorem exm_two {K : PySem.W.Frag} {C : Addr} {cls : Value} {b : Bool} (h1 : PySem.W.subIn K (.ref C) (.type "BaseException") = some true) (h2 : PySem.W.hasDictIn K C = true) (h3 : PySem.W.typeIn K (.ref C) = some (.type "type")) (h4 : PySem.W.subIn K cls (.ref C) = some b) : PySem.W.exmOne K cls (.ref C) = some b := PySem.W.exm_ref h1 h2 h3 h4
/-- isinstance(e, c) of a caught error -/
theorem isE {K : PySem.W.Frag} {D a : Addr} {c : V} {cv : Value} {b : Bool} {H : Hp} {Q : VK} (X : ExcC K D) (hc : ∀ u, RelV c u → u = cv) (k : PySem.W.kitOne K (.ref D) cv = some b) (q : Q (.bl b) H) : ∃ D', Value.ref D = Value.ref D' ∧ (Option.none : Option Addr) = Option.none ∧ ExcC K D' ∧ rIsE K D' a [.ref a, c] H Q :=
  ⟨D, rfl, rfl, X, c, cv, b, rfl, hc, k, q⟩
theorem tyx_same {K : PySem.W.Frag} {H H2 : Hp} (s : Same H H2) {x : V} {t : Value} (h : TyX K H x t) : TyX K H2 x t := by
  cases h with
  | base b =>
    refine .base ?_
    cases b with
    | non => exact .non
    | bl y => exact .bl y
    | int i => exact .int i
    | str y => exact .str y
    | flt y => exact .flt y
    | lst e => exact .lst (s _ _ e)
    | frz e => exact .frz (s _ _ e)
    | tup e => exact .tup (s _ _ e)
    | dK e => exact .dK (s _ _ e)
    | dT e => exact .dT (s _ _ e)
    | ins e cl a b c d => exact .ins (s _ _ e) cl a b c d
  | byt b => exact .byt b
  | set e => exact .set (s _ _ e)
  | kList e c => exact .kList e c
  | kTuple e c => exact .kTuple e c
  | kDict e c => exact .kDict e c
  | fTuple e => exact .fTuple (s _ _ e)
  | fDict e => exact .fDict (s _ _ e)
/-- what stands behind a statement is shown once, for all its ways -/
theorem join_if {t R : TS} {D : Ends} {σ : L2.St} {H : Hp} (P : L2.St → Hp → Prop) (h2 : ∀ σ' H', P σ' H' → R D σ' H') (h1 : (∀ σ' H', P σ' H' → R D σ' H') → tSeq t R D σ H) : tSeq t R D σ H := h1 h2
theorem red_zero {b t u : Int} (R : Red 0 b t u) : Red 0 1 t u := by
  have h1 := R.tle
  have h2 : t = 0 := by simp at h1; exact h1
  subst h2
  have h3 := R.one
  rw [Int.gcd_zero_left] at h3
  exact ⟨R.pos, by simp, R.one, h1, by omega⟩
theorem shaped_ii (a b : Int) : SeqAt.shaped (.tuple [.int a, .int b]) = true := rfl
section
variable {X : Cx} {K : PySem.W.Frag}
theorem call_isiA (h : X.K = K) : CallR X (.builtin "isinstance") (rIsi K) := by subst h; exact call_isi
theorem ix_listA (h : X.K = K) : IxR X (rIxL K) := by subst h; exact ix_list
theorem ix_tupA (h : X.K = K) : IxR X (rIxT K) := by subst h; exact ix_tup
theorem sl_listA (h : X.K = K) : SlR X (rSlN K) := by subst h; exact sl_listN
theorem call_listA (h : X.K = K) : CallR X (.type "list") (rListN K) := by subst h; exact call_listN
theorem pi_listA {tg l : Expr} {tl : TE} (h : X.K = K) (hl : PE X l tl) : PI X tg l (iList K tl) := by subst h; exact pi_list hl
end
theorem lc_vs {X : Cx} {e : Expr} {wi : TI} {g : TG} {tt : TT} {te : TE} {own : List (Str × Nat)} {vs : List Nat} (h : PE X e (tLc wi g tt te (own.map (·.2)))) (hv : own.map (·.2) = vs) : PE X e (tLc wi g tt te vs) := hv ▸ h
theorem lc_vsS {X : Cx} {e : Stmt} {wi : TI} {g k : TG} {tt : TT} {te : TE} {own : List (Str × Nat)} {vs : List Nat} (h : PS X e (tAsg (tLc wi g tt te (own.map (·.2))) k)) (hv : own.map (·.2) = vs) : PS X e (tAsg (tLc wi g tt te vs) k) := hv ▸ h
theorem same_updN {H H2 : Hp} {D : Addr} {o : HO} (hD : H D = none) (s : Same H H2) : Same H (upd H2 D o) := fun b x e => by
  rw [upd_ne (ne_of_none e hD)]
  exact s b x e
theorem sql_keep {K : PySem.W.Frag} {H H' : Hp} {a : Addr} {xs : List V} (h : SqL K H a xs) (k : ∀ b o, H b = some o → H' b = some o) : SqL K H' a xs := Same.seq (show Same H H' from k) h
theorem dpall_of {K : PySem.W.Frag} {H : Hp} : ∀ {vs : List V} {ds : List PyData}, vs.length = ds.length → (∀ (k : Nat) (v : V) (d : PyData), vs[k]? = some v → ds[k]? = some d → Dp K H v d) → DpAll K H vs ds
  | [], [], _, _ => .nil
  | [], _ :: _, h, _ => by cases h
  | _ :: _, [], h, _ => by cases h
  | v :: vs, d :: ds, h, k => .cons (k 0 v d rfl rfl) (dpall_of (Nat.succ.inj h) fun j v' d' h1 h2 => k (j + 1) v' d' h1 h2)
theorem shaped_list {ds : List PyData} (h : ∀ d ∈ ds, d.canLay0 = true ∧ d.depth ≤ 60) : SeqAt.shaped (.list ds) = true := by
  have key : ∀ ds : List PyData, (∀ d ∈ ds, d.canLay0 = true ∧ d.depth ≤ 60) → PyData.canLayAll0 ds = true ∧ PyData.depthAll ds ≤ 60 := by
    intro ds
    induction ds with
    | nil => intro _; exact ⟨rfl, Nat.zero_le _⟩
    | cons d ds ih =>
      intro h
      have h1 := h d (List.mem_cons_self ..)
      have h2 := ih fun x hx => h x (List.mem_cons_of_mem _ hx)
      refine ⟨by show (d.canLay0 && PyData.canLayAll0 ds) = true; rw [h1.1, h2.1]; rfl, ?_⟩
      show max d.depth (PyData.depthAll ds) ≤ 60
      omega
  have z := key ds h
  refine Bool.and_eq_true_iff.mpr ⟨z.1, decide_eq_true ?_⟩
  show PyData.depthAll ds + 1 ≤ 64
  omega
/-- whether a fraction is let by a bound -/
def letsO : Option Int → Int → Int → Bool
  | none, _, _ => true
  | some b, t, u => decide (t < b / 2 * u ∨ (t = b / 2 * u ∧ b % 2 = 1))
def narO : Option Int → Option Int → Option Int
  | none, y => y
  | some a, none => some a
  | some a, some b => some (if b < a then b else a)
/-- a fraction's tuple -/
def FracAt (n : Nat) (H : Hp) (v : V) : Prop := ∃ (q : Addr) (t u : Int), v = .ref q ∧ H q = some (.tup [.int t, .int u]) ∧ 0 < u ∧ Sz n t ∧ Sz n u
theorem FracAt.keep {n : Nat} {H H' : Hp} {v : V} (s : Same H H') (h : FracAt n H v) : FracAt n H' v := by
  obtain ⟨q, t, u, e, e2, r⟩ := h
  exact ⟨q, t, u, e, s _ _ e2, r⟩
theorem join_bl {b : Bool} {P : Prop} (h1 : b = true → P) (h2 : b = false → P) : P := by cases b; exact h2 rfl; exact h1 rfl
/-- a for over a list, behind its iterable's reading -/
def ForL (K : PySem.W.Frag) (a : Addr) (g : TG) (tb : TS) (D : Ends) (σ : L2.St) (H : Hp) : Prop := ∃ W : Nat → Nat → L2.St → Hp → Prop, (∃ m, W 0 m σ H) ∧ ∀ i m σ H, W i m σ H →
  ((Itl K a).stop i H ∧ D.nx σ H) ∨ ((Itl K a).go i H ∧ ∃ N : L2.St → Hp → Prop, (∀ σ' H', N σ' H' → ∃ m', m' < m ∧ W (i + 1) m' σ' H') ∧ ∀ x H', (Itl K a).yld i H x H' → g x σ H' fun σ2 H2 => tb { D with nx := N, ct := N, bk := D.nx } σ2 H2)
theorem for_li {K : PySem.W.Frag} {te : TE} {g : TG} {tb : TS} {D : Ends} {σ : L2.St} {H : Hp} (h : te σ H fun x H1 => ∃ a, x = .ref a ∧ (∃ xs, SqL K H1 a xs) ∧ ForL K a g tb D σ H1) : tFor (iList K te) g tb D σ H := h
theorem forL_by {K : PySem.W.Frag} {a : Addr} {xs : List V} {g : TG} {tb : TS} {D : Ends} {σ : L2.St} {H : Hp} (Pv : Nat → L2.St → Hp → Prop) (h0 : Pv 0 σ H) (hl : ∀ i σ H, i ≤ xs.length → Pv i σ H → SqL K H a xs)
    (hs : ∀ i x σ H, xs[i]? = some x → Pv i σ H → g x σ H fun σ2 H2 => tb { D with nx := Pv (i + 1), ct := Pv (i + 1), bk := D.nx } σ2 H2) (hd : ∀ σ H, Pv xs.length σ H → D.nx σ H) : (∃ ys, SqL K H a ys) ∧ ForL K a g tb D σ H :=
  ⟨⟨xs, hl 0 σ H (Nat.zero_le _) h0⟩, for_list (K := K) (a := a) (xs := xs) Pv h0 hl hs hd⟩
/-- what is asked whether it is a fraction, and the answer -/
inductive FrIn (K : PySem.W.Frag) (H : Hp) : V → Bool → Prop where
  | other {x : V} {t : String} (h : TyX K H x (.type t)) (k : t ∈ kinds) (n : t ≠ "tuple") : FrIn K H x false
  | len {p : Addr} {xs : List V} (h : H p = some (.tup xs)) (n : xs.length ≠ 2) : FrIn K H (.ref p) false
  | odd {p : Addr} {v0 v1 : V} {t0 t1 : String} (h : H p = some (.tup [v0, v1])) (h0 : TyX K H v0 (.type t0)) (h1 : TyX K H v1 (.type t1)) (k0 : t0 ∈ kinds) (k1 : t1 ∈ kinds) (n : t0 ≠ "int" ∨ t1 ≠ "int") : FrIn K H (.ref p) false
  | num {p : Addr} {a b : Int} (h : H p = some (.tup [.int a, .int b])) : FrIn K H (.ref p) (decide (1 ≤ b ∧ Int.gcd a b = 1))
theorem FrIn.keep {K : PySem.W.Frag} {H H' : Hp} {x : V} {b : Bool} (s : Same H H') (h : FrIn K H x b) : FrIn K H' x b := by
  cases h with
  | other h k n => exact .other (tyx_same s h) k n
  | len h n => exact .len (s _ _ h) n
  | odd h h0 h1 k0 k1 n => exact .odd (s _ _ h) (tyx_same s h0) (tyx_same s h1) k0 k1 n
  | num h => exact .num (s _ _ h)
def tDictN : TE := fun _ H Q => ∀ p H2, Same H H2 → H p = none → H2 p = some (.dK []) → Q (.ref p) H2
theorem pe_dnewN {X : Cx} {pos : Pos} : PE X (.Dict [] [] pos) tDictN := pe_imp pe_dnewK fun _ _ _ q p hp => q p _ (upd_keep hp) hp upd_same
theorem fr_no {K : PySem.W.Frag} {H : Hp} {p : Addr} {a b : Int} (h : H p = some (.tup [.int a, .int b])) (n : ¬ (1 ≤ b ∧ Int.gcd a b = 1)) : FrIn K H (.ref p) false := by
  have z := FrIn.num (K := K) h
  rw [decide_eq_false n] at z
  exact z
def addO : Option Int → Option Int → Option Int
  | some a, some b => some (2 * (a / 2 + b / 2) + (if a % 2 = 1 ∧ b % 2 = 1 then 1 else 0))
  | _, _ => none
/-- a for over a range, behind its bound's reading -/
def ForR (n : Nat) (g : TG) (tb : TS) (D : Ends) (σ : L2.St) (H : Hp) : Prop := ∃ W : Nat → Nat → L2.St → Hp → Prop, (∃ m, W 0 m σ H) ∧ ∀ i m σ H, W i m σ H →
  ((Itr 0 n).stop i H ∧ D.nx σ H) ∨ ((Itr 0 n).go i H ∧ ∃ N : L2.St → Hp → Prop, (∀ σ' H', N σ' H' → ∃ m', m' < m ∧ W (i + 1) m' σ' H') ∧ ∀ x H', (Itr 0 n).yld i H x H' → g x σ H' fun σ2 H2 => tb { D with nx := N, ct := N, bk := D.nx } σ2 H2)
theorem for_rg {ta : TA} {g : TG} {tb : TS} {D : Ends} {σ : L2.St} {H : Hp} (h : ta σ H fun vs H1 => ∃ j : Int, vs = [.int j] ∧ -(2 ^ 62) ≤ j ∧ j < 2 ^ 62 ∧ ForR j.toNat g tb D σ H1) : tFor (iRng1 ta) g tb D σ H := h
theorem forR_by {n : Nat} {g : TG} {tb : TS} {D : Ends} {σ : L2.St} {H : Hp} (Pv : Nat → L2.St → Hp → Prop) (h0 : Pv 0 σ H)
    (hs : ∀ i σ H, i < n → Pv i σ H → g (.int (0 + i)) σ H fun σ2 H2 => tb { D with nx := Pv (i + 1), ct := Pv (i + 1), bk := D.nx } σ2 H2) (hd : ∀ σ H, Pv n σ H → D.nx σ H) : ForR n g tb D σ H := for_range (lo := 0) (n := n) Pv h0 hs hd
theorem rg_ok {n : Nat} (h : n ≤ 100000) : -(2 ^ 62) ≤ ((n : Nat) : Int) ∧ ((n : Nat) : Int) < 2 ^ 62 := by constructor <;> omega
theorem cut_from {xs : List V} {k : Nat} (h : k ≤ xs.length) : cutV xs (some (k : Int)) none = xs.drop k := by
  unfold cutV
  rw [HT.sIx_none, HT.sIx_nat, Nat.min_eq_left h]
  exact List.take_of_length_le (by rw [List.length_drop]; exact Nat.le_refl _)
/-- xs.append(v) -/
theorem app_at {H : Hp} {l : Addr} {xs : List V} {v : V} {Q : VK} (h : H l = some (.lst xs)) (hl : xs.length ≤ 1000) (q : Q .non (upd H l (.lst (xs ++ [v])))) : rAppend (.ref l) [v] H Q := ⟨l, xs, v, rfl, rfl, h, small1000 hl, q⟩
/-- the same, what stands behind kept closed -/
theorem join_op {t R : TS} {D : Ends} {σ : L2.St} {H : Hp} (P : L2.St → Hp → Prop) (h2 : ∀ σ' H', P σ' H' → R D σ' H') (h1 : ∀ R' : TS, (∀ σ' H', P σ' H' → R' D σ' H') → tSeq t R' D σ H) : tSeq t R D σ H := h1 R h2
theorem ex_int {i : Int} {P : Int → Prop} (h : P i) : ∃ j, V.int i = V.int j ∧ P j := ⟨i, rfl, h⟩
end ZW

namespace ZW
open PySem PySem.Spec PyProof.Rows L2
theorem dvl_2 : DivOk 2 = True := eq_true ⟨by decide, by decide +kernel⟩
theorem dvl_5 : DivOk 5 = True := eq_true ⟨by decide, by decide +kernel⟩
theorem dvl_6 : DivOk 6 = True := eq_true ⟨by decide, by decide +kernel⟩
theorem dvl_30 : DivOk 30 = True := eq_true ⟨by decide, by decide +kernel⟩
theorem dvl_1000000000000000000000000000000000000000000000 : DivOk 1000000000000000000000000000000000000000000000 = True := eq_true ⟨by decide, by decide +kernel⟩
theorem pwl_10_9 : CPow 10 9 = True := eq_true ⟨by decide, by decide, by decide +kernel⟩
theorem pwl_10_12 : CPow 10 12 = True := eq_true ⟨by decide, by decide, by decide +kernel⟩
theorem pwl_10_18 : CPow 10 18 = True := eq_true ⟨by decide, by decide, by decide +kernel⟩
theorem pwl_10_30 : CPow 10 30 = True := eq_true ⟨by decide, by decide, by decide +kernel⟩
theorem pwl_10_45 : CPow 10 45 = True := eq_true ⟨by decide, by decide, by decide +kernel⟩
end ZW
local macro_rules | `(tactic| walk_at "rd") => `(tactic| ((try simp only [L2.start, List.map_cons, List.map_nil, List.length_cons, List.length_nil, Nat.reduceAdd, Nat.zero_add, Nat.reduceSub, Nat.sub_self, List.replicate, List.cons_append, List.nil_append, List.append_nil]); try simp only [L2.tIfS, L2.tTest, L2.tB, L2.tOp, L2.tUn, L2.tVar, L2.tC, L2.tRet, L2.tRetN, L2.tNext, L2.tAsg, L2.tPar, L2.gName, L2.tCons, L2.tNil, L2.tCall, L2.tCB, L2.tAnd, L2.tOr, L2.tNot, L2.tAndV, L2.tOrV, L2.tNotV, L2.tIf, L2.rI0, L2.rI, L2.rU, L2.rAdd, L2.rSub, L2.rEq, L2.rNe, L2.scal, L2.tTup, L2.tLst, ZW.tTupN, ZW.tLstN, L2.tSl, L2.tPart, L2.tNoPart, ZW.rSlN, ZW.rCatN, ZW.rRepN, ZW.rListN, ZW.rIntB,  L2.tDrop, L2.tIsN, L2.tNotN, L2.tCmp, L2.t2I,
  List.map_cons, List.map_nil, List.length_cons, List.length_nil, List.append_nil, List.nil_append, List.cons_append, List.getElem?_cons_zero, List.getElem?_cons_succ, List.set_cons_zero, List.set_cons_succ, Nat.reduceSub, Nat.reduceAdd, Nat.sub_self, Nat.zero_add, List.getElem?_nil, List.append_eq,
  Option.some.injEq, L2.V.int.injEq, L2.V.bl.injEq, L2.V.ref.injEq, reduceCtorEq, exists_eq_left', exists_eq_left, exists_eq, true_and, and_true, exists_and_left, exists_eq_right, exists_eq_right', decide_true, decide_false, Bool.not_true, Bool.not_false, if_true, if_false, ite_true, ite_false, Bool.false_eq_true, List.cons.injEq, ite_self, and_self, and_assoc, L2.gCons, L2.gNil, Int.reduceToNat, Int.reduceMul, Int.reduceSub, Int.reduceAdd, Int.reduceNe, Int.reduceLE, Int.reduceLT, Int.reduceNeg, Int.reduceEq, ZW.dvl_2, ZW.dvl_5, ZW.dvl_6, ZW.dvl_30, ZW.dvl_1000000000000000000000000000000000000000000000, ZW.pwl_10_9, ZW.pwl_10_12, ZW.pwl_10_18, ZW.pwl_10_30, ZW.pwl_10_45, ZW.sz_line, Nat.reduceLT, Nat.reduceLeDiff, Nat.reduceLeDiff, ne_eq, not_false_eq_true, Int.reducePow, Int.pow_one,  forall_const, implies_true, ZW.cxK, ZW.ncast, L2.tCallS, L2.tYes, L2.gSub, Int.zero_add, ZW.tDictN, L2.wipe]))
local macro_rules | `(tactic| walk_at "ix") => `(tactic| (walk_at "rd"; first | refine ZW.ix_l (L2.SqL.of (by assumption)) (by decide) rfl ?_ | refine ZW.ix_t (L2.SqT.of (by assumption)) (by decide) rfl ?_))
local macro_rules | `(tactic| walk_at "sq") => `(tactic| (walk_at "rd"; refine ZW.seq_step ?_; walk_at "rd"))
local macro_rules | `(tactic| walk_at "isT") => `(tactic| (walk_at "rd"; refine ZW.isi (r := true) (by first | exact .base (.int _) | exact .base (.bl _) | exact .base .non | exact .base (.str _) | exact .base (.tup (by assumption)) | exact .base (.lst (by assumption)) | exact .base (.dK (by assumption))) (by decide +kernel) ?_; walk_at "rd"))
local macro_rules | `(tactic| walk_at "isF") => `(tactic| (walk_at "rd"; refine ZW.isi (r := false) (by first | exact .base (.int _) | exact .base (.bl _) | exact .base .non | exact .base (.str _) | exact .base (.tup (by assumption)) | exact .base (.lst (by assumption)) | exact .base (.dK (by assumption))) (by decide +kernel) ?_; walk_at "rd"))

namespace ZW
open PySem PySem.Spec PyProof.Rows L2
def topS (i : Nat) : Stmt := PySem.Challenge.pw_zonewalk_k19_folded.main.body.getD i (.Pass ⟨0, 0, 0, 0⟩)
abbrev s_below : Stmt := topS 1
theorem sc_below : FnScope ["number"] ["number"] (defScope s_below) := ⟨rfl, rfl, rfl, by decide +kernel, rfl, by decide +kernel, by decide +kernel⟩
abbrev s_number_of : Stmt := topS 2
theorem sc_number_of : FnScope ["bound"] ["bound"] (defScope s_number_of) := ⟨rfl, rfl, rfl, by decide +kernel, rfl, by decide +kernel, by decide +kernel⟩
abbrev s_is_open : Stmt := topS 3
theorem sc_is_open : FnScope ["bound"] ["bound"] (defScope s_is_open) := ⟨rfl, rfl, rfl, by decide +kernel, rfl, by decide +kernel, by decide +kernel⟩
abbrev s_added : Stmt := topS 4
theorem sc_added : FnScope ["one", "other"] ["one", "other"] (defScope s_added) := ⟨rfl, rfl, rfl, by decide +kernel, rfl, by decide +kernel, by decide +kernel⟩
abbrev s_narrower : Stmt := topS 5
theorem sc_narrower : FnScope ["one", "other"] ["one", "other"] (defScope s_narrower) := ⟨rfl, rfl, rfl, by decide +kernel, rfl, by decide +kernel, by decide +kernel⟩
abbrev s_wider : Stmt := topS 6
theorem sc_wider : FnScope ["one", "other"] ["one", "other"] (defScope s_wider) := ⟨rfl, rfl, rfl, by decide +kernel, rfl, by decide +kernel, by decide +kernel⟩
abbrev s_lets : Stmt := topS 7
theorem sc_lets : FnScope ["bound", "value", "top", "bottom", "most"] ["bound", "value"] (defScope s_lets) := ⟨rfl, rfl, rfl, by decide +kernel, rfl, by decide +kernel, by decide +kernel⟩
abbrev s_is_whole : Stmt := topS 12
theorem sc_is_whole : FnScope ["thing"] ["thing"] (defScope s_is_whole) := ⟨rfl, rfl, rfl, by decide +kernel, rfl, by decide +kernel, by decide +kernel⟩
abbrev s_divisor : Stmt := topS 13
theorem sc_divisor : FnScope ["one", "other"] ["one", "other"] (defScope s_divisor) := ⟨rfl, rfl, rfl, by decide +kernel, rfl, by decide +kernel, by decide +kernel⟩
abbrev s_fraction : Stmt := topS 14
theorem sc_fraction : FnScope ["top", "bottom", "share"] ["top", "bottom"] (defScope s_fraction) := ⟨rfl, rfl, rfl, by decide +kernel, rfl, by decide +kernel, by decide +kernel⟩
abbrev s_minus : Stmt := topS 15
theorem sc_minus : FnScope ["one", "other"] ["one", "other"] (defScope s_minus) := ⟨rfl, rfl, rfl, by decide +kernel, rfl, by decide +kernel, by decide +kernel⟩
abbrev s_through : Stmt := topS 18
theorem sc_through : FnScope ["rows", "k", "way", "row", "j"] ["rows", "k"] (defScope s_through) := ⟨rfl, rfl, rfl, by decide +kernel, rfl, by decide +kernel, by decide +kernel⟩
abbrev s_narrowest : Stmt := topS 19
theorem sc_narrowest : FnScope ["zone", "rows", "i", "k", "row"] ["zone"] (defScope s_narrowest) := ⟨rfl, rfl, rfl, by decide +kernel, rfl, by decide +kernel, by decide +kernel⟩
abbrev s_lies_in : Stmt := topS 20
theorem sc_lies_in : FnScope ["zone", "values", "places", "i", "j"] ["zone", "values"] (defScope s_lies_in) := ⟨rfl, rfl, rfl, by decide +kernel, rfl, by decide +kernel, by decide +kernel⟩
abbrev s_within : Stmt := topS 21
theorem sc_within : FnScope ["one", "other", "row", "wide", "bound", "most"] ["one", "other"] (defScope s_within) := ⟨rfl, rfl, rfl, by decide +kernel, rfl, by decide +kernel, by decide +kernel⟩
abbrev s_copied : Stmt := topS 23
theorem sc_copied : FnScope ["zone", "row"] ["zone"] (defScope s_copied) := ⟨rfl, rfl, rfl, by decide +kernel, rfl, by decide +kernel, by decide +kernel⟩
abbrev s_folded : Stmt := topS 24
theorem sc_folded : FnScope ["zone", "mosts", "rows", "greatest", "i", "j", "bound"] ["zone", "mosts"] (defScope s_folded) := ⟨rfl, rfl, rfl, by decide +kernel, rfl, by decide +kernel, by decide +kernel⟩
abbrev s_l_cell_at : Stmt := topS 26
theorem sc_l_cell_at : FnScope ["_law_script", "_law_k"] ["_law_script", "_law_k"] (defScope s_l_cell_at) := ⟨rfl, rfl, rfl, by decide +kernel, rfl, by decide +kernel, by decide +kernel⟩
abbrev s_l_stream : Stmt := topS 27
theorem sc_l_stream : FnScope ["_law_cell", "_law_many", "_law_found", "_law_rest", "_law_k", "_law_number"] ["_law_cell", "_law_many"] (defScope s_l_stream) := ⟨rfl, rfl, rfl, by decide +kernel, rfl, by decide +kernel, by decide +kernel⟩
abbrev s_l_lowest : Stmt := topS 28
theorem sc_l_lowest : FnScope ["_law_top", "_law_bottom", "_law_one", "_law_other"] ["_law_top", "_law_bottom"] (defScope s_l_lowest) := ⟨rfl, rfl, rfl, by decide +kernel, rfl, by decide +kernel, by decide +kernel⟩
abbrev s_l_values : Stmt := topS 29
theorem sc_l_values : FnScope ["_law_xs", "_law_many", "_law_unit", "_law_found", "_law_k", "_law_bottom"] ["_law_xs", "_law_many", "_law_unit"] (defScope s_l_values) := ⟨rfl, rfl, rfl, by decide +kernel, rfl, by decide +kernel, by decide +kernel⟩
abbrev s_l_bound : Stmt := topS 30
theorem sc_l_bound : FnScope ["_law_top", "_law_bottom", "_law_x", "_law_way", "_law_more"] ["_law_top", "_law_bottom", "_law_x"] (defScope s_l_bound) := ⟨rfl, rfl, rfl, by decide +kernel, rfl, by decide +kernel, by decide +kernel⟩
abbrev s_l_around : Stmt := topS 31
theorem sc_l_around : FnScope ["_law_values_here", "_law_xs", "_law_places", "_law_rows", "_law_i", "_law_row", "_law_j", "_law_top"] ["_law_values_here", "_law_xs"] (defScope s_l_around) := ⟨rfl, rfl, rfl, by decide +kernel, rfl, by decide +kernel, by decide +kernel⟩
abbrev s_l_mosts : Stmt := topS 32
theorem sc_l_mosts : FnScope ["_law_values_here", "_law_xs", "_law_unit", "_law_found", "_law_k", "_law_cut", "_law_x"] ["_law_values_here", "_law_xs", "_law_unit"] (defScope s_l_mosts) := ⟨rfl, rfl, rfl, by decide +kernel, rfl, by decide +kernel, by decide +kernel⟩
abbrev s_l_turned : Stmt := topS 33
theorem sc_l_turned : FnScope ["_law_bound_here", "_law_mine", "_law_other", "_law_number"] ["_law_bound_here", "_law_mine", "_law_other"] (defScope s_l_turned) := ⟨rfl, rfl, rfl, by decide +kernel, rfl, by decide +kernel, by decide +kernel⟩
abbrev s_l_folded : Stmt := topS 34
theorem sc_l_folded : FnScope ["_law_zone", "_law_mosts_here", "_law_most", "_law_rows", "_law_i", "_law_row", "_law_j"] ["_law_zone", "_law_mosts_here"] (defScope s_l_folded) := ⟨rfl, rfl, rfl, by decide +kernel, rfl, by decide +kernel, by decide +kernel⟩
abbrev s_law : Stmt := topS 35
theorem sc_law : FnScope ["_law_script", "_law_first", "_law_many", "_law_unit", "_law_values_here", "_law_zone", "_law_cell", "_law_mosts_here", "_law_handed", "_law_found", "_law_row"] ["_law_script"] (defScope s_law) := ⟨rfl, rfl, rfl, by decide +kernel, rfl, by decide +kernel, by decide +kernel⟩
structure Top (K : PySem.W.Frag) (mg : Str → Option Value) where
  f_below : Addr
  d_below : FuncData
  F_below : Fun K "below" "below" s_below f_below d_below
  g_below : mg "below" = some (.ref f_below)
  b_below : Binds K d_below ["number"] []
  f_number_of : Addr
  d_number_of : FuncData
  F_number_of : Fun K "number_of" "number_of" s_number_of f_number_of d_number_of
  g_number_of : mg "number_of" = some (.ref f_number_of)
  b_number_of : Binds K d_number_of ["bound"] []
  f_is_open : Addr
  d_is_open : FuncData
  F_is_open : Fun K "is_open" "is_open" s_is_open f_is_open d_is_open
  g_is_open : mg "is_open" = some (.ref f_is_open)
  b_is_open : Binds K d_is_open ["bound"] []
  f_added : Addr
  d_added : FuncData
  F_added : Fun K "added" "added" s_added f_added d_added
  g_added : mg "added" = some (.ref f_added)
  b_added : Binds K d_added ["one", "other"] []
  f_narrower : Addr
  d_narrower : FuncData
  F_narrower : Fun K "narrower" "narrower" s_narrower f_narrower d_narrower
  g_narrower : mg "narrower" = some (.ref f_narrower)
  b_narrower : Binds K d_narrower ["one", "other"] []
  f_wider : Addr
  d_wider : FuncData
  F_wider : Fun K "wider" "wider" s_wider f_wider d_wider
  g_wider : mg "wider" = some (.ref f_wider)
  b_wider : Binds K d_wider ["one", "other"] []
  f_lets : Addr
  d_lets : FuncData
  F_lets : Fun K "lets" "lets" s_lets f_lets d_lets
  g_lets : mg "lets" = some (.ref f_lets)
  b_lets : Binds K d_lets ["bound", "value"] []
  f_is_whole : Addr
  d_is_whole : FuncData
  F_is_whole : Fun K "is_whole" "is_whole" s_is_whole f_is_whole d_is_whole
  g_is_whole : mg "is_whole" = some (.ref f_is_whole)
  b_is_whole : Binds K d_is_whole ["thing"] []
  f_divisor : Addr
  d_divisor : FuncData
  F_divisor : Fun K "divisor" "divisor" s_divisor f_divisor d_divisor
  g_divisor : mg "divisor" = some (.ref f_divisor)
  b_divisor : Binds K d_divisor ["one", "other"] []
  f_fraction : Addr
  d_fraction : FuncData
  F_fraction : FunD K "fraction" "fraction" (defArgs s_fraction) (defBody s_fraction) (defScope s_fraction) [.int 1] [] f_fraction d_fraction
  g_fraction : mg "fraction" = some (.ref f_fraction)
  b_fraction : Binds K d_fraction ["top", "bottom"] []
  dv_fraction : List Value
  v_fraction : Vals [.int 1] dv_fraction
  bd_fraction : Binds K d_fraction ["top", "bottom"] dv_fraction
  f_minus : Addr
  d_minus : FuncData
  F_minus : Fun K "minus" "minus" s_minus f_minus d_minus
  g_minus : mg "minus" = some (.ref f_minus)
  b_minus : Binds K d_minus ["one", "other"] []
  f_through : Addr
  d_through : FuncData
  F_through : Fun K "through" "through" s_through f_through d_through
  g_through : mg "through" = some (.ref f_through)
  b_through : Binds K d_through ["rows", "k"] []
  f_narrowest : Addr
  d_narrowest : FuncData
  F_narrowest : Fun K "narrowest" "narrowest" s_narrowest f_narrowest d_narrowest
  g_narrowest : mg "narrowest" = some (.ref f_narrowest)
  b_narrowest : Binds K d_narrowest ["zone"] []
  f_lies_in : Addr
  d_lies_in : FuncData
  F_lies_in : Fun K "lies_in" "lies_in" s_lies_in f_lies_in d_lies_in
  g_lies_in : mg "lies_in" = some (.ref f_lies_in)
  b_lies_in : Binds K d_lies_in ["zone", "values"] []
  f_within : Addr
  d_within : FuncData
  F_within : Fun K "within" "within" s_within f_within d_within
  g_within : mg "within" = some (.ref f_within)
  b_within : Binds K d_within ["one", "other"] []
  f_copied : Addr
  d_copied : FuncData
  F_copied : Fun K "copied" "copied" s_copied f_copied d_copied
  g_copied : mg "copied" = some (.ref f_copied)
  b_copied : Binds K d_copied ["zone"] []
  f_folded : Addr
  d_folded : FuncData
  F_folded : Fun K "folded" "folded" s_folded f_folded d_folded
  g_folded : mg "folded" = some (.ref f_folded)
  b_folded : Binds K d_folded ["zone", "mosts"] []
  f_l_cell_at : Addr
  d_l_cell_at : FuncData
  F_l_cell_at : Fun K "_law_cell_at" "_law_cell_at" s_l_cell_at f_l_cell_at d_l_cell_at
  g_l_cell_at : mg "_law_cell_at" = some (.ref f_l_cell_at)
  b_l_cell_at : Binds K d_l_cell_at ["_law_script", "_law_k"] []
  f_l_stream : Addr
  d_l_stream : FuncData
  F_l_stream : Fun K "_law_stream" "_law_stream" s_l_stream f_l_stream d_l_stream
  g_l_stream : mg "_law_stream" = some (.ref f_l_stream)
  b_l_stream : Binds K d_l_stream ["_law_cell", "_law_many"] []
  f_l_lowest : Addr
  d_l_lowest : FuncData
  F_l_lowest : Fun K "_law_lowest" "_law_lowest" s_l_lowest f_l_lowest d_l_lowest
  g_l_lowest : mg "_law_lowest" = some (.ref f_l_lowest)
  b_l_lowest : Binds K d_l_lowest ["_law_top", "_law_bottom"] []
  f_l_values : Addr
  d_l_values : FuncData
  F_l_values : Fun K "_law_values" "_law_values" s_l_values f_l_values d_l_values
  g_l_values : mg "_law_values" = some (.ref f_l_values)
  b_l_values : Binds K d_l_values ["_law_xs", "_law_many", "_law_unit"] []
  f_l_bound : Addr
  d_l_bound : FuncData
  F_l_bound : Fun K "_law_bound" "_law_bound" s_l_bound f_l_bound d_l_bound
  g_l_bound : mg "_law_bound" = some (.ref f_l_bound)
  b_l_bound : Binds K d_l_bound ["_law_top", "_law_bottom", "_law_x"] []
  f_l_around : Addr
  d_l_around : FuncData
  F_l_around : Fun K "_law_around" "_law_around" s_l_around f_l_around d_l_around
  g_l_around : mg "_law_around" = some (.ref f_l_around)
  b_l_around : Binds K d_l_around ["_law_values_here", "_law_xs"] []
  f_l_mosts : Addr
  d_l_mosts : FuncData
  F_l_mosts : Fun K "_law_mosts" "_law_mosts" s_l_mosts f_l_mosts d_l_mosts
  g_l_mosts : mg "_law_mosts" = some (.ref f_l_mosts)
  b_l_mosts : Binds K d_l_mosts ["_law_values_here", "_law_xs", "_law_unit"] []
  f_l_turned : Addr
  d_l_turned : FuncData
  F_l_turned : Fun K "_law_turned" "_law_turned" s_l_turned f_l_turned d_l_turned
  g_l_turned : mg "_law_turned" = some (.ref f_l_turned)
  b_l_turned : Binds K d_l_turned ["_law_bound_here", "_law_mine", "_law_other"] []
  f_l_folded : Addr
  d_l_folded : FuncData
  F_l_folded : Fun K "_law_folded" "_law_folded" s_l_folded f_l_folded d_l_folded
  g_l_folded : mg "_law_folded" = some (.ref f_l_folded)
  b_l_folded : Binds K d_l_folded ["_law_zone", "_law_mosts_here"] []
  f_law : Addr
  d_law : FuncData
  F_law : Fun K "law" "law" s_law f_law d_law
  g_law : mg "law" = some (.ref f_law)
  b_law : Binds K d_law ["_law_script"] []
  C_NoNumber : Addr
  g_NoNumber : mg "NoNumber" = some (.ref C_NoNumber)
  x_NoNumber : PySem.W.excIn K C_NoNumber [.type "ValueError", .type "Exception", .type "BaseException", .type "object"] "ValueError.__new__" = true
  k_NoNumber : PySem.W.keepIn K (.ref C_NoNumber) = true
  b_NoNumber : PySem.W.subIn K (.ref C_NoNumber) (.type "BaseException") = some true
  t_NoNumber : PySem.W.typeIn K (.ref C_NoNumber) = some (.type "type")
  i_NoNumber : PySem.W.isClsIn K C_NoNumber = true
  t_NOUGHT : Tok
  g_NOUGHT : mg "NOUGHT" = some (.int 1 t_NOUGHT)
  m_abs : mg "abs" = none
  m_bool : mg "bool" = none
  m_int : mg "int" = none
  m_isinstance : mg "isinstance" = none
  m_len : mg "len" = none
  m_list : mg "list" = none
  m_max : mg "max" = none
  m_min : mg "min" = none
  m_range : mg "range" = none
  m_zip : mg "zip" = none
/-! ### zones: lists of lists of bounds -/
abbrev Mx := Nat → Nat → Option Int
def up2 (M : Mx) (i j : Nat) (v : Option Int) : Mx := fun a b => if a = i ∧ b = j then v else M a b
def zrow (n : Nat) (f : Nat → Option Int) : List V := (List.range n).map fun j => oV (f j)
theorem zrow_len (n : Nat) (f : Nat → Option Int) : (zrow n f).length = n := by simp [zrow]
theorem zrow_get {n j : Nat} (f : Nat → Option Int) (h : j < n) : (zrow n f)[j]? = some (oV (f j)) := by simp [zrow, h]
theorem zrow_set {n i j : Nat} (M : Mx) (v : Option Int) : (zrow n (M i)).set j (oV v) = zrow n (up2 M i j v i) := by
  apply List.ext_getElem?
  intro k
  by_cases hk : k < n
  · rw [zrow_get _ hk, List.getElem?_set]
    by_cases e : j = k
    · subst e; simp [zrow_len, hk, up2]
    · rw [if_neg e, zrow_get _ hk]
      have : ¬ k = j := fun z => e z.symm
      simp [up2, this]
  · rw [List.getElem?_eq_none (by simp [zrow]; omega), List.getElem?_eq_none (by simp [zrow]; omega)]
theorem zrow_other {n i a j : Nat} (M : Mx) (v : Option Int) (h : a ≠ i) : zrow n (up2 M i j v a) = zrow n (M a) := by
  unfold zrow up2
  apply List.map_congr_left
  intro b _
  rw [if_neg (fun z => h z.1)]
/-- the zone M of n places stands at p, its rows at as -/
structure ZAt (H : Hp) (p : Addr) (as : List Addr) (n : Nat) (M : Mx) : Prop where
  top : H p = some (.lst (as.map V.ref))
  len : as.length = n
  row : ∀ (i : Nat) (a : Addr), as[i]? = some a → H a = some (.lst (zrow n (M i)))
  nd : as.Nodup
theorem ZAt.np {H : Hp} {p : Addr} {as : List Addr} {n : Nat} {M : Mx} (z : ZAt H p as n M) : p ∉ as := by
  intro hp
  obtain ⟨i, hi, e⟩ := List.mem_iff_getElem.mp hp
  have r := z.row i p (by rw [List.getElem?_eq_getElem hi, e])
  have t := z.top
  rw [r] at t
  have e2 : zrow n (M i) = as.map V.ref := by
    have := Option.some.inj t
    injection this
  have h0 : (zrow n (M i))[i]? = (as.map V.ref)[i]? := by rw [e2]
  rw [zrow_get _ (by rw [← z.len]; exact hi), List.getElem?_map, List.getElem?_eq_getElem hi] at h0
  have h1 := Option.some.inj h0
  cases hM : M i i with
  | none => rw [hM] at h1; cases h1
  | some v => rw [hM] at h1; cases h1
theorem ZAt.get {H : Hp} {p : Addr} {as : List Addr} {n : Nat} {M : Mx} (z : ZAt H p as n M) {i : Nat} (h : i < n) : ∃ a, as[i]? = some a ∧ (as.map V.ref)[i]? = some (.ref a) ∧ H a = some (.lst (zrow n (M i))) := by
  have hl : i < as.length := by rw [z.len]; exact h
  refine ⟨as[i], List.getElem?_eq_getElem hl, ?_, z.row i _ (List.getElem?_eq_getElem hl)⟩
  rw [List.getElem?_map, List.getElem?_eq_getElem hl]; rfl
theorem ZAt.set {H : Hp} {p a : Addr} {as : List Addr} {n i j : Nat} {M : Mx} (z : ZAt H p as n M) (v : Option Int) (ha : as[i]? = some a) : ZAt (upd H a (.lst ((zrow n (M i)).set j (oV v)))) p as n (up2 M i j v) := by
  refine ⟨?_, z.len, fun i' a' h' => ?_, z.nd⟩
  · rw [upd_ne (fun e => z.np (by rw [e]; exact List.mem_of_getElem? ha))]; exact z.top
  · by_cases e : i' = i
    · subst e
      obtain rfl : a = a' := Option.some.inj (ha.symm.trans h')
      rw [upd_same, zrow_set]
    · have na : a' ≠ a := fun q => e (nd_ix z.nd h' (by rw [q]; exact ha))
      rw [upd_ne na, z.row i' a' h', zrow_other _ _ e]
theorem ZAt.keep {H H' : Hp} {p : Addr} {as : List Addr} {n : Nat} {M : Mx} (z : ZAt H p as n M) (s : Same H H') : ZAt H' p as n M := ⟨s _ _ z.top, z.len, fun i a h => s _ _ (z.row i a h), z.nd⟩
def iter (f : Nat → Mx → Mx) : Nat → Mx → Mx
  | 0, M => M
  | i + 1, M => f i (iter f i M)
def cell1 (k i j : Nat) (M : Mx) : Mx := up2 M i j (narO (M i j) (addO (M i k) (M k j)))
def rowst (n k i : Nat) (M : Mx) : Mx := if M i k = none then M else iter (cell1 k i) n M
def thr (n k : Nat) (M : Mx) : Mx := iter (rowst n k) n M
def diag1 (i : Nat) (M : Mx) : Mx := up2 (up2 M i i (narO (M i i) (some 1))) 0 i (narO (up2 M i i (narO (M i i) (some 1)) 0 i) (some 1))
def nrw (n : Nat) (M : Mx) : Mx := iter (thr n) n (iter diag1 n M)
/-- all bounds of at most s bits -/
def SzM (s : Nat) (M : Mx) : Prop := ∀ i j v, M i j = some v → Sz s v
theorem SzM.mono {s t : Nat} {M : Mx} (h : SzM s M) (l : s ≤ t) : SzM t M := fun i j v e => (h i j v e).mono l
theorem addO_sz {s : Nat} {x y : Option Int} (hx : ∀ v, x = some v → Sz s v) (hy : ∀ v, y = some v → Sz s v) {v : Int} (h : addO x y = some v) : Sz (s + 2) v := by
  cases x with
  | none => cases h
  | some a =>
    cases y with
    | none => cases h
    | some b =>
      have e := Option.some.inj h
      have h1 := hx a rfl
      have h2 := hy b rfl
      have p : (2 : Nat) ^ (s + 2) = 2 ^ s * 4 := by rw [Nat.pow_add]
      have p0 : 0 < (2 : Nat) ^ s := Nat.pow_pos (by decide)
      unfold Sz at *
      rw [p, ← e]
      split <;> omega
theorem narO_sz {s : Nat} {x y : Option Int} (hx : ∀ v, x = some v → Sz s v) (hy : ∀ v, y = some v → Sz s v) {v : Int} (h : narO x y = some v) : Sz s v := by
  cases x with
  | none => exact hy v h
  | some a =>
    cases y with
    | none => exact hx v h
    | some b =>
      have e := Option.some.inj h
      rw [← e]
      split
      · exact hy b rfl
      · exact hx a rfl
theorem up2_sz {s : Nat} {M : Mx} {i j : Nat} {w : Option Int} (h : SzM s M) (hw : ∀ v, w = some v → Sz s v) : SzM s (up2 M i j w) := fun a b v e => by
  unfold up2 at e
  split at e
  · exact hw v e
  · exact h a b v e
theorem cell1_sz {s : Nat} {M : Mx} {k i j : Nat} (h : SzM s M) : SzM (s + 2) (cell1 k i j M) :=
  up2_sz (h.mono (by omega)) fun v e => narO_sz (fun v e => (h i j v e).mono (by omega)) (fun v e => addO_sz (fun v e => h i k v e) (fun v e => h k j v e) e) e
theorem iter_sz {f : Nat → Mx → Mx} {c s : Nat} {M : Mx} (hf : ∀ i s M, SzM s M → SzM (s + c) (f i M)) (h : SzM s M) : ∀ m, SzM (s + c * m) (iter f m M)
  | 0 => h
  | m + 1 => (hf m _ _ (iter_sz hf h m)).mono (by rw [Nat.mul_succ]; omega)
theorem rowst_sz {n k i s : Nat} {M : Mx} (h : SzM s M) : SzM (s + 2 * n) (rowst n k i M) := by
  unfold rowst
  split
  · exact h.mono (by omega)
  · exact iter_sz (fun _ _ _ h => cell1_sz h) h n
theorem thr_sz {n k s : Nat} {M : Mx} (h : SzM s M) : SzM (s + 2 * n * n) (thr n k M) := iter_sz (fun _ _ _ h => rowst_sz h) h n
theorem diag1_sz {i s : Nat} {M : Mx} (hs : 1 ≤ s) (h : SzM s M) : SzM s (diag1 i M) := by
  have one : Sz s 1 := by
    have : (2 : Nat) ^ 1 ≤ 2 ^ s := Nat.pow_le_pow_right (by decide) hs
    unfold Sz; omega
  have a : SzM s (up2 M i i (narO (M i i) (some 1))) := up2_sz h fun v e => narO_sz (fun v e => h i i v e) (fun v e => by cases e; exact one) e
  exact up2_sz a fun v e => narO_sz (fun v e => a 0 i v e) (fun v e => by cases e; exact one) e
theorem diags_sz {s : Nat} {M : Mx} (hs : 1 ≤ s) (h : SzM s M) : ∀ m, SzM s (iter diag1 m M)
  | 0 => h
  | m + 1 => diag1_sz hs (diags_sz hs h m)
theorem half_sz {s : Nat} {a b : Int} (h1 : Sz s a) (h2 : Sz s b) (h : s ≤ 9990) : Sz 10000 (a / 2 + b / 2) := by
  have p : (2 : Nat) ^ (s + 2) = 2 ^ s * 4 := by rw [Nat.pow_add]
  have p0 : 0 < (2 : Nat) ^ s := Nat.pow_pos (by decide)
  have g : Sz (s + 2) (a / 2 + b / 2) := by
    unfold Sz at *
    rw [p]; omega
  exact g.mono (by omega)
theorem set_at {K : PySem.W.Frag} {H : Hp} {r : Addr} {n j : Nat} {f : Nat → Option Int} {x : Option Int} {Q : Hp → Prop} (h : H r = some (.lst (zrow n f))) (hj : j < n) (q : Q (upd H r (.lst ((zrow n f).set j (oV x))))) : rSetL (.ref r) (.int j) (oV x) H Q := by
  refine ⟨r, _, j, j, rfl, rfl, h, ?_, q⟩
  rw [zrow_len]
  unfold ixN
  rw [if_pos (by omega), if_pos (by omega), Int.toNat_natCast]
theorem ix_row {K : PySem.W.Frag} {H : Hp} {r : Addr} {n j : Nat} {f : Nat → Option Int} {Q : VK} (h : H r = some (.lst (zrow n f))) (hj : j < n) (q : Q (oV (f j)) H) : rIxL K (.ref r) (.int j) H Q :=
  ix_l (.of h) (by omega) (by rw [Int.toNat_natCast]; exact zrow_get _ hj) q
theorem ix_top {K : PySem.W.Frag} {H : Hp} {p : Addr} {as : List Addr} {n i : Nat} {M : Mx} {Q : VK} (z : ZAt H p as n M) (hi : i < n) (q : ∀ a, as[i]? = some a → H a = some (.lst (zrow n (M i))) → Q (.ref a) H) : rIxL K (.ref p) (.int i) H Q := by
  obtain ⟨a, h1, h2, h3⟩ := z.get hi
  exact ix_l (.of z.top) (by omega) (by rw [Int.toNat_natCast]; exact h2) (q a h1 h3)
/-- [list(row) for row in zone]: fresh rows -/
theorem lc_copy {K : PySem.W.Frag} {H : Hp} {p : Addr} {as : List Addr} {n : Nat} {M : Mx} {s c : Nat} {σ : L2.St} {Q : VK} (z : ZAt H p as n M) (hn : n ≤ 60) (hσ : σ[s]? = some (some (.ref p))) (hc : c < σ.length)
    (q : ∀ D as' H', Same H H' → ZAt H' D as' n M → H D = none → (∀ a ∈ as', H a = none) → Q (.ref D) H') :
    tLc (iList K (tVar s)) (gName c) tYes (tCB (rListN K) (tCons (tVar c) tNil)) [c] σ H Q := by
  refine ⟨.ref p, hσ, p, rfl, ⟨_, .of z.top⟩, fun D hD => ?_⟩
  refine lc_list (K := K) (a := p) (xs := as.map V.ref) (fun i H' => ∃ as' : List Addr, Same H H' ∧ H' D = some (.lst (as'.map V.ref)) ∧ as'.length = i ∧ as'.Nodup ∧ (∀ a ∈ as', H a = none ∧ a ≠ D) ∧ ∀ (j : Nat) (a : Addr), as'[j]? = some a → H' a = some (.lst (zrow n (M j))))
    ⟨[], upd_keep hD, upd_same, rfl, List.nodup_nil, (fun a h => by cases h), (fun j a h => by cases h)⟩ (fun i H' _ ⟨_, sm, _⟩ => .of (sm _ _ z.top)) ?_ ?_
  · rintro i x H' hi ⟨as', sm, eD, hl, nd, hf, hr⟩
    have hin : i < n := by
      have := (List.getElem?_eq_some_iff.mp hi).1
      rw [List.length_map, z.len] at this; exact this
    obtain ⟨r, er, er2, hr1⟩ := z.get hin
    obtain rfl : x = .ref r := Option.some.inj (hi.symm.trans er2)
    refine ⟨?_, .ref r, ?_, r, _, rfl, .inl (.of (sm _ _ hr1)), fun l H2 s2 fl e2 => ?_⟩
    · show ((σ.set c none).set c (some (.ref r))).set c none = σ.set c none
      rw [List.set_set, List.set_set]
    · show ((σ.set c none).set c (some (.ref r)))[c]? = some (some (.ref r))
      rw [List.getElem?_set_self (by rw [List.length_set]; exact hc)]
    have nD : l ≠ D := fun e => by rw [e, eD] at fl; cases fl
    have nl : l ∉ as' := fun hm => by
      obtain ⟨j, hj, e⟩ := List.mem_iff_getElem.mp hm
      have := hr j l (by rw [List.getElem?_eq_getElem hj, e])
      rw [fl] at this; cases this
    refine ⟨as'.map V.ref, s2 _ _ eD, by rw [List.length_map, hl]; exact small1000 (by omega), as' ++ [l], same_updN hD (sm.trans s2), ?_, by simp [hl], ?_, ?_, ?_⟩
    · rw [upd_same, List.map_append]; rfl
    · rw [List.nodup_append]
      refine ⟨nd, by simp, fun a ha b hb e => ?_⟩
      have : b = l := by simpa using hb
      exact nl (by rw [← this, ← e]; exact ha)
    · intro a ha
      rcases List.mem_append.mp ha with h | h
      · exact hf a h
      · have : a = l := by simpa using h
        subst this
        exact ⟨sm.free fl, nD⟩
    · intro j a hj
      by_cases c1 : j < as'.length
      · rw [List.getElem?_append_left c1] at hj
        rw [upd_ne (hf a (List.mem_of_getElem? hj)).2]
        exact s2 _ _ (hr j a hj)
      · have hlt := (List.getElem?_eq_some_iff.mp hj).1
        rw [List.length_append, List.length_singleton] at hlt
        obtain rfl : j = as'.length := by omega
        rw [List.getElem?_append_right (Nat.le_refl _), Nat.sub_self] at hj
        have : l = a := by simpa using hj
        subst this
        rw [upd_ne nD, hl]
        exact e2
  · rintro H' ⟨as', sm, eD, hl, nd, hf, hr⟩
    rw [List.length_map, z.len] at hl
    exact q D as' H' sm ⟨eD, hl, hr, nd⟩ hD fun a ha => (hf a ha).1
/-- a bound that is there stays -/
def Has (M : Mx) (i j : Nat) : Prop := ∃ d, M i j = some d
theorem has_up2 {M : Mx} {i j a b : Nat} {x : Option Int} (h : Has M a b) : Has (up2 M i j (narO (M i j) x)) a b := by
  unfold Has up2
  by_cases c : a = i ∧ b = j
  · obtain ⟨rfl, rfl⟩ := c
    obtain ⟨d, e⟩ := h
    rw [if_pos ⟨rfl, rfl⟩, e]
    cases x with
    | none => exact ⟨d, rfl⟩
    | some y => exact ⟨_, rfl⟩
  · rw [if_neg c]; exact h
theorem has_new {M : Mx} {i j : Nat} {y : Int} : Has (up2 M i j (narO (M i j) (some y))) i j := by
  unfold Has up2
  rw [if_pos ⟨rfl, rfl⟩]
  cases M i j with
  | none => exact ⟨y, rfl⟩
  | some v => exact ⟨_, rfl⟩
theorem has_iter {f : Nat → Mx → Mx} {a b : Nat} (hf : ∀ i M, Has M a b → Has (f i M) a b) {M : Mx} (h : Has M a b) : ∀ m, Has (iter f m M) a b
  | 0 => h
  | m + 1 => hf m _ (has_iter hf h m)
theorem has_rowst {n k i a b : Nat} {M : Mx} (h : Has M a b) : Has (rowst n k i M) a b := by
  unfold rowst
  split
  · exact h
  · exact has_iter (fun _ _ h => has_up2 h) h n
theorem has_thr {n k a b : Nat} {M : Mx} (h : Has M a b) : Has (thr n k M) a b := has_iter (fun _ _ h => has_rowst h) h n
theorem has_diag {i a b : Nat} {M : Mx} (h : Has M a b) : Has (diag1 i M) a b := has_up2 (has_up2 h)
theorem has_diags {M : Mx} : ∀ m i, i < m → Has (iter diag1 m M) i i
  | m + 1, i, h => by
    by_cases c : i = m
    · subst c; exact has_up2 has_new
    · exact has_diag (has_diags m i (by omega))
theorem has_nrw {n i : Nat} {M : Mx} (h : i < n) : Has (nrw n M) i i := has_iter (fun _ _ h => has_thr h) (has_diags n i h) n
theorem nrw_sz {n s m : Nat} {M : Mx} (hs : 1 ≤ s) (h : SzM s M) : SzM (s + 2 * n * n * m) (iter (thr n) m (iter diag1 n M)) := iter_sz (fun _ _ _ h => thr_sz h) (diags_sz hs h n) m
theorem ZAt.upd_fresh {H0 H : Hp} {a : Addr} {o : HO} {as : List Addr} (s : Same H0 H) (f : ∀ a ∈ as, H0 a = none) (ha : a ∈ as) : Same H0 (upd H a o) := same_updN (f a ha) s
theorem zrow_snoc (j : Nat) (f : Nat → Option Int) (x : Option Int) : zrow j f ++ [oV x] = zrow (j + 1) (fun b => if b = j then x else f b) := by
  unfold zrow
  rw [List.range_succ, List.map_append]
  congr 1
  · apply List.map_congr_left
    intro b hb
    show oV (f b) = oV (if b = j then x else f b)
    rw [if_neg (by have := List.mem_range.mp hb; omega)]
  · simp
theorem zrow_congr {n : Nat} {f g : Nat → Option Int} (h : ∀ j, j < n → f j = g j) : zrow n f = zrow n g := List.map_congr_left fun j hj => by rw [h j (List.mem_range.mp hj)]
/-- a row is put behind the rows so far -/
structure Grow (H0 H : Hp) (l : Addr) (as : List Addr) (i n : Nat) (M : Mx) : Prop where
  top : H l = some (.lst (as.map V.ref))
  len : as.length = i
  nd : as.Nodup
  fr : ∀ a ∈ as, H0 a = none ∧ a ≠ l
  row : ∀ (j : Nat) (a : Addr), as[j]? = some a → H a = some (.lst (zrow n (M j)))
theorem Grow.snoc {H0 H : Hp} {l r : Addr} {as : List Addr} {i n : Nat} {M : Mx} {f : Nat → Option Int} (g : Grow H0 H l as i n M) (hr : H r = some (.lst (zrow n f))) (fr : H0 r = none) (nr : r ∉ as) (nl : r ≠ l) :
    Grow H0 (upd H l (.lst (as.map V.ref ++ [.ref r]))) l (as ++ [r]) (i + 1) n (fun a b => if a = i then f b else M a b) := by
  refine ⟨by rw [upd_same, List.map_append]; rfl, by simp [g.len], ?_, ?_, ?_⟩
  · rw [List.nodup_append]
    refine ⟨g.nd, by simp, fun a ha b hb e => ?_⟩
    have : b = r := by simpa using hb
    exact nr (by rw [← this, ← e]; exact ha)
  · intro a ha
    rcases List.mem_append.mp ha with h | h
    · exact g.fr a h
    · have : a = r := by simpa using h
      rw [this]; exact ⟨fr, nl⟩
  · intro j a hj
    have len := g.len
    by_cases c1 : j < as.length
    · rw [List.getElem?_append_left c1] at hj
      rw [upd_ne (g.fr a (List.mem_of_getElem? hj)).2, g.row j a hj]
      have : ¬ j = i := by omega
      simp [this]
    · have hlt := (List.getElem?_eq_some_iff.mp hj).1
      rw [List.length_append, List.length_singleton] at hlt
      obtain rfl : j = as.length := by omega
      rw [List.getElem?_append_right (Nat.le_refl _), Nat.sub_self] at hj
      have : r = a := by simpa using hj
      subst this
      rw [upd_ne nl, hr, len]
      simp
theorem Grow.keep {H0 H H' : Hp} {l : Addr} {as : List Addr} {i n : Nat} {M : Mx} (g : Grow H0 H l as i n M) (s : ∀ b o, H b = some o → (b = l ∨ b ∈ as) → H' b = some o) : Grow H0 H' l as i n M :=
  ⟨s _ _ g.top (.inl rfl), g.len, g.nd, g.fr, fun j a h => s _ _ (g.row j a h) (.inr (List.mem_of_getElem? h))⟩
theorem Grow.done {H0 H : Hp} {l : Addr} {as : List Addr} {n : Nat} {M : Mx} (g : Grow H0 H l as n n M) : ZAt H l as n M := ⟨g.top, g.len, g.row, g.nd⟩
def natV (xs : List Nat) : List V := xs.map fun x : Nat => V.int (x : Int)
theorem natV_len (xs : List Nat) : (natV xs).length = xs.length := by simp [natV]
theorem natV_get {xs : List Nat} {i : Nat} (h : i < xs.length) : (natV xs)[i]? = some (.int (xs[i] : Nat)) := by simp [natV, h]
theorem perm_erase {α : Type} : ∀ {l : List α} {k : Nat} (h : k < l.length), List.Perm (l[k] :: l.eraseIdx k) l
  | x :: l, 0, _ => .refl _
  | x :: l, k + 1, h => (List.Perm.swap x _ _).trans (.cons x (perm_erase (l := l) (k := k) (by simpa using h)))
theorem erase_map {α β : Type} (f : α → β) : ∀ (l : List α) (k : Nat), (l.map f).eraseIdx k = (l.eraseIdx k).map f
  | [], _ => rfl
  | _ :: _, 0 => rfl
  | x :: l, k + 1 => by show f x :: (l.map f).eraseIdx k = f x :: (l.eraseIdx k).map f; rw [erase_map f l k]
def oD : Option Int → PyData
  | none => .none
  | some i => .int i
theorem dp_oV {K : PySem.W.Frag} {H : Hp} : ∀ x : Option Int, Dp K H (oV x) (oD x)
  | none => .non
  | some i => .int i
def rdata (n : Nat) (f : Nat → Option Int) : PyData := .list ((List.range n).map fun j => oD (f j))
def zdata (n : Nat) (M : Mx) : PyData := .list ((List.range n).map fun i => rdata n (M i))
theorem dp_row {K : PySem.W.Frag} {H : Hp} {r : Addr} {n : Nat} {f : Nat → Option Int} (h : H r = some (.lst (zrow n f))) : Dp K H (.ref r) (rdata n f) := by
  refine .lst (.of h) (dpall_of (by simp [zrow]) fun k v d h1 h2 => ?_)
  have hk : k < n := by
    have := (List.getElem?_eq_some_iff.mp h1).1
    rwa [zrow_len] at this
  rw [zrow_get _ hk] at h1
  rw [List.getElem?_map, List.getElem?_range hk] at h2
  cases h1; cases h2
  exact dp_oV _
theorem ZAt.dp {K : PySem.W.Frag} {H : Hp} {p : Addr} {as : List Addr} {n : Nat} {M : Mx} (z : ZAt H p as n M) : Dp K H (.ref p) (zdata n M) := by
  refine .lst (.of z.top) (dpall_of (by simp [z.len]) fun k v d h1 h2 => ?_)
  have hk : k < n := by
    have := (List.getElem?_eq_some_iff.mp h1).1
    rwa [List.length_map, z.len] at this
  obtain ⟨a, _, e2, e3⟩ := z.get hk
  rw [e2] at h1
  rw [List.getElem?_map, List.getElem?_range hk] at h2
  cases h1; cases h2
  exact dp_row e3
theorem lay_list {ds : List PyData} {k : Nat} (h : ∀ d ∈ ds, d.canLay0 = true ∧ d.depth ≤ k) : (PyData.list ds).canLay0 = true ∧ (PyData.list ds).depth ≤ k + 1 := by
  have key : ∀ ds : List PyData, (∀ d ∈ ds, d.canLay0 = true ∧ d.depth ≤ k) → PyData.canLayAll0 ds = true ∧ PyData.depthAll ds ≤ k := by
    intro ds
    induction ds with
    | nil => intro _; exact ⟨rfl, Nat.zero_le _⟩
    | cons d ds ih =>
      intro h
      have h1 := h d (List.mem_cons_self ..)
      have h2 := ih fun x hx => h x (List.mem_cons_of_mem _ hx)
      refine ⟨by show (d.canLay0 && PyData.canLayAll0 ds) = true; rw [h1.1, h2.1]; rfl, ?_⟩
      show max d.depth (PyData.depthAll ds) ≤ k
      omega
  have z := key ds h
  exact ⟨z.1, by show PyData.depthAll ds + 1 ≤ k + 1; omega⟩
theorem lay_oD (x : Option Int) : (oD x).canLay0 = true ∧ (oD x).depth ≤ 0 := by cases x <;> exact ⟨rfl, Nat.le_refl _⟩
theorem lay_row (n : Nat) (f : Nat → Option Int) : (rdata n f).canLay0 = true ∧ (rdata n f).depth ≤ 1 := lay_list fun d h => by
  obtain ⟨j, _, rfl⟩ := List.mem_map.mp h
  exact lay_oD _
theorem lay_zone (n : Nat) (M : Mx) : (zdata n M).canLay0 = true ∧ (zdata n M).depth ≤ 2 := lay_list fun d h => by
  obtain ⟨j, _, rfl⟩ := List.mem_map.mp h
  exact lay_row _ _
theorem shaped_zone (n : Nat) (M : Mx) : SeqAt.shaped (zdata n M) = true := Bool.and_eq_true_iff.mpr ⟨(lay_zone n M).1, decide_eq_true (by have := (lay_zone n M).2; omega)⟩
theorem cube_le {n : Nat} (h : n ≤ 8) : 2 * n * n * n ≤ 1024 := Nat.mul_le_mul (Nat.mul_le_mul (Nat.mul_le_mul_left 2 h) h) h
/-! ### the narrowest form, as mathematics -/
/-- the first bound is no wider than the second -/
def leO : Option Int → Option Int → Prop
  | _, none => True
  | none, some _ => False
  | some a, some b => a ≤ b
theorem leO_refl : ∀ x, leO x x
  | none => trivial
  | some a => Int.le_refl a
theorem leO_trans : ∀ {x y z}, leO x y → leO y z → leO x z
  | _, _, none, _, _ => by cases ‹Option Int› <;> trivial
  | some a, some b, some c, h, k => Int.le_trans h k
  | none, some b, some c, h, _ => h.elim
  | _, none, some c, _, k => k.elim
theorem narO_le1 : ∀ x y, leO (narO x y) x
  | none, _ => by cases ‹Option Int› <;> trivial
  | some a, none => Int.le_refl a
  | some a, some b => by show (if b < a then b else a) ≤ a; split <;> omega
theorem narO_le2 : ∀ x y, leO (narO x y) y
  | none, y => leO_refl y
  | some a, none => trivial
  | some a, some b => by show (if b < a then b else a) ≤ b; split <;> omega
theorem le_narO : ∀ {x y z}, leO z x → leO z y → leO z (narO x y)
  | none, _, _, _, k => k
  | some a, none, _, h, _ => h
  | some a, some b, none, h, _ => h.elim
  | some a, some b, some c, h, k => by show c ≤ (if b < a then b else a); split <;> assumption
theorem leO_anti : ∀ {x y}, leO x y → leO y x → x = y
  | none, none, _, _ => rfl
  | some a, none, _, k => k.elim
  | none, some b, h, _ => h.elim
  | some a, some b, h, k => by rw [Int.le_antisymm h k]
theorem narO_of_le {x y : Option Int} (h : leO x y) : narO x y = x := leO_anti (narO_le1 x y) (le_narO (leO_refl x) h)
theorem addO_none (x : Option Int) : addO x none = none := by cases x <;> rfl
theorem none_addO (x : Option Int) : addO none x = none := rfl
theorem addO_comm : ∀ x y, addO x y = addO y x
  | none, y => by rw [addO_none]; rfl
  | some a, none => rfl
  | some a, some b => by show some _ = some _; rw [Int.add_comm (a / 2)]; congr 2; simp only [and_comm]
theorem addO_mono : ∀ {x x' y y'}, leO x x' → leO y y' → leO (addO x y) (addO x' y')
  | x, none, y, y', _, _ => by rw [none_addO]; cases addO x y <;> trivial
  | x, some b, y, none, _, _ => by cases addO x y <;> trivial
  | none, some b, _, some d, h, _ => h.elim
  | some a, some b, none, some d, _, k => k.elim
  | some a, some b, some c, some d, h, k => by
    have h : a ≤ b := h
    have k : c ≤ d := k
    show 2 * (a / 2 + c / 2) + (if a % 2 = 1 ∧ c % 2 = 1 then 1 else 0) ≤ 2 * (b / 2 + d / 2) + (if b % 2 = 1 ∧ d % 2 = 1 then 1 else 0)
    split <;> split <;> omega
theorem addO_assoc : ∀ x y z, addO (addO x y) z = addO x (addO y z)
  | none, y, z => rfl
  | some a, none, z => rfl
  | some a, some b, none => by rw [addO_none, addO_none]; rfl
  | some a, some b, some c => by
    show some _ = some _
    congr 1
    generalize hx : (2 * (a / 2 + b / 2) + if a % 2 = 1 ∧ b % 2 = 1 then 1 else 0) = x
    generalize hy : (2 * (b / 2 + c / 2) + if b % 2 = 1 ∧ c % 2 = 1 then 1 else 0) = y
    have x1 : x / 2 = a / 2 + b / 2 := by rw [← hx]; split <;> omega
    have x2 : x % 2 = 1 ↔ (a % 2 = 1 ∧ b % 2 = 1) := by rw [← hx]; split <;> (constructor <;> intro h) <;> omega
    have y1 : y / 2 = b / 2 + c / 2 := by rw [← hy]; split <;> omega
    have y2 : y % 2 = 1 ↔ (b % 2 = 1 ∧ c % 2 = 1) := by rw [← hy]; split <;> (constructor <;> intro h) <;> omega
    simp only [x2, y2, x1, y1, and_assoc]
    omega
theorem addO_one (x : Option Int) : addO x (some 1) = x := by
  cases x with
  | none => rfl
  | some a =>
    show some _ = some _
    congr 1
    split <;> omega
theorem one_addO (x : Option Int) : addO (some 1) x = x := by rw [addO_comm, addO_one]
/-- the diagonal's place is not below at most 0 -/
def Pos (M : Mx) (k : Nat) : Prop := leO (some 1) (M k k)
theorem pos_add {M : Mx} {k : Nat} (h : Pos M k) (x : Option Int) : leO x (addO x (M k k)) := by
  have := addO_mono (leO_refl x) h
  rwa [addO_one] at this
theorem pos_add' {M : Mx} {k : Nat} (h : Pos M k) (x : Option Int) : leO x (addO (M k k) x) := by rw [addO_comm]; exact pos_add h x
def fw (k : Nat) (M : Mx) : Mx := fun a b => narO (M a b) (addO (M a k) (M k b))
theorem fw_col {M : Mx} {k : Nat} (h : Pos M k) (a : Nat) : fw k M a k = M a k := narO_of_le (pos_add h _)
theorem fw_row {M : Mx} {k : Nat} (h : Pos M k) (b : Nat) : fw k M k b = M k b := narO_of_le (pos_add' h _)
theorem inner_eq {M : Mx} {n k m : Nat} (h : Pos M k) {M' : Mx} (e : ∀ a b, M' a b = if a < m ∧ b < n then fw k M a b else M a b) : ∀ l, l ≤ n → ∀ a b, iter (cell1 k m) l M' a b = if a = m ∧ b < l then fw k M m b else M' a b
  | 0, _, a, b => by rw [if_neg (by omega)]; rfl
  | l + 1, hl, a, b => by
    have ih := inner_eq h e l (by omega)
    have hk : ∀ b, M' k b = M k b := fun b => by
      rw [e]; split
      · exact fw_row h b
      · rfl
    have ik : M' m k = M m k := by rw [e, if_neg (by omega)]
    have c1 : iter (cell1 k m) l M' m l = M m l := by rw [ih, if_neg (by omega), e, if_neg (by omega)]
    have c2 : iter (cell1 k m) l M' m k = M m k := by
      rw [ih]; split
      · exact fw_col h m
      · exact ik
    have c3 : iter (cell1 k m) l M' k l = M k l := by
      rw [ih]; split
      · omega
      · exact hk l
    show up2 (iter (cell1 k m) l M') m l (narO (iter (cell1 k m) l M' m l) (addO (iter (cell1 k m) l M' m k) (iter (cell1 k m) l M' k l))) a b = _
    rw [c1, c2, c3]
    unfold up2
    by_cases c : a = m ∧ b = l
    · obtain ⟨rfl, rfl⟩ := c
      rw [if_pos ⟨rfl, rfl⟩, if_pos ⟨rfl, by omega⟩]; rfl
    · rw [if_neg c, ih]
      by_cases d : a = m ∧ b < l
      · rw [if_pos d, if_pos ⟨d.1, by omega⟩]
      · rw [if_neg d, if_neg (by omega)]
theorem rows_eq {M : Mx} {n k : Nat} (h : Pos M k) : ∀ m, ∀ a b, iter (rowst n k) m M a b = if a < m ∧ b < n then fw k M a b else M a b
  | 0, a, b => by rw [if_neg (by omega)]; rfl
  | m + 1, a, b => by
    have ih := rows_eq (n := n) h m
    have ik : iter (rowst n k) m M m k = M m k := by rw [ih, if_neg (by omega)]
    show (if iter (rowst n k) m M m k = none then iter (rowst n k) m M else iter (cell1 k m) n (iter (rowst n k) m M)) a b = _
    rw [ik]
    split
    · rename_i hz
      rw [ih]
      by_cases c : a = m
      · subst c
        rw [if_neg (by omega)]
        split
        · unfold fw; rw [hz, none_addO]; cases M a b <;> rfl
        · rfl
      · by_cases d : a < m ∧ b < n
        · rw [if_pos d, if_pos ⟨by omega, d.2⟩]
        · rw [if_neg d, if_neg (by omega)]
    · rw [inner_eq h ih n (Nat.le_refl _), ih]
      by_cases c : a = m ∧ b < n
      · obtain ⟨rfl, hb⟩ := c
        rw [if_pos ⟨rfl, hb⟩, if_pos ⟨by omega, hb⟩]
      · rw [if_neg c]
        by_cases d : a < m ∧ b < n
        · rw [if_pos d, if_pos ⟨by omega, d.2⟩]
        · rw [if_neg d, if_neg (by omega)]
theorem thr_eq {M : Mx} {n k : Nat} (h : Pos M k) {a b : Nat} (ha : a < n) (hb : b < n) : thr n k M a b = fw k M a b := by
  unfold thr; rw [rows_eq h n, if_pos ⟨ha, hb⟩]
/-- each place's bound only becomes narrower -/
def LeM (N M : Mx) : Prop := ∀ a b, leO (N a b) (M a b)
theorem LeM.refl (M : Mx) : LeM M M := fun _ _ => leO_refl _
theorem LeM.trans {A B C : Mx} (h : LeM A B) (k : LeM B C) : LeM A C := fun a b => leO_trans (h a b) (k a b)
theorem up2_le (M : Mx) (i j : Nat) (x : Option Int) : LeM (up2 M i j (narO (M i j) x)) M := fun a b => by
  unfold up2
  split
  · rename_i h; obtain ⟨rfl, rfl⟩ := h; exact narO_le1 _ _
  · exact leO_refl _
theorem iter_le {f : Nat → Mx → Mx} (hf : ∀ i M, LeM (f i M) M) (M : Mx) : ∀ m, LeM (iter f m M) M
  | 0 => .refl M
  | m + 1 => (hf m _).trans (iter_le hf M m)
theorem rowst_le (n k i : Nat) (M : Mx) : LeM (rowst n k i M) M := by
  unfold rowst
  split
  · exact .refl M
  · exact iter_le (fun j M => up2_le M i j _) M n
theorem thr_le (n k : Nat) (M : Mx) : LeM (thr n k M) M := iter_le (rowst_le n k) M n
theorem diag1_le (i : Nat) (M : Mx) : LeM (diag1 i M) M := (up2_le _ _ _ _).trans (up2_le _ _ _ _)
theorem nrw_le0 (n : Nat) (M : Mx) : LeM (nrw n M) (iter diag1 n M) := iter_le (thr_le n) _ n
theorem nrw_le (n : Nat) (M : Mx) : LeM (nrw n M) M := (nrw_le0 n M).trans (iter_le diag1_le M n)
theorem iter_le2 {f : Nat → Mx → Mx} (hf : ∀ i M, LeM (f i M) M) (M : Mx) {m : Nat} : ∀ d, LeM (iter f (m + d) M) (iter f m M)
  | 0 => .refl _
  | d + 1 => (hf _ _).trans (iter_le2 hf M d)
/-- through the first K places each bound is as narrow as the way makes it -/
def Tri (n K : Nat) (M : Mx) : Prop := ∀ k, k < K → ∀ i j, i < n → j < n → leO (M i j) (addO (M i k) (M k j))
theorem tri_step {n K : Nat} {M : Mx} (hK : K < n) (t : Tri n K M) (h : Pos M K) : Tri n (K + 1) (thr n K M) := by
  intro k hk i j hi hj
  have hkn : k < n := by omega
  rw [thr_eq h hi hj, thr_eq h hi hkn, thr_eq h hkn hj]
  by_cases c : k = K
  · subst c
    rw [fw_col h, fw_row h]
    exact narO_le2 _ _
  have t := t k (by omega)
  have key : ∀ x y, (leO (M i k) x ∨ leO (addO (M i K) (M K k)) x) → (leO (M k j) y ∨ leO (addO (M k K) (M K j)) y) → leO (fw K M i j) (addO x y) := by
    intro x y hx hy
    rcases hx with hx | hx <;> rcases hy with hy | hy
    · exact leO_trans (narO_le1 _ _) (leO_trans (t i j hi hj) (addO_mono hx hy))
    · refine leO_trans (narO_le2 _ _) (leO_trans ?_ (addO_mono hx hy))
      rw [← addO_assoc]
      exact addO_mono (t i K hi hK) (leO_refl _)
    · refine leO_trans (narO_le2 _ _) (leO_trans ?_ (addO_mono hx hy))
      rw [addO_assoc]
      exact addO_mono (leO_refl _) (t K j hK hj)
    · refine leO_trans (narO_le2 _ _) (leO_trans ?_ (addO_mono hx hy))
      rw [addO_assoc, ← addO_assoc (M K k)]
      have g : leO (some 1) (addO (M K k) (M k K)) := leO_trans h (t K K hK hK)
      have := addO_mono (leO_refl (M i K)) (addO_mono g (leO_refl (M K j)))
      rwa [one_addO] at this
  have nar_or : ∀ x y, leO x (narO x y) ∨ leO y (narO x y) := by
    intro x y
    cases x with
    | none => exact .inr (leO_refl _)
    | some a =>
      cases y with
      | none => exact .inl (leO_refl _)
      | some b =>
        show a ≤ (if b < a then b else a) ∨ b ≤ (if b < a then b else a)
        split
        · exact .inr (Int.le_refl _)
        · exact .inl (Int.le_refl _)
  exact key _ _ (nar_or _ _) (nar_or _ _)
theorem nrw_tri {n : Nat} {M : Mx} (h : ∀ i, i < n → Pos (nrw n M) i) : Tri n n (nrw n M) := by
  have key : ∀ K, K ≤ n → Tri n K (iter (thr n) K (iter diag1 n M)) := by
    intro K
    induction K with
    | zero => intro _ k hk; omega
    | succ K ih =>
      intro hK
      refine tri_step (by omega) (ih (by omega)) ?_
      have l : LeM (nrw n M) (iter (thr n) K (iter diag1 n M)) := by
        have := iter_le2 (thr_le n) (iter diag1 n M) (m := K) (n - K)
        rw [show K + (n - K) = n by omega] at this
        exact this
      exact leO_trans (h K (by omega)) (l K K)
  exact key n (Nat.le_refl _)
/-- a way's bound -/
def pathO (M : Mx) : Nat → List Nat → Option Int
  | _, [] => some 1
  | a, b :: l => addO (M a b) (pathO M b l)
def lastOf : Nat → List Nat → Nat
  | a, [] => a
  | _, b :: l => lastOf b l
theorem path_le {n : Nat} {N : Mx} (t : Tri n n N) : ∀ (l : List Nat) (a c : Nat), a < n → c < n → (∀ x ∈ l, x < n) → leO (N c (lastOf a l)) (addO (N c a) (pathO N a l))
  | [], a, c, ha, hc, _ => by show leO (N c a) (addO (N c a) (some 1)); rw [addO_one]; exact leO_refl _
  | b :: l, a, c, ha, hc, h => by
    have hb : b < n := h b (List.mem_cons_self ..)
    have ih := path_le t l b c hb hc fun x hx => h x (List.mem_cons_of_mem _ hx)
    show leO (N c (lastOf b l)) (addO (N c a) (addO (N a b) (pathO N b l)))
    rw [← addO_assoc]
    exact leO_trans ih (addO_mono (t a ha c b hc hb) (leO_refl _))
theorem path_mono {N M : Mx} (h : LeM N M) : ∀ (l : List Nat) (a : Nat), leO (pathO N a l) (pathO M a l)
  | [], _ => leO_refl _
  | b :: l, a => addO_mono (h a b) (path_mono h l b)
/-- a ring that comes to below at most 0 leaves no zone -/
theorem ring_empty {n a : Nat} {M : Mx} {l : List Nat} (ha : a < n) (hl : ∀ x ∈ l, x < n) {s : Int} (hs : addO (M (lastOf a l) a) (pathO M a l) = some s) (h1 : s < 1) : ¬ ∀ i, i < n → Pos (nrw n M) i := by
  intro h
  have t := nrw_tri h
  have hz : lastOf a l < n := by
    have : ∀ (l : List Nat) (a : Nat), a < n → (∀ x ∈ l, x < n) → lastOf a l < n := by
      intro l
      induction l with
      | nil => intro a ha _; exact ha
      | cons b l ih => intro a _ h; exact ih b (h b (List.mem_cons_self ..)) fun x hx => h x (List.mem_cons_of_mem _ hx)
    exact this l a ha hl
  have p := path_le t l a (lastOf a l) ha hz hl
  have q := addO_mono (nrw_le n M (lastOf a l) a) (path_mono (nrw_le n M) l a)
  rw [hs] at q
  have r := leO_trans (h _ hz) (leO_trans p q)
  have r : (1 : Int) ≤ s := r
  omega
theorem diags_row0 {M : Mx} : ∀ m i, i < m → leO (iter diag1 m M 0 i) (some 1)
  | m + 1, i, h => by
    by_cases c : i = m
    · subst c
      show leO (up2 _ 0 i (narO _ (some 1)) 0 i) (some 1)
      unfold up2
      rw [if_pos ⟨rfl, rfl⟩]
      exact narO_le2 _ _
    · exact leO_trans (diag1_le m _ 0 i) (diags_row0 m i (by omega))
/-- a watch below 0 leaves no zone -/
theorem below_empty {n i : Nat} {M : Mx} (hi : i < n) {s : Int} (hs : M i 0 = some s) (h1 : s < 1) : ¬ ∀ i, i < n → Pos (nrw n M) i := by
  intro h
  have t := nrw_tri h 0 (by omega) i i hi hi
  have a : leO (nrw n M i 0) (some s) := by have := nrw_le n M i 0; rwa [hs] at this
  have b : leO (nrw n M 0 i) (some 1) := leO_trans (nrw_le0 n M 0 i) (diags_row0 n i hi)
  have c := addO_mono a b
  rw [addO_one] at c
  have r := leO_trans (h _ hi) (leO_trans t c)
  have r : (1 : Int) ≤ s := r
  omega
theorem lastOf_snoc : ∀ (l : List Nat) (a c : Nat), lastOf a (l ++ [c]) = c
  | [], _, _ => rfl
  | b :: l, _, c => lastOf_snoc l b c
theorem path_snoc (M : Mx) : ∀ (l : List Nat) (a c : Nat), pathO M a (l ++ [c]) = addO (pathO M a l) (M (lastOf a l) c)
  | [], a, c => by show addO (M a c) (some 1) = addO (some 1) (M a c); rw [addO_one, one_addO]
  | b :: l, a, c => by
    show addO (M a b) (pathO M b (l ++ [c])) = addO (addO (M a b) (pathO M b l)) (M (lastOf b l) c)
    rw [path_snoc M l b c, addO_assoc]
theorem path_up2 {M : Mx} {y c : Nat} {v : Option Int} : ∀ (l : List Nat) (a : Nat), y ∉ (a :: l).dropLast → pathO (up2 M y c v) a l = pathO M a l
  | [], _, _ => rfl
  | b :: l, a, h => by
    have h : y ∉ a :: (b :: l).dropLast := h
    have h1 : a ≠ y := fun e => h (by rw [e]; exact List.mem_cons_self ..)
    show addO (up2 M y c v a b) (pathO (up2 M y c v) b l) = _
    rw [path_up2 l b (fun z => h (List.mem_cons_of_mem _ z))]
    unfold up2
    rw [if_neg (fun z => h1 z.1)]
    rfl
theorem lastOf_mem : ∀ (l : List Nat) (a : Nat), lastOf a l ∈ a :: l
  | [], a => List.mem_cons_self ..
  | b :: l, a => List.mem_cons_of_mem _ (lastOf_mem l b)
theorem lastOf_get : ∀ (l : List Nat) (a k x : Nat), (a :: l)[k]? = some x → lastOf a (l.take k) = x
  | l, a, 0, x, h => by rw [List.take_zero]; exact Option.some.inj h
  | [], a, k + 1, x, h => by cases h
  | b :: l, a, k + 1, x, h => lastOf_get l b k x h
theorem nodup_last {l : List Nat} {a : Nat} (nd : (a :: l).Nodup) : lastOf a l ∉ (a :: l).dropLast := by
  induction l generalizing a with
  | nil => simp [lastOf]
  | cons b l ih =>
    have nd2 := (List.nodup_cons.mp nd)
    show lastOf b l ∉ a :: (b :: l).dropLast
    intro h
    rcases List.mem_cons.mp h with e | h
    · exact nd2.1 (by rw [← e]; exact lastOf_mem l b)
    · exact ih nd2.2 h
theorem get_last : ∀ (l : List Nat) (a : Nat), (a :: l)[l.length]? = some (lastOf a l)
  | [], _ => rfl
  | b :: l, _ => get_last l b
theorem natV_last (l : List Nat) (a : Nat) : atI (natV (a :: l)) (-1) = some (.int (lastOf a l : Nat)) := by
  unfold atI
  have e : ixN (natV (a :: l)).length (-1) = some l.length := by
    rw [natV_len]
    unfold ixN
    rw [if_neg (by omega), if_pos (by rw [List.length_cons]; omega)]
    congr 1
    rw [List.length_cons]; omega
  rw [e]
  show (natV (a :: l))[l.length]? = _
  unfold natV
  rw [List.getElem?_map, get_last]; rfl
theorem not_pos {n : Nat} {M : Mx} (h : ¬ ∀ i, i < n → Pos (nrw n M) i) : ∃ i d, i < n ∧ nrw n M i i = some d ∧ d < 1 := by
  apply Classical.byContradiction
  intro c
  apply h
  intro i hi
  obtain ⟨d, e⟩ := has_nrw (M := M) hi
  show leO (some 1) (nrw n M i i)
  rw [e]
  apply Classical.byContradiction
  intro c2
  have c2 : ¬ (1 : Int) ≤ d := c2
  exact c ⟨i, d, hi, e, by omega⟩
theorem diags_diag {M : Mx} : ∀ m i, i < m → leO (iter diag1 m M i i) (some 1)
  | m + 1, i, h => by
    by_cases c : i = m
    · subst c
      have h1 : leO (up2 (iter diag1 i M) i i (narO (iter diag1 i M i i) (some 1)) i i) (some 1) := by
        unfold up2
        rw [if_pos ⟨rfl, rfl⟩]
        exact narO_le2 _ _
      exact leO_trans (up2_le _ _ _ _ i i) h1
    · exact leO_trans (diag1_le m _ i i) (diags_diag m i (by omega))
theorem nrw_diag {n i : Nat} {M : Mx} (hi : i < n) (h : Pos (nrw n M) i) : nrw n M i i = some 1 := leO_anti (leO_trans (nrw_le0 n M i i) (diags_diag n i hi)) h
theorem nrw_row0 {n i : Nat} {M : Mx} (hi : i < n) : leO (nrw n M 0 i) (some 1) := leO_trans (nrw_le0 n M 0 i) (diags_row0 n i hi)
theorem up2_id (M : Mx) (i j : Nat) : up2 M i j (M i j) = M := by
  funext a b
  unfold up2
  split
  · rename_i h; rw [h.1, h.2]
  · rfl
theorem iter_id {f : Nat → Mx → Mx} {M : Mx} : ∀ m, (∀ i, i < m → f i M = M) → iter f m M = M
  | 0, _ => rfl
  | m + 1, h => by
    show f m (iter f m M) = M
    rw [iter_id m fun i hi => h i (by omega)]
    exact h m (by omega)
/-- a narrow zone is its own narrowest form -/
theorem nrw_idem {n : Nat} {N : Mx} (h1 : ∀ i, i < n → N i i = some 1) (h0 : ∀ i, i < n → leO (N 0 i) (some 1)) (t : Tri n n N) : nrw n N = N := by
  have d : iter diag1 n N = N := iter_id n fun i hi => by
    unfold diag1
    have e : narO (N i i) (some 1) = N i i := by rw [h1 i hi]; rfl
    rw [e, up2_id, narO_of_le (h0 i hi), up2_id]
  unfold nrw
  rw [d]
  refine iter_id n fun k hk => ?_
  funext a b
  have p : Pos N k := by show leO (some 1) (N k k); rw [h1 k hk]; exact leO_refl _
  unfold thr
  rw [rows_eq p n]
  split
  · rename_i c
    exact narO_of_le (t k hk a b c.1 c.2)
  · rfl
/-! ### values: lists of fractions -/
/-- the values xs stand at p -/
def VAt (H : Hp) (p : Addr) (xs : List (Int × Int)) : Prop := ∃ qs : List Addr, H p = some (.lst (qs.map V.ref)) ∧ qs.length = xs.length ∧ ∀ (i : Nat) (q : Addr) (x : Int × Int), qs[i]? = some q → xs[i]? = some x → H q = some (.tup [.int x.1, .int x.2])
theorem VAt.keep {H H' : Hp} {p : Addr} {xs : List (Int × Int)} (v : VAt H p xs) (s : Same H H') : VAt H' p xs := by
  obtain ⟨qs, a, b, c⟩ := v
  exact ⟨qs, s _ _ a, b, fun i q x h1 h2 => s _ _ (c i q x h1 h2)⟩
theorem VAt.get {H : Hp} {p : Addr} {xs : List (Int × Int)} {K : PySem.W.Frag} {Q : VK} (v : VAt H p xs) {i : Nat} {x : Int × Int} (h : xs[i]? = some x) (q : ∀ a, H a = some (.tup [.int x.1, .int x.2]) → Q (.ref a) H) : rIxL K (.ref p) (.int i) H Q := by
  obtain ⟨qs, e1, e2, e3⟩ := v
  have hi : i < qs.length := by rw [e2]; exact (List.getElem?_eq_some_iff.mp h).1
  have hq := List.getElem?_eq_getElem hi
  exact ix_l (v := .ref qs[i]) (.of e1) (by omega) (by rw [Int.toNat_natCast, List.getElem?_map, hq]; rfl) (q _ (e3 i _ x hq h))
/-- good values: from 0 on, bottoms from 1 on, small -/
def GoodV (s : Nat) (xs : List (Int × Int)) : Prop := ∀ x ∈ xs, 0 ≤ x.1 ∧ 0 < x.2 ∧ Sz s x.1 ∧ Sz s x.2
def dif (a b : Int × Int) : Int × Int := (a.1 * b.2 - b.1 * a.2, a.2 * b.2)
/-- whether a fraction is let by hangs on what it stands for alone -/
theorem letsO_ratio {b : Option Int} {t u t' u' : Int} (hu : 0 < u) (hu' : 0 < u') (e : t * u' = t' * u) : letsO b t u = letsO b t' u' := by
  cases b with
  | none => rfl
  | some b =>
    show decide _ = decide _
    refine decide_eq_decide.mpr ?_
    have key : ∀ t u t' u' : Int, 0 < u → 0 < u' → t * u' = t' * u → (t < b / 2 * u → t' < b / 2 * u') ∧ (t = b / 2 * u → t' = b / 2 * u') := by
      intro t u t' u' hu hu' e
      refine ⟨fun h => ?_, fun h => ?_⟩
      · have h1 := Int.mul_lt_mul_of_pos_right h hu'
        rw [e, Int.mul_right_comm] at h1
        exact Int.lt_of_mul_lt_mul_right h1 (by omega)
      · rw [h] at e
        rw [Int.mul_right_comm] at e
        exact (Int.eq_of_mul_eq_mul_right (by omega) e).symm
    have k1 := key t u t' u' hu hu' e
    have k2 := key t' u' t u hu' hu e.symm
    constructor
    · rintro (h | h)
      · exact .inl (k1.1 h)
      · exact .inr ⟨k1.2 h.1, h.2⟩
    · rintro (h | h)
      · exact .inl (k2.1 h)
      · exact .inr ⟨k2.2 h.1, h.2⟩
theorem lets_iff {b t u : Int} : letsO (some b) t u = true ↔ (t < b / 2 * u ∨ (t = b / 2 * u ∧ b % 2 = 1)) := decide_eq_true_iff
/-- a narrower bound lets less by -/
theorem lets_mono {x y : Option Int} {t u : Int} (hu : 0 < u) (h : leO x y) (k : letsO x t u = true) : letsO y t u = true := by
  cases y with
  | none => rfl
  | some b =>
    cases x with
    | none => exact h.elim
    | some a =>
      have h : a ≤ b := h
      rw [lets_iff] at k ⊢
      by_cases c : a / 2 = b / 2
      · rw [← c]
        rcases k with k | k
        · exact .inl k
        · exact .inr ⟨k.1, by omega⟩
      · have l : a / 2 + 1 ≤ b / 2 := by omega
        have m := Int.mul_le_mul_of_nonneg_right l (Int.le_of_lt hu)
        rw [Int.add_mul, Int.one_mul] at m
        rcases k with k | k <;> (left; omega)
/-- sums are let by the sum -/
theorem lets_add {x y : Option Int} {t u t' u' : Int} (hu : 0 < u) (hu' : 0 < u') (h : letsO x t u = true) (k : letsO y t' u' = true) : letsO (addO x y) (t * u' + t' * u) (u * u') = true := by
  cases x with
  | none => rfl
  | some a =>
    cases y with
    | none => rfl
    | some b =>
      rw [lets_iff] at h k
      show letsO (some _) _ _ = true
      rw [lets_iff]
      obtain ⟨c, hc⟩ : ∃ c, (2 * (a / 2 + b / 2) + if a % 2 = 1 ∧ b % 2 = 1 then 1 else 0) = c := ⟨_, rfl⟩
      rw [hc]
      have c1 : c / 2 = a / 2 + b / 2 := by rw [← hc]; split <;> omega
      have c2 : a % 2 = 1 → b % 2 = 1 → c % 2 = 1 := by intro h1 h2; rw [← hc, if_pos ⟨h1, h2⟩]; omega
      rw [c1]
      have e : (a / 2 + b / 2) * (u * u') = a / 2 * u * u' + b / 2 * u' * u := by rw [Int.add_mul]; congr 1 <;> ac_rfl
      rw [e]
      rcases h with h | h <;> rcases k with k | k
      · have h1 := Int.mul_lt_mul_of_pos_right h hu'
        have k1 := Int.mul_lt_mul_of_pos_right k hu
        left; omega
      · have h1 := Int.mul_lt_mul_of_pos_right h hu'
        rw [k.1]
        left; omega
      · have k1 := Int.mul_lt_mul_of_pos_right k hu
        rw [h.1]
        left; omega
      · right
        exact ⟨by rw [h.1, k.1], c2 h.2 k.2⟩
/-- the values v (a fraction for each place) lie in M -/
def Lies (n : Nat) (M : Mx) (v : Nat → Int × Int) : Prop := ∀ i j, i < n → j < n → letsO (M i j) (dif (v i) (v j)).1 (dif (v i) (v j)).2 = true
structure Vals0 (n : Nat) (v : Nat → Int × Int) : Prop where
  zero : v 0 = (0, 1)
  pos : ∀ i, i < n → 0 < (v i).2
  nn : ∀ i, i < n → 0 ≤ (v i).1
theorem dif_pos {a b : Int × Int} (ha : 0 < a.2) (hb : 0 < b.2) : 0 < (dif a b).2 := Int.mul_pos ha hb
theorem lies_cell {n k i j : Nat} {M : Mx} {v : Nat → Int × Int} (h0 : Vals0 n v) (hk : k < n) (hi : i < n) (hj : j < n) (h : Lies n M v) : Lies n (cell1 k i j M) v := by
  intro a b ha hb
  unfold cell1 up2
  split
  · rename_i c
    obtain ⟨rfl, rfl⟩ := c
    have p1 := h0.pos a ha
    have p2 := h0.pos b hb
    have p3 := h0.pos k hk
    have s : letsO (addO (M a k) (M k b)) (dif (v a) (v b)).1 (dif (v a) (v b)).2 = true := by
      have := lets_add (dif_pos p1 p3) (dif_pos p3 p2) (h a k ha hk) (h k b hk hb)
      rw [letsO_ratio (dif_pos p1 p2) (Int.mul_pos (dif_pos p1 p3) (dif_pos p3 p2)) (t' := (dif (v a) (v k)).1 * (dif (v k) (v b)).2 + (dif (v k) (v b)).1 * (dif (v a) (v k)).2)]
      · exact this
      · generalize v a = x at *
        generalize v b = y at *
        generalize v k = z at *
        obtain ⟨x1, x2⟩ := x
        obtain ⟨y1, y2⟩ := y
        obtain ⟨z1, z2⟩ := z
        simp only [dif]
        grind
    have h1 := h a b ha hb
    cases hM : M a b with
    | none => exact s
    | some d =>
      cases hA : addO (M a k) (M k b) with
      | none => rw [hM] at h1; exact h1
      | some e =>
        rw [hM] at h1
        rw [hA] at s
        show letsO (some (if e < d then e else d)) _ _ = true
        split
        · exact s
        · exact h1
  · exact h a b ha hb
theorem lies_iter {n : Nat} {v : Nat → Int × Int} {f : Nat → Mx → Mx} {M : Mx} : ∀ m, (∀ i M, i < m → Lies n M v → Lies n (f i M) v) → Lies n M v → Lies n (iter f m M) v
  | 0, _, h => h
  | m + 1, hf, h => hf m _ (by omega) (lies_iter m (fun i M hi => hf i M (by omega)) h)
theorem lies_thr {n k : Nat} {M : Mx} {v : Nat → Int × Int} (h0 : Vals0 n v) (hk : k < n) (h : Lies n M v) : Lies n (thr n k M) v :=
  lies_iter n (fun i M hi h => by
    unfold rowst
    split
    · exact h
    · exact lies_iter n (fun j M hj h => lies_cell h0 hk hi hj h) h) h
theorem lies_up {n i j : Nat} {M : Mx} {v : Nat → Int × Int} (h : Lies n M v) (h1 : i < n → j < n → letsO (some 1) (dif (v i) (v j)).1 (dif (v i) (v j)).2 = true) : Lies n (up2 M i j (narO (M i j) (some 1))) v := by
  intro a b ha hb
  unfold up2
  split
  · rename_i c
    obtain ⟨rfl, rfl⟩ := c
    have h2 := h a b ha hb
    cases hM : M a b with
    | none => exact h1 ha hb
    | some d =>
      rw [hM] at h2
      show letsO (some (if 1 < d then 1 else d)) _ _ = true
      split
      · exact h1 ha hb
      · exact h2
  · exact h a b ha hb
theorem lies_diag {n i : Nat} {M : Mx} {v : Nat → Int × Int} (h0 : Vals0 n v) (hi : i < n) (h : Lies n M v) : Lies n (diag1 i M) v := by
  refine lies_up (lies_up h fun _ _ => ?_) fun hz _ => ?_
  · rw [lets_iff]
    right
    simp only [dif]
    exact ⟨by rw [show (1 : Int) / 2 = 0 from rfl]; omega, by decide⟩
  · rw [lets_iff]
    simp only [dif, h0.zero]
    have p := h0.nn i hi
    have : (1 : Int) / 2 = 0 := rfl
    rw [this]
    omega
theorem lies_nrw {n : Nat} {M : Mx} {v : Nat → Int × Int} (h0 : Vals0 n v) (h : Lies n M v) : Lies n (nrw n M) v :=
  lies_iter n (fun k M hk h => lies_thr h0 hk h) (lies_iter n (fun i M hi h => lies_diag h0 hi h) h)
theorem lies_of_le {n : Nat} {N M : Mx} {v : Nat → Int × Int} (h0 : Vals0 n v) (l : LeM N M) (h : Lies n N v) : Lies n M v := fun i j hi hj => lets_mono (dif_pos (h0.pos i hi) (h0.pos j hj)) (l i j) (h i j hi hj)
theorem nrw_lies {n : Nat} {M : Mx} {v : Nat → Int × Int} (h0 : Vals0 n v) : Lies n (nrw n M) v ↔ Lies n M v := ⟨lies_of_le h0 (nrw_le n M), lies_nrw h0⟩
/-- where values lie, the diagonal isn't below at most 0 -/
theorem lies_pos {n i : Nat} {M : Mx} {v : Nat → Int × Int} (h0 : Vals0 n v) (hi : i < n) (h : Lies n M v) : Pos M i := by
  have h1 := h i i hi hi
  cases hM : M i i with
  | none => show leO (some 1) (M i i); rw [hM]; trivial
  | some d =>
    show leO (some 1) (M i i)
    rw [hM] at h1 ⊢
    rw [lets_iff] at h1
    show 1 ≤ d
    have e : (dif (v i) (v i)).1 = 0 := by simp only [dif]; omega
    have p := dif_pos (h0.pos i hi) (h0.pos i hi)
    rw [e] at h1
    generalize (dif (v i) (v i)).2 = D at *
    rcases Int.lt_or_le (d / 2) 0 with c | c
    · have := Int.mul_neg_of_neg_of_pos c p
      rcases h1 with h1 | h1 <;> omega
    · rcases Int.lt_or_le 0 (d / 2) with c2 | c2
      · omega
      · have z : d / 2 = 0 := by omega
        rw [z, Int.zero_mul] at h1
        rcases h1 with h1 | h1 <;> omega
/-- the places: nought, then the values -/
def plc (xs : List (Int × Int)) : Nat → Int × Int := fun i => ((0, 1) :: xs).getD i (0, 1)
theorem plc_get {xs : List (Int × Int)} {i : Nat} (h : i < xs.length + 1) : ((0, 1) :: xs)[i]? = some (plc xs i) := by
  have h2 : i < ((0, 1) :: xs).length := h
  show _ = some (((0, 1) :: xs).getD i (0, 1))
  rw [List.getD_eq_getElem?_getD, List.getElem?_eq_getElem h2]; rfl
theorem plc_good {s : Nat} {xs : List (Int × Int)} (g : GoodV s xs) (hs : 1 ≤ s) (i : Nat) : 0 ≤ (plc xs i).1 ∧ 0 < (plc xs i).2 ∧ Sz s (plc xs i).1 ∧ Sz s (plc xs i).2 := by
  have one : Sz s 1 := by
    have : (2 : Nat) ^ 1 ≤ 2 ^ s := Nat.pow_le_pow_right (by decide) hs
    unfold Sz; omega
  have base : (0 : Int) ≤ ((0, 1) : Int × Int).1 ∧ 0 < ((0, 1) : Int × Int).2 ∧ Sz s ((0, 1) : Int × Int).1 ∧ Sz s ((0, 1) : Int × Int).2 := ⟨by decide, by decide, by unfold Sz; exact Nat.pow_pos (by decide), one⟩
  unfold plc
  cases h : ((0, 1) :: xs)[i]? with
  | none => rw [List.getD_eq_getElem?_getD, h]; exact base
  | some x =>
    rw [List.getD_eq_getElem?_getD, h]
    rcases List.mem_cons.mp (List.mem_of_getElem? h) with e | m
    · rw [e]; exact base
    · exact g x m
theorem plc_vals {s : Nat} {xs : List (Int × Int)} (g : GoodV s xs) (hs : 1 ≤ s) (n : Nat) : Vals0 n (plc xs) := ⟨rfl, fun i _ => (plc_good g hs i).2.1, fun i _ => (plc_good g hs i).1⟩
/-- at most the number from above, and more -/
theorem ceil_ok {t u k : Int} (hu : 0 < u) (hk : 0 ≤ k) : letsO (some (2 * (0 - (0 - t).fdiv u + k) + 1)) t u = true := by
  rw [lets_iff]
  rw [Int.fdiv_eq_ediv_of_nonneg _ (by omega)]
  have e : (2 * (0 - (0 - t) / u + k) + 1) / 2 = 0 - (0 - t) / u + k := by omega
  have e2 : (2 * (0 - (0 - t) / u + k) + 1) % 2 = 1 := by omega
  rw [e, e2]
  have h1 := Int.ediv_mul_le (0 - t) (b := u) (by omega)
  have h2 : 0 ≤ k * u := Int.mul_nonneg hk (by omega)
  rw [Int.add_mul, Int.sub_mul, Int.zero_mul]
  generalize (0 - t) / u * u = A at *
  omega
/-- below the number above, and more -/
theorem floor_ok {t u k : Int} (hu : 0 < u) (hk : 0 ≤ k) : letsO (some (2 * (t.fdiv u + 1 + k))) t u = true := by
  rw [lets_iff]
  rw [Int.fdiv_eq_ediv_of_nonneg _ (by omega)]
  have e : (2 * (t / u + 1 + k)) / 2 = t / u + 1 + k := by omega
  rw [e]
  have h1 := Int.lt_ediv_add_one_mul_self t hu
  have h2 : 0 ≤ k * u := Int.mul_nonneg hk (by omega)
  rw [Int.add_mul]
  generalize (t / u + 1) * u = A at *
  omega
theorem fdiv_sz {s : Nat} {t u : Int} (hu : 0 < u) (h : Sz s t) : Sz (s + 1) (t.fdiv u) := by
  rw [Int.fdiv_eq_ediv_of_nonneg _ (by omega)]
  have p : (2 : Nat) ^ (s + 1) = 2 ^ s * 2 := Nat.pow_succ ..
  unfold Sz at *
  rw [p]
  rcases Int.lt_or_le t 0 with c | c
  · have h1 : t ≤ t / u := by
      have := Int.ediv_le_ediv (c := u) (by omega) (Int.le_refl t)
      rcases Int.lt_or_le (t / u) t with z | z
      · have z1 : t / u + 1 ≤ t := by omega
        have z2 := Int.mul_le_mul_of_nonneg_right z1 (Int.le_of_lt hu)
        have z3 := Int.lt_ediv_add_one_mul_self t hu
        have z4 : t * u ≤ t * 1 := Int.mul_le_mul_of_nonpos_left (by omega) (by omega)
        omega
      · exact z
    have h2 : t / u < 0 := Int.ediv_neg_of_neg_of_pos c hu
    omega
  · have h1 := Int.ediv_nonneg c (Int.le_of_lt hu)
    have h2 := Int.ediv_le_self (a := t) u c
    omega
theorem half1 {b : Int} (h : Sz 9000 b) : Sz 10000 (b / 2) := Sz.le (j := b) (by omega) (h.mono (by omega))
theorem VAt.upd_ne {H : Hp} {o l : Addr} {xs : List (Int × Int)} {items items' : List V} (v : VAt H o xs) (hl : H l = some (.lst items)) (n : o ≠ l) : VAt (upd H l (.lst items')) o xs := by
  obtain ⟨qs, a, b, c⟩ := v
  refine ⟨qs, by rw [L2.upd_ne n]; exact a, b, fun i q x h1 h2 => ?_⟩
  have h3 := c i q x h1 h2
  rw [L2.upd_ne (ne_of h3 hl (by intro z; cases z))]
  exact h3
theorem VAt.set {H : Hp} {o q : Addr} {xs : List (Int × Int)} {i : Nat} {x : Int × Int} (v : VAt H o xs) (hq : H q = some (.tup [.int x.1, .int x.2])) : ∃ items, H o = some (.lst items) ∧ items.length = xs.length ∧ VAt (upd H o (.lst (items.set i (.ref q)))) o (xs.set i x) := by
  obtain ⟨qs, a, b, c⟩ := v
  refine ⟨_, a, by rw [List.length_map]; exact b, qs.set i q, by rw [upd_same, List.map_set], by simp [b], fun k q' x' h1 h2 => ?_⟩
  have nq : ∀ r y, H r = some (.tup y) → (upd H o (.lst ((qs.map V.ref).set i (.ref q)))) r = some (.tup y) := fun r y h => by
    rw [L2.upd_ne (ne_of h a (by intro z; cases z))]; exact h
  rw [List.getElem?_set] at h1 h2
  by_cases e : i = k
  · rw [if_pos e] at h1 h2
    split at h1
    · split at h2
      · cases h1; cases h2; exact nq _ _ hq
      · cases h2
    · cases h1
  · rw [if_neg e] at h1 h2
    exact nq _ _ (c k q' x' h1 h2)
theorem GoodV.set {s : Nat} {xs : List (Int × Int)} {i : Nat} {x : Int × Int} (g : GoodV s xs) (h : 0 ≤ x.1 ∧ 0 < x.2 ∧ Sz s x.1 ∧ Sz s x.2) : GoodV s (xs.set i x) := fun y hy => by
  rcases List.mem_or_eq_of_mem_set hy with h1 | h1
  · exact g y h1
  · rw [h1]; exact h
/-- all are in lowest terms -/
def RedV (xs : List (Int × Int)) : Prop := ∀ x ∈ xs, Int.gcd x.1 x.2 = 1
theorem RedV.set {xs : List (Int × Int)} {i : Nat} {x : Int × Int} (g : RedV xs) (h : Int.gcd x.1 x.2 = 1) : RedV (xs.set i x) := fun y hy => by
  rcases List.mem_or_eq_of_mem_set hy with h1 | h1
  · exact g y h1
  · rw [h1]; exact h
theorem GoodV.mono {s t : Nat} {xs : List (Int × Int)} (g : GoodV s xs) (h : s ≤ t) : GoodV t xs := fun x hx => ⟨(g x hx).1, (g x hx).2.1, (g x hx).2.2.1.mono h, (g x hx).2.2.2.mono h⟩
/-- list(values) -/
theorem list_vals {K : PySem.W.Frag} {H : Hp} {o : Addr} {xs : List (Int × Int)} {Q : VK} (v : VAt H o xs) (q : ∀ l H2, Same H H2 → H l = none → VAt H2 l xs → Q (.ref l) H2) : rListN K [.ref o] H Q := by
  obtain ⟨qs, a, b, c⟩ := v
  exact ⟨o, _, rfl, .inl (.of a), fun l H2 s f e => q l H2 s f ⟨qs, e, b, fun i q x h1 h2 => s _ _ (c i q x h1 h2)⟩⟩
/-! ### rows made anew -/
theorem zrow_rep (k : Nat) (x : Option Int) : (List.replicate k [oV x]).flatten = zrow k (fun _ => x) := by
  rw [List.flatten_replicate_singleton]
  unfold zrow
  rw [List.map_const', List.length_range]
theorem zrow_app (a b : Nat) (f : Nat → Option Int) : zrow a f ++ zrow b (fun j => f (a + j)) = zrow (a + b) f := by
  unfold zrow
  rw [List.range_add, List.map_append, List.map_map]
  rfl
theorem Grow.to {H0 H : Hp} {l : Addr} {as : List Addr} {i n : Nat} {M N : Mx} (g : Grow H0 H l as i n M) (h : ∀ a b, a < i → b < n → M a b = N a b) : Grow H0 H l as i n N :=
  ⟨g.top, g.len, g.nd, g.fr, fun j a hj => by
    have hl := (List.getElem?_eq_some_iff.mp hj).1
    have := g.len
    rw [g.row j a hj, zrow_congr fun b hb => h j b (by omega) hb]⟩
/-- [row for k in range(n)]: fresh rows -/
theorem lc_rowsR {H : Hp} {n c : Nat} {σ : L2.St} {M : Mx} {ta : TA} {te : TE} {Q : VK} (hn : n ≤ 60) (hc : c < σ.length)
    (ha : ∀ Q1 : List V → Hp → Prop, Q1 [.int n] H → ta σ H Q1)
    (ht : ∀ i H1 (Q1 : VK), i < n → (∀ r H2, Same H1 H2 → H1 r = none → H2 r = some (.lst (zrow n (M i))) → Q1 (.ref r) H2) → te ((σ.set c none).set c (some (.int (0 + (i : Int))))) H1 Q1)
    (q : ∀ D as' H', Same H H' → ZAt H' D as' n M → H D = none → (∀ a ∈ as', H a = none) → Q (.ref D) H') :
    tLc (iRng1 ta) (gName c) tYes te [c] σ H Q := by
  refine ha _ ⟨(n : Int), rfl, (rg_ok (by omega)).1, (rg_ok (by omega)).2, fun D hD => ?_⟩
  refine lc_range (lo := 0) (n := n) (fun i H' => ∃ as' : List Addr, Same H H' ∧ H' D = some (.lst (as'.map V.ref)) ∧ as'.length = i ∧ as'.Nodup ∧ (∀ a ∈ as', H a = none ∧ a ≠ D) ∧ ∀ (j : Nat) (a : Addr), as'[j]? = some a → H' a = some (.lst (zrow n (M j))))
    ⟨[], upd_keep hD, upd_same, rfl, List.nodup_nil, (fun a h => by cases h), (fun j a h => by cases h)⟩ ?_ ?_
  · rintro i H' hi ⟨as', sm, eD, hl, nd, hf, hr⟩
    refine ⟨?_, ?_⟩
    · show ((σ.set c none).set c (some (.int (0 + (i : Int))))).set c none = σ.set c none
      rw [List.set_set, List.set_set]
    refine ht i H' _ hi fun l H2 s2 fl e2 => ?_
    have nD : l ≠ D := fun e => by rw [e, eD] at fl; cases fl
    have nl : l ∉ as' := fun hm => by
      obtain ⟨j, hj, e⟩ := List.mem_iff_getElem.mp hm
      have := hr j l (by rw [List.getElem?_eq_getElem hj, e])
      rw [fl] at this; cases this
    refine ⟨as'.map V.ref, s2 _ _ eD, by rw [List.length_map, hl]; exact small1000 (by omega), as' ++ [l], same_updN hD (sm.trans s2), ?_, by simp [hl], ?_, ?_, ?_⟩
    · rw [upd_same, List.map_append]; rfl
    · rw [List.nodup_append]
      refine ⟨nd, by simp, fun a ha b hb e => ?_⟩
      have : b = l := by simpa using hb
      exact nl (by rw [← this, ← e]; exact ha)
    · intro a ha
      rcases List.mem_append.mp ha with h | h
      · exact hf a h
      · have : a = l := by simpa using h
        subst this
        exact ⟨sm.free fl, nD⟩
    · intro j a hj
      by_cases c1 : j < as'.length
      · rw [List.getElem?_append_left c1] at hj
        rw [upd_ne (hf a (List.mem_of_getElem? hj)).2]
        exact s2 _ _ (hr j a hj)
      · have hlt := (List.getElem?_eq_some_iff.mp hj).1
        rw [List.length_append, List.length_singleton] at hlt
        obtain rfl : j = as'.length := by omega
        rw [List.getElem?_append_right (Nat.le_refl _), Nat.sub_self] at hj
        have : l = a := by simpa using hj
        subst this
        rw [upd_ne nD, hl]
        exact e2
  · rintro H' ⟨as', sm, eD, hl, nd, hf, hr⟩
    exact q D as' H' sm ⟨eD, hl, hr, nd⟩ hD fun a ha => (hf a ha).1
/-- a for over a range from a place on -/
def ForR2 (lo : Int) (n : Nat) (g : TG) (tb : TS) (D : Ends) (σ : L2.St) (H : Hp) : Prop := ∃ W : Nat → Nat → L2.St → Hp → Prop, (∃ m, W 0 m σ H) ∧ ∀ i m σ H, W i m σ H →
  ((Itr lo n).stop i H ∧ D.nx σ H) ∨ ((Itr lo n).go i H ∧ ∃ N : L2.St → Hp → Prop, (∀ σ' H', N σ' H' → ∃ m', m' < m ∧ W (i + 1) m' σ' H') ∧ ∀ x H', (Itr lo n).yld i H x H' → g x σ H' fun σ2 H2 => tb { D with nx := N, ct := N, bk := D.nx } σ2 H2)
theorem for_rg2 {ta : TA} {g : TG} {tb : TS} {D : Ends} {σ : L2.St} {H : Hp} (h : ta σ H fun vs H1 => ∃ i j : Int, vs = [.int i, .int j] ∧ (-(2 ^ 62) ≤ i ∧ i < 2 ^ 62 ∧ -(2 ^ 62) ≤ j ∧ j < 2 ^ 62) ∧ ForR2 i (j - i).toNat g tb D σ H1) : tFor (iRng2 ta) g tb D σ H := h
theorem forR2_by {lo : Int} {n : Nat} {g : TG} {tb : TS} {D : Ends} {σ : L2.St} {H : Hp} (Pv : Nat → L2.St → Hp → Prop) (h0 : Pv 0 σ H)
    (hs : ∀ i σ H, i < n → Pv i σ H → g (.int (lo + i)) σ H fun σ2 H2 => tb { D with nx := Pv (i + 1), ct := Pv (i + 1), bk := D.nx } σ2 H2) (hd : ∀ σ H, Pv n σ H → D.nx σ H) : ForR2 lo n g tb D σ H := for_range (lo := lo) (n := n) Pv h0 hs hd
/-- the zone of all stands -/
def evM : Mx := fun i j => if i = 0 ∨ i = j then some 1 else none
def oneM : Mx := fun _ _ => some 1
/-! ### values as data, and the zones of all and of the noughts alone -/
def vdata (xs : List (Int × Int)) : PyData := .list (xs.map fun x => .tuple [.int x.1, .int x.2])
theorem VAt.dp {K : PySem.W.Frag} {H : Hp} {p : Addr} {xs : List (Int × Int)} (v : VAt H p xs) : Dp K H (.ref p) (vdata xs) := by
  obtain ⟨qs, a, b, c⟩ := v
  refine .lst (.of a) (dpall_of (by simp [b]) fun k v d h1 h2 => ?_)
  rw [List.getElem?_map] at h1 h2
  obtain ⟨q, hq, rfl⟩ := Option.map_eq_some_iff.mp h1
  obtain ⟨x, hx, rfl⟩ := Option.map_eq_some_iff.mp h2
  exact .tup (.of (c k q x hq hx)) (.cons (.int _) (.cons (.int _) .nil))
theorem lay_vals (xs : List (Int × Int)) : (vdata xs).canLay0 = true ∧ (vdata xs).depth ≤ 2 := lay_list fun d h => by
  obtain ⟨x, _, rfl⟩ := List.mem_map.mp h
  exact ⟨rfl, Nat.le_refl _⟩
theorem shaped_vals (xs : List (Int × Int)) : SeqAt.shaped (vdata xs) = true := Bool.and_eq_true_iff.mpr ⟨(lay_vals xs).1, decide_eq_true (by have := (lay_vals xs).2; omega)⟩
theorem eqv_vals {xs ys : List (Int × Int)} (h : xs.length = ys.length) : PyData.eqv (vdata xs) (vdata ys) = decide (xs = ys) := by
  have key : ∀ xs ys : List (Int × Int), xs.length = ys.length → PyData.eqvAll (xs.map fun x => .tuple [.int x.1, .int x.2]) (ys.map fun x => .tuple [.int x.1, .int x.2]) = decide (xs = ys) := by
    intro xs
    induction xs with
    | nil =>
      intro ys h
      cases ys with
      | nil => rfl
      | cons y ys => cases h
    | cons x xs ih =>
      intro ys h
      cases ys with
      | nil => cases h
      | cons y ys =>
        obtain ⟨a, b⟩ := x
        obtain ⟨c, d⟩ := y
        have := ih ys (by simpa using h)
        simp only [List.map_cons]
        rw [PyData.eqvAll, this]
        simp [PyData.eqv, PyData.eqvAll, and_assoc]
        rw [Bool.eq_iff_iff]
        simp [and_assoc]
  rw [show PyData.eqv (vdata xs) (vdata ys) = PyData.eqvAll (xs.map fun x => .tuple [.int x.1, .int x.2]) (ys.map fun x => .tuple [.int x.1, .int x.2]) by unfold vdata; rw [PyData.eqv]]
  exact key xs ys h
theorem lies_ev {n : Nat} {v : Nat → Int × Int} (h0 : Vals0 n v) : Lies n evM v := fun i j hi hj => by
  unfold evM
  split
  · rename_i c
    rw [lets_iff]
    rcases c with rfl | rfl
    · simp only [dif, h0.zero]
      have p := h0.nn j hj
      have : (1 : Int) / 2 = 0 := rfl
      rw [this]
      omega
    · right
      simp only [dif]
      exact ⟨by rw [show (1 : Int) / 2 = 0 from rfl]; omega, by decide⟩
  · rfl
theorem lies_one {n : Nat} {v : Nat → Int × Int} (h0 : Vals0 n v) : Lies n oneM v ↔ ∀ i, i < n → (v i).1 = 0 := by
  constructor
  · intro h i hi
    have h1 := h i 0 hi (by omega)
    have h1 : letsO (some 1) _ _ = true := h1
    rw [lets_iff] at h1
    simp only [dif, h0.zero] at h1
    have p := h0.nn i hi
    have : (1 : Int) / 2 = 0 := rfl
    rw [this] at h1
    omega
  · intro h i j hi hj
    show letsO (some 1) _ _ = true
    rw [lets_iff]
    right
    simp only [dif, h i hi, h j hj]
    exact ⟨by rw [show (1 : Int) / 2 = 0 from rfl]; omega, by decide⟩
theorem noughts {s : Nat} {xs : List (Int × Int)} (g : GoodV s xs) (r : RedV xs) : (∀ i, i < xs.length + 1 → (plc xs i).1 = 0) ↔ xs = List.replicate xs.length (0, 1) := by
  constructor
  · intro h
    rw [List.eq_replicate_iff]
    refine ⟨rfl, fun b hb => ?_⟩
    obtain ⟨i, hi, e⟩ := List.mem_iff_getElem.mp hb
    have h1 := h (i + 1) (by omega)
    have h2 := plc_get (xs := xs) (i := i + 1) (by omega)
    rw [List.getElem?_cons_succ, List.getElem?_eq_getElem hi, e] at h2
    have h2 := Option.some.inj h2
    rw [← h2] at h1
    have h3 := r b hb
    have h4 := (g b hb).2.1
    obtain ⟨t, u⟩ := b
    have h1 : t = 0 := h1
    subst h1
    have h3 : Int.gcd 0 u = 1 := h3
    rw [Int.gcd_zero_left] at h3
    have h4 : 0 < u := h4
    rw [show u = 1 by omega]
  · intro h i hi
    have h2 := List.mem_of_getElem? (plc_get (xs := xs) hi)
    rcases List.mem_cons.mp h2 with e | e
    · rw [e]
    · rw [List.eq_of_mem_replicate (h.subst (motive := fun l => plc xs i ∈ l) e)]
theorem lies_noughts {s n : Nat} {xs : List (Int × Int)} (g : GoodV s xs) (hs : 1 ≤ s) (r : RedV xs) (hn : xs.length + 1 = n) : Lies n oneM (plc xs) ↔ xs = List.replicate xs.length (0, 1) := by
  subst hn
  exact (lies_one (plc_vals g hs _)).trans (noughts g r)
/-- a zone and values, in one list -/
def pdata (n : Nat) (M : Mx) (xs : List (Int × Int)) : PyData := .list [zdata n M, vdata xs]
theorem dp_pair {K : PySem.W.Frag} {H : Hp} {p a b : Addr} {n : Nat} {M : Mx} {xs : List (Int × Int)} {as : List Addr} (h : H p = some (.lst [.ref a, .ref b])) (z : ZAt H a as n M) (v : VAt H b xs) : Dp K H (.ref p) (pdata n M xs) := .lst (.of h) (.cons z.dp (.cons v.dp .nil))
theorem lay_pair (n : Nat) (M : Mx) (xs : List (Int × Int)) : (pdata n M xs).canLay0 = true ∧ (pdata n M xs).depth ≤ 3 := lay_list fun d h => by
  rcases List.mem_cons.mp h with h | h
  · rw [h]; exact lay_zone _ _
  · rw [List.mem_singleton.mp h]; exact lay_vals _
theorem shaped_pair (n : Nat) (M : Mx) (xs : List (Int × Int)) : SeqAt.shaped (pdata n M xs) = true := Bool.and_eq_true_iff.mpr ⟨(lay_pair n M xs).1, decide_eq_true (by have := (lay_pair n M xs).2; omega)⟩
/-! ### zones made wider beyond the greatest numbers asked -/
theorem cell1_mono {k i j : Nat} {M T : Mx} (h : LeM M T) : LeM (cell1 k i j M) (cell1 k i j T) := fun a b => by
  unfold cell1 up2
  split
  · exact le_narO (leO_trans (narO_le1 _ _) (h i j)) (leO_trans (narO_le2 _ _) (addO_mono (h i k) (h k j)))
  · exact h a b
theorem iter_mono {f : Nat → Mx → Mx} (hf : ∀ i M T, LeM M T → LeM (f i M) (f i T)) {M T : Mx} (h : LeM M T) : ∀ m, LeM (iter f m M) (iter f m T)
  | 0 => h
  | m + 1 => hf m _ _ (iter_mono hf h m)
theorem rowst_mono {n k i : Nat} {M T : Mx} (h : LeM M T) : LeM (rowst n k i M) (rowst n k i T) := by
  by_cases c : T i k = none
  · rw [show rowst n k i T = T by unfold rowst; rw [if_pos c]]
    exact (rowst_le n k i M).trans h
  · have c2 : M i k ≠ none := fun e => by
      have := h i k
      rw [e] at this
      cases hT : T i k with
      | none => exact c hT
      | some v => rw [hT] at this; exact this.elim
    unfold rowst
    rw [if_neg c, if_neg c2]
    exact iter_mono (f := cell1 k i) (fun _ _ _ h => cell1_mono h) h n
theorem diag1_mono {i : Nat} {M T : Mx} (h : LeM M T) : LeM (diag1 i M) (diag1 i T) := by
  have one : ∀ (x y : Nat) {M T : Mx}, LeM M T → LeM (up2 M x y (narO (M x y) (some 1))) (up2 T x y (narO (T x y) (some 1))) := fun x y M T h a b => by
    unfold up2
    split
    · exact le_narO (leO_trans (narO_le1 _ _) (h x y)) (narO_le2 _ _)
    · exact h a b
  exact one 0 i (one i i h)
theorem nrw_mono {n : Nat} {M T : Mx} (h : LeM M T) : LeM (nrw n M) (nrw n T) :=
  iter_mono (f := thr n) (fun k _ _ h => iter_mono (f := rowst n k) (fun _ _ _ h => rowst_mono h) h n) (iter_mono (f := diag1) (fun _ _ _ h => diag1_mono h) h n) n
/-- a bound turned by the second place's most -/
def turn2 (x : Int) : Option Int → Option Int
  | none => some x
  | some q => if x / 2 < 0 - q then some (0 - 2 * q) else some x
/-- a bound turned by the two places' mosts -/
def turnO : Option Int → Option Int → Option Int → Option Int
  | none, _, _ => none
  | some x, mine, other => match mine with
    | some p => if p < x / 2 then none else turn2 x other
    | none => turn2 x other
theorem le_turn2 (x : Int) (o : Option Int) : leO (some x) (turn2 x o) := by
  cases o with
  | none => exact leO_refl _
  | some q =>
    show leO (some x) (if x / 2 < 0 - q then some (0 - 2 * q) else some x)
    by_cases c : x / 2 < 0 - q
    · rw [if_pos c]
      show x ≤ 0 - 2 * q
      omega
    · rw [if_neg c]
      exact leO_refl _
theorem leO_none (x : Option Int) : leO x none := by cases x <;> trivial
theorem le_turn : ∀ b m o, leO b (turnO b m o)
  | none, _, _ => leO_none _
  | some x, none, o => le_turn2 x o
  | some x, some p, o => by
    show leO (some x) (if p < x / 2 then none else turn2 x o)
    split
    · exact leO_none _
    · exact le_turn2 x o
def turnM (N : Mx) (g : Nat → Option Int) : Mx := fun i j => if i = j then N i j else turnO (N i j) (g i) (g j)
theorem turnM_le (N : Mx) (g : Nat → Option Int) : LeM N (turnM N g) := fun i j => by
  unfold turnM
  split
  · exact leO_refl _
  · exact le_turn _ _ _
/-- where values lie and no most is asked of any watch, nothing is turned -/
theorem turnM_id {n : Nat} {N : Mx} {v : Nat → Int × Int} (h0 : Vals0 n v) (h : Lies n N v) (r0 : ∀ i, i < n → leO (N 0 i) (some 1)) {i j : Nat} (hi : i < n) (hj : j < n) : turnM N (fun k => if k = 0 then some 0 else none) i j = N i j := by
  unfold turnM
  by_cases c : i = j
  · rw [if_pos c]
  · rw [if_neg c]
    cases hN : N i j with
    | none => rfl
    | some x =>
      show turnO (some x) (if i = 0 then some 0 else none) (if j = 0 then some 0 else none) = some x
      by_cases ci : i = 0
      · subst ci
        have hj0 : ¬ j = 0 := fun e => c e.symm
        have h1 := r0 j hj
        rw [hN] at h1
        have h1 : x ≤ 1 := h1
        rw [if_pos rfl, if_neg hj0]
        show (if 0 < x / 2 then none else turn2 x none) = some x
        rw [if_neg (by omega)]
        rfl
      · rw [if_neg ci]
        by_cases cj : j = 0
        · subst cj
          rw [if_pos rfl]
          show (if x / 2 < 0 - 0 then some (0 - 2 * 0) else some x) = some x
          have h1 := h i 0 hi hj
          rw [hN, lets_iff] at h1
          simp only [dif, h0.zero] at h1
          have p1 := h0.nn i hi
          have p2 := h0.pos i hi
          refine if_neg fun z => ?_
          have := Int.mul_neg_of_neg_of_pos (a := x / 2) (b := (v i).2 * 1) (by omega) (by omega)
          rcases h1 with h1 | h1 <;> omega
        · rw [if_neg cj]
          rfl
/-- [value for j in range(n)]: a row of bounds -/
theorem lc_rowV {H : Hp} {n c : Nat} {σ : L2.St} {f : Nat → Option Int} {ta : TA} {te : TE} {Q : VK} (hn : n ≤ 60) (hc : c < σ.length)
    (ha : ∀ Q1 : List V → Hp → Prop, Q1 [.int n] H → ta σ H Q1)
    (ht : ∀ j H1 (Q1 : VK), j < n → Same H H1 → Q1 (oV (f j)) H1 → te ((σ.set c none).set c (some (.int (0 + (j : Int))))) H1 Q1)
    (q : ∀ D H', Same H H' → H' D = some (.lst (zrow n f)) → H D = none → Q (.ref D) H') :
    tLc (iRng1 ta) (gName c) tYes te [c] σ H Q := by
  refine ha _ ⟨(n : Int), rfl, by omega, by omega, fun D hD => ?_⟩
  refine lc_range (lo := 0) (n := n) (fun i H' => Same H H' ∧ H' D = some (.lst (zrow i f))) ⟨upd_keep hD, upd_same⟩ ?_ ?_
  · rintro i H' hi ⟨sm, eD⟩
    refine ⟨?_, ?_⟩
    · show ((σ.set c none).set c (some (.int (0 + (i : Int))))).set c none = σ.set c none
      rw [List.set_set, List.set_set]
    refine ht i H' _ hi sm ?_
    refine ⟨zrow i f, eD, by rw [zrow_len]; exact small1000 (by omega), same_updN hD sm, ?_⟩
    rw [upd_same, zrow_snoc]
    exact congrArg (fun x => some (HO.lst x)) (zrow_congr fun j _ => by split <;> simp_all)
  · rintro H' ⟨sm, eD⟩
    exact q D H' sm eD hD
/-! ### zip of two lists -/
theorem pi_zipK {X : Cx} {K : PySem.W.Frag} {e e2 : Expr} {ta : TA} {p pos tpos : PySem.Pos} {elts : List Expr} {kk : Nat} (h : X.K = K) (hg : Gl X "zip") (hm : X.mg "zip" = none) (ha : PA X [e, e2] ta)
    (hs : starEach [e, e2] X.env = (false, eval e X.env) :: starEach [e2] X.env := by rfl) (hpl : (backTo pos (starEach [e2] X.env)).any (·.1) = false := by rfl) :
    PI X (.Tuple elts kk tpos) (.Call (.Name "zip" p) [e, e2] [] pos) (iZip K ta) := by subst h; exact pi_zip hg hm ha hs hpl
def ForZ (K : PySem.W.Frag) (a b : Addr) (g : TG) (tb : TS) (D : Ends) (σ : L2.St) (H : Hp) : Prop := ∃ W : Nat → Nat → L2.St → Hp → Prop, (∃ m, W 0 m σ H) ∧ ∀ i m σ H, W i m σ H →
  ((Itz K a b).stop i H ∧ D.nx σ H) ∨ ((Itz K a b).go i H ∧ ∃ N : L2.St → Hp → Prop, (∀ σ' H', N σ' H' → ∃ m', m' < m ∧ W (i + 1) m' σ' H') ∧ ∀ v H', (Itz K a b).yld i H v H' → g v σ H' fun σ2 H2 => tb { D with nx := N, ct := N, bk := D.nx } σ2 H2)
theorem for_zp {K : PySem.W.Frag} {ta : TA} {g : TG} {tb : TS} {D : Ends} {σ : L2.St} {H : Hp} (h : ta σ H fun vs H1 => ∃ a b, vs = [.ref a, .ref b] ∧ ∃ xs, SqL K H1 a xs ∧ ∃ ys, SqL K H1 b ys ∧ ForZ K a b g tb D σ H1) : tFor (iZip K (tWk ta)) g tb D σ H :=
  ⟨_, h, fun _ _ ⟨a, b, e, xs, h1, ys, h2, h3⟩ => ⟨a, b, xs, ys, e, h1, h2, h3⟩⟩
theorem forZ_by {K : PySem.W.Frag} {a b : Addr} {xs ys : List V} {g : TG} {tb : TS} {D : Ends} {σ : L2.St} {H : Hp} (h1 : SqL K H a xs) (h2 : SqL K H b ys) (hl : xs.length = ys.length) (Pv : Nat → L2.St → Hp → Prop) (h0 : Pv 0 σ H) (hq : ∀ i σ H, Pv i σ H → SqL K H a xs ∧ SqL K H b ys)
    (hs : ∀ (i : Nat) (x y : V) (T : Addr) (σ : L2.St) (H : Hp) (H2 : Hp), xs[i]? = some x → ys[i]? = some y → Pv i σ H → Same H H2 → H2 T = some (.tup [x, y]) → g (.ref T) σ H2 fun σ2 H2 => tb { D with nx := Pv (i + 1), ct := Pv (i + 1), bk := D.nx } σ2 H2) (hd : ∀ σ H, Pv xs.length σ H → D.nx σ H) : ∃ xs, SqL K H a xs ∧ ∃ ys, SqL K H b ys ∧ ForZ K a b g tb D σ H :=
  ⟨xs, h1, ys, h2, RZ.for_zipL hl Pv h0 hq (fun i x y T σ H hx hy p hT => hs i x y T σ H _ hx hy p (upd_keep hT) upd_same) hd⟩
section
variable {P : Program} {w : World} {K : PySem.W.Frag} {mg : Str → Option Value} {base : Heap}
def spCell_at (K : PySem.W.Frag) : Sp := fun vs H Q _ => ∃ (a : Addr) (ns : List Int) (k : Int), vs = [.ref a, .int k] ∧ SqL K H a (ns.map V.int) ∧ 0 ≤ k ∧ Q (.int (ns.getD k.toNat 0)) H
theorem ok_l_cell_at (T : Top K mg) : FnOk P w K mg base CX0 1 T.f_l_cell_at T.d_l_cell_at ["_law_script", "_law_k"] (spCell_at K) := by
  refine T.F_l_cell_at.ok sc_l_cell_at (fun vs H Q E h => ?_) (fun cdv A outer s H vs Q E hr h => ?_)
  · obtain ⟨a, ns, k, rfl, _⟩ := h; rfl
  · obtain ⟨a, ns, k, rfl, hS, hk, q⟩ := h
    refine ⟨_, (pss_cons (ps_if (pt_cmpR op_lt (pv 1) (pe_callB call_len_seq (by rfl) T.m_len (by decide +kernel) (pa_cons (pv 0) pa_nil)) (nomark _)) (pss_one (ps_ret (pe_ix (ix_listA (K := K) rfl) (pv 0) (pv 1) (fun _ _ => rfl)))) pss_nil)
      (pss_one (ps_ret pe_int))), ?_⟩
    refine seq_step ?_
    walk_at "rd"
    refine ⟨_, .inl hS, ite_d (fun c => ?_) (fun c => ?_)⟩
    · rw [List.length_map] at c
      have hl : k.toNat < ns.length := by omega
      refine ⟨a, _, k, .int (ns[k.toNat]), rfl, rfl, hS, at_of (j := k.toNat) (by omega) (by rw [List.getElem?_map, List.getElem?_eq_getElem hl]; rfl), ?_⟩
      rw [List.getD_eq_getElem?_getD, List.getElem?_eq_getElem hl] at q
      exact q
    · rw [List.length_map] at c
      rw [List.getD_eq_getElem?_getD, List.getElem?_eq_none (by omega)] at q
      exact q
def spNumber_of : Sp := fun vs H Q _ => ∃ b : Int, vs = [.int b] ∧ Q (.int (b / 2)) H
theorem ok_number_of (T : Top K mg) : FnOk P w K mg base CX0 1 T.f_number_of T.d_number_of ["bound"] spNumber_of := by
  refine T.F_number_of.ok sc_number_of (fun vs H Q E h => ?_) (fun cdv A outer s H vs Q E hr h => ?_)
  · obtain ⟨b, rfl, _⟩ := h; rfl
  · obtain ⟨b, rfl, q⟩ := h
    refine ⟨_, (pss_one (ps_ret (pe_op op_shr (pv 0) pe_int))), ?_⟩
    walk_at "rd"
    exact q
def spCopied (K : PySem.W.Frag) : Sp := fun vs H Q _ => ∃ (p : Addr) (as : List Addr) (n : Nat) (M : Mx), vs = [.ref p] ∧ ZAt H p as n M ∧ n ≤ 60 ∧ ∀ D as' H', Same H H' → ZAt H' D as' n M → H D = none → (∀ a ∈ as', H a = none) → Q (.ref D) H'
theorem ok_copied (T : Top K mg) : FnOk P w K mg base CX0 1 T.f_copied T.d_copied ["zone"] (spCopied K) := by
  refine T.F_copied.ok sc_copied (fun vs H Q E h => ?_) (fun cdv A outer s H vs Q E hr h => ?_)
  · obtain ⟨p, as, n, M, rfl, _⟩ := h; rfl
  · obtain ⟨p, as, n, M, rfl, z, hn, q⟩ := h
    refine ⟨_, (pss_one (ps_ret (lc_vs (vs := [1]) (pe_lc (own := [("row", 1)]) (g := gName 1) (tt := tYes) rfl sc_copied.nd (pi_listA (K := K) rfl (pv 0)) (blkOk_by (own := [("row", 1)]) (N := ["zone", "row"]) (sc := defScope s_copied) (by decide +kernel)) (fun _ _ _ _ _ => (pg_name (i := 1) sc_copied.nd rfl (.inl rfl))) (fun _ _ _ _ _ => pts_nil) (fun _ _ _ _ _ => (pe_callTy (call_listA (K := K) rfl) (by rfl) T.m_list (by decide +kernel) (pa_cons (pv 1) pa_nil)))) rfl))), ?_⟩
    walk_at "rd"
    exact lc_copy z hn rfl (by simp) q
def spBelow (K : PySem.W.Frag) : Sp := fun vs H Q _ => ∃ n : Int, vs = [.int n] ∧ Sz 10000 n ∧ Q (.int (2 * n)) H
theorem ok_below (T : Top K mg) : FnOk P w K mg base CX0 1 T.f_below T.d_below ["number"] (spBelow K) := by
  refine T.F_below.ok sc_below (fun vs H Q E h => ?_) (fun cdv A outer s H vs Q E hr h => ?_)
  · obtain ⟨n, rfl, _⟩ := h; rfl
  · obtain ⟨n, rfl, hn, q⟩ := h
    refine ⟨_, (pss_one (ps_ret (pe_op op_mulW pe_int (pv 0)))), ?_⟩
    walk_at "rd"
    exact ⟨Sz.mulW (a := 2) (by unfold Sz; decide) hn (by omega), q⟩
def spTurned (K : PySem.W.Frag) : Sp := fun vs H Q _ => ∃ (b m o : Option Int), vs = [oV b, oV m, oV o] ∧ (∀ q, o = some q → Sz 1000 q) ∧ Q (oV (turnO b m o)) H
theorem ok_l_turned (T : Top K mg) : FnOk P w K mg base CX0 1 T.f_l_turned T.d_l_turned ["_law_bound_here", "_law_mine", "_law_other"] (spTurned K) := by
  refine T.F_l_turned.ok sc_l_turned (fun vs H Q E h => ?_) (fun cdv A outer s H vs Q E hr h => ?_)
  · obtain ⟨b, m, o, rfl, _⟩ := h; rfl
  · obtain ⟨b, m, o, rfl, ho, q⟩ := h
    refine ⟨_, (pss_cons (ps_if (pt_cmpR op_isN (pv 0) pe_non (nomark _)) (pss_one (ps_ret pe_non)) pss_nil)
      (pss_cons (ps_set (i := 3) sc_l_turned.nd rfl (.inl rfl) (pe_op op_fdivZ (pv 0) pe_int))
      (pss_cons (ps_if (PW.pt (pw_and (pt_cmpR op_notN (pv 1) pe_non (nomark _)) (pw_and1 (pt_cmpR op_gt (pv 3) (pv 1) (nomark _))))) (pss_one (ps_ret pe_non)) pss_nil)
      (pss_cons (ps_if (PW.pt (pw_and (pt_cmpR op_notN (pv 2) pe_non (nomark _)) (pw_and1 (pt_cmpR op_lt (pv 3) (pe_op op_sub pe_int (pv 2)) (nomark _))))) (pss_one (ps_ret (pe_op op_sub pe_int (pe_op op_mulW pe_int (pv 2))))) pss_nil)
      (pss_one (ps_ret (pv 0))))))), ?_⟩
    refine seq_step ?_
    cases b with
    | none =>
      simp only [oV_none]
      walk_at "rd"
      exact q
    | some x =>
      simp only [oV_some]
      have d2 : x.fdiv 2 = x / 2 := Int.fdiv_eq_ediv_of_nonneg _ (by omega)
      walk_at "rd"
      refine seq_step ?_
      walk_at "rd"
      rw [d2]
      refine join_op (fun σ' H' => σ' = [some (V.int x), some (oV m), some (oV o), some (V.int (x / 2))] ∧ H' = H ∧ Q (oV (turn2 x o)) H) (fun σ' H' h => ?_) (fun R j => ?_)
      rotate_left
      · refine seq_step ?_
        cases m with
        | none =>
          simp only [oV_none] at j ⊢
          walk_at "rd"
          exact j _ _ ⟨rfl, rfl, q⟩
        | some p =>
          simp only [oV_some] at j ⊢
          walk_at "rd"
          have q : Q (oV (if p < x / 2 then none else turn2 x o)) H := q
          refine ite_d (fun c => ?_) (fun c => ?_)
          · rw [if_pos c] at q; exact q
          · rw [if_neg c] at q; exact j _ _ ⟨rfl, rfl, q⟩
      obtain ⟨rfl, rfl, q⟩ := h
      refine seq_step ?_
      cases o with
      | none =>
        simp only [oV_none]
        walk_at "rd"
        exact q
      | some r =>
        simp only [oV_some]
        walk_at "rd"
        have q : Q (oV (if x / 2 < 0 - r then some (0 - 2 * r) else some x)) _ := q
        refine ite_d (fun c => ?_) (fun c => ?_)
        · rw [if_pos c] at q
          exact ⟨Sz.mulW (a := 2) (by unfold Sz; decide) (ho r rfl) (by omega), q⟩
        · rw [if_neg c] at q; exact q
def spBound19 (K : PySem.W.Frag) : Sp := fun vs H Q _ => ∃ (t u x : Int), vs = [.int t, .int u, .int x] ∧ 0 < u ∧ Sz 300 t ∧ Sz 300 u ∧ ∀ (b : Option Int) (H' : Hp), Same H H' → letsO b t u = true → (∀ v, b = some v → Sz 400 v) → Q (oV b) H'
theorem ok_l_bound (T : Top K mg) : FnOk P w K mg base CX0 1 T.f_l_bound T.d_l_bound ["_law_top", "_law_bottom", "_law_x"] (spBound19 K) := by
  refine T.F_l_bound.ok sc_l_bound (fun vs H Q E h => ?_) (fun cdv A outer s H vs Q E hr h => ?_)
  · obtain ⟨t, u, x, rfl, _⟩ := h; rfl
  · obtain ⟨t, u, x, rfl, hu, st, su, q⟩ := h
    refine ⟨_, (pss_cons (ps_set (i := 3) sc_l_bound.nd rfl (.inl rfl) (pe_op op_modN (pv 2) pe_int))
      (pss_cons (ps_set (i := 4) sc_l_bound.nd rfl (.inl rfl) (pe_op op_modN (pe_op op_fdivZ (pv 2) pe_int) (pe_ix (ix_listA (K := K) rfl) (pe_lstN (pa_cons pe_int (pa_cons (pe_op op_pow pe_int pe_int) pa_nil))) (pe_op op_modN (pe_op op_fdivZ (pv 2) pe_int) pe_int) (fun _ _ => rfl))))
      (pss_cons (ps_if (pt_cmpR op_lt (pv 3) pe_int (nomark _)) (pss_one (ps_ret pe_non)) pss_nil)
      (pss_cons (ps_if (pt_cmpR op_lt (pv 3) pe_int (nomark _)) (pss_one (ps_ret (pe_op op_add (pe_op op_mulW pe_int (pe_op op_add (pe_op op_sub pe_int (pe_op op_fdivZ (pe_op op_sub pe_int (pv 0)) (pv 1))) (pe_op op_mulW (pv 4) (pe_op op_sub (pv 3) pe_int)))) pe_int))) pss_nil)
      (pss_one (ps_ret (pe_op op_mulW pe_int (pe_op op_add (pe_op op_add (pe_op op_fdivZ (pv 0) (pv 1)) pe_int) (pe_op op_mulW (pv 4) (pe_op op_sub (pv 3) pe_int)))))))))), ?_⟩
    refine seq_step ?_
    walk_at "rd"
    have f6 := fm_pos (c := x) (m := 6) (by decide)
    refine seq_step ?_
    walk_at "rd"
    intro p1 H1 s1 _ e1
    obtain ⟨m, hmS, hm0, hm1⟩ : ∃ m : Int, ([.int 5, .int 1000000000] : List V)[((x.fdiv 30).fmod 2).toNat]? = some (.int m) ∧ 0 < m ∧ m ≤ 1000000000 := by
      rcases fm2 (x.fdiv 30) with e | e <;> rw [e]
      · exact ⟨5, rfl, by decide, by decide⟩
      · exact ⟨_, rfl, by decide, by decide⟩
    refine ix_l (.of e1) (fm_pos (m := 2) (by decide)).1 hmS ?_
    walk_at "rd"
    have fm := fm_pos (c := x.fdiv 6) hm0
    obtain ⟨more, hmore⟩ : ∃ more, (x.fdiv 6).fmod m = more := ⟨_, rfl⟩
    rw [hmore] at fm ⊢
    obtain ⟨way, hway⟩ : ∃ way, x.fmod 6 = way := ⟨_, rfl⟩
    rw [hway] at f6 ⊢
    have sm : Sz 30 more := by unfold Sz; omega
    refine ⟨by omega, ?_⟩
    refine seq_step ?_
    walk_at "rd"
    refine ite_d (fun _ => q none H1 s1 rfl (fun v h => by cases h)) (fun c1 => ?_)
    refine seq_step ?_
    walk_at "rd"
    have du : DivOk u := .of (by omega) su (by omega)
    have two : Sz 2 2 := by unfold Sz; decide
    have s1t := fdiv_sz hu st
    have s2t : Sz 302 (0 - (0 - t).fdiv u) := by
      have := fdiv_sz (s := 300) (t := 0 - t) hu (by unfold Sz at st ⊢; omega)
      refine (Sz.le (j := (0 - t).fdiv u) (by omega) this).mono (by omega)
    refine ite_d (fun c2 => ?_) (fun c2 => ?_)
    · have kn : 0 ≤ more * (way - 2) := Int.mul_nonneg fm.1 (by omega)
      have sk := Sz.mul (a := 30) (b := 3) (c := 33) sm (show Sz 3 (way - 2) by unfold Sz; omega) (by omega)
      have ss := s2t.add sk (c := 303) (by omega) (by omega)
      refine ⟨du, Sz.mulW (a := 30) (b := 3) sm (by unfold Sz; omega) (by omega), two.mulW ss (by omega), ?_⟩
      refine q (some _) H1 s1 (ceil_ok hu kn) fun v e => ?_
      cases e
      exact ((two.mul ss (Nat.le_refl _)).add (show Sz 2 1 by unfold Sz; decide) (c := 306) (by omega) (by omega)).mono (by omega)
    · have kn : 0 ≤ more * (way - 4) := Int.mul_nonneg fm.1 (by omega)
      have sk := Sz.mul (a := 30) (b := 3) (c := 33) sm (show Sz 3 (way - 4) by unfold Sz; omega) (by omega)
      have s3 := s1t.add (show Sz 2 1 by unfold Sz; decide) (c := 302) (by omega) (by omega)
      have ss := s3.add sk (c := 303) (by omega) (by omega)
      refine ⟨du, Sz.mulW (a := 30) (b := 3) sm (by unfold Sz; omega) (by omega), two.mulW ss (by omega), ?_⟩
      refine q (some _) H1 s1 (floor_ok hu kn) fun v e => ?_
      cases e
      exact (two.mul ss (Nat.le_refl _)).mono (by omega)
def AInv1 (Hb : Hp) (pvl px pp l : Addr) (vals : List (Int × Int)) (n i : Nat) (σ' : L2.St) (H' : Hp) : Prop := ∃ (as : List Addr) (M : Mx) (v4 v5 v6 v7 : Option V), σ' = [some (.ref pvl), some (.ref px), some (.ref pp), some (.ref l), v4, v5, v6, v7] ∧ Same Hb H' ∧ Grow Hb H' l as i n M ∧ SzM 400 M ∧ ∀ a b, a < i → b < n → letsO (M a b) (dif (plc vals a) (plc vals b)).1 (dif (plc vals a) (plc vals b)).2 = true
def AInv2 (Hb : Hp) (pvl px pp l r : Addr) (vals : List (Int × Int)) (as : List Addr) (M : Mx) (n i j : Nat) (σ' : L2.St) (H' : Hp) : Prop := ∃ (f : Nat → Option Int) (v6 v7 : Option V), σ' = [some (.ref pvl), some (.ref px), some (.ref pp), some (.ref l), some (.int i), some (.ref r), v6, v7] ∧ Same Hb H' ∧ Grow Hb H' l as i n M ∧ H' r = some (.lst (zrow j f)) ∧ (∀ b v, f b = some v → Sz 400 v) ∧ ∀ b, b < j → letsO (f b) (dif (plc vals i) (plc vals b)).1 (dif (plc vals i) (plc vals b)).2 = true
def spAround (K : PySem.W.Frag) : Sp := fun vs H Q _ => ∃ (pvl px : Addr) (vals : List (Int × Int)) (xs : List Int), vs = [.ref pvl, .ref px] ∧ VAt H pvl vals ∧ GoodV 50 vals ∧ vals.length ≤ 6 ∧ H px = some (.lst (xs.map V.int)) ∧ (vals.length + 1) * (vals.length + 1) ≤ xs.length ∧
  ∀ (p : Addr) (as : List Addr) (M : Mx) (H' : Hp), Same H H' → ZAt H' p as (vals.length + 1) M → H p = none → (∀ a ∈ as, H a = none) → SzM 400 M → Lies (vals.length + 1) M (plc vals) → Q (.ref p) H'
theorem ok_l_around (T : Top K mg) : FnOk P w K mg base CX0 2 T.f_l_around T.d_l_around ["_law_values_here", "_law_xs"] (spAround K) := by
  refine T.F_l_around.ok sc_l_around (fun vs H Q E h => ?_) (fun cdv A outer s H vs Q E hr h => ?_)
  · obtain ⟨pvl, px, vals, xs, rfl, _⟩ := h; rfl
  · obtain ⟨pvl, px, vals, xs, rfl, hv, gv, hm, ex, hx, q⟩ := h
    refine ⟨_, (pss_cons (ps_set (i := 2) sc_l_around.nd rfl (.inl rfl) (pe_op op_catN (pe_lstN (pa_cons (pe_tupN (pa_cons pe_int (pa_cons pe_int pa_nil))) pa_nil)) (pv 0)))
      (pss_cons (ps_set (i := 3) sc_l_around.nd rfl (.inl rfl) (pe_lstN pa_nil))
      (pss_cons (ps_for PassesOwn.never rfl (pi_range1 (by rfl) T.m_range (pa_cons (pe_callB call_len_seq (by rfl) T.m_len (by decide +kernel) (pa_cons (pv 2) pa_nil)) pa_nil)) (pg_name (i := 4) sc_l_around.nd rfl (.inl rfl)) (pss_cons (ps_set (i := 5) sc_l_around.nd rfl (.inl rfl) (pe_lstN pa_nil))
      (pss_cons (ps_for PassesOwn.never rfl (pi_range1 (by rfl) T.m_range (pa_cons (pe_callB call_len_seq (by rfl) T.m_len (by decide +kernel) (pa_cons (pv 2) pa_nil)) pa_nil)) (pg_name (i := 6) sc_l_around.nd rfl (.inl rfl)) (pss_cons (ps_set (i := 7) sc_l_around.nd rfl (.inl rfl) (pe_op op_sub (pe_op op_mulW (pe_ix (ix_tupA (K := K) rfl) (pe_ix (ix_listA (K := K) rfl) (pv 2) (pv 4) (fun _ _ => rfl)) pe_int (fun _ _ => rfl)) (pe_ix (ix_tupA (K := K) rfl) (pe_ix (ix_listA (K := K) rfl) (pv 2) (pv 6) (fun _ _ => rfl)) pe_int (fun _ _ => rfl))) (pe_op op_mulW (pe_ix (ix_tupA (K := K) rfl) (pe_ix (ix_listA (K := K) rfl) (pv 2) (pv 6) (fun _ _ => rfl)) pe_int (fun _ _ => rfl)) (pe_ix (ix_tupA (K := K) rfl) (pe_ix (ix_listA (K := K) rfl) (pv 2) (pv 4) (fun _ _ => rfl)) pe_int (fun _ _ => rfl)))))
      (pss_one (ps_expr (pe_bm PySem.F.plainAttrs_list PySem.F.slot_list_append PySem.F.type_list_append mt_append (pv 5) (pa_cons (pe_call (ok_l_bound T) (hr.mono (by decide)) rfl T.g_l_bound T.F_l_bound.kp T.b_l_bound .nil pass0 (pa_cons (pv 7) (pa_cons (pe_op op_mulW (pe_ix (ix_tupA (K := K) rfl) (pe_ix (ix_listA (K := K) rfl) (pv 2) (pv 4) (fun _ _ => rfl)) pe_int (fun _ _ => rfl)) (pe_ix (ix_tupA (K := K) rfl) (pe_ix (ix_listA (K := K) rfl) (pv 2) (pv 6) (fun _ _ => rfl)) pe_int (fun _ _ => rfl))) (pa_cons (pe_ix (ix_listA (K := K) rfl) (pv 1) (pe_op op_add (pe_op op_mulW (pv 4) (pe_callB call_len_seq (by rfl) T.m_len (by decide +kernel) (pa_cons (pv 2) pa_nil))) (pv 6)) (fun _ _ => rfl)) pa_nil)))) pa_nil))))))
      (pss_one (ps_expr (pe_bm PySem.F.plainAttrs_list PySem.F.slot_list_append PySem.F.type_list_append mt_append (pv 3) (pa_cons (pv 5) pa_nil)))))))
      (pss_one (ps_ret (pv 3)))))), ?_⟩
    refine seq_step ?_
    walk_at "rd"
    intro q0 H1 s1 _ e1 p1 H2 s2 _ e2
    obtain ⟨qs, hv1, hv2, hv3⟩ := hv.keep (s1.trans s2)
    have hlq : qs.length ≤ 6 := by omega
    refine ⟨_, e2, _, hv1, Nat.le_of_lt (small1000 (by simp; omega)), fun pp H3 s3 _ e3 => ?_⟩
    have sHb : Same H H3 := s1.trans (s2.trans s3)
    have vp : VAt H3 pp ((0, 1) :: vals) := ⟨q0 :: qs, e3, by simp [hv2], fun i q' x h1 h2 => by
      cases i with
      | zero =>
        cases h1; cases h2
        exact s3 _ _ (s2 _ _ e1)
      | succ i => exact s3 _ _ (hv3 i q' x h1 h2)⟩
    obtain ⟨qs', ep1, ep2, _⟩ := id vp
    refine seq_step ?_
    walk_at "rd"
    intro l H4 s4 fl e4
    refine seq_step ?_
    refine for_rg ?_
    walk_at "rd"
    have hn : (qs'.map V.ref).length = vals.length + 1 := by rw [List.length_map, ep2]; rfl
    refine ⟨_, .inl (.of (s4 _ _ ep1)), (rg_ok (by omega)).1, (rg_ok (by omega)).2, ?_⟩
    rw [hn, Int.toNat_natCast]
    generalize hN : vals.length + 1 = n at *
    have hn7 : n ≤ 7 := by omega
    refine forR_by (AInv1 H3 pvl px pp l vals n) ⟨[], fun _ _ => none, _, _, _, _, rfl, s4, ⟨e4, rfl, List.nodup_nil, (fun a h => by cases h), (fun j a h => by cases h)⟩, (fun i j v h => by cases h), fun a b h => by omega⟩ ?_ ?_
    · rintro i σ' H5 hi ⟨as, M, v4, v5, v6, v7, rfl, s5, g, sM, hl⟩
      walk_at "rd"
      refine seq_step ?_
      walk_at "rd"
      intro r H6 s6 fr e6
      refine seq_step ?_
      refine for_rg ?_
      walk_at "rd"
      have s36 := s5.trans s6
      refine ⟨_, .inl (.of (s36 _ _ ep1)), (rg_ok (by omega)).1, (rg_ok (by omega)).2, ?_⟩
      rw [hn, Int.toNat_natCast]
      have nl : r ≠ l := fun e => by rw [e, g.top] at fr; cases fr
      have nr : r ∉ as := fun hm => by
        obtain ⟨j, hj, e⟩ := List.mem_iff_getElem.mp hm
        have := g.row j r (by rw [List.getElem?_eq_getElem hj, e])
        rw [fr] at this; cases this
      refine forR_by (AInv2 H3 pvl px pp l r vals as M n i) ⟨fun _ => none, _, _, rfl, s36, g.keep fun b o e _ => s6 b o e, e6, (fun b v h => by cases h), fun b h => by omega⟩ ?_ ?_
      · rintro j σ' H7 hj ⟨f, v6', v7', rfl, s7, g7, e7, hf, hlf⟩
        walk_at "rd"
        refine seq_step ?_
        walk_at "rd"
        have gi := plc_good gv (by decide) i
        have gj := plc_good gv (by decide) j
        have dp := dif_pos gi.2.1 gj.2.1
        have d1 : Sz 300 (dif (plc vals i) (plc vals j)).1 := (gi.2.2.1.mul gj.2.2.2 (c := 100) (by omega)).sub (gj.2.2.1.mul gi.2.2.2 (c := 100) (by omega)) (by omega) (by omega)
        have d2 : Sz 300 (dif (plc vals i) (plc vals j)).2 := gi.2.2.2.mul gj.2.2.2 (by omega)
        refine (vp.keep s7).get (plc_get (by omega)) fun a1 ha1 => ?_
        refine ix_t (.of ha1) (by decide) rfl ?_
        refine (vp.keep s7).get (plc_get (by omega)) fun a2 ha2 => ?_
        refine ix_t (.of ha2) (by decide) rfl ?_
        refine ⟨_, rfl, _, rfl, gi.2.2.1.mulW gj.2.2.2 (by omega), ?_⟩
        refine (vp.keep s7).get (plc_get (by omega)) fun a3 ha3 => ?_
        refine ix_t (.of ha3) (by decide) rfl ?_
        refine (vp.keep s7).get (plc_get (by omega)) fun a4 ha4 => ?_
        refine ix_t (.of ha4) (by decide) rfl ?_
        refine ⟨_, rfl, _, rfl, gj.2.2.1.mulW gi.2.2.2 (by omega), ?_⟩
        refine ⟨.ref r, rfl, .inl ⟨rfl, _, .of e7⟩, ?_⟩
        walk_at "rd"
        refine (vp.keep s7).get (plc_get (by omega)) fun a5 ha5 => ?_
        refine ix_t (.of ha5) (by decide) rfl ?_
        refine (vp.keep s7).get (plc_get (by omega)) fun a6 ha6 => ?_
        refine ix_t (.of ha6) (by decide) rfl ?_
        refine ⟨_, rfl, _, rfl, gi.2.2.2.mulW gj.2.2.2 (by omega), ?_⟩
        refine ⟨_, .inl (.of (s7 _ _ ep1)), ?_⟩
        rw [hn]
        have hidx : i * n + j < xs.length := by
          have : i * n + n ≤ n * n := by rw [← Nat.succ_mul]; exact Nat.mul_le_mul_right _ hi
          omega
        refine ⟨Sz.mulW (a := 10) (b := 10) (by unfold Sz; omega) (by unfold Sz; omega) (by omega), ?_⟩
        rw [show (i : Int) * (n : Int) + (j : Int) = ((i * n + j : Nat) : Int) by push_cast; rfl]
        refine ix_l (.of (s7 _ _ (sHb _ _ ex))) (by omega) (by rw [Int.toNat_natCast, List.getElem?_map, List.getElem?_eq_getElem hidx]; rfl) ?_
        refine ⟨_, _, _, rfl, dp, d1, d2, fun b H9 s9 hb1 hb2 => ?_⟩
        have e9 := s9 _ _ e7
        refine app_at e9 (by rw [zrow_len]; omega) ?_
        have g9 : Grow H3 H9 l as i n M := g7.keep fun b o e _ => s9 _ _ e
        refine ⟨fun c => if c = j then b else f c, _, _, rfl, same_updN (s5.free fr) (s7.trans s9), g9.keep fun c o e hc => ?_, by rw [upd_same, zrow_snoc], fun c v h => ?_, fun c hc => ?_⟩
        · rw [upd_ne (fun z => by rcases hc with h | h; exact nl (z ▸ h); exact nr (z ▸ h))]; exact e
        · have h : (if c = j then b else f c) = some v := h
          split at h
          · exact hb2 v h
          · exact hf c v h
        · show letsO (if c = j then b else f c) _ _ = true
          split
          · rename_i e; subst e; exact hb1
          · exact hlf c (by omega)
      · rintro σ' H7 ⟨f, v6', v7', rfl, s7, g7, e7, hf, hlf⟩
        walk_at "rd"
        refine ⟨.ref l, rfl, .inl ⟨rfl, _, .of g7.top⟩, ?_⟩
        walk_at "rd"
        refine app_at g7.top (by rw [List.length_map, g7.len]; omega) ?_
        refine ⟨as ++ [r], _, _, _, _, _, rfl, same_updN fl s7, g7.snoc e7 (s5.free fr) nr nl, fun a b v h => ?_, fun a b ha hb => ?_⟩
        · have h : (if a = i then f b else M a b) = some v := h
          split at h
          · exact hf b v h
          · exact sM a b v h
        · show letsO (if a = i then f b else M a b) _ _ = true
          split
          · rename_i e; subst e; exact hlf b hb
          · exact hl a b (by omega) hb
    · rintro σ' H5 ⟨as, M, v4, v5, v6, v7, rfl, s5, g, sM, hl⟩
      walk_at "rd"
      refine q l as M H5 (sHb.trans s5) ?_ (sHb.free fl) (fun a ha => sHb.free (g.fr a ha).1) sM ?_
      · exact g.done
      · exact fun a b ha hb => hl a b ha hb
def MsOk (ms : List (Option Int)) : Prop := ∀ q, some q ∈ ms → 0 ≤ q ∧ Sz 60 q
def MsInv (H : Hp) (pvl px : Addr) (unit : Int) (l : Addr) (i : Nat) (σ' : L2.St) (H' : Hp) : Prop := ∃ (ms : List (Option Int)) (v4 v5 v6 : Option V), σ' = [some (.ref pvl), some (.ref px), some (.int unit), some (.ref l), v4, v5, v6] ∧ Same H H' ∧ H' l = some (.lst (ms.map oV)) ∧ ms.length = i ∧ MsOk ms
def spMosts (K : PySem.W.Frag) : Sp := fun vs H Q _ => ∃ (pvl px : Addr) (vals : List (Int × Int)) (xs : List Int) (unit : Int), vs = [.ref pvl, .ref px, .int unit] ∧ VAt H pvl vals ∧ GoodV 50 vals ∧ vals.length ≤ 6 ∧ H px = some (.lst (xs.map V.int)) ∧ vals.length ≤ xs.length ∧ 0 < unit ∧ unit ≤ 1000000000000 ∧
  ∀ (p : Addr) (ms : List (Option Int)) (H' : Hp), Same H H' → H p = none → H' p = some (.lst (ms.map oV)) → ms.length = vals.length → MsOk ms → Q (.ref p) H'
theorem ok_l_mosts (T : Top K mg) : FnOk P w K mg base CX0 2 T.f_l_mosts T.d_l_mosts ["_law_values_here", "_law_xs", "_law_unit"] (spMosts K) := by
  refine T.F_l_mosts.ok sc_l_mosts (fun vs H Q E h => ?_) (fun cdv A outer s H vs Q E hr h => ?_)
  · obtain ⟨pvl, px, vals, xs, unit, rfl, _⟩ := h; rfl
  · obtain ⟨pvl, px, vals, xs, unit, rfl, hv, gv, hm, ex, hx, hu0, hu1, q⟩ := h
    refine ⟨_, (pss_cons (ps_set (i := 3) sc_l_mosts.nd rfl (.inl rfl) (pe_lstN pa_nil))
      (pss_cons (ps_for PassesOwn.never rfl (pi_range1 (by rfl) T.m_range (pa_cons (pe_callB call_len_seq (by rfl) T.m_len (by decide +kernel) (pa_cons (pv 0) pa_nil)) pa_nil)) (pg_name (i := 4) sc_l_mosts.nd rfl (.inl rfl)) (pss_cons (ps_set (i := 5) sc_l_mosts.nd rfl (.inl rfl) (pe_op op_fdivZ (pe_ix (ix_tupA (K := K) rfl) (pe_ix (ix_listA (K := K) rfl) (pv 0) (pv 4) (fun _ _ => rfl)) pe_int (fun _ _ => rfl)) (pe_ix (ix_tupA (K := K) rfl) (pe_ix (ix_listA (K := K) rfl) (pv 0) (pv 4) (fun _ _ => rfl)) pe_int (fun _ _ => rfl))))
      (pss_cons (ps_set (i := 6) sc_l_mosts.nd rfl (.inl rfl) (pe_ix (ix_listA (K := K) rfl) (pv 1) (pv 4) (fun _ _ => rfl)))
      (pss_one (ps_expr (pe_bm PySem.F.plainAttrs_list PySem.F.slot_list_append PySem.F.type_list_append mt_append (pv 3) (pa_cons (pe_ix (ix_listA (K := K) rfl) (pe_lstN (pa_cons pe_non (pa_cons pe_int (pa_cons (pv 5) (pa_cons (pe_callB (call_max2 rfl) (by rfl) T.m_max (by decide +kernel) (pa_cons pe_int (pa_cons (pe_op op_sub (pv 5) pe_int) pa_nil))) (pa_cons (pe_op op_modN (pe_op op_fdivZ (pv 6) pe_int) (pe_op op_mulW pe_int (pv 2))) pa_nil)))))) (pe_op op_modN (pv 6) pe_int) (fun _ _ => rfl)) pa_nil)))))))
      (pss_one (ps_ret (pv 3))))), ?_⟩
    refine seq_step ?_
    walk_at "rd"
    intro l H1 s1 fl e1
    refine seq_step ?_
    refine for_rg ?_
    walk_at "rd"
    obtain ⟨qs, hv1, hv2, hv3⟩ := hv.keep s1
    refine ⟨_, .inl (.of hv1), (rg_ok (by simp; omega)).1, (rg_ok (by simp; omega)).2, ?_⟩
    rw [List.length_map, hv2, Int.toNat_natCast]
    refine forR_by (MsInv H pvl px unit l) ⟨[], _, _, _, rfl, s1, e1, rfl, fun q h => by cases h⟩ ?_ ?_
    · rintro i σ' H2 hi ⟨ms, v4, v5, v6, rfl, s2, el, hml, ok⟩
      walk_at "rd"
      refine seq_step ?_
      walk_at "rd"
      have gw := gv _ (List.getElem_mem hi)
      refine (hv.keep s2).get (List.getElem?_eq_getElem hi) fun q1 hq1 => ?_
      refine ix_t (.of hq1) (by decide) rfl ?_
      refine (hv.keep s2).get (List.getElem?_eq_getElem hi) fun q2 hq2 => ?_
      refine ix_t (.of hq2) (by decide) rfl ?_
      refine ⟨_, rfl, _, rfl, .of (by omega) gw.2.2.2 (by omega), ?_⟩
      have c0 : 0 ≤ vals[i].1.fdiv vals[i].2 := Int.fdiv_nonneg gw.1 (by omega)
      have sc := fdiv_sz gw.2.1 gw.2.2.1
      generalize vals[i].1.fdiv vals[i].2 = cut at *
      refine seq_step ?_
      walk_at "rd"
      refine ix_l (.of (s2 _ _ ex)) (by omega) (by rw [Int.toNat_natCast, List.getElem?_map, List.getElem?_eq_getElem (show i < xs.length by omega)]; rfl) ?_
      walk_at "rd"
      refine ⟨.ref l, rfl, .inl ⟨rfl, _, .of el⟩, ?_⟩
      walk_at "rd"
      have p4 : 0 < 4 * unit := by omega
      have f4 := fm_pos (c := xs[i].fdiv 5) p4
      have f5 := fm_pos (c := xs[i]) (m := 5) (by decide)
      refine ⟨Sz.mulW (a := 3) (b := 41) (by unfold Sz; decide) (by unfold Sz; omega) (by omega), by omega, fun p5 H5 s5 _ e5 => ?_⟩
      obtain ⟨y, hy, oky⟩ : ∃ y : Option Int, ([.non, .int 0, .int cut, .int (if cut - 1 > 0 then cut - 1 else 0), .int ((xs[i].fdiv 5).fmod (4 * unit))] : List V)[(xs[i].fmod 5).toNat]? = some (oV y) ∧ ∀ q, y = some q → 0 ≤ q ∧ Sz 60 q := by
        generalize xs[i].fmod 5 = z at *
        have h : z = 0 ∨ z = 1 ∨ z = 2 ∨ z = 3 ∨ z = 4 := by omega
        have s60 : Sz 60 cut := sc.mono (by omega)
        rcases h with h | h | h | h | h <;> subst h
        · exact ⟨none, rfl, fun q h => by cases h⟩
        · exact ⟨some 0, rfl, fun q h => by cases h; exact ⟨by decide, by unfold Sz; decide⟩⟩
        · exact ⟨some cut, rfl, fun q h => by cases h; exact ⟨c0, s60⟩⟩
        · refine ⟨some _, rfl, fun q h => ?_⟩
          cases h
          split
          · exact ⟨by omega, Sz.le (by omega) s60⟩
          · exact ⟨by decide, by unfold Sz; decide⟩
        · exact ⟨some _, rfl, fun q h => by cases h; exact ⟨f4.1, by unfold Sz; omega⟩⟩
      refine ix_l (.of e5) f5.1 hy ?_
      have el5 := s5 _ _ el
      refine app_at el5 (by rw [List.length_map]; omega) ?_
      refine ⟨ms ++ [y], _, _, _, rfl, same_updN fl (s2.trans s5), by rw [upd_same, List.map_append]; rfl, by simp [hml], fun q h => ?_⟩
      rcases List.mem_append.mp h with h | h
      · exact ok q h
      · exact oky q (List.mem_singleton.mp h).symm
    · rintro σ' H2 ⟨ms, v4, v5, v6, rfl, s2, el, hml, ok⟩
      walk_at "rd"
      exact q l ms H2 s2 fl el hml ok
def mostAt (ms : List (Option Int)) : Nat → Option Int := fun k => (some 0 :: ms).getD k none
theorem most_get {ms : List (Option Int)} {k : Nat} (h : k < ms.length + 1) : ((some 0 :: ms).map oV)[k]? = some (oV (mostAt ms k)) := by
  have h2 : k < (some 0 :: ms).length := h
  rw [List.getElem?_map, List.getElem?_eq_getElem h2]
  unfold mostAt
  rw [List.getD_eq_getElem?_getD, List.getElem?_eq_getElem h2]
  rfl
theorem most_ok {ms : List (Option Int)} (h : MsOk ms) (k : Nat) : ∀ q, mostAt ms k = some q → 0 ≤ q ∧ Sz 60 q := fun q e => by
  unfold mostAt at e
  rw [List.getD_eq_getElem?_getD] at e
  cases hk : (some 0 :: ms)[k]? with
  | none => rw [hk] at e; cases e
  | some x =>
    rw [hk] at e
    have e : x = some q := e
    subst e
    rcases List.mem_cons.mp (List.mem_of_getElem? hk) with h1 | h1
    · cases h1; exact ⟨by decide, by unfold Sz; decide⟩
    · exact h q h1
def LfInv (Hb : Hp) (pz pms pm l : Addr) (N : Mx) (i n : Nat) (σ' : L2.St) (H' : Hp) : Prop := ∃ (as : List Addr) (v4 v5 v6 : Option V), σ' = [some (.ref pz), some (.ref pms), some (.ref pm), some (.ref l), v4, v5, v6] ∧ Same Hb H' ∧ Grow Hb H' l as i n N
def spLFolded (K : PySem.W.Frag) : Sp := fun vs H Q _ => ∃ (pz pms : Addr) (az : List Addr) (n : Nat) (N : Mx) (ms : List (Option Int)), vs = [.ref pz, .ref pms] ∧ ZAt H pz az n N ∧ H pms = some (.lst (ms.map oV)) ∧ ms.length + 1 = n ∧ n ≤ 8 ∧ MsOk ms ∧
  ∀ (p : Addr) (as : List Addr) (H' : Hp), Same H H' → ZAt H' p as n (turnM N (mostAt ms)) → Q (.ref p) H'
theorem ok_l_folded (T : Top K mg) : FnOk P w K mg base CX0 2 T.f_l_folded T.d_l_folded ["_law_zone", "_law_mosts_here"] (spLFolded K) := by
  refine T.F_l_folded.ok sc_l_folded (fun vs H Q E h => ?_) (fun cdv A outer s H vs Q E hr h => ?_)
  · obtain ⟨pz, pms, az, n, N, ms, rfl, _⟩ := h; rfl
  · obtain ⟨pz, pms, az, n, N, ms, rfl, z, em, hn, hn8, ok, q⟩ := h
    refine ⟨_, (pss_cons (ps_set (i := 2) sc_l_folded.nd rfl (.inr rfl) (pe_op op_catN (pe_lstN (pa_cons pe_int pa_nil)) (pv 1)))
      (pss_cons (ps_set (i := 3) sc_l_folded.nd rfl (.inl rfl) (pe_lstN pa_nil))
      (pss_cons (ps_for PassesOwn.never rfl (pi_range1 (by rfl) T.m_range (pa_cons (pe_callB call_len_seq (by rfl) T.m_len (by decide +kernel) (pa_cons (pv 0) pa_nil)) pa_nil)) (pg_name (i := 4) sc_l_folded.nd rfl (.inr rfl)) (pss_cons (lc_vsS (vs := [6]) (ps_setLc (i := 5) (own := [("_law_j", 6)]) (g := gName 6) (tt := tYes) rfl sc_l_folded.nd rfl rfl (sw_true rfl rfl rfl (by decide +kernel)) (pi_range1 (by rfl) T.m_range (pa_cons (pe_callB call_len_seq (by rfl) T.m_len (by decide +kernel) (pa_cons (pv 0) pa_nil)) pa_nil)) (blkOk_by (own := [("_law_j", 6)]) (N := ["_law_zone", "_law_mosts_here", "_law_most", "_law_rows", "_law_i", "_law_row", "_law_j"]) (sc := defScope s_l_folded) (by decide +kernel)) (fun _ _ _ _ _ => (pg_name (i := 6) sc_l_folded.nd rfl (.inl rfl))) (fun _ _ _ _ _ => pts_nil) (fun _ _ _ _ _ => (pe_call (ok_l_turned T) (hr.mono (by decide)) rfl T.g_l_turned T.F_l_turned.kp T.b_l_turned .nil pass0 (pa_cons (pe_ix (ix_listA (K := K) rfl) (pe_ix (ix_listA (K := K) rfl) (pv 0) (pv 4) (fun _ _ => rfl)) (pv 6) (fun _ _ => rfl)) (pa_cons (pe_ix (ix_listA (K := K) rfl) (pv 2) (pv 4) (fun _ _ => rfl)) (pa_cons (pe_ix (ix_listA (K := K) rfl) (pv 2) (pv 6) (fun _ _ => rfl)) pa_nil)))))) rfl)
      (pss_cons (ps_asg (pe_ix (ix_listA (K := K) rfl) (pe_ix (ix_listA (K := K) rfl) (pv 0) (pv 4) (fun _ _ => rfl)) (pv 4) (fun _ _ => rfl)) (pg_sub (pv 5) (pv 4) set_list))
      (pss_one (ps_expr (pe_bm PySem.F.plainAttrs_list PySem.F.slot_list_append PySem.F.type_list_append mt_append (pv 3) (pa_cons (pv 5) pa_nil)))))))
      (pss_one (ps_ret (pv 3)))))), ?_⟩
    refine seq_step ?_
    walk_at "rd"
    intro p1 H1 s1 _ e1
    have em1 := s1 _ _ em
    refine ⟨_, e1, _, em1, small1000' (by simp; omega), fun pm H2 s2 _ e2 => ?_⟩
    have eM : H2 pm = some (.lst ((some 0 :: ms).map oV)) := e2
    refine seq_step ?_
    walk_at "rd"
    intro l H3 s3 fl e3
    refine seq_step ?_
    refine for_rg ?_
    walk_at "rd"
    have s12 := s1.trans s2
    have z3 := z.keep (s12.trans s3)
    refine ⟨_, .inl (.of z3.top), ?_⟩
    rw [List.length_map, z.len, Int.toNat_natCast]
    refine ⟨by omega, by omega, ?_⟩
    refine forR_by (LfInv H2 pz pms pm l (turnM N (mostAt ms)) · n) ⟨[], _, _, _, rfl, s3, e3, rfl, List.nodup_nil, (fun a h => by cases h), (fun j a h => by cases h)⟩ ?_ ?_
    · rintro i σ' H4 hi ⟨as, v4, v5, v6, rfl, s4, g⟩
      have z4 := z.keep (s12.trans s4)
      walk_at "rd"
      refine seq_step ?_
      walk_at "rd"
      refine lc_rowV (n := n) (f := fun j => turnO (N i j) (mostAt ms i) (mostAt ms j)) (by omega) (by simp) (fun Q1 h => ?_) (fun j H5 Q1 hj s5 h => ?_) (fun r H5 s5 er fr => ?_)
      · walk_at "rd"
        refine ⟨_, .inl (.of z4.top), ?_⟩
        rw [List.length_map, z.len]
        exact h
      · walk_at "rd"
        refine ix_top (z4.keep s5) hi fun r er hr1 => ?_
        refine ix_row hr1 hj ?_
        have eM5 := s5 _ _ (s4 _ _ eM)
        refine ix_l (.of eM5) (by omega) (by rw [Int.toNat_natCast]; exact most_get (by omega)) ?_
        refine ix_l (.of eM5) (by omega) (by rw [Int.toNat_natCast]; exact most_get (by omega)) ?_
        exact ⟨_, _, _, rfl, fun q e => ((most_ok ok j q e).2).mono (by omega), h⟩
      refine seq_step ?_
      walk_at "rd"
      refine ix_top (z4.keep s5) hi fun r2 er2 hr2 => ?_
      refine ix_row hr2 hi ?_
      refine set_at (K := K) (x := N i i) (j := i) er hi ?_
      walk_at "rd"
      have s6 : Same H4 (upd H5 r (.lst ((zrow n fun j => turnO (N i j) (mostAt ms i) (mostAt ms j)).set i (oV (N i i))))) := same_updN fr s5
      have e6 : upd H5 r (.lst ((zrow n fun j => turnO (N i j) (mostAt ms i) (mostAt ms j)).set i (oV (N i i)))) r = some (.lst (zrow n (turnM N (mostAt ms) i))) := by
        rw [upd_same]
        refine congrArg (fun x => some (HO.lst x)) ((zrow_set (i := i) (fun _ j => turnO (N i j) (mostAt ms i) (mostAt ms j)) (N i i)).trans (zrow_congr fun j hj => ?_))
        unfold up2 turnM
        by_cases c : j = i
        · subst c; simp
        · rw [if_neg (fun z => c z.2), if_neg (fun z => c z.symm)]
      generalize upd H5 r (.lst ((zrow n fun j => turnO (N i j) (mostAt ms i) (mostAt ms j)).set i (oV (N i i)))) = H6 at s6 e6 ⊢
      have g6 : Grow H2 H6 l as i n (turnM N (mostAt ms)) := g.keep fun b o e _ => s6 _ _ e
      have nl : r ≠ l := fun e => by rw [e, g.top] at fr; cases fr
      have nr : r ∉ as := fun hm => by
        obtain ⟨j, hj, e⟩ := List.mem_iff_getElem.mp hm
        have := g.row j r (by rw [List.getElem?_eq_getElem hj, e])
        rw [fr] at this; cases this
      refine ⟨.ref l, rfl, .inl ⟨rfl, _, .of g6.top⟩, ?_⟩
      walk_at "rd"
      refine app_at g6.top (by rw [List.length_map, g6.len]; omega) ?_
      refine ⟨as ++ [r], _, _, _, rfl, same_updN fl (s4.trans s6), (g6.snoc e6 (s4.free fr) nr nl).to fun a b ha hb => ?_⟩
      show (if a = i then turnM N (mostAt ms) i b else turnM N (mostAt ms) a b) = turnM N (mostAt ms) a b
      split
      · rename_i e; rw [e]
      · rfl
    · rintro σ' H4 ⟨as, v4, v5, v6, rfl, s4, g⟩
      walk_at "rd"
      exact q l as H4 (s12.trans s4) g.done
def spAdded (K : PySem.W.Frag) : Sp := fun vs H Q _ => ∃ (x y : Option Int), vs = [oV x, oV y] ∧ (∀ a b, x = some a → y = some b → Sz 10000 (a / 2 + b / 2)) ∧ Q (oV (addO x y)) H
theorem ok_added (T : Top K mg) : FnOk P w K mg base CX0 1 T.f_added T.d_added ["one", "other"] (spAdded K) := by
  refine T.F_added.ok sc_added (fun vs H Q E h => ?_) (fun cdv A outer s H vs Q E hr h => ?_)
  · obtain ⟨a, b, rfl, _⟩ := h; rfl
  · obtain ⟨x, y, rfl, h1, q⟩ := h
    refine ⟨_, (pss_cons (ps_if (PW.pt (pw_or (pt_cmpR op_isN (pv 0) pe_non (nomark _)) (pw_or1 (pt_cmpR op_isN (pv 1) pe_non (nomark _))))) (pss_one (ps_ret pe_non)) pss_nil)
      (pss_one (ps_ret (pe_op op_or (pe_op op_shlW (pe_op op_add (pe_op op_shr (pv 0) pe_int) (pe_op op_shr (pv 1) pe_int)) pe_int) (pe_op op_and (pe_op op_and (pv 0) (pv 1)) pe_int))))), ?_⟩
    refine seq_step ?_
    cases x with
    | none => 
      simp only [oV_none]
      walk_at "rd"
      exact q
    | some a =>
      cases y with
      | none =>
        simp only [oV_none, oV_some]
        walk_at "rd"
        exact q
      | some b =>
        simp only [oV_some]
        walk_at "rd"
        rw [bit_sum]
        exact ⟨shl1 (h1 a b rfl rfl) (by omega), q⟩
theorem added_i {K : PySem.W.Frag} {a b : Int} {H : Hp} {Q : VK} {E : XK} (h : Sz 10000 (a / 2 + b / 2)) (q : Q (.int (2 * (a / 2 + b / 2) + (if a % 2 = 1 ∧ b % 2 = 1 then 1 else 0))) H) : spAdded K [.int a, .int b] H Q E :=
  ⟨some a, some b, rfl, fun _ _ e1 e2 => by cases e1; cases e2; exact h, q⟩
theorem added_n1 {K : PySem.W.Frag} {H : Hp} {Q : VK} {E : XK} (x : Option Int) (q : Q .non H) : spAdded K [.non, oV x] H Q E := ⟨none, x, rfl, (fun _ _ e1 _ => nomatch e1), q⟩
theorem added_n2 {K : PySem.W.Frag} {H : Hp} {Q : VK} {E : XK} (x : Option Int) (q : Q .non H) : spAdded K [oV x, .non] H Q E := ⟨x, none, rfl, (fun _ _ _ e1 => nomatch e1), by cases x <;> exact q⟩
def spNarrower (K : PySem.W.Frag) : Sp := fun vs H Q _ => ∃ (x y : Option Int), vs = [oV x, oV y] ∧ Q (oV (narO x y)) H
theorem ok_narrower (T : Top K mg) : FnOk P w K mg base CX0 1 T.f_narrower T.d_narrower ["one", "other"] (spNarrower K) := by
  refine T.F_narrower.ok sc_narrower (fun vs H Q E h => ?_) (fun cdv A outer s H vs Q E hr h => ?_)
  · obtain ⟨x, y, rfl, _⟩ := h; rfl
  · obtain ⟨x, y, rfl, q⟩ := h
    refine ⟨_, (pss_cons (ps_if (pt_cmpR op_isN (pv 0) pe_non (nomark _)) (pss_one (ps_ret (pv 1))) pss_nil)
      (pss_cons (ps_if (pt_cmpR op_isN (pv 1) pe_non (nomark _)) (pss_one (ps_ret (pv 0))) pss_nil)
      (pss_one (ps_ret (pe_callB (call_min2 rfl) (by rfl) T.m_min (by decide +kernel) (pa_cons (pv 0) (pa_cons (pv 1) pa_nil))))))), ?_⟩
    refine seq_step ?_
    cases x with
    | none =>
      simp only [oV_none]
      walk_at "rd"
      cases y <;> exact q
    | some a =>
      simp only [oV_some]
      walk_at "rd"
      refine seq_step ?_
      cases y with
      | none =>
        simp only [oV_none]
        walk_at "rd"
        exact q
      | some b =>
        simp only [oV_some]
        walk_at "rd"
        exact q
def spThrough (K : PySem.W.Frag) : Sp := fun vs H Q _ => ∃ (p : Addr) (as : List Addr) (n : Nat) (M : Mx) (k s : Nat), vs = [.ref p, .int k] ∧ ZAt H p as n M ∧ k < n ∧ n ≤ 60 ∧ SzM s M ∧ s + 2 * n * n ≤ 9000 ∧
  ∀ H', ZAt H' p as n (thr n k M) → (∀ b o, b ∉ as → H b = some o → H' b = some o) → Q .non H'
theorem ok_through (T : Top K mg) : FnOk P w K mg base CX0 2 T.f_through T.d_through ["rows", "k"] (spThrough K) := by
  refine T.F_through.ok sc_through (fun vs H Q E h => ?_) (fun cdv A outer s H vs Q E hr h => ?_)
  · obtain ⟨p, as, n, M, k, s, rfl, _⟩ := h; rfl
  · obtain ⟨p, as, n, M, k, sz, rfl, z, hk, hn, hs, hb, q⟩ := h
    refine ⟨_, (pss_cons (ps_set (i := 2) sc_through.nd rfl (.inl rfl) (pe_ix (ix_listA (K := K) rfl) (pv 0) (pv 1) (fun _ _ => rfl)))
      (pss_one (ps_for PassesOwn.never rfl (pi_listA (K := K) rfl (pv 0)) (pg_name (i := 3) sc_through.nd rfl (.inl rfl)) (pss_one (ps_if (pt_cmpR op_notN (pe_ix (ix_listA (K := K) rfl) (pv 3) (pv 1) (fun _ _ => rfl)) pe_non (nomark _)) (pss_one (ps_for PassesOwn.never rfl (pi_range1 (by rfl) T.m_range (pa_cons (pe_callB call_len_seq (by rfl) T.m_len (by decide +kernel) (pa_cons (pv 2) pa_nil)) pa_nil)) (pg_name (i := 4) sc_through.nd rfl (.inl rfl)) (pss_one (ps_asg (pe_call (ok_narrower T) (hr.mono (by decide)) rfl T.g_narrower T.F_narrower.kp T.b_narrower .nil pass0 (pa_cons (pe_ix (ix_listA (K := K) rfl) (pv 3) (pv 4) (fun _ _ => rfl)) (pa_cons (pe_call (ok_added T) (hr.mono (by decide)) rfl T.g_added T.F_added.kp T.b_added .nil pass0 (pa_cons (pe_ix (ix_listA (K := K) rfl) (pv 3) (pv 1) (fun _ _ => rfl)) (pa_cons (pe_ix (ix_listA (K := K) rfl) (pv 2) (pv 4) (fun _ _ => rfl)) pa_nil))) pa_nil))) (pg_sub (pv 3) (pv 4) set_list))))) pss_nil))))), ?_⟩
    refine seq_step ?_
    walk_at "rd"
    obtain ⟨w, ew, ew2, hw⟩ := z.get hk
    refine ix_l (.of z.top) (by omega) (by rw [Int.toNat_natCast]; exact ew2) ?_
    walk_at "rd"
    refine for_li ?_
    walk_at "rd"
    refine forL_by (xs := as.map V.ref) (fun i σ' H' => ∃ v3 v4, σ' = [some (.ref p), some (.int k), some (.ref w), v3, v4] ∧ ZAt H' p as n (iter (rowst n k) i M) ∧ (∀ b o, b ∉ as → H b = some o → H' b = some o)) ⟨_, _, rfl, z, fun _ _ _ e => e⟩ (fun i σ H' _ ⟨_, _, _, z', _⟩ => .of z'.top) ?_ ?_
    · rintro i x σ' H1 hi ⟨v3, v4, rfl, z1, kp⟩
      have hin : i < n := by
        have := (List.getElem?_eq_some_iff.mp hi).1
        rw [List.length_map, z.len] at this; exact this
      obtain ⟨r, er, er2, hr1⟩ := z1.get hin
      obtain rfl : x = .ref r := Option.some.inj (hi.symm.trans er2)
      have hsi : SzM (sz + 2 * n * i) (iter (rowst n k) i M) := iter_sz (fun _ _ _ h => rowst_sz h) hs i
      have hmul : 2 * n * i + 2 * n ≤ 2 * n * n := by
        rw [← Nat.mul_succ]; exact Nat.mul_le_mul_left _ hin
      generalize hM1 : iter (rowst n k) i M = M1 at *
      have hgoal : iter (rowst n k) (i + 1) M = rowst n k i M1 := by rw [← hM1]; rfl
      rw [hgoal]
      walk_at "rd"
      refine ix_l (.of hr1) (by omega) (by rw [Int.toNat_natCast]; exact zrow_get _ hk) ?_
      walk_at "rd"
      cases hMk : M1 i k with
      | none =>
        rw [show rowst n k i M1 = M1 by unfold rowst; rw [if_pos hMk]]
        simp only [oV_none]
        walk_at "rd"
        exact ⟨z1, kp⟩
      | some d =>
        rw [show rowst n k i M1 = iter (cell1 k i) n M1 by unfold rowst; rw [if_neg (by rw [hMk]; exact fun z => by cases z)]]
        simp only [oV_some]
        walk_at "rd"
        refine for_rg ?_
        walk_at "rd"
        refine ⟨_, .inl (.of (z1.row k w ew)), (rg_ok (by rw [zrow_len]; omega)).1, (rg_ok (by rw [zrow_len]; omega)).2, ?_⟩
        rw [zrow_len, Int.toNat_natCast]
        refine forR_by (fun j σ' H' => ∃ v4, σ' = [some (.ref p), some (.int k), some (.ref w), some (.ref r), v4] ∧ ZAt H' p as n (iter (cell1 k i) j M1) ∧ (∀ b o, b ∉ as → H b = some o → H' b = some o)) ⟨_, rfl, z1, kp⟩ ?_ ?_
        · rintro j σ' H2 hj ⟨v4', rfl, z2, kp2⟩
          have hsj : SzM (sz + 2 * n * i + 2 * j) (iter (cell1 k i) j M1) := iter_sz (fun _ _ _ h => cell1_sz h) hsi j
          generalize hM2 : iter (cell1 k i) j M1 = M2 at *
          have hgoal2 : iter (cell1 k i) (j + 1) M1 = cell1 k i j M2 := by rw [← hM2]; rfl
          rw [hgoal2]
          walk_at "rd"
          refine ix_row (z2.row i r er) hj ?_
          refine ix_row (z2.row i r er) hk ?_
          refine ix_row (z2.row k w ew) hj ?_
          walk_at "rd"
          refine ⟨_, _, rfl, fun a b ea eb => half_sz (hsj _ _ _ ea) (hsj _ _ _ eb) (by omega), ?_⟩
          refine ⟨_, _, rfl, ?_⟩
          walk_at "rd"
          refine set_at (K := K) (z2.row i r er) hj ?_
          walk_at "rd"
          refine ⟨z2.set _ er, fun b o hb e => ?_⟩
          rw [upd_ne (fun z => hb (by rw [z]; exact List.mem_of_getElem? er))]
          exact kp2 b o hb e
        · rintro σ' H2 ⟨v4', rfl, z2, kp2⟩
          exact ⟨_, _, rfl, z2, kp2⟩
    · rintro σ' H1 ⟨v3, v4, rfl, z1, kp⟩
      rw [List.length_map, z.len] at z1
      exact q H1 z1 kp
def spNarrowest (K : PySem.W.Frag) : Sp := fun vs H Q _ => ∃ (p : Addr) (as : List Addr) (n : Nat) (M : Mx) (s : Nat), vs = [.ref p] ∧ ZAt H p as n M ∧ n ≤ 60 ∧ 1 ≤ s ∧ SzM s M ∧ s + 2 * n * n * n ≤ 9000 ∧
  ((∃ i d, i < n ∧ nrw n M i i = some d ∧ d < 1) → ∀ H', Same H H' → Q .non H') ∧
  ((∀ i, i < n → ∃ d, nrw n M i i = some d ∧ 1 ≤ d) → ∀ p' as' H', Same H H' → ZAt H' p' as' n (nrw n M) → H p' = none → (∀ a ∈ as', H a = none) → Q (.ref p') H')
theorem ok_narrowest (T : Top K mg) : FnOk P w K mg base CX0 3 T.f_narrowest T.d_narrowest ["zone"] (spNarrowest K) := by
  refine T.F_narrowest.ok sc_narrowest (fun vs H Q E h => ?_) (fun cdv A outer s H vs Q E hr h => ?_)
  · obtain ⟨p, as, n, M, s, rfl, _⟩ := h; rfl
  · obtain ⟨p, as, n, M, sz, rfl, z, hn, hs1, hs, hb, q1, q2⟩ := h
    refine ⟨_, (pss_cons (lc_vsS (vs := [4]) (ps_setLc (i := 1) (own := [("row", 4)]) (g := gName 4) (tt := tYes) rfl sc_narrowest.nd rfl rfl (sw_true rfl rfl rfl (by decide +kernel)) (pi_listA (K := K) rfl (pv 0)) (blkOk_by (own := [("row", 4)]) (N := ["zone", "rows", "i", "k", "row"]) (sc := defScope s_narrowest) (by decide +kernel)) (fun _ _ _ _ _ => (pg_name (i := 4) sc_narrowest.nd rfl (.inl rfl))) (fun _ _ _ _ _ => pts_nil) (fun _ _ _ _ _ => (pe_callTy (call_listA (K := K) rfl) (by rfl) T.m_list (by decide +kernel) (pa_cons (pv 4) pa_nil)))) rfl)
      (pss_cons (ps_for PassesOwn.never rfl (pi_range1 (by rfl) T.m_range (pa_cons (pe_callB call_len_seq (by rfl) T.m_len (by decide +kernel) (pa_cons (pv 1) pa_nil)) pa_nil)) (pg_name (i := 2) sc_narrowest.nd rfl (.inl rfl)) (pss_cons (ps_asg (pe_call (ok_narrower T) (hr.mono (by decide)) rfl T.g_narrower T.F_narrower.kp T.b_narrower .nil pass0 (pa_cons (pe_ix (ix_listA (K := K) rfl) (pe_ix (ix_listA (K := K) rfl) (pv 1) (pv 2) (fun _ _ => rfl)) (pv 2) (fun _ _ => rfl)) (pa_cons (pe_glob (v := .int 1) rfl T.g_NOUGHT ⟨_, rfl⟩) pa_nil))) (pg_sub (pe_ix (ix_listA (K := K) rfl) (pv 1) (pv 2) (fun _ _ => rfl)) (pv 2) set_list))
      (pss_one (ps_asg (pe_call (ok_narrower T) (hr.mono (by decide)) rfl T.g_narrower T.F_narrower.kp T.b_narrower .nil pass0 (pa_cons (pe_ix (ix_listA (K := K) rfl) (pe_ix (ix_listA (K := K) rfl) (pv 1) pe_int (fun _ _ => rfl)) (pv 2) (fun _ _ => rfl)) (pa_cons (pe_glob (v := .int 1) rfl T.g_NOUGHT ⟨_, rfl⟩) pa_nil))) (pg_sub (pe_ix (ix_listA (K := K) rfl) (pv 1) pe_int (fun _ _ => rfl)) (pv 2) set_list)))))
      (pss_cons (ps_for PassesOwn.never rfl (pi_range1 (by rfl) T.m_range (pa_cons (pe_callB call_len_seq (by rfl) T.m_len (by decide +kernel) (pa_cons (pv 1) pa_nil)) pa_nil)) (pg_name (i := 3) sc_narrowest.nd rfl (.inl rfl)) (pss_one (ps_expr (pe_call (ok_through T) (hr.mono (by decide)) rfl T.g_through T.F_through.kp T.b_through .nil pass0 (pa_cons (pv 1) (pa_cons (pv 3) pa_nil))))))
      (pss_cons (ps_for PassesOwn.never rfl (pi_range1 (by rfl) T.m_range (pa_cons (pe_callB call_len_seq (by rfl) T.m_len (by decide +kernel) (pa_cons (pv 1) pa_nil)) pa_nil)) (pg_name (i := 2) sc_narrowest.nd rfl (.inl rfl)) (pss_one (ps_if (pt_cmpR op_lt (pe_ix (ix_listA (K := K) rfl) (pe_ix (ix_listA (K := K) rfl) (pv 1) (pv 2) (fun _ _ => rfl)) (pv 2) (fun _ _ => rfl)) (pe_glob (v := .int 1) rfl T.g_NOUGHT ⟨_, rfl⟩) (nomark _)) (pss_one (ps_ret pe_non)) pss_nil)))
      (pss_one (ps_ret (pv 1))))))), ?_⟩
    refine seq_step ?_
    walk_at "rd"
    refine lc_copy z hn rfl (by simp) fun D as' H1 s1 z1 fD fa => ?_
    refine seq_step ?_
    refine for_rg ?_
    walk_at "rd"
    refine ⟨_, .inl (.of z1.top), ?_⟩
    rw [List.length_map, z1.len]
    refine ⟨(rg_ok (by omega)).1, (rg_ok (by omega)).2, ?_⟩
    rw [Int.toNat_natCast]
    refine forR_by (fun i σ' H' => ∃ v2, σ' = [some (.ref p), some (.ref D), v2, none, none] ∧ ZAt H' D as' n (iter diag1 i M) ∧ Same H H') ⟨_, rfl, z1, s1⟩ ?_ ?_
    · rintro i σ' H2 hi ⟨v2, rfl, z2, s2⟩
      generalize hM2 : iter diag1 i M = M2 at *
      rw [show iter diag1 (i + 1) M = diag1 i M2 by rw [← hM2]; rfl]
      walk_at "rd"
      refine seq_step ?_
      walk_at "rd"
      refine ix_top z2 hi fun r er hr1 => ?_
      refine ix_row hr1 hi ?_
      walk_at "rd"
      refine ⟨_, some 1, rfl, ?_⟩
      refine ix_top z2 hi fun r' er' hr1' => ?_
      obtain rfl : r = r' := Option.some.inj (er.symm.trans er')
      walk_at "rd"
      refine set_at (K := K) hr1 hi ?_
      have z3 := z2.set (j := i) (narO (M2 i i) (some 1)) er
      have s3 : Same H (upd H2 r (.lst ((zrow n (M2 i)).set i (oV (narO (M2 i i) (some 1)))))) := same_updN (fa r (List.mem_of_getElem? er)) s2
      generalize upd H2 r (.lst ((zrow n (M2 i)).set i (oV (narO (M2 i i) (some 1))))) = H3 at *
      unfold diag1
      generalize up2 M2 i i (narO (M2 i i) (some 1)) = M3 at *
      have h0 : 0 < n := by omega
      walk_at "rd"
      refine ix_top (i := 0) z3 h0 fun r0 er0 hr0 => ?_
      refine ix_row hr0 hi ?_
      walk_at "rd"
      refine ⟨_, some 1, rfl, ?_⟩
      refine ix_top (i := 0) z3 h0 fun r' er' hr1' => ?_
      obtain rfl : r0 = r' := Option.some.inj (er0.symm.trans er')
      walk_at "rd"
      refine set_at (K := K) hr0 hi ?_
      exact ⟨z3.set (j := i) _ er0, same_updN (fa r0 (List.mem_of_getElem? er0)) s3⟩
    · rintro σ' H2 ⟨v2, rfl, z2, s2⟩
      refine seq_step ?_
      walk_at "rd"
      refine for_rg ?_
      walk_at "rd"
      refine ⟨_, .inl (.of z2.top), ?_⟩
      rw [List.length_map, z2.len]
      refine ⟨(rg_ok (by omega)).1, (rg_ok (by omega)).2, ?_⟩
      rw [Int.toNat_natCast]
      refine forR_by (fun i σ' H' => ∃ v3, σ' = [some (.ref p), some (.ref D), v2, v3, none] ∧ ZAt H' D as' n (iter (thr n) i (iter diag1 n M)) ∧ Same H H') ⟨_, rfl, z2, s2⟩ ?_ ?_
      · rintro k σ' H3 hk ⟨v3, rfl, z3, s3⟩
        have hsk := nrw_sz (n := n) (m := k) hs1 hs
        have hmul : 2 * n * n * k + 2 * n * n ≤ 2 * n * n * n := by
          rw [← Nat.mul_succ]; exact Nat.mul_le_mul_left _ hk
        walk_at "rd"
        refine ⟨D, as', n, _, k, _, rfl, z3, hk, hn, hsk, by omega, fun H4 z4 kp => ?_⟩
        walk_at "rd"
        exact ⟨z4, fun b o e => kp b o (fun hb => by rw [fa b hb] at e; cases e) (s3 b o e)⟩
      · rintro σ' H3 ⟨v3, rfl, z3, s3⟩
        have zN : ZAt H3 D as' n (nrw n M) := z3
        refine seq_step ?_
        walk_at "rd"
        refine for_rg ?_
        walk_at "rd"
        refine ⟨_, .inl (.of zN.top), ?_⟩
        rw [List.length_map, zN.len]
        refine ⟨(rg_ok (by omega)).1, (rg_ok (by omega)).2, ?_⟩
        rw [Int.toNat_natCast]
        refine forR_by (fun i σ' H' => ∃ v2, σ' = [some (.ref p), some (.ref D), v2, v3, none] ∧ H' = H3 ∧ ∀ j, j < i → ∃ d, nrw n M j j = some d ∧ 1 ≤ d) ⟨_, rfl, rfl, fun j h => by omega⟩ ?_ ?_
        · rintro i σ' H4 hi ⟨v2', rfl, rfl, hd⟩
          walk_at "rd"
          refine ix_top zN hi fun r er hr1 => ?_
          refine ix_row hr1 hi ?_
          obtain ⟨d, ed⟩ := has_nrw (M := M) hi
          rw [ed]
          simp only [oV_some]
          walk_at "rd"
          refine ite_d (fun c => q1 ⟨i, d, hi, ed, c⟩ _ s3) (fun c j hj => ?_)
          by_cases cj : j = i
          · subst cj; exact ⟨d, ed, by omega⟩
          · exact hd j (by omega)
        · rintro σ' H4 ⟨v2', rfl, rfl, hd⟩
          walk_at "rd"
          exact q2 hd D as' _ s3 zN fD fa
theorem ZAt.to {H : Hp} {p : Addr} {as : List Addr} {n : Nat} {M N : Mx} (z : ZAt H p as n M) (h : ∀ a b, a < n → b < n → M a b = N a b) : ZAt H p as n N :=
  ⟨z.top, z.len, fun i a e => by
    have hi := (List.getElem?_eq_some_iff.mp e).1
    rw [z.len] at hi
    rw [z.row i a e, zrow_congr fun b hb => h i b hi hb], z.nd⟩
/-- the cells ahead of i, j are turned -/
def partM (N : Mx) (g : Nat → Option Int) (i j : Nat) : Mx := fun a b => if a < i ∨ (a = i ∧ b < j) then turnM N g a b else N a b
theorem part_here (N : Mx) (g : Nat → Option Int) (i j : Nat) : partM N g i j i j = N i j := if_neg (by omega)
theorem part_next (N : Mx) (g : Nat → Option Int) (i j : Nat) : up2 (partM N g i j) i j (turnM N g i j) = partM N g i (j + 1) := by
  funext a b
  unfold up2 partM
  by_cases c : a = i ∧ b = j
  · rw [if_pos c, if_pos (by omega), c.1, c.2]
  · rw [if_neg c]
    by_cases d : a < i ∨ (a = i ∧ b < j)
    · rw [if_pos d, if_pos (by omega)]
    · rw [if_neg d, if_neg (by omega)]
theorem part_same {N : Mx} {g : Nat → Option Int} {i j : Nat} (h : turnM N g i j = N i j) : partM N g i (j + 1) = partM N g i j := by
  rw [← part_next, h, ← part_here N g i j, up2_id]
theorem turn_sz {N : Mx} {ms : List (Option Int)} (h : SzM 2000 N) (ok : MsOk ms) : SzM 2000 (turnM N (mostAt ms)) := fun i j v e => by
  unfold turnM at e
  split at e
  · exact h i j v e
  · cases hN : N i j with
    | none => rw [hN] at e; cases e
    | some x =>
      rw [hN] at e
      have k : ∀ w, turn2 x (mostAt ms j) = some w → Sz 2000 w := fun w e => by
        cases hj : mostAt ms j with
        | none => rw [hj] at e; cases e; exact h i j _ hN
        | some q =>
          rw [hj] at e
          have e : (if x / 2 < 0 - q then some (0 - 2 * q) else some x) = some w := e
          split at e
          · cases e
            have := (most_ok ok j q hj).2
            refine Sz.mono (a := 62) ?_ (by omega)
            unfold Sz at *; omega
          · cases e; exact h i j _ hN
      cases hi : mostAt ms i with
      | none => rw [hi] at e; exact k v e
      | some p =>
        rw [hi] at e
        have e : (if p < x / 2 then none else turn2 x (mostAt ms j)) = some v := e
        split at e
        · cases e
        · exact k v e
def FoInv (Hb : Hp) (pz pms D pg : Addr) (as : List Addr) (n : Nat) (N : Mx) (g : Nat → Option Int) (i j : Nat) (σ' : L2.St) (H' : Hp) : Prop := ∃ (v4 v5 v6 : Option V), σ' = [some (.ref pz), some (.ref pms), some (.ref D), some (.ref pg), v4, v5, v6] ∧ ZAt H' D as n (partM N g i j) ∧ ∀ b o, b ∉ as → Hb b = some o → H' b = some o
def FoInv2 (Hb : Hp) (pz pms D pg : Addr) (as : List Addr) (n : Nat) (N : Mx) (g : Nat → Option Int) (i j : Nat) (σ' : L2.St) (H' : Hp) : Prop := ∃ (v5 v6 : Option V), σ' = [some (.ref pz), some (.ref pms), some (.ref D), some (.ref pg), some (.int i), v5, v6] ∧ ZAt H' D as n (partM N g i j) ∧ ∀ b o, b ∉ as → Hb b = some o → H' b = some o
def spFolded (K : PySem.W.Frag) : Sp := fun vs H Q _ => ∃ (pz pms : Addr) (az : List Addr) (n : Nat) (N T : Mx) (ms : List (Option Int)), vs = [.ref pz, .ref pms] ∧ ZAt H pz az n N ∧ H pms = some (.lst (ms.map oV)) ∧ ms.length + 1 = n ∧ n ≤ 8 ∧ MsOk ms ∧ SzM 2000 T ∧
  (∀ i j, i < n → j < n → turnM N (mostAt ms) i j = T i j) ∧ (∀ i, i < n → ∃ d, nrw n T i i = some d ∧ 1 ≤ d) ∧
  ∀ (p : Addr) (as : List Addr) (H' : Hp), Same H H' → ZAt H' p as n (nrw n T) → Q (.ref p) H'
theorem ok_folded (T : Top K mg) : FnOk P w K mg base CX0 4 T.f_folded T.d_folded ["zone", "mosts"] (spFolded K) := by
  refine T.F_folded.ok sc_folded (fun vs H Q E h => ?_) (fun cdv A outer s H vs Q E hr h => ?_)
  · obtain ⟨pz, pms, az, n, N, T', ms, rfl, _⟩ := h; rfl
  · obtain ⟨pz, pms, az, n, N, T', ms, rfl, z, em, hn, hn8, ok, sT, hT, hpos, q⟩ := h
    refine ⟨_, (pss_cons (ps_set (i := 2) sc_folded.nd rfl (.inl rfl) (pe_call (ok_copied T) (hr.mono (by decide)) rfl T.g_copied T.F_copied.kp T.b_copied .nil pass0 (pa_cons (pv 0) pa_nil)))
      (pss_cons (ps_set (i := 3) sc_folded.nd rfl (.inl rfl) (pe_op op_catN (pe_lstN (pa_cons pe_int pa_nil)) (pv 1)))
      (pss_cons (ps_for PassesOwn.never rfl (pi_range1 (by rfl) T.m_range (pa_cons (pe_callB call_len_seq (by rfl) T.m_len (by decide +kernel) (pa_cons (pv 2) pa_nil)) pa_nil)) (pg_name (i := 4) sc_folded.nd rfl (.inl rfl)) (pss_one (ps_for PassesOwn.never rfl (pi_range1 (by rfl) T.m_range (pa_cons (pe_callB call_len_seq (by rfl) T.m_len (by decide +kernel) (pa_cons (pv 2) pa_nil)) pa_nil)) (pg_name (i := 5) sc_folded.nd rfl (.inl rfl)) (pss_cons (ps_set (i := 6) sc_folded.nd rfl (.inl rfl) (pe_ix (ix_listA (K := K) rfl) (pe_ix (ix_listA (K := K) rfl) (pv 2) (pv 4) (fun _ _ => rfl)) (pv 5) (fun _ _ => rfl)))
      (pss_cons (ps_if (PW.pt (pw_or (pt_cmpR op_isN (pv 6) pe_non (nomark _)) (pw_or1 (pt_cmpR op_eq (pv 4) (pv 5) (nomark _))))) (pss_one ps_continue) pss_nil)
      (pss_one (ps_if (PW.pt (pw_and (pt_cmpR op_notN (pe_ix (ix_listA (K := K) rfl) (pv 3) (pv 4) (fun _ _ => rfl)) pe_non (nomark _)) (pw_and1 (pt_cmpR op_gt (pe_call (ok_number_of T) (hr.mono (by decide)) rfl T.g_number_of T.F_number_of.kp T.b_number_of .nil pass0 (pa_cons (pv 6) pa_nil)) (pe_ix (ix_listA (K := K) rfl) (pv 3) (pv 4) (fun _ _ => rfl)) (nomark _))))) (pss_one (ps_asg pe_non (pg_sub (pe_ix (ix_listA (K := K) rfl) (pv 2) (pv 4) (fun _ _ => rfl)) (pv 5) set_list))) (pss_one (ps_if (PW.pt (pw_and (pt_cmpR op_notN (pe_ix (ix_listA (K := K) rfl) (pv 3) (pv 5) (fun _ _ => rfl)) pe_non (nomark _)) (pw_and1 (pt_cmpR op_lt (pe_call (ok_number_of T) (hr.mono (by decide)) rfl T.g_number_of T.F_number_of.kp T.b_number_of .nil pass0 (pa_cons (pv 6) pa_nil)) (pe_op op_sub pe_int (pe_ix (ix_listA (K := K) rfl) (pv 3) (pv 5) (fun _ _ => rfl))) (nomark _))))) (pss_one (ps_asg (pe_call (ok_below T) (hr.mono (by decide)) rfl T.g_below T.F_below.kp T.b_below .nil pass0 (pa_cons (pe_op op_sub pe_int (pe_ix (ix_listA (K := K) rfl) (pv 3) (pv 5) (fun _ _ => rfl))) pa_nil)) (pg_sub (pe_ix (ix_listA (K := K) rfl) (pv 2) (pv 4) (fun _ _ => rfl)) (pv 5) set_list))) pss_nil)))))))))
      (pss_one (ps_ret (pe_call (ok_narrowest T) (hr.mono (by decide)) rfl T.g_narrowest T.F_narrowest.kp T.b_narrowest .nil pass0 (pa_cons (pv 2) pa_nil))))))), ?_⟩
    refine seq_step ?_
    walk_at "rd"
    refine ⟨pz, az, n, N, rfl, z, by omega, fun D as H1 s1 z1 fD fas => ?_⟩
    refine seq_step ?_
    walk_at "rd"
    intro p1 H2 s2 _ e2
    refine ⟨_, e2, _, (s1.trans s2) _ _ em, small1000' (by simp; omega), fun pg H3 s3 fg e3 => ?_⟩
    have eG : H3 pg = some (.lst ((some 0 :: ms).map oV)) := e3
    have z3 := z1.keep (s2.trans s3)
    have ng : pg ∉ as := fun hm => by
      obtain ⟨j, hj, e⟩ := List.mem_iff_getElem.mp hm
      have h := (z1.keep s2).row j pg (by rw [List.getElem?_eq_getElem hj, e])
      rw [fg] at h; cases h
    have sH : ∀ H', (∀ b o, b ∉ as → H3 b = some o → H' b = some o) → Same H H' := fun H' kp b o e => kp b o (fun hb => by rw [fas b hb] at e; cases e) (s3 _ _ (s2 _ _ (s1 _ _ e)))
    refine seq_step ?_
    refine for_rg ?_
    walk_at "rd"
    refine ⟨_, .inl (.of z3.top), ?_⟩
    rw [List.length_map, z3.len]
    refine ⟨by omega, by omega, ?_⟩
    rw [Int.toNat_natCast]
    refine forR_by (FoInv H3 pz pms D pg as n N (mostAt ms) · 0) ⟨_, _, _, rfl, z3.to fun a b _ _ => (if_neg (by omega)).symm, fun _ _ _ e => e⟩ ?_ ?_
    · rintro i σ' H4 hi ⟨v4, v5, v6, rfl, z4, kp⟩
      walk_at "rd"
      refine for_rg ?_
      walk_at "rd"
      refine ⟨_, .inl (.of z4.top), ?_⟩
      rw [List.length_map, z4.len]
      refine ⟨by omega, by omega, ?_⟩
      rw [Int.toNat_natCast]
      refine forR_by (FoInv2 H3 pz pms D pg as n N (mostAt ms) i) ⟨_, _, rfl, z4, kp⟩ ?_ ?_
      · rintro j σ' H5 hj ⟨v5, v6, rfl, z5, kp5⟩
        have eG5 := kp5 _ _ ng eG
        walk_at "rd"
        refine seq_step ?_
        walk_at "rd"
        refine ix_top z5 hi fun r er hr1 => ?_
        refine ix_row hr1 hj ?_
        rw [part_here]
        refine seq_step ?_
        have stay : turnM N (mostAt ms) i j = N i j → ZAt H5 D as n (partM N (mostAt ms) i (j + 1)) := fun h => by rw [part_same h]; exact z5
        have put : ∀ w, turnM N (mostAt ms) i j = w → ZAt (upd H5 r (.lst ((zrow n (partM N (mostAt ms) i j i)).set j (oV w)))) D as n (partM N (mostAt ms) i (j + 1)) := fun w h => by
          rw [← part_next, h]; exact z5.set w er
        have kput : ∀ o b x, b ∉ as → H3 b = some x → (upd H5 r o) b = some x := fun o b x hb e => by
          rw [upd_ne (fun z => hb (by rw [z]; exact List.mem_of_getElem? er))]; exact kp5 b x hb e
        have tm : i ≠ j → turnM N (mostAt ms) i j = turnO (N i j) (mostAt ms i) (mostAt ms j) := fun h => by unfold turnM; rw [if_neg h]
        have hG : ∀ k, k < n → ∀ (Q1 : VK), Q1 (oV (mostAt ms k)) H5 → rIxL K (.ref pg) (.int (k : Int)) H5 Q1 := fun k hk Q1 h =>
          ix_l (.of eG5) (by omega) (by rw [Int.toNat_natCast]; exact most_get (by omega)) h
        cases hN : N i j with
        | none =>
          simp only [oV_none]
          walk_at "rd"
          refine ⟨_, _, rfl, stay ?_, kp5⟩
          by_cases c : i = j
          · unfold turnM; rw [if_pos c]
          · rw [tm c, hN]; rfl
        | some x =>
          simp only [oV_some]
          walk_at "rd"
          refine ite_d (fun c => ?_) (fun c => ?_)
          · exact ⟨_, _, rfl, stay (by unfold turnM; rw [if_pos (by omega)]), kp5⟩
          have hij : i ≠ j := fun z => c (by rw [z])
          have t0 := tm hij
          rw [hN] at t0
          refine hG i hi _ ?_
          cases hi1 : mostAt ms i with
          | none =>
            simp only [oV_none]
            walk_at "rd"
            have t1 : turnM N (mostAt ms) i j = turn2 x (mostAt ms j) := by rw [t0, hi1]; rfl
            refine hG j hj _ ?_
            cases hj1 : mostAt ms j with
            | none =>
              simp only [oV_none]
              walk_at "rd"
              exact ⟨_, _, rfl, stay (by rw [t1, hj1, hN]; rfl), kp5⟩
            | some p2 =>
              have sz2 := (most_ok ok j p2 hj1).2
              simp only [oV_some]
              walk_at "rd"
              refine ⟨x, rfl, ?_⟩
              refine hG j hj _ ?_
              rw [hj1]
              simp only [oV_some]
              walk_at "rd"
              refine ite_d (fun c2 => ?_) (fun c2 => ?_)
              · refine hG j hj _ ?_
                rw [hj1]
                simp only [oV_some]
                walk_at "rd"
                refine ⟨_, rfl, (show Sz 10000 (0 - p2) from Sz.le (j := p2) (by omega) (sz2.mono (by omega))), ?_⟩
                refine ix_top z5 hi fun r' er' hr' => ?_
                obtain rfl : r = r' := Option.some.inj (er.symm.trans er')
                refine set_at (K := K) (x := some (2 * (0 - p2))) hr1 hj ?_
                exact ⟨_, _, rfl, put (some (2 * (0 - p2))) (by rw [t1, hj1]; show (if x / 2 < 0 - p2 then some (0 - 2 * p2) else some x) = _; rw [if_pos c2]; congr 1; omega), kput _⟩
              · exact ⟨_, _, rfl, stay (by rw [t1, hj1, hN]; show (if x / 2 < 0 - p2 then some (0 - 2 * p2) else some x) = _; rw [if_neg c2]), kp5⟩
          | some p =>
            simp only [oV_some]
            walk_at "rd"
            refine ⟨x, rfl, ?_⟩
            refine hG i hi _ ?_
            rw [hi1]
            simp only [oV_some]
            walk_at "rd"
            have t2 : turnM N (mostAt ms) i j = if p < x / 2 then none else turn2 x (mostAt ms j) := by rw [t0, hi1]; rfl
            refine ite_d (fun c1 => ?_) (fun c1 => ?_)
            · refine ix_top z5 hi fun r' er' hr' => ?_
              obtain rfl : r = r' := Option.some.inj (er.symm.trans er')
              refine set_at (K := K) (x := none) hr1 hj ?_
              exact ⟨_, _, rfl, put none (by rw [t2, if_pos c1]), kput _⟩
            have t1 : turnM N (mostAt ms) i j = turn2 x (mostAt ms j) := by rw [t2, if_neg c1]
            refine hG j hj _ ?_
            cases hj1 : mostAt ms j with
            | none =>
              simp only [oV_none]
              walk_at "rd"
              exact ⟨_, _, rfl, stay (by rw [t1, hj1, hN]; rfl), kp5⟩
            | some p2 =>
              have sz2 := (most_ok ok j p2 hj1).2
              simp only [oV_some]
              walk_at "rd"
              refine ⟨x, rfl, ?_⟩
              refine hG j hj _ ?_
              rw [hj1]
              simp only [oV_some]
              walk_at "rd"
              refine ite_d (fun c2 => ?_) (fun c2 => ?_)
              · refine hG j hj _ ?_
                rw [hj1]
                simp only [oV_some]
                walk_at "rd"
                refine ⟨_, rfl, (show Sz 10000 (0 - p2) from Sz.le (j := p2) (by omega) (sz2.mono (by omega))), ?_⟩
                refine ix_top z5 hi fun r' er' hr' => ?_
                obtain rfl : r = r' := Option.some.inj (er.symm.trans er')
                refine set_at (K := K) (x := some (2 * (0 - p2))) hr1 hj ?_
                exact ⟨_, _, rfl, put (some (2 * (0 - p2))) (by rw [t1, hj1]; show (if x / 2 < 0 - p2 then some (0 - 2 * p2) else some x) = _; rw [if_pos c2]; congr 1; omega), kput _⟩
              · exact ⟨_, _, rfl, stay (by rw [t1, hj1, hN]; show (if x / 2 < 0 - p2 then some (0 - 2 * p2) else some x) = _; rw [if_neg c2]), kp5⟩
      · rintro σ' H5 ⟨v5, v6, rfl, z5, kp5⟩
        walk_at "rd"
        refine ⟨_, _, _, rfl, z5.to fun a b ha hb => ?_, kp5⟩
        unfold partM
        by_cases d : a < i ∨ (a = i ∧ b < n)
        · rw [if_pos d, if_pos (by omega)]
        · rw [if_neg d, if_neg (by omega)]
    · rintro σ' H4 ⟨v4, v5, v6, rfl, z4, kp⟩
      walk_at "rd"
      have zt : ZAt H4 D as n T' := z4.to fun a b ha hb => (if_pos (by omega)).trans (hT a b ha hb)
      have cub := cube_le (n := n) hn8
      refine ⟨D, as, n, _, 2000, rfl, zt, by omega, by omega, sT, by omega, fun ⟨i, d, hi, e, h⟩ => ?_, fun _ p' as' H5 s5 z6 _ _ => ?_⟩
      · obtain ⟨d', e', h'⟩ := hpos i hi
        rw [e] at e'; cases e'; omega
      · exact q p' as' H5 ((sH H4 kp).trans s5) z6
def widerB : Option Int → Option Int → Bool
  | _, none => false
  | none, some _ => true
  | some a, some b => decide (b < a)
theorem wider_no {x y : Option Int} (h : leO x y) : widerB x y = false := by
  cases y with
  | none => cases x <;> rfl
  | some b =>
    cases x with
    | none => exact h.elim
    | some a =>
      have h : a ≤ b := h
      exact decide_eq_false (by omega)
def spWider (K : PySem.W.Frag) : Sp := fun vs H Q _ => ∃ (x y : Option Int), vs = [oV x, oV y] ∧ Q (.bl (widerB x y)) H
theorem ok_wider (T : Top K mg) : FnOk P w K mg base CX0 1 T.f_wider T.d_wider ["one", "other"] (spWider K) := by
  refine T.F_wider.ok sc_wider (fun vs H Q E h => ?_) (fun cdv A outer s H vs Q E hr h => ?_)
  · obtain ⟨x, y, rfl, _⟩ := h; rfl
  · obtain ⟨x, y, rfl, q⟩ := h
    refine ⟨_, (pss_cons (ps_if (pt_cmpR op_isN (pv 1) pe_non (nomark _)) (pss_one (ps_ret pe_bl)) pss_nil)
      (pss_one (ps_ret (pe_or (pe_cmpR op_isN (pv 0) pe_non (nomark _)) (pe_one (pe_cmpR op_gt (pv 0) (pv 1) (nomark _))))))), ?_⟩
    refine seq_step ?_
    cases y with
    | none =>
      simp only [oV_none]
      walk_at "rd"
      cases x <;> exact q
    | some b =>
      cases x with
      | none =>
        simp only [oV_none, oV_some]
        walk_at "rd"
        exact q
      | some a =>
        simp only [oV_some]
        walk_at "rd"
        exact q
theorem widerB_iff : ∀ {x y : Option Int}, widerB x y = false ↔ leO x y
  | x, none => by cases x <;> exact ⟨fun _ => trivial, fun _ => rfl⟩
  | none, some b => ⟨fun h => (by cases h), fun h => h.elim⟩
  | some a, some b => ⟨fun h => (by
      have h := of_decide_eq_false h
      show a ≤ b
      omega), fun h => wider_no h⟩
def spWithin (K : PySem.W.Frag) : Sp := fun vs H Q _ => ∃ (p1 p2 : Addr) (a1 a2 : List Addr) (n : Nat) (M1 M2 : Mx), vs = [.ref p1, .ref p2] ∧ ZAt H p1 a1 n M1 ∧ ZAt H p2 a2 n M2 ∧ n ≤ 60 ∧
  ∀ (r : Bool) (H' : Hp), Same H H' → (r = true ↔ ∀ i j, i < n → j < n → leO (M1 i j) (M2 i j)) → Q (.bl r) H'
def WiInv1 (Hb : Hp) (p1 p2 : Addr) (n : Nat) (M1 M2 : Mx) (i : Nat) (σ' : L2.St) (H' : Hp) : Prop := ∃ (v2 v3 v4 v5 : Option V), σ' = [some (.ref p1), some (.ref p2), v2, v3, v4, v5] ∧ Same Hb H' ∧ ∀ a b, a < i → b < n → leO (M1 a b) (M2 a b)
def WiInv2 (Hb : Hp) (p1 p2 r1 r2 : Addr) (n : Nat) (M1 M2 : Mx) (i j : Nat) (σ' : L2.St) (H' : Hp) : Prop := ∃ (v4 v5 : Option V), σ' = [some (.ref p1), some (.ref p2), some (.ref r1), some (.ref r2), v4, v5] ∧ Same Hb H' ∧ (∀ a b, a < i → b < n → leO (M1 a b) (M2 a b)) ∧ ∀ b, b < j → leO (M1 i b) (M2 i b)
theorem ok_within (T : Top K mg) : FnOk P w K mg base CX0 2 T.f_within T.d_within ["one", "other"] (spWithin K) := by
  refine T.F_within.ok sc_within (fun vs H Q E h => ?_) (fun cdv A outer s H vs Q E hr h => ?_)
  · obtain ⟨p1, p2, a1, a2, n, M1, M2, rfl, _⟩ := h; rfl
  · obtain ⟨p1, p2, a1, a2, n, M1, M2, rfl, z1, z2, hn, q⟩ := h
    refine ⟨_, (pss_cons (ps_for PassesOwn.never rfl (pi_zipK (K := K) rfl (by rfl) T.m_zip (pa_wk (pa_cons (pv 0) (pa_cons (pv 1) pa_nil)))) (pg_tup (by rfl) (pgs_cons (pg_name (i := 2) sc_within.nd rfl (.inl rfl)) (pgs_cons (pg_name (i := 3) sc_within.nd rfl (.inl rfl)) pgs_nil))) (pss_one (ps_for PassesOwn.never rfl (pi_zipK (K := K) rfl (by rfl) T.m_zip (pa_wk (pa_cons (pv 2) (pa_cons (pv 3) pa_nil)))) (pg_tup (by rfl) (pgs_cons (pg_name (i := 4) sc_within.nd rfl (.inl rfl)) (pgs_cons (pg_name (i := 5) sc_within.nd rfl (.inl rfl)) pgs_nil))) (pss_one (ps_if (pt_val (pe_call (ok_wider T) (hr.mono (by decide)) rfl T.g_wider T.F_wider.kp T.b_wider .nil pass0 (pa_cons (pv 4) (pa_cons (pv 5) pa_nil)))) (pss_one (ps_ret pe_bl)) pss_nil)))))
      (pss_one (ps_ret pe_bl))), ?_⟩
    refine seq_step ?_
    refine for_zp ?_
    walk_at "rd"
    refine forZ_by (.of z1.top) (.of z2.top) (by simp [z1.len, z2.len]) (WiInv1 H p1 p2 n M1 M2) ⟨_, _, _, _, rfl, Same.refl _, fun a b h => by omega⟩ (fun i σ H' ⟨_, _, _, _, _, s, _⟩ => ⟨.of (s _ _ z1.top), .of (s _ _ z2.top)⟩) ?_ ?_
    · rintro i x y t σ' H1 H2 hx hy ⟨v2, v3, v4, v5, rfl, s1, hl⟩ s2 et
      have hin : i < n := by
        have := (List.getElem?_eq_some_iff.mp hx).1
        rw [List.length_map, z1.len] at this; exact this
      have s12 := s1.trans s2
      obtain ⟨r1, er1, er2, hr1⟩ := (z1.keep s12).get hin
      obtain ⟨r2, er3, er4, hr2⟩ := (z2.keep s12).get hin
      obtain rfl : x = .ref r1 := Option.some.inj (hx.symm.trans er2)
      obtain rfl : y = .ref r2 := Option.some.inj (hy.symm.trans er4)
      refine gTup_of (sqt et) rfl ?_
      walk_at "rd"
      refine for_zp ?_
      walk_at "rd"
      refine forZ_by (.of hr1) (.of hr2) (by simp [zrow_len]) (WiInv2 H2 p1 p2 r1 r2 n M1 M2 i) ⟨_, _, rfl, Same.refl _, hl, fun b h => by omega⟩ (fun i σ H' ⟨_, _, _, s, _⟩ => ⟨.of (s _ _ hr1), .of (s _ _ hr2)⟩) ?_ ?_
      · rintro j x y t2 σ' H3 H4 hx hy ⟨v4, v5, rfl, s3, hl3, hl4⟩ s4 et2
        have hjn : j < n := by
          have := (List.getElem?_eq_some_iff.mp hx).1
          rwa [zrow_len] at this
        rw [zrow_get _ hjn] at hx hy
        obtain rfl := Option.some.inj hx
        obtain rfl := Option.some.inj hy
        refine gTup_of (sqt et2) rfl ?_
        walk_at "rd"
        refine ⟨_, _, rfl, ?_⟩
        walk_at "rd"
        cases hw : widerB (M1 i j) (M2 i j) with
        | true =>
          walk_at "rd"
          refine q false _ (s12.trans (s3.trans s4)) ⟨(fun h => by cases h), fun h => ?_⟩
          rw [widerB_iff.mpr (h i j hin hjn)] at hw
          cases hw
        | false =>
          walk_at "rd"
          refine ⟨_, _, rfl, s3.trans s4, hl3, fun b hb => ?_⟩
          by_cases c : b = j
          · subst c; exact widerB_iff.mp hw
          · exact hl4 b (by omega)
      · rintro σ' H3 ⟨v4, v5, rfl, s3, hl3, hl4⟩
        walk_at "rd"
        rw [zrow_len] at hl4
        refine ⟨_, _, _, _, rfl, s12.trans s3, fun a b ha hb => ?_⟩
        by_cases c : a = i
        · subst c; exact hl4 b hb
        · exact hl3 a b (by omega) hb
    · rintro σ' H1 ⟨v2, v3, v4, v5, rfl, s1, hl⟩
      walk_at "rd"
      rw [List.length_map, z1.len] at hl
      exact q true _ s1 ⟨fun _ a b ha hb => hl a b ha hb, fun _ => rfl⟩
def spIs_open : Sp := fun vs H Q _ => ∃ b : Int, vs = [.int b] ∧ Q (.bl (decide (b % 2 = 0))) H
theorem ok_is_open (T : Top K mg) : FnOk P w K mg base CX0 1 T.f_is_open T.d_is_open ["bound"] spIs_open := by
  refine T.F_is_open.ok sc_is_open (fun vs H Q E h => ?_) (fun cdv A outer s H vs Q E hr h => ?_)
  · obtain ⟨b, rfl, _⟩ := h; rfl
  · obtain ⟨b, rfl, q⟩ := h
    refine ⟨_, (pss_one (ps_ret (pe_cmpR op_eq (pe_op op_and (pv 0) pe_int) pe_int (nomark _)))), ?_⟩
    walk_at "rd"
    rw [bitAnd_m1]; exact q
def spLets (K : PySem.W.Frag) : Sp := fun vs H Q _ => ∃ (x : Option Int) (t u : Int) (p : Addr), vs = [oV x, .ref p] ∧ H p = some (.tup [.int t, .int u]) ∧ (∀ b, x = some b → Sz 10000 (b / 2)) ∧ Sz 10000 u ∧ Q (.bl (letsO x t u)) H
theorem ok_lets (T : Top K mg) : FnOk P w K mg base CX0 2 T.f_lets T.d_lets ["bound", "value"] (spLets K) := by
  refine T.F_lets.ok sc_lets (fun vs H Q E h => ?_) (fun cdv A outer s H vs Q E hr h => ?_)
  · obtain ⟨x, t, u, p, rfl, _⟩ := h; rfl
  · obtain ⟨x, t, u, p, rfl, hp, h1, h2, q⟩ := h
    refine ⟨_, (pss_cons (ps_if (pt_cmpR op_isN (pv 0) pe_non (nomark _)) (pss_one (ps_ret pe_bl)) pss_nil)
      (pss_cons (ps_asg (pv 1) (pg_tup (by rfl) (pgs_cons (pg_name (i := 2) sc_lets.nd rfl (.inl rfl)) (pgs_cons (pg_name (i := 3) sc_lets.nd rfl (.inl rfl)) pgs_nil))))
      (pss_cons (ps_set (i := 4) sc_lets.nd rfl (.inl rfl) (pe_op op_mulW (pe_call (ok_number_of T) (hr.mono (by decide)) rfl T.g_number_of T.F_number_of.kp T.b_number_of .nil pass0 (pa_cons (pv 0) pa_nil)) (pv 3)))
      (pss_one (ps_ret (pe_or (pe_cmpR op_lt (pv 2) (pv 4) (nomark _)) (pe_one (pe_and (pe_cmpR op_eq (pv 2) (pv 4) (nomark _)) (pe_one (pe_not (pe_call (ok_is_open T) (hr.mono (by decide)) rfl T.g_is_open T.F_is_open.kp T.b_is_open .nil pass0 (pa_cons (pv 0) pa_nil)))))))))))), ?_⟩
    refine seq_step ?_
    cases x with
    | none =>
      simp only [oV_none]
      walk_at "rd"
      exact q
    | some b =>
    simp only [oV_some]
    have h1 := h1 b rfl
    walk_at "rd"
    refine seq_step ?_
    walk_at "rd"
    refine gTup_of (sqt hp) rfl ?_
    walk_at "rd"
    refine seq_step ?_
    walk_at "rd"
    simp only [spNumber_of, spIs_open]
    walk_at "rd"
    have q : Q (V.bl (decide (t < b / 2 * u ∨ t = b / 2 * u ∧ b % 2 = 1))) H := q
    refine ⟨h1.mulW h2 (by omega), ite_d (fun c => ?_) (fun c => ite_d (fun c2 => ?_) (fun c2 => ?_))⟩
    · rw [decide_eq_true (Or.inl c)] at q; exact q
    · rw [show (!decide (b % 2 = 0)) = decide (t < b / 2 * u ∨ (t = b / 2 * u ∧ b % 2 = 1)) by
        rw [← decide_not]; exact decide_eq_decide.mpr ⟨fun z => .inr ⟨c2, by omega⟩, fun z => by rcases z with z | z <;> omega⟩]
      exact q
    · rw [decide_eq_false (by rintro (z | z); exact c z; exact c2 z.1)] at q; exact q
def spDiv_divisor (K : PySem.W.Frag) : Sp := fun vs H Q _ => ∃ a b : Int, vs = [.int a, .int b] ∧ Q (.int (Int.gcd a b)) H
theorem ok_divisor (T : Top K mg) : FnOk P w K mg base CX0 1 T.f_divisor T.d_divisor ["one", "other"] (spDiv_divisor K) := by
  refine T.F_divisor.ok sc_divisor (fun vs H Q E h => ?_) (fun cdv A outer s H vs Q E hr h => ?_)
  · obtain ⟨a, b, rfl, _⟩ := h; rfl
  · obtain ⟨a, b, rfl, q⟩ := h
    refine ⟨_, (pss_cons (ps_while PassesOwn.never (pt_cmpR op_ne (pv 1) pe_int (nomark _)) (pss_one (ps_par (i := 0) (j := 1) (by rfl) sc_divisor.nd rfl rfl (by decide) rfl rfl (pa_cons (pv 1) (pa_cons (pe_op op_modN (pv 0) (pv 1)) pa_nil)) (by rfl))))
      (pss_one (ps_ret (pe_callB call_abs (by rfl) T.m_abs (by decide +kernel) (pa_cons (pv 0) pa_nil))))), ?_⟩
    refine seq_step ?_
    refine while_by (fun σ H' => H' = H ∧ ∃ x y : Int, σ = [some (.int x), some (.int y)] ∧ Int.gcd x y = Int.gcd a b) (fun σ _ => match σ with | [_, some (.int y)] => y.natAbs | _ => 0) ⟨rfl, a, b, rfl, rfl⟩ ?_ ?_
    · rintro σ H' ⟨rfl, x, y, rfl, hg⟩
      walk_at "rd"
      by_cases c : y = 0
      · subst c
        rw [decide_eq_true rfl, Bool.not_true, if_neg Bool.false_ne_true]
        have e : (if x < 0 then -x else x) = ((Int.gcd a b : Nat) : Int) := by
          rw [← hg, Int.gcd_zero_right]; split <;> omega
        rw [e]; exact q
      · rw [decide_eq_false c, Bool.not_false, if_pos rfl]
        exact ⟨c, by rw [fmod_gcd, hg], fmod_lt x y c⟩
    · rintro σ H Q Q' m ⟨v, hv, hs, k, hk, q⟩
      exact ⟨v, hv, hs, k, hk, m _ _ q⟩
theorem ok_is_whole (T : Top K mg) : FnOk P w K mg base CX0 1 T.f_is_whole T.d_is_whole ["thing"] (spWhole K) := by
  refine T.F_is_whole.ok sc_is_whole (fun vs H Q E h => ?_) (fun cdv A outer s H vs Q E hr h => ?_)
  · obtain ⟨x, t, rfl, _⟩ := h; rfl
  · obtain ⟨x, t, rfl, hx, ht, q⟩ := h
    refine ⟨_, (pss_one (ps_ret (pe_and (pe_callB (call_isiA (K := K) rfl) (by rfl) T.m_isinstance (by decide +kernel) (pa_cons (pv 0) (pa_cons (pe_bltn (v := .ty "int") (u := .type "int") (by rfl) T.m_int (by decide +kernel) rfl) pa_nil))) (pe_one (pe_not (pe_callB (call_isiA (K := K) rfl) (by rfl) T.m_isinstance (by decide +kernel) (pa_cons (pv 0) (pa_cons (pe_bltn (v := .ty "bool") (u := .type "bool") (by rfl) T.m_bool (by decide +kernel) rfl) pa_nil)))))))), ?_⟩
    walk_at "rd"
    have k1 : ∃ r, kitB t "int" = some r ∧ ∃ r2, kitB t "bool" = some r2 ∧ (decide (t = "int")) = (r && !r2) := by
      simp only [kinds, List.mem_cons, List.not_mem_nil, or_false] at ht
      rcases ht with rfl | rfl | rfl | rfl | rfl | rfl | rfl
      · exact ⟨true, by decide +kernel, false, by decide +kernel, by decide +kernel⟩
      · exact ⟨true, by decide +kernel, true, by decide +kernel, by decide +kernel⟩
      · exact ⟨false, by decide +kernel, false, by decide +kernel, by decide +kernel⟩
      · exact ⟨false, by decide +kernel, false, by decide +kernel, by decide +kernel⟩
      · exact ⟨false, by decide +kernel, false, by decide +kernel, by decide +kernel⟩
      · exact ⟨false, by decide +kernel, false, by decide +kernel, by decide +kernel⟩
      · exact ⟨false, by decide +kernel, false, by decide +kernel, by decide +kernel⟩
    obtain ⟨r, e1, r2, e2, e3⟩ := k1
    refine isi hx e1 ?_
    rw [e3] at q
    walk_at "rd"
    cases r with
    | false => exact q
    | true =>
      walk_at "rd"
      refine isi hx e2 ?_
      walk_at "rd"
      exact q
def spFraction (C : Addr) (K : PySem.W.Frag) : Sp := fun vs H Q E => (∃ a b : Int, vs = [.int a, .int b] ∧ b ≠ 0 ∧ Sz 8000 b ∧ RedT a b H Q) ∨
  (∃ (x y : V) (t u : String), vs = [x, y] ∧ TyX K H x (.type t) ∧ TyX K H y (.type u) ∧ t ∈ kinds ∧ u ∈ kinds ∧ (t ≠ "int" ∨ u ≠ "int" ∨ y = .int 0) ∧ E (.ref C) none H)
theorem ok_fraction (T : Top K mg) : FnOk P w K mg base (L2.CX P w) 2 T.f_fraction T.d_fraction ["top", "bottom"] (spFraction T.C_NoNumber K) := by
  refine T.F_fraction.ok sc_fraction (fun vs H Q E h => ?_) (fun cdv A outer s H vs Q E hr h => ?_)
  · rcases h with ⟨a, b, rfl, _⟩ | ⟨a, b, _, _, rfl, _⟩ <;> rfl
  · refine ⟨_, (pss_cons (ps_if (PW.pt (pw_or (pt_not (pt_val (pe_call (ok_is_whole T) (hr.mono (by decide)) rfl T.g_is_whole T.F_is_whole.kp T.b_is_whole .nil pass0 (pa_cons (pv 0) pa_nil)))) (pw_or (pt_not (pt_val (pe_call (ok_is_whole T) (hr.mono (by decide)) rfl T.g_is_whole T.F_is_whole.kp T.b_is_whole .nil pass0 (pa_cons (pv 1) pa_nil)))) (pw_or1 (pt_cmpR op_eq (pv 1) pe_int (nomark _)))))) (pss_one (ps_raise rfl (takes_of rfl rfl rfl rfl) (pmk_own PySem.F.excBase_ValueError T.x_NoNumber T.g_NoNumber T.k_NoNumber (raises_own T.b_NoNumber T.t_NoNumber) rfl))) pss_nil)
      (pss_cons (ps_set (i := 2) sc_fraction.nd rfl (.inl rfl) (pe_call (ok_divisor T) (hr.mono (by decide)) rfl T.g_divisor T.F_divisor.kp T.b_divisor .nil pass0 (pa_cons (pv 0) (pa_cons (pv 1) pa_nil))))
      (pss_cons (ps_if (pt_cmpR op_lt (pv 1) pe_int (nomark _)) (pss_one (ps_set (i := 2) sc_fraction.nd rfl (.inl rfl) (pe_op op_sub pe_int (pv 2)))) pss_nil)
      (pss_one (ps_ret (pe_tupN (pa_cons (pe_op op_fdivZ (pv 0) (pv 2)) (pa_cons (pe_op op_fdivZ (pv 1) (pv 2)) pa_nil)))))))), ?_⟩
    rcases h with ⟨a, b, rfl, hb, hz, q⟩ | ⟨x, y, t, u, rfl, hx, hy, ht, hu, hbad, e⟩
    · refine seq_step ?_
      walk_at "rd"
      refine ⟨_, "int", rfl, .base (.int _), by decide, ?_⟩
      walk_at "rd"
      refine ⟨_, "int", rfl, .base (.int _), by decide, ?_⟩
      walk_at "rd"
      rw [decide_eq_false hb, if_neg Bool.false_ne_true]
      refine seq_step ?_
      walk_at "rd"
      refine ⟨a, b, rfl, ?_⟩
      walk_at "rd"
      have g := gcd_pos_right (a := a) hb
      have gs := gcd_le_size (a := a) hb
      refine seq_step ?_
      walk_at "rd"
      refine ite_d (fun c => ?_) (fun c => ?_)
      · have d : DivOk (0 - ((Int.gcd a b : Nat) : Int)) := .of (by omega) (Sz.le (j := b) (by omega) hz) (by omega)
        exact ⟨d, d, fun p H2 s2 _ e2 => q _ _ p H2 (red_neg c) s2 e2⟩
      · have d : DivOk ((Int.gcd a b : Nat) : Int) := .of (by omega) (Sz.le (by omega) hz) (by omega)
        exact ⟨d, d, fun p H2 s2 _ e2 => q _ _ p H2 ((low_of hb).red (by omega)) s2 e2⟩
    · refine seq_step ?_
      walk_at "rd"
      refine ⟨_, t, rfl, hx, ht, ?_⟩
      walk_at "rd"
      by_cases c : t = "int"
      · rw [decide_eq_true c]
        walk_at "rd"
        refine ⟨_, u, rfl, hy, hu, ?_⟩
        walk_at "rd"
        by_cases c2 : u = "int"
        · rw [decide_eq_true c2]
          walk_at "rd"
          obtain rfl : y = .int 0 := by
            rcases hbad with z | z | z
            · exact absurd c z
            · exact absurd c2 z
            · exact z
          walk_at "rd"
          exact e
        · rw [decide_eq_false c2]
          walk_at "rd"
          exact e
      · rw [decide_eq_false c]
        walk_at "rd"
        exact e
theorem frac_ok {C : Addr} {K : PySem.W.Frag} {a b : Int} {H : Hp} {Q : VK} {E : XK} (hb : b ≠ 0) (hz : Sz 8000 b) (q : RedT a b H Q) : spFraction C K [.int a, .int b] H Q E := .inl ⟨a, b, rfl, hb, hz, q⟩
def spMinus (K : PySem.W.Frag) : Sp := fun vs H Q _ => ∃ (a b c d : Int) (p1 p2 : Addr), vs = [.ref p1, .ref p2] ∧ H p1 = some (.tup [.int a, .int b]) ∧ H p2 = some (.tup [.int c, .int d]) ∧ 0 < b ∧ 0 < d ∧ Sz 3900 a ∧ Sz 3900 b ∧ Sz 3900 c ∧ Sz 3900 d ∧ RedT (a * d - c * b) (b * d) H Q
theorem ok_minus (T : Top K mg) : FnOk P w K mg base CX0 3 T.f_minus T.d_minus ["one", "other"] (spMinus K) := by
  refine T.F_minus.ok sc_minus (fun vs H Q E h => ?_) (fun cdv A outer s H vs Q E hr h => ?_)
  · obtain ⟨a, b, c, d, p1, p2, rfl, _⟩ := h; rfl
  · obtain ⟨a, b, c, d, p1, p2, rfl, h1, h2, hb, hd, sa, sb, sc, sd, q⟩ := h
    refine ⟨_, (pss_one (ps_ret (pe_call (ok_fraction T) (hr.mono (by decide)) rfl T.g_fraction T.F_fraction.kp T.b_fraction .nil passL (pa_cons (pe_op op_sub (pe_op op_mulW (pe_ix (ix_tupA (K := K) rfl) (pv 0) pe_int (fun _ _ => rfl)) (pe_ix (ix_tupA (K := K) rfl) (pv 1) pe_int (fun _ _ => rfl))) (pe_op op_mulW (pe_ix (ix_tupA (K := K) rfl) (pv 1) pe_int (fun _ _ => rfl)) (pe_ix (ix_tupA (K := K) rfl) (pv 0) pe_int (fun _ _ => rfl)))) (pa_cons (pe_op op_mulW (pe_ix (ix_tupA (K := K) rfl) (pv 0) pe_int (fun _ _ => rfl)) (pe_ix (ix_tupA (K := K) rfl) (pv 1) pe_int (fun _ _ => rfl))) pa_nil))))), ?_⟩
    walk_at "ix"
    walk_at "ix"
    walk_at "rd"
    refine ⟨sa.mulW sd (by omega), ?_⟩
    walk_at "ix"
    walk_at "ix"
    walk_at "rd"
    refine ⟨sc.mulW sb (by omega), ?_⟩
    walk_at "ix"
    walk_at "ix"
    walk_at "rd"
    exact ⟨sb.mulW sd (by omega), frac_ok (Int.ne_of_gt (Int.mul_pos hb hd)) (sb.mul sd (by omega)) q⟩
def spStream (K : PySem.W.Frag) : Sp := fun vs H Q _ => ∃ (c : Int) (m : Nat), vs = [.int c, .int m] ∧ m ≤ 60 ∧ ∀ (p : Addr) (H' : Hp) (xs : List Int), Same H H' → H p = none → H' p = some (.lst (xs.map V.int)) → xs.length = m → (∀ x ∈ xs, 0 ≤ x ∧ Sz 150 x) → Q (.ref p) H'
theorem ok_l_stream (T : Top K mg) : FnOk P w K mg base CX0 1 T.f_l_stream T.d_l_stream ["_law_cell", "_law_many"] (spStream K) := by
  refine T.F_l_stream.ok sc_l_stream (fun vs H Q E h => ?_) (fun cdv A outer s H vs Q E hr h => ?_)
  · obtain ⟨c, m, rfl, _⟩ := h; rfl
  · obtain ⟨c, m, rfl, hm, q⟩ := h
    refine ⟨_, (pss_cons (ps_set (i := 2) sc_l_stream.nd rfl (.inl rfl) (pe_lstN pa_nil))
      (pss_cons (ps_if (pt_cmpR op_ge (pv 0) (pe_op op_pow pe_int pe_int) (nomark _)) (pss_cons (ps_set (i := 3) sc_l_stream.nd rfl (.inl rfl) (pe_op op_sub (pv 0) (pe_op op_pow pe_int pe_int)))
      (pss_cons (ps_for PassesOwn.never rfl (pi_range1 (by rfl) T.m_range (pa_cons (pv 1) pa_nil)) (pg_name (i := 4) sc_l_stream.nd rfl (.inl rfl)) (pss_cons (ps_expr (pe_bm PySem.F.plainAttrs_list PySem.F.slot_list_append PySem.F.type_list_append mt_append (pv 2) (pa_cons (pe_op op_modN (pv 3) (pe_op op_pow pe_int pe_int)) pa_nil)))
      (pss_one (ps_set (i := 3) sc_l_stream.nd rfl (.inl rfl) (pe_op op_fdivZ (pv 3) (pe_op op_pow pe_int pe_int))))))
      (pss_one (ps_ret (pv 2))))) pss_nil)
      (pss_cons (ps_set (i := 5) sc_l_stream.nd rfl (.inl rfl) (pe_op op_add (pe_op op_modN (pv 0) (pe_op op_add (pe_op op_pow pe_int pe_int) pe_int)) pe_int))
      (pss_cons (ps_for PassesOwn.never rfl (pi_range1 (by rfl) T.m_range (pa_cons (pe_op op_add (pv 1) pe_int) pa_nil)) (pg_name (i := 4) sc_l_stream.nd rfl (.inl rfl)) (pss_cons (ps_set (i := 5) sc_l_stream.nd rfl (.inl rfl) (pe_op op_modN (pe_op op_add (pe_op op_add (pe_op op_mulW (pv 5) (pv 5)) (pe_op op_mulW pe_int (pv 5))) (pv 4)) (pe_op op_add (pe_op op_pow pe_int pe_int) pe_int)))
      (pss_one (ps_expr (pe_bm PySem.F.plainAttrs_list PySem.F.slot_list_append PySem.F.type_list_append mt_append (pv 2) (pa_cons (pv 5) pa_nil))))))
      (pss_one (ps_ret (pe_slice (sl_listA (K := K) rfl) (pv 2) (po_some pe_int) po_none))))))), ?_⟩
    refine seq_step ?_
    walk_at "rd"
    intro l H1 s1 fl e1
    refine seq_step ?_
    walk_at "rd"
    refine ite_d (fun _ => ?_) (fun _ => ?_)
    · refine seq_step ?_
      walk_at "rd"
      refine seq_step ?_
      refine for_rg ?_
      walk_at "rd"
      refine ⟨(rg_ok (by omega)).1, (rg_ok (by omega)).2, ?_⟩
      rw [Int.toNat_natCast]
      refine forR_by (fun i σ' H' => ∃ (r : Int) (v4 : Option V) (xs : List Int), σ' = [some (.int c), some (.int m), some (.ref l), some (.int r), v4, none] ∧ Same H H' ∧ H' l = some (.lst (xs.map V.int)) ∧ xs.length = i ∧ ∀ x ∈ xs, 0 ≤ x ∧ Sz 150 x) ⟨_, _, [], rfl, s1, e1, rfl, fun x h => by cases h⟩ ?_ ?_
      · rintro i σ' H2 hi ⟨r, v4, xs, rfl, s2, el, hl, hx⟩
        walk_at "rd"
        refine seq_step ?_
        refine ⟨.ref l, rfl, .inl ⟨rfl, _, .of el⟩, ?_⟩
        walk_at "rd"
        refine app_at el (by rw [List.length_map]; omega) ?_
        walk_at "rd"
        have f := fm_pos (c := r) (m := 1000000000000000000000000000000000000000000000) (by decide)
        refine ⟨same_updN fl s2, xs ++ [r.fmod 1000000000000000000000000000000000000000000000], by rw [upd_same, List.map_append]; rfl, by simp [hl], fun x hx' => ?_⟩
        rcases List.mem_append.mp hx' with h | h
        · exact hx x h
        · have : x = r.fmod 1000000000000000000000000000000000000000000000 := by simpa using h
          rw [this]
          exact ⟨f.1, Sz.nn f.1 (Int.le_of_lt f.2) (by unfold Sz; decide +kernel)⟩
      · rintro σ' H2 ⟨r, v4, xs, rfl, s2, el, hl, hx⟩
        walk_at "rd"
        exact q l H2 xs s2 fl el hl hx
    · refine seq_step ?_
      walk_at "rd"
      have f0 := fm_pos (c := c) (m := 1000000000000000009) (by decide)
      refine seq_step ?_
      refine for_rg ?_
      walk_at "rd"
      refine ⟨by omega, by omega, ?_⟩
      rw [show ((m : Int) + 2).toNat = m + 2 by omega]
      refine forR_by (fun i σ' H' => ∃ (r : Int) (v4 : Option V) (xs : List Int), σ' = [some (.int c), some (.int m), some (.ref l), none, v4, some (.int r)] ∧ 0 ≤ r ∧ Sz 62 r ∧ Same H H' ∧ H' l = some (.lst (xs.map V.int)) ∧ xs.length = i ∧ ∀ x ∈ xs, 0 ≤ x ∧ Sz 150 x) ⟨_, _, [], rfl, by omega, by unfold Sz; omega, s1, e1, rfl, fun x h => by cases h⟩ ?_ ?_
      · rintro i σ' H2 hi ⟨r, v4, xs, rfl, r0, sr, s2, el, hl, hx⟩
        walk_at "rd"
        refine seq_step ?_
        walk_at "rd"
        refine ⟨sr.mulW sr (by omega), Sz.mulW (a := 20) (by unfold Sz; decide) sr (by omega), ?_⟩
        have f := fm_pos (c := r * r + 48271 * r + i) (m := 1000000000000000009) (by decide)
        generalize (r * r + 48271 * r + i).fmod 1000000000000000009 = r2 at *
        refine ⟨.ref l, rfl, .inl ⟨rfl, _, .of el⟩, ?_⟩
        walk_at "rd"
        refine app_at el (by rw [List.length_map]; omega) ?_
        walk_at "rd"
        refine ⟨f.1, by unfold Sz; omega, same_updN fl s2, xs ++ [r2], by rw [upd_same, List.map_append]; rfl, by simp [hl], fun x hx' => ?_⟩
        rcases List.mem_append.mp hx' with h | h
        · exact hx x h
        · have : x = r2 := by simpa using h
          rw [this]
          exact ⟨f.1, by unfold Sz; omega⟩
      · rintro σ' H2 ⟨r, v4, xs, rfl, r0, sr, s2, el, hl, hx⟩
        walk_at "rd"
        refine ⟨_, .of el, fun p2 H3 s3 f3 e3 => ?_⟩
        have ec : cutV (xs.map V.int) (some 2) none = (xs.drop 2).map V.int := by
          rw [List.map_drop]
          exact cut_from (k := 2) (by rw [List.length_map]; omega)
        rw [ec] at e3
        exact q p2 H3 (xs.drop 2) (s2.trans s3) (s2.free f3) e3 (by rw [List.length_drop]; omega) fun x h => hx x (List.mem_of_mem_drop h)
def spLowest (K : PySem.W.Frag) : Sp := fun vs H Q _ => ∃ a b : Int, vs = [.int a, .int b] ∧ b ≠ 0 ∧ Sz 8000 b ∧ LowT a b H Q
theorem ok_l_lowest (T : Top K mg) : FnOk P w K mg base CX0 1 T.f_l_lowest T.d_l_lowest ["_law_top", "_law_bottom"] (spLowest K) := by
  refine T.F_l_lowest.ok sc_l_lowest (fun vs H Q E h => ?_) (fun cdv A outer s H vs Q E hr h => ?_)
  · obtain ⟨a, b, rfl, _⟩ := h; rfl
  · obtain ⟨a, b, rfl, hb, hz, q⟩ := h
    refine ⟨_, (pss_cons (ps_set (i := 2) sc_l_lowest.nd rfl (.inl rfl) (pv 0))
      (pss_cons (ps_set (i := 3) sc_l_lowest.nd rfl (.inl rfl) (pv 1))
      (pss_cons (ps_while PassesOwn.never (pt_cmpR op_ne (pv 3) pe_int (nomark _)) (pss_one (ps_par (i := 2) (j := 3) (by rfl) sc_l_lowest.nd rfl rfl (by decide) rfl rfl (pa_cons (pv 3) (pa_cons (pe_op op_modN (pv 2) (pv 3)) pa_nil)) (by rfl))))
      (pss_one (ps_ret (pe_tupN (pa_cons (pe_op op_fdivZ (pv 0) (pe_callB call_abs (by rfl) T.m_abs (by decide +kernel) (pa_cons (pv 2) pa_nil))) (pa_cons (pe_op op_fdivZ (pv 1) (pe_callB call_abs (by rfl) T.m_abs (by decide +kernel) (pa_cons (pv 2) pa_nil))) pa_nil)))))))), ?_⟩
    refine seq_step ?_
    walk_at "rd"
    refine seq_step ?_
    walk_at "rd"
    refine seq_step ?_
    refine while_by (fun σ H' => H' = H ∧ ∃ x y : Int, σ = [some (.int a), some (.int b), some (.int x), some (.int y)] ∧ Int.gcd x y = Int.gcd a b) (fun σ _ => match σ with | [_, _, _, some (.int y)] => y.natAbs | _ => 0) ⟨rfl, a, b, rfl, rfl⟩ ?_ ?_
    · rintro σ H' ⟨rfl, x, y, rfl, hg⟩
      walk_at "rd"
      by_cases c : y = 0
      · subst c
        rw [decide_eq_true rfl, Bool.not_true, if_neg Bool.false_ne_true]
        have e : (if x < 0 then -x else x) = ((Int.gcd a b : Nat) : Int) := by
          rw [← hg, Int.gcd_zero_right]; split <;> omega
        rw [e]
        have g := gcd_pos_right (a := a) hb
        have gs := gcd_le_size (a := a) hb
        have c : DivOk ((Int.gcd a b : Nat) : Int) := .of (by omega) (Sz.le (by omega) hz) (by omega)
        exact ⟨c, c, fun p H2 s2 _ e2 => q _ _ p H2 (low_of hb) s2 e2⟩
      · rw [decide_eq_false c, Bool.not_false, if_pos rfl]
        exact ⟨c, by rw [fmod_gcd, hg], fmod_lt x y c⟩
    · rintro σ H Q Q' m ⟨v, hv, hs, k, hk, q⟩
      exact ⟨v, hv, hs, k, hk, m _ _ q⟩
def ValInv (H : Hp) (px : Addr) (m : Nat) (unit : Int) (l : Addr) (i : Nat) (σ' : L2.St) (H' : Hp) : Prop := ∃ (qs : List Addr) (vals : List (Int × Int)) (v4 v5 : Option V), σ' = [some (.ref px), some (.int m), some (.int unit), some (.ref l), v4, v5] ∧ Same H H' ∧ vals.length = i ∧ GoodV 50 vals ∧ RedV vals ∧ H' l = some (.lst (qs.map V.ref)) ∧ qs.length = vals.length ∧ ∀ (i : Nat) (q : Addr) (x : Int × Int), qs[i]? = some q → vals[i]? = some x → H' q = some (.tup [.int x.1, .int x.2])
def spValues (K : PySem.W.Frag) : Sp := fun vs H Q _ => ∃ (px : Addr) (xs : List Int) (m : Nat) (unit : Int), vs = [.ref px, .int m, .int unit] ∧ H px = some (.lst (xs.map V.int)) ∧ 2 * m ≤ xs.length ∧ m ≤ 8 ∧ 0 < unit ∧ unit ≤ 1000000000000 ∧
  ∀ (p : Addr) (H' : Hp) (vals : List (Int × Int)), Same H H' → H p = none → VAt H' p vals → vals.length = m → GoodV 50 vals → RedV vals → Q (.ref p) H'
theorem ok_l_values (T : Top K mg) : FnOk P w K mg base CX0 2 T.f_l_values T.d_l_values ["_law_xs", "_law_many", "_law_unit"] (spValues K) := by
  refine T.F_l_values.ok sc_l_values (fun vs H Q E h => ?_) (fun cdv A outer s H vs Q E hr h => ?_)
  · obtain ⟨px, xs, m, unit, rfl, _⟩ := h; rfl
  · obtain ⟨px, xs, m, unit, rfl, ex, hx, hm, hu0, hu1, q⟩ := h
    refine ⟨_, (pss_cons (ps_set (i := 3) sc_l_values.nd rfl (.inl rfl) (pe_lstN pa_nil))
      (pss_cons (ps_for PassesOwn.never rfl (pi_range1 (by rfl) T.m_range (pa_cons (pv 1) pa_nil)) (pg_name (i := 4) sc_l_values.nd rfl (.inl rfl)) (pss_cons (ps_set (i := 5) sc_l_values.nd rfl (.inl rfl) (pe_op op_add pe_int (pe_op op_modN (pe_ix (ix_listA (K := K) rfl) (pv 0) (pe_op op_mulW pe_int (pv 4)) (fun _ _ => rfl)) pe_int)))
      (pss_one (ps_expr (pe_bm PySem.F.plainAttrs_list PySem.F.slot_list_append PySem.F.type_list_append mt_append (pv 3) (pa_cons (pe_call (ok_l_lowest T) (hr.mono (by decide)) rfl T.g_l_lowest T.F_l_lowest.kp T.b_l_lowest .nil pass0 (pa_cons (pe_op op_modN (pe_ix (ix_listA (K := K) rfl) (pv 0) (pe_op op_add (pe_op op_mulW pe_int (pv 4)) pe_int) (fun _ _ => rfl)) (pe_op op_mulW (pe_op op_mulW pe_int (pv 2)) (pv 5))) (pa_cons (pv 5) pa_nil))) pa_nil))))))
      (pss_one (ps_ret (pv 3))))), ?_⟩
    refine seq_step ?_
    walk_at "rd"
    intro l H1 s1 fl e1
    refine seq_step ?_
    refine for_rg ?_
    walk_at "rd"
    refine ⟨(rg_ok (by omega)).1, (rg_ok (by omega)).2, ?_⟩
    rw [Int.toNat_natCast]
    have VI : ∀ (qs : List Addr) (H' : Hp) (vals : List (Int × Int)), H' l = some (.lst (qs.map V.ref)) → qs.length = vals.length → (∀ (i : Nat) (q : Addr) (x : Int × Int), qs[i]? = some q → vals[i]? = some x → H' q = some (.tup [.int x.1, .int x.2])) → VAt H' l vals := fun qs H' vals a b c => ⟨qs, a, b, c⟩
    refine forR_by (ValInv H px m unit l)
      ⟨[], [], _, _, rfl, s1, rfl, (fun x h => by cases h), (fun x h => by cases h), e1, rfl, fun i q x h => by cases h⟩ ?_ ?_
    · rintro i σ' H2 hi ⟨qs, vals, v4, v5, rfl, s2, hl, gv, rv, el, hql, hqs⟩
      walk_at "rd"
      refine seq_step ?_
      walk_at "rd"
      have exx := s2 _ _ ex
      have two : Sz 2 2 := by unfold Sz; decide
      have si : Sz 10 (i : Int) := by unfold Sz; omega
      have i1 : 2 * i < xs.length := by omega
      have i2 : 2 * i + 1 < xs.length := by omega
      refine ⟨two.mulW si (by omega), ?_⟩
      refine ix_l (.of exx) (by omega) (by rw [show (2 * (i : Int)).toNat = 2 * i by omega, List.getElem?_map, List.getElem?_eq_getElem i1]; rfl) ?_
      walk_at "rd"
      have f1 := fm_pos (c := xs[2 * i]) (m := 6) (by decide)
      obtain ⟨B, hB⟩ : ∃ B, 1 + xs[2 * i].fmod 6 = B := ⟨_, rfl⟩
      rw [hB]
      have sB : Sz 3 B := by unfold Sz; omega
      have su : Sz 41 unit := by unfold Sz; omega
      refine ⟨.ref l, rfl, .inl ⟨rfl, _, .of el⟩, ?_⟩
      walk_at "rd"
      refine ⟨two.mulW si (by omega), ?_⟩
      refine ix_l (.of exx) (by omega) (by rw [show (2 * (i : Int) + 1).toNat = 2 * i + 1 by omega, List.getElem?_map, List.getElem?_eq_getElem i2]; rfl) ?_
      walk_at "rd"
      have s4u : Sz 45 (4 * unit) := by unfold Sz; omega
      have p4 : 0 < 4 * unit * B := Int.mul_pos (by omega) (by omega)
      have f2 := fm_pos (c := xs[2 * i + 1]) p4
      refine ⟨Sz.mulW (a := 3) (by unfold Sz; decide) su (by omega), s4u.mulW sB (by omega), by omega, ?_⟩
      refine ⟨_, _, rfl, by omega, sB.mono (by omega), fun t u p H3 low s3 e3 => ?_⟩
      have R := low.red (by omega)
      have st : Sz 50 t := Sz.le R.tle (Sz.nn f2.1 (Int.le_of_lt f2.2) (s4u.mul sB (by omega)))
      have tn : 0 ≤ t := by
        have e := low.top
        have g := gcd_pos_right (a := xs[2 * i + 1].fmod (4 * unit * B)) (b := B) (by omega)
        rcases Int.lt_or_le t 0 with z | z
        · have := Int.mul_neg_of_neg_of_pos z g; omega
        · exact z
      have el3 := s3 _ _ el
      have npl : p ≠ l := ne_of e3 el3 (by intro z; cases z)
      refine app_at el3 (by rw [List.length_map]; omega) ?_
      walk_at "rd"
      refine ⟨qs ++ [p], vals ++ [(t, u)], _, _, rfl, same_updN fl (s2.trans s3), by simp [hl], fun x hx' => ?_, fun x hx' => ?_, by rw [upd_same, List.map_append]; rfl, by simp [hql], fun k q x h1 h2 => ?_⟩
      · rcases List.mem_append.mp hx' with h | h
        · exact gv x h
        · have : x = (t, u) := by simpa using h
          rw [this]
          exact ⟨tn, R.pos, st, Sz.le R.ule (sB.mono (by omega))⟩
      · rcases List.mem_append.mp hx' with h | h
        · exact rv x h
        · have : x = (t, u) := by simpa using h
          rw [this]
          exact R.one
      · by_cases c : k < qs.length
        · rw [List.getElem?_append_left c] at h1
          rw [List.getElem?_append_left (by omega)] at h2
          have h3 := hqs k q x h1 h2
          rw [upd_ne (ne_of h3 el (by intro z; cases z))]
          exact s3 _ _ h3
        · have hlt := (List.getElem?_eq_some_iff.mp h1).1
          rw [List.length_append, List.length_singleton] at hlt
          obtain rfl : k = qs.length := by omega
          rw [List.getElem?_append_right (Nat.le_refl _), Nat.sub_self] at h1
          rw [hql, List.getElem?_append_right (Nat.le_refl _), Nat.sub_self] at h2
          have a1 : p = q := by simpa using h1
          have a2 : (t, u) = x := by simpa using h2
          subst a1; subst a2
          rw [upd_ne npl]; exact e3
    · rintro σ' H2 ⟨qs, vals, v4, v5, rfl, s2, hl, gv, rv, el, hql, hqs⟩
      walk_at "rd"
      exact q l H2 vals s2 fl (VI qs H2 vals el hql hqs) hl gv rv
def lies_inI1 (Hb : Hp) (pz pvl pp : Addr) (vals : List (Int × Int)) (n : Nat) (M : Mx) (i : Nat) (σ' : L2.St) (H' : Hp) : Prop := ∃ (v3 v4 : Option V), σ' = [some (.ref pz), some (.ref pvl), some (.ref pp), v3, v4] ∧ Same Hb H' ∧ ∀ a b, a < i → b < n → letsO (M a b) (dif (plc vals a) (plc vals b)).1 (dif (plc vals a) (plc vals b)).2 = true
def lies_inI2 (Hb : Hp) (pz pvl pp : Addr) (vals : List (Int × Int)) (n : Nat) (M : Mx) (i j : Nat) (σ' : L2.St) (H' : Hp) : Prop := ∃ (v4 : Option V), σ' = [some (.ref pz), some (.ref pvl), some (.ref pp), some (.int i), v4] ∧ Same Hb H' ∧ ∀ b, b < j → letsO (M i b) (dif (plc vals i) (plc vals b)).1 (dif (plc vals i) (plc vals b)).2 = true
def splies_in (K : PySem.W.Frag) : Sp := fun vs H Q _ => ∃ (pz pvl : Addr) (as : List Addr) (n : Nat) (M : Mx) (vals : List (Int × Int)), vs = [.ref pz, .ref pvl] ∧ ZAt H pz as n M ∧ VAt H pvl vals ∧ GoodV 60 vals ∧ vals.length + 1 = n ∧ n ≤ 8 ∧ SzM 9000 M ∧
  ∀ (r : Bool) (H' : Hp), Same H H' → (r = true ↔ Lies n M (plc vals)) → Q (.bl r) H'
theorem ok_lies_in (T : Top K mg) : FnOk P w K mg base CX0 4 T.f_lies_in T.d_lies_in ["zone", "values"] (splies_in K) := by
  refine T.F_lies_in.ok sc_lies_in (fun vs H Q E h => ?_) (fun cdv A outer s H vs Q E hr h => ?_)
  · obtain ⟨pz, pvl, as, n, M, vals, rfl, _⟩ := h; rfl
  · obtain ⟨pz, pvl, as, n, M, vals, rfl, z, hv, gv, hN, hn, sM, q⟩ := h
    refine ⟨_, (pss_cons (ps_set (i := 2) sc_lies_in.nd rfl (.inl rfl) (pe_op op_catN (pe_lstN (pa_cons (pe_tupN (pa_cons pe_int (pa_cons pe_int pa_nil))) pa_nil)) (pv 1)))
      (pss_cons (ps_for PassesOwn.never rfl (pi_range1 (by rfl) T.m_range (pa_cons (pe_callB call_len_seq (by rfl) T.m_len (by decide +kernel) (pa_cons (pv 2) pa_nil)) pa_nil)) (pg_name (i := 3) sc_lies_in.nd rfl (.inl rfl)) (pss_one (ps_for PassesOwn.never rfl (pi_range1 (by rfl) T.m_range (pa_cons (pe_callB call_len_seq (by rfl) T.m_len (by decide +kernel) (pa_cons (pv 2) pa_nil)) pa_nil)) (pg_name (i := 4) sc_lies_in.nd rfl (.inl rfl)) (pss_one (ps_if (pt_not (pt_val (pe_call (ok_lets T) (hr.mono (by decide)) rfl T.g_lets T.F_lets.kp T.b_lets .nil pass0 (pa_cons (pe_ix (ix_listA (K := K) rfl) (pe_ix (ix_listA (K := K) rfl) (pv 0) (pv 3) (fun _ _ => rfl)) (pv 4) (fun _ _ => rfl)) (pa_cons (pe_call (ok_minus T) (hr.mono (by decide)) rfl T.g_minus T.F_minus.kp T.b_minus .nil pass0 (pa_cons (pe_ix (ix_listA (K := K) rfl) (pv 2) (pv 3) (fun _ _ => rfl)) (pa_cons (pe_ix (ix_listA (K := K) rfl) (pv 2) (pv 4) (fun _ _ => rfl)) pa_nil))) pa_nil))))) (pss_one (ps_ret pe_bl)) pss_nil)))))
      (pss_one (ps_ret pe_bl)))), ?_⟩
    refine seq_step ?_
    walk_at "rd"
    intro q0 H1 s1 _ e1 p1 H2 s2 _ e2
    obtain ⟨qs, hv1, hv2, hv3⟩ := hv.keep (s1.trans s2)
    have hlq : qs.length ≤ 8 := by omega
    refine ⟨_, e2, _, hv1, Nat.le_of_lt (small1000 (by simp; omega)), fun pp H3 s3 _ e3 => ?_⟩
    have sHb : Same H H3 := s1.trans (s2.trans s3)
    have vp : VAt H3 pp ((0, 1) :: vals) := ⟨q0 :: qs, e3, by simp [hv2], fun i q' x h1 h2 => by
      cases i with
      | zero =>
        cases h1; cases h2
        exact s3 _ _ (s2 _ _ e1)
      | succ i => exact s3 _ _ (hv3 i q' x h1 h2)⟩
    obtain ⟨qs', ep1, ep2, _⟩ := id vp
    refine seq_step ?_
    refine for_rg ?_
    walk_at "rd"
    have hn' : (qs'.map V.ref).length = n := by rw [List.length_map, ep2]; exact hN
    refine ⟨_, .inl (.of ep1), (rg_ok (by omega)).1, (rg_ok (by omega)).2, ?_⟩
    rw [hn', Int.toNat_natCast]
    refine forR_by (lies_inI1 H3 pz pvl pp vals n M) ⟨_, _, rfl, Same.refl _, fun a b h => by omega⟩ ?_ ?_
    · rintro i σ' H5 hi ⟨v3, v4, rfl, s5, hl⟩
      walk_at "rd"
      refine for_rg ?_
      walk_at "rd"
      refine ⟨_, .inl (.of (s5 _ _ ep1)), (rg_ok (by omega)).1, (rg_ok (by omega)).2, ?_⟩
      rw [hn', Int.toNat_natCast]
      refine forR_by (lies_inI2 H3 pz pvl pp vals n M i) ⟨_, rfl, s5, fun b h => by omega⟩ ?_ ?_
      · rintro j σ' H7 hj ⟨v4', rfl, s7, hlf⟩
        walk_at "rd"
        have gi := plc_good gv (by decide) i
        have gj := plc_good gv (by decide) j
        have dp := dif_pos gi.2.1 gj.2.1
        refine ix_top (z.keep (sHb.trans s7)) hi fun r er hr1 => ?_
        refine ix_row hr1 hj ?_
        refine (vp.keep s7).get (plc_get (by omega)) fun a1 ha1 => ?_
        refine (vp.keep s7).get (plc_get (by omega)) fun a2 ha2 => ?_
        refine ⟨_, _, _, _, a1, a2, rfl, ha1, ha2, gi.2.1, gj.2.1, gi.2.2.1.mono (by omega), gi.2.2.2.mono (by omega), gj.2.2.1.mono (by omega), gj.2.2.2.mono (by omega), fun t u p8 H8 R s8 e8 => ?_⟩
        walk_at "rd"
        have ratio : letsO (M i j) t u = letsO (M i j) (dif (plc vals i) (plc vals j)).1 (dif (plc vals i) (plc vals j)).2 := letsO_ratio R.pos dp R.eq
        refine ⟨_, t, u, p8, rfl, e8, (fun b e => half1 (sM i j b e)), Sz.le R.ule ((gi.2.2.2.mul gj.2.2.2 (Nat.le_refl _)).mono (by omega)), ?_⟩
        rw [ratio]
        walk_at "rd"
        have s48 : Same H3 H8 := s7.trans s8
        cases hres : letsO (M i j) (dif (plc vals i) (plc vals j)).1 (dif (plc vals i) (plc vals j)).2 with
        | false =>
          walk_at "rd"
          exact q false _ (sHb.trans s48) ⟨(fun h => by cases h), (fun h => by rw [h i j hi hj] at hres; cases hres)⟩
        | true =>
          walk_at "rd"
          refine ⟨_, rfl, s48, fun b hb => ?_⟩
          by_cases c : b = j
          · subst c; exact hres
          · exact hlf b (by omega)
      · rintro σ' H7 ⟨v4', rfl, s7, hlf⟩
        refine ⟨_, _, rfl, s7, fun a b ha hb => ?_⟩
        by_cases c : a = i
        · subst c; exact hlf b hb
        · exact hl a b (by omega) hb
    · rintro σ' H5 ⟨v3, v4, rfl, s5, hl⟩
      walk_at "rd"
      exact q true _ (sHb.trans s5) ⟨fun _ a b ha hb => hl a b ha hb, fun _ => rfl⟩
def spLaw (K : PySem.W.Frag) : Sp := fun vs H Q _ => ∃ (a : Addr) (ns : List Int), vs = [.ref a] ∧ SqL K H a (ns.map V.int) ∧ ns.length ≤ 63 ∧ ∀ H', Q (.bl true) H'
/-- a zone and mosts, in one list -/
def mdata (ms : List (Option Int)) : PyData := .list (ms.map oD)
theorem dp_ms {K : PySem.W.Frag} {H : Hp} {p : Addr} {ms : List (Option Int)} (h : H p = some (.lst (ms.map oV))) : Dp K H (.ref p) (mdata ms) := by
  refine .lst (.of h) (dpall_of (by simp) fun k v d h1 h2 => ?_)
  rw [List.getElem?_map] at h1 h2
  obtain ⟨x, hx, rfl⟩ := Option.map_eq_some_iff.mp h1
  obtain ⟨y, hy, rfl⟩ := Option.map_eq_some_iff.mp h2
  rw [hx] at hy; cases hy
  exact dp_oV _
theorem lay_ms (ms : List (Option Int)) : (mdata ms).canLay0 = true ∧ (mdata ms).depth ≤ 1 := lay_list fun d h => by
  obtain ⟨j, _, rfl⟩ := List.mem_map.mp h
  exact lay_oD _
def zmdata (n : Nat) (M : Mx) (ms : List (Option Int)) : PyData := .list [zdata n M, mdata ms]
theorem dp_zm {K : PySem.W.Frag} {H : Hp} {p a b : Addr} {n : Nat} {M : Mx} {ms : List (Option Int)} {as : List Addr} (h : H p = some (.lst [.ref a, .ref b])) (z : ZAt H a as n M) (v : H b = some (.lst (ms.map oV))) : Dp K H (.ref p) (zmdata n M ms) := .lst (.of h) (.cons z.dp (.cons (dp_ms v) .nil))
theorem lay_zm (n : Nat) (M : Mx) (ms : List (Option Int)) : (zmdata n M ms).canLay0 = true ∧ (zmdata n M ms).depth ≤ 3 := lay_list fun d h => by
  rcases List.mem_cons.mp h with h | h
  · rw [h]; exact lay_zone _ _
  · rw [List.mem_singleton.mp h]; exact ⟨(lay_ms _).1, Nat.le_trans (lay_ms _).2 (by omega)⟩
theorem shaped_zm (n : Nat) (M : Mx) (ms : List (Option Int)) : SeqAt.shaped (zmdata n M ms) = true := Bool.and_eq_true_iff.mpr ⟨(lay_zm n M ms).1, decide_eq_true (by have := (lay_zm n M ms).2; omega)⟩
theorem most_rep (m : Nat) : mostAt (List.replicate m none) = fun k => if k = 0 then some 0 else none := by
  funext k
  unfold mostAt
  cases k with
  | zero => rfl
  | succ k =>
    rw [List.getD_eq_getElem?_getD, List.getElem?_cons_succ, if_neg (by omega)]
    cases h : (List.replicate m (none : Option Int))[k]? with
    | none => rfl
    | some x => rw [List.eq_of_mem_replicate (List.mem_of_getElem? h)]; rfl
def LaInv (Hb : Hp) (pre : List (Option V)) (i : Nat) (σ' : L2.St) (H' : Hp) : Prop := ∃ (v6 v7 v8 v9 : Option V), σ' = pre ++ [v6, v7, v8, v9, none] ∧ Same Hb H'
theorem ok_law (T : Top K mg) : FnOk P w K mg base CX0 5 T.f_law T.d_law ["_law_script"] (spLaw K) := by
  refine T.F_law.ok sc_law (fun vs H Q E h => ?_) (fun cdv A outer s H vs Q E hr h => ?_)
  · obtain ⟨a, ns, rfl, _⟩ := h; rfl
  · obtain ⟨a, ns, rfl, hS, hlen, q⟩ := h
    refine ⟨_, (pss_cons (ps_set (i := 1) sc_law.nd rfl (.inl rfl) (pe_call (ok_l_cell_at T) (hr.mono (by decide)) rfl T.g_l_cell_at T.F_l_cell_at.kp T.b_l_cell_at .nil pass0 (pa_cons (pv 0) (pa_cons pe_int pa_nil))))
      (pss_cons (ps_set (i := 2) sc_law.nd rfl (.inl rfl) (pe_op op_modN (pv 1) pe_int))
      (pss_cons (ps_set (i := 3) sc_law.nd rfl (.inl rfl) (pe_ix (ix_listA (K := K) rfl) (pe_lstN (pa_cons pe_int (pa_cons (pe_op op_pow pe_int pe_int) pa_nil))) (pe_op op_modN (pe_op op_fdivZ (pv 1) pe_int) pe_int) (fun _ _ => rfl)))
      (pss_cons (ps_set (i := 4) sc_law.nd rfl (.inl rfl) (pe_call (ok_l_values T) (hr.mono (by decide)) rfl T.g_l_values T.F_l_values.kp T.b_l_values .nil pass0 (pa_cons (pe_call (ok_l_stream T) (hr.mono (by decide)) rfl T.g_l_stream T.F_l_stream.kp T.b_l_stream .nil pass0 (pa_cons (pe_call (ok_l_cell_at T) (hr.mono (by decide)) rfl T.g_l_cell_at T.F_l_cell_at.kp T.b_l_cell_at .nil pass0 (pa_cons (pv 0) (pa_cons pe_int pa_nil))) (pa_cons pe_int pa_nil))) (pa_cons (pv 2) (pa_cons (pv 3) pa_nil)))))
      (pss_cons (ps_set (i := 5) sc_law.nd rfl (.inl rfl) (pe_call (ok_narrowest T) (hr.mono (by decide)) rfl T.g_narrowest T.F_narrowest.kp T.b_narrowest .nil pass0 (pa_cons (pe_call (ok_l_around T) (hr.mono (by decide)) rfl T.g_l_around T.F_l_around.kp T.b_l_around .nil pass0 (pa_cons (pv 4) (pa_cons (pe_call (ok_l_stream T) (hr.mono (by decide)) rfl T.g_l_stream T.F_l_stream.kp T.b_l_stream .nil pass0 (pa_cons (pe_call (ok_l_cell_at T) (hr.mono (by decide)) rfl T.g_l_cell_at T.F_l_cell_at.kp T.b_l_cell_at .nil pass0 (pa_cons (pv 0) (pa_cons pe_int pa_nil))) (pa_cons pe_int pa_nil))) pa_nil))) pa_nil)))
      (pss_cons (ps_for PassesOwn.never rfl (pi_listA (K := K) rfl (pe_op op_catN (pe_slice (sl_listA (K := K) rfl) (pv 0) (po_some pe_int) (po_some pe_int)) (pe_lstN (pa_cons (pv 1) pa_nil)))) (pg_name (i := 6) sc_law.nd rfl (.inl rfl)) (pss_cons (ps_set (i := 7) sc_law.nd rfl (.inl rfl) (pe_call (ok_l_mosts T) (hr.mono (by decide)) rfl T.g_l_mosts T.F_l_mosts.kp T.b_l_mosts .nil pass0 (pa_cons (pv 4) (pa_cons (pe_call (ok_l_stream T) (hr.mono (by decide)) rfl T.g_l_stream T.F_l_stream.kp T.b_l_stream .nil pass0 (pa_cons (pv 6) (pa_cons pe_int pa_nil))) (pa_cons (pv 3) pa_nil)))))
      (pss_cons (ps_set (i := 8) sc_law.nd rfl (.inl rfl) (pe_lstN (pa_cons (lc_vs (vs := [10]) (pe_lc (own := [("_law_row", 10)]) (g := gName 10) (tt := tYes) rfl sc_law.nd (pi_listA (K := K) rfl (pv 5)) (blkOk_by (own := [("_law_row", 10)]) (N := ["_law_script", "_law_first", "_law_many", "_law_unit", "_law_values_here", "_law_zone", "_law_cell", "_law_mosts_here", "_law_handed", "_law_found", "_law_row"]) (sc := defScope s_law) (by decide +kernel)) (fun _ _ _ _ _ => (pg_name (i := 10) sc_law.nd rfl (.inl rfl))) (fun _ _ _ _ _ => pts_nil) (fun _ _ _ _ _ => (pe_callTy (call_listA (K := K) rfl) (by rfl) T.m_list (by decide +kernel) (pa_cons (pv 10) pa_nil)))) rfl) (pa_cons (pe_callTy (call_listA (K := K) rfl) (by rfl) T.m_list (by decide +kernel) (pa_cons (pv 7) pa_nil)) pa_nil))))
      (pss_cons (ps_set (i := 9) sc_law.nd rfl (.inl rfl) (pe_call (ok_folded T) (hr.mono (by decide)) rfl T.g_folded T.F_folded.kp T.b_folded .nil pass0 (pa_cons (pe_ix (ix_listA (K := K) rfl) (pv 8) pe_int (fun _ _ => rfl)) (pa_cons (pe_ix (ix_listA (K := K) rfl) (pv 8) pe_int (fun _ _ => rfl)) pa_nil))))
      (pss_cons (ps_if (PW.pt (pw_or (pt_cmpR (op_neD hr.units) (pv 8) (pe_lstN (pa_cons (pv 5) (pa_cons (pv 7) pa_nil))) (nomark _)) (pw_or1 (pt_not (pt_val (pe_callB (call_isiA (K := K) rfl) (by rfl) T.m_isinstance (by decide +kernel) (pa_cons (pv 9) (pa_cons (pe_bltn (v := .ty "list") (u := .type "list") (by rfl) T.m_list (by decide +kernel) rfl) pa_nil)))))))) (pss_one (ps_ret pe_bl)) pss_nil)
      (pss_one (ps_if (PW.pt (pw_or (pt_cmpR (op_neD hr.units) (pv 9) (pe_call (ok_narrowest T) (hr.mono (by decide)) rfl T.g_narrowest T.F_narrowest.kp T.b_narrowest .nil pass0 (pa_cons (pe_call (ok_l_folded T) (hr.mono (by decide)) rfl T.g_l_folded T.F_l_folded.kp T.b_l_folded .nil pass0 (pa_cons (pv 5) (pa_cons (pv 7) pa_nil))) pa_nil)) (nomark _)) (pw_or (pt_not (pt_val (pe_call (ok_lies_in T) (hr.mono (by decide)) rfl T.g_lies_in T.F_lies_in.kp T.b_lies_in .nil pass0 (pa_cons (pv 9) (pa_cons (pv 4) pa_nil))))) (pw_or1 (pt_not (pt_val (pe_call (ok_within T) (hr.mono (by decide)) rfl T.g_within T.F_within.kp T.b_within .nil pass0 (pa_cons (pv 5) (pa_cons (pv 9) pa_nil))))))))) (pss_one (ps_ret pe_bl)) pss_nil)))))))
      (pss_one (ps_ret (pe_cmpR (op_eqD hr.units) (pe_call (ok_folded T) (hr.mono (by decide)) rfl T.g_folded T.F_folded.kp T.b_folded .nil pass0 (pa_cons (pv 5) (pa_cons (pe_op op_repN (pe_lstN (pa_cons pe_non pa_nil)) (pv 2)) pa_nil))) (pv 5) (nomark _)))))))))), ?_⟩
    refine seq_step ?_
    walk_at "rd"
    refine ⟨a, ns, 0, rfl, hS, by decide, ?_⟩
    generalize ns.getD (Int.toNat 0) 0 = c0
    walk_at "rd"
    have f0 := fm_pos (c := c0) (m := 5) (by decide)
    obtain ⟨m, hm⟩ : ∃ m : Nat, c0.fmod 5 = (m : Int) := ⟨(c0.fmod 5).toNat, by omega⟩
    have hm4 : m ≤ 4 := by omega
    refine seq_step ?_
    walk_at "rd"
    rw [hm]
    refine seq_step ?_
    walk_at "rd"
    intro p1 H1 s1 _ e1
    obtain ⟨unit, hun, hu0, hu1⟩ : ∃ unit : Int, ([.int 3, .int 1000000000000] : List V)[((c0.fdiv 5).fmod 2).toNat]? = some (.int unit) ∧ 0 < unit ∧ unit ≤ 1000000000000 := by
      rcases fm2 (c0.fdiv 5) with e | e <;> rw [e]
      · exact ⟨3, rfl, by decide, by decide⟩
      · exact ⟨_, rfl, by decide, by decide⟩
    refine ix_l (.of e1) (fm_pos (m := 2) (by decide)).1 hun ?_
    walk_at "rd"
    refine seq_step ?_
    walk_at "rd"
    refine ⟨a, ns, 1, rfl, s1.seq hS, by decide, ?_⟩
    walk_at "rd"
    refine ⟨_, 8, rfl, by decide, fun px H2 xs s2 _ e2 hx1 _ => ?_⟩
    walk_at "rd"
    refine ⟨px, xs, m, unit, rfl, e2, by omega, by omega, hu0, hu1, fun pvl H3 vals s3 _ hv hvl gv _ => ?_⟩
    have s13 := s1.trans (s2.trans s3)
    walk_at "rd"
    refine seq_step ?_
    walk_at "rd"
    refine ⟨a, ns, 2, rfl, s13.seq hS, by decide, ?_⟩
    walk_at "rd"
    refine ⟨_, 25, rfl, by decide, fun px2 H4 xs2 s4 _ e4 hx2 _ => ?_⟩
    walk_at "rd"
    have hn5 : vals.length + 1 ≤ 5 := by omega
    refine ⟨pvl, px2, vals, xs2, rfl, hv.keep s4, gv, by omega, e4, by rw [hx2]; exact Nat.mul_le_mul hn5 hn5, fun pz az M H5 s5 z5 fz faz sM hlies => ?_⟩
    have hv5 := hv.keep (s4.trans s5)
    have hS5 : SqL K H5 a (ns.map V.int) := (s13.trans (s4.trans s5)).seq hS
    rw [hvl] at z5 hlies
    clear s1 s2 s3 s4 s5 s13 e1 e2 e4 fz faz hx1 hx2 hv
    have hn : m + 1 ≤ 60 := by omega
    have cub := cube_le (n := m + 1) (by omega)
    have v0 : Vals0 (m + 1) (plc vals) := plc_vals gv (by decide) _
    have hposN : ∀ i, i < m + 1 → Pos (nrw (m + 1) M) i := fun i hi => lies_pos v0 hi (lies_nrw v0 hlies)
    have hposd : ∀ i, i < m + 1 → ∃ d, nrw (m + 1) M i i = some d ∧ 1 ≤ d := fun i hi => ⟨1, nrw_diag hi (hposN i hi), Int.le_refl _⟩
    have hnob : ¬ ∃ i d, i < m + 1 ∧ nrw (m + 1) M i i = some d ∧ d < 1 := fun ⟨i, d, hi, e, h⟩ => by
      rw [nrw_diag hi (hposN i hi)] at e; cases e; omega
    have hN1 : ∀ i, i < m + 1 → nrw (m + 1) M i i = some 1 := fun i hi => nrw_diag hi (hposN i hi)
    have hN0 : ∀ i, i < m + 1 → leO (nrw (m + 1) M 0 i) (some 1) := fun i hi => nrw_row0 hi
    have hNt := nrw_tri hposN
    have hidem := nrw_idem hN1 hN0 hNt
    have sN : SzM 2000 (nrw (m + 1) M) := (nrw_sz (n := m + 1) (m := m + 1) (by decide) sM).mono (by omega)
    have hliesN := lies_nrw v0 hlies
    walk_at "rd"
    refine ⟨pz, az, m + 1, M, 400, rfl, z5, hn, by decide, sM, by omega, fun h => absurd h hnob, fun _ pf af H6 s6 zf ff faf => ?_⟩
    have hv6 := hv5.keep s6
    have hS6 : SqL K H6 a (ns.map V.int) := s6.seq hS5
    clear z5 hv5 hS5 s6 ff faf hlies sM hnob
    generalize nrw (m + 1) M = N at *
    refine seq_step ?_
    refine for_li ?_
    walk_at "rd"
    refine ⟨_, hS6, fun p7 H7 s7 _ e7 p8 H8 s8 _ e8 => ?_⟩
    refine ⟨_, s8 _ _ e7, _, e8, small1000' (by have := cutV_length (ns.map V.int) (some 3) (some 9); rw [List.length_map] at this; simp only [List.length_cons, List.length_nil]; omega), fun pl H9 s9 _ e9 => ?_⟩
    have s69 := s7.trans (s8.trans s9)
    have hv9 := hv6.keep s69
    have zf9 := zf.keep s69
    clear hv6 zf hS6 s7 s8 s9 e7 e8 s69
    refine forL_by (LaInv H9 [some (.ref a), some (.int c0), some (.int m), some (.int unit), some (.ref pvl), some (.ref pf)]) ⟨_, _, _, _, rfl, Same.refl _⟩ (fun i σ H' _ ⟨_, _, _, _, _, s⟩ => .of (s _ _ e9)) ?_ ?_
    · rintro i x σ' H10 hi ⟨v6, v7, v8, v9, rfl, s10⟩
      obtain ⟨z, rfl⟩ : ∃ z, x = .int z := by
        rcases List.mem_append.mp (List.mem_of_getElem? hi) with h | h
        · obtain ⟨k, hk⟩ := List.getElem?_of_mem h
          exact cut_int hk
        · exact ⟨c0, List.mem_singleton.mp h⟩
      have hv10 := hv9.keep s10
      have zf10 := zf9.keep s10
      walk_at "rd"
      refine seq_step ?_
      walk_at "rd"
      refine ⟨_, 4, rfl, by decide, fun px H11 xs3 s11 _ e11 hx3 _ => ?_⟩
      walk_at "rd"
      refine ⟨pvl, px, vals, xs3, unit, rfl, hv10.keep s11, gv, by omega, e11, by omega, hu0, hu1, fun pm ms H12 s12 _ em hml ok => ?_⟩
      walk_at "rd"
      refine seq_step ?_
      walk_at "rd"
      have s12' := s11.trans s12
      refine lc_copy (zf10.keep s12') hn rfl (by simp) fun ph ah H13 s13 zh _ _ => ?_
      walk_at "rd"
      refine ⟨_, .inl (.of (s13 _ _ em)), fun pc H14 s14 _ e14 => ?_⟩
      intro phd H15 s15 _ e15
      have s15' := s13.trans (s14.trans s15)
      have zh15 := zh.keep (s14.trans s15)
      have em15 := s15' _ _ em
      have e14 := s15 _ _ e14
      have hT : SzM 2000 (turnM N (mostAt ms)) := turn_sz sN ok
      have hlT : Lies (m + 1) (turnM N (mostAt ms)) (plc vals) := lies_of_le v0 (turnM_le _ _) hliesN
      have hposT : ∀ i, i < m + 1 → Pos (nrw (m + 1) (turnM N (mostAt ms))) i := fun i hi => lies_pos v0 hi (lies_nrw v0 hlT)
      have hposT2 : ∀ i, i < m + 1 → ∃ d, nrw (m + 1) (turnM N (mostAt ms)) i i = some d ∧ 1 ≤ d := fun i hi => ⟨1, nrw_diag hi (hposT i hi), Int.le_refl _⟩
      have sNT : SzM 9000 (nrw (m + 1) (turnM N (mostAt ms))) := (nrw_sz (n := m + 1) (m := m + 1) (by decide) hT).mono (by omega)
      refine seq_step ?_
      walk_at "rd"
      refine ix_l (.of e15) (by decide) rfl ?_
      walk_at "rd"
      refine ix_l (.of e15) (by decide) rfl ?_
      walk_at "rd"
      refine ⟨ph, pc, ah, m + 1, N, _, ms, rfl, zh15, e14, by omega, by omega, ok, hT, fun _ _ _ _ => rfl, hposT2, fun pt at' H16 s16 zt => ?_⟩
      walk_at "rd"
      refine seq_step ?_
      walk_at "rd"
      intro pq H17 s17 _ e17
      have s17' := s16.trans s17
      have zf17 := zf10.keep (s12'.trans (s15'.trans s17'))
      have hv17 := hv10.keep (s12'.trans (s15'.trans s17'))
      refine ⟨_, _, dp_zm (s17' _ _ e15) (zh15.keep s17') (s17' _ _ e14), dp_zm e17 zf17 (s17' _ _ em15), shaped_zm _ _ _, shaped_zm _ _ _, ?_⟩
      rw [SeqAt.eqv_refl _ (lay_zm _ _ _).1]
      walk_at "rd"
      refine isi (r := true) (.base (.lst (s17 _ _ zt.top))) (by decide +kernel) ?_
      walk_at "rd"
      refine ⟨pf, pm, af, m + 1, N, ms, rfl, zf17, s17' _ _ em15, by omega, by omega, ok, fun pF aF H18 s18 zF => ?_⟩
      walk_at "rd"
      refine ⟨pF, aF, m + 1, _, 2000, rfl, zF, by omega, by omega, hT, by omega, fun ⟨i, d, hi, e, h⟩ => ?_, fun _ pR aR H19 s19 zR _ _ => ?_⟩
      · rw [nrw_diag hi (hposT i hi)] at e; cases e; omega
      have s19' := s17.trans (s18.trans s19)
      refine ⟨_, _, (zt.keep s19').dp, zR.dp, shaped_zone _ _, shaped_zone _ _, ?_⟩
      rw [SeqAt.eqv_refl _ (lay_zone _ _).1]
      walk_at "rd"
      have sAll := s12'.trans (s15'.trans (s16.trans s19'))
      refine ⟨pt, pvl, at', m + 1, _, vals, rfl, zt.keep s19', hv10.keep sAll, gv.mono (by omega), by omega, by omega, sNT, fun told H20 s20 ht => ?_⟩
      obtain rfl : told = true := ht.mpr (lies_nrw v0 hlT)
      walk_at "rd"
      refine ⟨pf, pt, af, at', m + 1, N, _, rfl, (zf10.keep sAll).keep s20, (zt.keep s19').keep s20, by omega, fun told H21 s21 ht => ?_⟩
      obtain rfl : told = true := ht.mpr fun i j _ _ => by
        have h := nrw_mono (n := m + 1) (turnM_le N (mostAt ms)) i j
        rw [hidem] at h
        exact h
      walk_at "rd"
      exact ⟨_, _, _, _, rfl, s10.trans (sAll.trans (s20.trans s21))⟩
    · rintro σ' H10 ⟨v6, v7, v8, v9, rfl, s10⟩
      walk_at "rd"
      intro p11 H11 s11 _ e11
      refine ⟨_, e11, by omega, by omega, small1000' (by simp; omega), fun p12 H12 s12 _ e12 => ?_⟩
      have zf12 := zf9.keep (s10.trans (s11.trans s12))
      have e12 : H12 p12 = some (.lst ((List.replicate m (none : Option Int)).map oV)) := by
        rw [e12, List.flatten_replicate_singleton, List.map_replicate, Int.toNat_natCast]; rfl
      refine ⟨pf, p12, af, m + 1, N, N, List.replicate m none, rfl, zf12, e12, by simp, by omega, fun q h => ?_, sN, fun i j hi hj => ?_, fun i hi => ⟨1, by rw [hidem]; exact hN1 i hi, Int.le_refl _⟩, fun pt at' H13 s13 zt => ?_⟩
      · cases List.eq_of_mem_replicate h
      · rw [most_rep]
        exact turnM_id v0 hliesN hN0 hi hj
      rw [hidem] at zt
      refine ⟨_, _, zt.dp, (zf12.keep s13).dp, shaped_zone _ _, shaped_zone _ _, ?_⟩
      rw [SeqAt.eqv_refl _ (lay_zone _ _).1]
      exact q _
end
/-! ### what the top has left -/
theorem all_mk {P : Program} {w : World} {K : PySem.W.Frag} {h : Heap} {mg : Str → Option Value} {fa : Addr} (X : K.In h) (G : h.Ns mainGlobals mg) (hfa : mg "law" = some (.ref fa))
    {f0 : Addr} {od0 an0 : Option Addr} {sl0 : Array (Option Value)} {oc0 kV0 dc0 pm0 cd0 ct0 : Value}
    {f1 : Addr} {od1 an1 : Option Addr} {sl1 : Array (Option Value)} {oc1 kV1 dc1 pm1 cd1 ct1 : Value}
    {f2 : Addr} {od2 an2 : Option Addr} {sl2 : Array (Option Value)} {oc2 kV2 dc2 pm2 cd2 ct2 : Value}
    {f3 : Addr} {od3 an3 : Option Addr} {sl3 : Array (Option Value)} {oc3 kV3 dc3 pm3 cd3 ct3 : Value}
    {f4 : Addr} {od4 an4 : Option Addr} {sl4 : Array (Option Value)} {oc4 kV4 dc4 pm4 cd4 ct4 : Value}
    {f5 : Addr} {od5 an5 : Option Addr} {sl5 : Array (Option Value)} {oc5 kV5 dc5 pm5 cd5 ct5 : Value}
    {f6 : Addr} {od6 an6 : Option Addr} {sl6 : Array (Option Value)} {oc6 kV6 dc6 pm6 cd6 ct6 : Value}
    {f7 : Addr} {od7 an7 : Option Addr} {sl7 : Array (Option Value)} {oc7 kV7 dc7 pm7 cd7 ct7 : Value}
    {f8 : Addr} {od8 an8 : Option Addr} {sl8 : Array (Option Value)} {oc8 kV8 dc8 pm8 cd8 ct8 : Value}
    {f9 : Addr} {od9 an9 : Option Addr} {sl9 : Array (Option Value)} {oc9 kV9 dc9 pm9 cd9 ct9 : Value}
    {t9 : Addr} {o9 : Obj} {n9 : Nat}
    {tk9 : Tok}
    {f10 : Addr} {od10 an10 : Option Addr} {sl10 : Array (Option Value)} {oc10 kV10 dc10 pm10 cd10 ct10 : Value}
    {f11 : Addr} {od11 an11 : Option Addr} {sl11 : Array (Option Value)} {oc11 kV11 dc11 pm11 cd11 ct11 : Value}
    {f12 : Addr} {od12 an12 : Option Addr} {sl12 : Array (Option Value)} {oc12 kV12 dc12 pm12 cd12 ct12 : Value}
    {f13 : Addr} {od13 an13 : Option Addr} {sl13 : Array (Option Value)} {oc13 kV13 dc13 pm13 cd13 ct13 : Value}
    {f14 : Addr} {od14 an14 : Option Addr} {sl14 : Array (Option Value)} {oc14 kV14 dc14 pm14 cd14 ct14 : Value}
    {f15 : Addr} {od15 an15 : Option Addr} {sl15 : Array (Option Value)} {oc15 kV15 dc15 pm15 cd15 ct15 : Value}
    {f16 : Addr} {od16 an16 : Option Addr} {sl16 : Array (Option Value)} {oc16 kV16 dc16 pm16 cd16 ct16 : Value}
    {f17 : Addr} {od17 an17 : Option Addr} {sl17 : Array (Option Value)} {oc17 kV17 dc17 pm17 cd17 ct17 : Value}
    {f18 : Addr} {od18 an18 : Option Addr} {sl18 : Array (Option Value)} {oc18 kV18 dc18 pm18 cd18 ct18 : Value}
    {f19 : Addr} {od19 an19 : Option Addr} {sl19 : Array (Option Value)} {oc19 kV19 dc19 pm19 cd19 ct19 : Value}
    {f20 : Addr} {od20 an20 : Option Addr} {sl20 : Array (Option Value)} {oc20 kV20 dc20 pm20 cd20 ct20 : Value}
    {f21 : Addr} {od21 an21 : Option Addr} {sl21 : Array (Option Value)} {oc21 kV21 dc21 pm21 cd21 ct21 : Value}
    {f22 : Addr} {od22 an22 : Option Addr} {sl22 : Array (Option Value)} {oc22 kV22 dc22 pm22 cd22 ct22 : Value}
    {f23 : Addr} {od23 an23 : Option Addr} {sl23 : Array (Option Value)} {oc23 kV23 dc23 pm23 cd23 ct23 : Value}
    {f24 : Addr} {od24 an24 : Option Addr} {sl24 : Array (Option Value)} {oc24 kV24 dc24 pm24 cd24 ct24 : Value}
    {f25 : Addr} {od25 an25 : Option Addr} {sl25 : Array (Option Value)} {oc25 kV25 dc25 pm25 cd25 ct25 : Value}
    {f26 : Addr} {od26 an26 : Option Addr} {sl26 : Array (Option Value)} {oc26 kV26 dc26 pm26 cd26 ct26 : Value}
    {CNoNumber : Addr}
    {uNOUGHT : Tok}
    (a0 : PySem.W.nsIn K mainGlobals "below" = some (some (.ref f0)))
    (l0 : K.lookup f0 = some ⟨oc0, od0, .func (PySem.W.fnOf "below" "below" (defArgs s_below) (defBody s_below) (defScope s_below) .none kV0 dc0 pm0 an0 cd0 ct0), sl0⟩)
    (c0 : PySem.W.codeIn K cd0 "below" = true)
    (k0 : PySem.W.keepIn K (.ref f0) = true)
    (a1 : PySem.W.nsIn K mainGlobals "number_of" = some (some (.ref f1)))
    (l1 : K.lookup f1 = some ⟨oc1, od1, .func (PySem.W.fnOf "number_of" "number_of" (defArgs s_number_of) (defBody s_number_of) (defScope s_number_of) .none kV1 dc1 pm1 an1 cd1 ct1), sl1⟩)
    (c1 : PySem.W.codeIn K cd1 "number_of" = true)
    (k1 : PySem.W.keepIn K (.ref f1) = true)
    (a2 : PySem.W.nsIn K mainGlobals "is_open" = some (some (.ref f2)))
    (l2 : K.lookup f2 = some ⟨oc2, od2, .func (PySem.W.fnOf "is_open" "is_open" (defArgs s_is_open) (defBody s_is_open) (defScope s_is_open) .none kV2 dc2 pm2 an2 cd2 ct2), sl2⟩)
    (c2 : PySem.W.codeIn K cd2 "is_open" = true)
    (k2 : PySem.W.keepIn K (.ref f2) = true)
    (a3 : PySem.W.nsIn K mainGlobals "added" = some (some (.ref f3)))
    (l3 : K.lookup f3 = some ⟨oc3, od3, .func (PySem.W.fnOf "added" "added" (defArgs s_added) (defBody s_added) (defScope s_added) .none kV3 dc3 pm3 an3 cd3 ct3), sl3⟩)
    (c3 : PySem.W.codeIn K cd3 "added" = true)
    (k3 : PySem.W.keepIn K (.ref f3) = true)
    (a4 : PySem.W.nsIn K mainGlobals "narrower" = some (some (.ref f4)))
    (l4 : K.lookup f4 = some ⟨oc4, od4, .func (PySem.W.fnOf "narrower" "narrower" (defArgs s_narrower) (defBody s_narrower) (defScope s_narrower) .none kV4 dc4 pm4 an4 cd4 ct4), sl4⟩)
    (c4 : PySem.W.codeIn K cd4 "narrower" = true)
    (k4 : PySem.W.keepIn K (.ref f4) = true)
    (a5 : PySem.W.nsIn K mainGlobals "wider" = some (some (.ref f5)))
    (l5 : K.lookup f5 = some ⟨oc5, od5, .func (PySem.W.fnOf "wider" "wider" (defArgs s_wider) (defBody s_wider) (defScope s_wider) .none kV5 dc5 pm5 an5 cd5 ct5), sl5⟩)
    (c5 : PySem.W.codeIn K cd5 "wider" = true)
    (k5 : PySem.W.keepIn K (.ref f5) = true)
    (a6 : PySem.W.nsIn K mainGlobals "lets" = some (some (.ref f6)))
    (l6 : K.lookup f6 = some ⟨oc6, od6, .func (PySem.W.fnOf "lets" "lets" (defArgs s_lets) (defBody s_lets) (defScope s_lets) .none kV6 dc6 pm6 an6 cd6 ct6), sl6⟩)
    (c6 : PySem.W.codeIn K cd6 "lets" = true)
    (k6 : PySem.W.keepIn K (.ref f6) = true)
    (a7 : PySem.W.nsIn K mainGlobals "is_whole" = some (some (.ref f7)))
    (l7 : K.lookup f7 = some ⟨oc7, od7, .func (PySem.W.fnOf "is_whole" "is_whole" (defArgs s_is_whole) (defBody s_is_whole) (defScope s_is_whole) .none kV7 dc7 pm7 an7 cd7 ct7), sl7⟩)
    (c7 : PySem.W.codeIn K cd7 "is_whole" = true)
    (k7 : PySem.W.keepIn K (.ref f7) = true)
    (a8 : PySem.W.nsIn K mainGlobals "divisor" = some (some (.ref f8)))
    (l8 : K.lookup f8 = some ⟨oc8, od8, .func (PySem.W.fnOf "divisor" "divisor" (defArgs s_divisor) (defBody s_divisor) (defScope s_divisor) .none kV8 dc8 pm8 an8 cd8 ct8), sl8⟩)
    (c8 : PySem.W.codeIn K cd8 "divisor" = true)
    (k8 : PySem.W.keepIn K (.ref f8) = true)
    (a9 : PySem.W.nsIn K mainGlobals "fraction" = some (some (.ref f9)))
    (l9 : K.lookup f9 = some ⟨oc9, od9, .func (PySem.W.fnOf "fraction" "fraction" (defArgs s_fraction) (defBody s_fraction) (defScope s_fraction) (.ref t9) kV9 dc9 pm9 an9 cd9 ct9), sl9⟩)
    (c9 : PySem.W.codeIn K cd9 "fraction" = true)
    (k9 : PySem.W.keepIn K (.ref f9) = true)
    (lt9 : K.lookup t9 = some o9)
    (ld9 : o9.data = .seq ([Value.int 1 tk9] : List Value).toArray n9)
    (a10 : PySem.W.nsIn K mainGlobals "minus" = some (some (.ref f10)))
    (l10 : K.lookup f10 = some ⟨oc10, od10, .func (PySem.W.fnOf "minus" "minus" (defArgs s_minus) (defBody s_minus) (defScope s_minus) .none kV10 dc10 pm10 an10 cd10 ct10), sl10⟩)
    (c10 : PySem.W.codeIn K cd10 "minus" = true)
    (k10 : PySem.W.keepIn K (.ref f10) = true)
    (a11 : PySem.W.nsIn K mainGlobals "through" = some (some (.ref f11)))
    (l11 : K.lookup f11 = some ⟨oc11, od11, .func (PySem.W.fnOf "through" "through" (defArgs s_through) (defBody s_through) (defScope s_through) .none kV11 dc11 pm11 an11 cd11 ct11), sl11⟩)
    (c11 : PySem.W.codeIn K cd11 "through" = true)
    (k11 : PySem.W.keepIn K (.ref f11) = true)
    (a12 : PySem.W.nsIn K mainGlobals "narrowest" = some (some (.ref f12)))
    (l12 : K.lookup f12 = some ⟨oc12, od12, .func (PySem.W.fnOf "narrowest" "narrowest" (defArgs s_narrowest) (defBody s_narrowest) (defScope s_narrowest) .none kV12 dc12 pm12 an12 cd12 ct12), sl12⟩)
    (c12 : PySem.W.codeIn K cd12 "narrowest" = true)
    (k12 : PySem.W.keepIn K (.ref f12) = true)
    (a13 : PySem.W.nsIn K mainGlobals "lies_in" = some (some (.ref f13)))
    (l13 : K.lookup f13 = some ⟨oc13, od13, .func (PySem.W.fnOf "lies_in" "lies_in" (defArgs s_lies_in) (defBody s_lies_in) (defScope s_lies_in) .none kV13 dc13 pm13 an13 cd13 ct13), sl13⟩)
    (c13 : PySem.W.codeIn K cd13 "lies_in" = true)
    (k13 : PySem.W.keepIn K (.ref f13) = true)
    (a14 : PySem.W.nsIn K mainGlobals "within" = some (some (.ref f14)))
    (l14 : K.lookup f14 = some ⟨oc14, od14, .func (PySem.W.fnOf "within" "within" (defArgs s_within) (defBody s_within) (defScope s_within) .none kV14 dc14 pm14 an14 cd14 ct14), sl14⟩)
    (c14 : PySem.W.codeIn K cd14 "within" = true)
    (k14 : PySem.W.keepIn K (.ref f14) = true)
    (a15 : PySem.W.nsIn K mainGlobals "copied" = some (some (.ref f15)))
    (l15 : K.lookup f15 = some ⟨oc15, od15, .func (PySem.W.fnOf "copied" "copied" (defArgs s_copied) (defBody s_copied) (defScope s_copied) .none kV15 dc15 pm15 an15 cd15 ct15), sl15⟩)
    (c15 : PySem.W.codeIn K cd15 "copied" = true)
    (k15 : PySem.W.keepIn K (.ref f15) = true)
    (a16 : PySem.W.nsIn K mainGlobals "folded" = some (some (.ref f16)))
    (l16 : K.lookup f16 = some ⟨oc16, od16, .func (PySem.W.fnOf "folded" "folded" (defArgs s_folded) (defBody s_folded) (defScope s_folded) .none kV16 dc16 pm16 an16 cd16 ct16), sl16⟩)
    (c16 : PySem.W.codeIn K cd16 "folded" = true)
    (k16 : PySem.W.keepIn K (.ref f16) = true)
    (a17 : PySem.W.nsIn K mainGlobals "_law_cell_at" = some (some (.ref f17)))
    (l17 : K.lookup f17 = some ⟨oc17, od17, .func (PySem.W.fnOf "_law_cell_at" "_law_cell_at" (defArgs s_l_cell_at) (defBody s_l_cell_at) (defScope s_l_cell_at) .none kV17 dc17 pm17 an17 cd17 ct17), sl17⟩)
    (c17 : PySem.W.codeIn K cd17 "_law_cell_at" = true)
    (k17 : PySem.W.keepIn K (.ref f17) = true)
    (a18 : PySem.W.nsIn K mainGlobals "_law_stream" = some (some (.ref f18)))
    (l18 : K.lookup f18 = some ⟨oc18, od18, .func (PySem.W.fnOf "_law_stream" "_law_stream" (defArgs s_l_stream) (defBody s_l_stream) (defScope s_l_stream) .none kV18 dc18 pm18 an18 cd18 ct18), sl18⟩)
    (c18 : PySem.W.codeIn K cd18 "_law_stream" = true)
    (k18 : PySem.W.keepIn K (.ref f18) = true)
    (a19 : PySem.W.nsIn K mainGlobals "_law_lowest" = some (some (.ref f19)))
    (l19 : K.lookup f19 = some ⟨oc19, od19, .func (PySem.W.fnOf "_law_lowest" "_law_lowest" (defArgs s_l_lowest) (defBody s_l_lowest) (defScope s_l_lowest) .none kV19 dc19 pm19 an19 cd19 ct19), sl19⟩)
    (c19 : PySem.W.codeIn K cd19 "_law_lowest" = true)
    (k19 : PySem.W.keepIn K (.ref f19) = true)
    (a20 : PySem.W.nsIn K mainGlobals "_law_values" = some (some (.ref f20)))
    (l20 : K.lookup f20 = some ⟨oc20, od20, .func (PySem.W.fnOf "_law_values" "_law_values" (defArgs s_l_values) (defBody s_l_values) (defScope s_l_values) .none kV20 dc20 pm20 an20 cd20 ct20), sl20⟩)
    (c20 : PySem.W.codeIn K cd20 "_law_values" = true)
    (k20 : PySem.W.keepIn K (.ref f20) = true)
    (a21 : PySem.W.nsIn K mainGlobals "_law_bound" = some (some (.ref f21)))
    (l21 : K.lookup f21 = some ⟨oc21, od21, .func (PySem.W.fnOf "_law_bound" "_law_bound" (defArgs s_l_bound) (defBody s_l_bound) (defScope s_l_bound) .none kV21 dc21 pm21 an21 cd21 ct21), sl21⟩)
    (c21 : PySem.W.codeIn K cd21 "_law_bound" = true)
    (k21 : PySem.W.keepIn K (.ref f21) = true)
    (a22 : PySem.W.nsIn K mainGlobals "_law_around" = some (some (.ref f22)))
    (l22 : K.lookup f22 = some ⟨oc22, od22, .func (PySem.W.fnOf "_law_around" "_law_around" (defArgs s_l_around) (defBody s_l_around) (defScope s_l_around) .none kV22 dc22 pm22 an22 cd22 ct22), sl22⟩)
    (c22 : PySem.W.codeIn K cd22 "_law_around" = true)
    (k22 : PySem.W.keepIn K (.ref f22) = true)
    (a23 : PySem.W.nsIn K mainGlobals "_law_mosts" = some (some (.ref f23)))
    (l23 : K.lookup f23 = some ⟨oc23, od23, .func (PySem.W.fnOf "_law_mosts" "_law_mosts" (defArgs s_l_mosts) (defBody s_l_mosts) (defScope s_l_mosts) .none kV23 dc23 pm23 an23 cd23 ct23), sl23⟩)
    (c23 : PySem.W.codeIn K cd23 "_law_mosts" = true)
    (k23 : PySem.W.keepIn K (.ref f23) = true)
    (a24 : PySem.W.nsIn K mainGlobals "_law_turned" = some (some (.ref f24)))
    (l24 : K.lookup f24 = some ⟨oc24, od24, .func (PySem.W.fnOf "_law_turned" "_law_turned" (defArgs s_l_turned) (defBody s_l_turned) (defScope s_l_turned) .none kV24 dc24 pm24 an24 cd24 ct24), sl24⟩)
    (c24 : PySem.W.codeIn K cd24 "_law_turned" = true)
    (k24 : PySem.W.keepIn K (.ref f24) = true)
    (a25 : PySem.W.nsIn K mainGlobals "_law_folded" = some (some (.ref f25)))
    (l25 : K.lookup f25 = some ⟨oc25, od25, .func (PySem.W.fnOf "_law_folded" "_law_folded" (defArgs s_l_folded) (defBody s_l_folded) (defScope s_l_folded) .none kV25 dc25 pm25 an25 cd25 ct25), sl25⟩)
    (c25 : PySem.W.codeIn K cd25 "_law_folded" = true)
    (k25 : PySem.W.keepIn K (.ref f25) = true)
    (a26 : PySem.W.nsIn K mainGlobals "law" = some (some (.ref f26)))
    (l26 : K.lookup f26 = some ⟨oc26, od26, .func (PySem.W.fnOf "law" "law" (defArgs s_law) (defBody s_law) (defScope s_law) .none kV26 dc26 pm26 an26 cd26 ct26), sl26⟩)
    (c26 : PySem.W.codeIn K cd26 "law" = true)
    (k26 : PySem.W.keepIn K (.ref f26) = true)
    (gNoNumber : PySem.W.nsIn K mainGlobals "NoNumber" = some (some (.ref CNoNumber)))
    (xNoNumber : PySem.W.excIn K CNoNumber [.type "ValueError", .type "Exception", .type "BaseException", .type "object"] "ValueError.__new__" = true)
    (kNoNumber : PySem.W.keepIn K (.ref CNoNumber) = true)
    (bNoNumber : PySem.W.subIn K (.ref CNoNumber) (.type "BaseException") = some true)
    (tNoNumber : PySem.W.typeIn K (.ref CNoNumber) = some (.type "type"))
    (iNoNumber : PySem.W.isClsIn K CNoNumber = true)
    (gNOUGHT : PySem.W.nsIn K mainGlobals "NOUGHT" = some (some (.int 1 uNOUGHT)))
    (zabs : PySem.W.nsIn K mainGlobals "abs" = some none)
    (zbool : PySem.W.nsIn K mainGlobals "bool" = some none)
    (zint : PySem.W.nsIn K mainGlobals "int" = some none)
    (zisinstance : PySem.W.nsIn K mainGlobals "isinstance" = some none)
    (zlen : PySem.W.nsIn K mainGlobals "len" = some none)
    (zlist : PySem.W.nsIn K mainGlobals "list" = some none)
    (zmax : PySem.W.nsIn K mainGlobals "max" = some none)
    (zmin : PySem.W.nsIn K mainGlobals "min" = some none)
    (zrange : PySem.W.nsIn K mainGlobals "range" = some none)
    (zzip : PySem.W.nsIn K mainGlobals "zip" = some none) :
    ∃ fd : FuncData, (∀ (s : Shared) (v : Value), BindsTo s fd ⟨[v], []⟩ [("_law_script", v)]) ∧ ∀ base : Heap, K.In base → base.Ns mainGlobals mg → FnOk P w K mg base CX0 5 fa fd ["_law_script"] (spLaw K) := by
  have e := hfa.symm.trans (PySem.W.mg_of X G a26)
  cases e
  have F9 := funD_mk (st := s_fraction) (dvs := [.int 1]) l9 c9 k9 lt9 ld9 (.cons ⟨_, rfl⟩ .nil) (by simp)
  obtain ⟨dz9, vz9, bz9⟩ := F9.binds1 (ps := ["top", "bottom"]) 2 1 (by simp) rfl fun _ _ _ _ _ _ _ us its h1 h2 => match us, h1, its, h2 with | [_, _], _, [_], _ => ⟨_, rfl, rfl⟩
  cases vz9
  obtain ⟨dd9, vd9, bd9⟩ := F9.binds1 (ps := ["top", "bottom"]) 1 0 (by simp) rfl fun _ _ _ _ _ _ _ us its h1 h2 => match us, h1, its, h2 with | [_], _, [_], _ => ⟨_, rfl, rfl⟩
  let T : Top K mg := {
      f_below := f0,
      d_below := _,
      F_below := fun_mk (st := s_below) l0 c0 k0,
      g_below := PySem.W.mg_of X G a0,
      b_below := (fun_mk (st := s_below) l0 c0 k0).binds (ps := ["number"]) fun _ _ _ _ _ _ us hl => match us, hl with | [_], _ => rfl,
      f_number_of := f1,
      d_number_of := _,
      F_number_of := fun_mk (st := s_number_of) l1 c1 k1,
      g_number_of := PySem.W.mg_of X G a1,
      b_number_of := (fun_mk (st := s_number_of) l1 c1 k1).binds (ps := ["bound"]) fun _ _ _ _ _ _ us hl => match us, hl with | [_], _ => rfl,
      f_is_open := f2,
      d_is_open := _,
      F_is_open := fun_mk (st := s_is_open) l2 c2 k2,
      g_is_open := PySem.W.mg_of X G a2,
      b_is_open := (fun_mk (st := s_is_open) l2 c2 k2).binds (ps := ["bound"]) fun _ _ _ _ _ _ us hl => match us, hl with | [_], _ => rfl,
      f_added := f3,
      d_added := _,
      F_added := fun_mk (st := s_added) l3 c3 k3,
      g_added := PySem.W.mg_of X G a3,
      b_added := (fun_mk (st := s_added) l3 c3 k3).binds (ps := ["one", "other"]) fun _ _ _ _ _ _ us hl => match us, hl with | [_, _], _ => rfl,
      f_narrower := f4,
      d_narrower := _,
      F_narrower := fun_mk (st := s_narrower) l4 c4 k4,
      g_narrower := PySem.W.mg_of X G a4,
      b_narrower := (fun_mk (st := s_narrower) l4 c4 k4).binds (ps := ["one", "other"]) fun _ _ _ _ _ _ us hl => match us, hl with | [_, _], _ => rfl,
      f_wider := f5,
      d_wider := _,
      F_wider := fun_mk (st := s_wider) l5 c5 k5,
      g_wider := PySem.W.mg_of X G a5,
      b_wider := (fun_mk (st := s_wider) l5 c5 k5).binds (ps := ["one", "other"]) fun _ _ _ _ _ _ us hl => match us, hl with | [_, _], _ => rfl,
      f_lets := f6,
      d_lets := _,
      F_lets := fun_mk (st := s_lets) l6 c6 k6,
      g_lets := PySem.W.mg_of X G a6,
      b_lets := (fun_mk (st := s_lets) l6 c6 k6).binds (ps := ["bound", "value"]) fun _ _ _ _ _ _ us hl => match us, hl with | [_, _], _ => rfl,
      f_is_whole := f7,
      d_is_whole := _,
      F_is_whole := fun_mk (st := s_is_whole) l7 c7 k7,
      g_is_whole := PySem.W.mg_of X G a7,
      b_is_whole := (fun_mk (st := s_is_whole) l7 c7 k7).binds (ps := ["thing"]) fun _ _ _ _ _ _ us hl => match us, hl with | [_], _ => rfl,
      f_divisor := f8,
      d_divisor := _,
      F_divisor := fun_mk (st := s_divisor) l8 c8 k8,
      g_divisor := PySem.W.mg_of X G a8,
      b_divisor := (fun_mk (st := s_divisor) l8 c8 k8).binds (ps := ["one", "other"]) fun _ _ _ _ _ _ us hl => match us, hl with | [_, _], _ => rfl,
      f_fraction := f9,
      d_fraction := _,
      F_fraction := F9,
      g_fraction := PySem.W.mg_of X G a9,
      b_fraction := bz9,
      dv_fraction := dd9,
      v_fraction := vd9,
      bd_fraction := bd9,
      f_minus := f10,
      d_minus := _,
      F_minus := fun_mk (st := s_minus) l10 c10 k10,
      g_minus := PySem.W.mg_of X G a10,
      b_minus := (fun_mk (st := s_minus) l10 c10 k10).binds (ps := ["one", "other"]) fun _ _ _ _ _ _ us hl => match us, hl with | [_, _], _ => rfl,
      f_through := f11,
      d_through := _,
      F_through := fun_mk (st := s_through) l11 c11 k11,
      g_through := PySem.W.mg_of X G a11,
      b_through := (fun_mk (st := s_through) l11 c11 k11).binds (ps := ["rows", "k"]) fun _ _ _ _ _ _ us hl => match us, hl with | [_, _], _ => rfl,
      f_narrowest := f12,
      d_narrowest := _,
      F_narrowest := fun_mk (st := s_narrowest) l12 c12 k12,
      g_narrowest := PySem.W.mg_of X G a12,
      b_narrowest := (fun_mk (st := s_narrowest) l12 c12 k12).binds (ps := ["zone"]) fun _ _ _ _ _ _ us hl => match us, hl with | [_], _ => rfl,
      f_lies_in := f13,
      d_lies_in := _,
      F_lies_in := fun_mk (st := s_lies_in) l13 c13 k13,
      g_lies_in := PySem.W.mg_of X G a13,
      b_lies_in := (fun_mk (st := s_lies_in) l13 c13 k13).binds (ps := ["zone", "values"]) fun _ _ _ _ _ _ us hl => match us, hl with | [_, _], _ => rfl,
      f_within := f14,
      d_within := _,
      F_within := fun_mk (st := s_within) l14 c14 k14,
      g_within := PySem.W.mg_of X G a14,
      b_within := (fun_mk (st := s_within) l14 c14 k14).binds (ps := ["one", "other"]) fun _ _ _ _ _ _ us hl => match us, hl with | [_, _], _ => rfl,
      f_copied := f15,
      d_copied := _,
      F_copied := fun_mk (st := s_copied) l15 c15 k15,
      g_copied := PySem.W.mg_of X G a15,
      b_copied := (fun_mk (st := s_copied) l15 c15 k15).binds (ps := ["zone"]) fun _ _ _ _ _ _ us hl => match us, hl with | [_], _ => rfl,
      f_folded := f16,
      d_folded := _,
      F_folded := fun_mk (st := s_folded) l16 c16 k16,
      g_folded := PySem.W.mg_of X G a16,
      b_folded := (fun_mk (st := s_folded) l16 c16 k16).binds (ps := ["zone", "mosts"]) fun _ _ _ _ _ _ us hl => match us, hl with | [_, _], _ => rfl,
      f_l_cell_at := f17,
      d_l_cell_at := _,
      F_l_cell_at := fun_mk (st := s_l_cell_at) l17 c17 k17,
      g_l_cell_at := PySem.W.mg_of X G a17,
      b_l_cell_at := (fun_mk (st := s_l_cell_at) l17 c17 k17).binds (ps := ["_law_script", "_law_k"]) fun _ _ _ _ _ _ us hl => match us, hl with | [_, _], _ => rfl,
      f_l_stream := f18,
      d_l_stream := _,
      F_l_stream := fun_mk (st := s_l_stream) l18 c18 k18,
      g_l_stream := PySem.W.mg_of X G a18,
      b_l_stream := (fun_mk (st := s_l_stream) l18 c18 k18).binds (ps := ["_law_cell", "_law_many"]) fun _ _ _ _ _ _ us hl => match us, hl with | [_, _], _ => rfl,
      f_l_lowest := f19,
      d_l_lowest := _,
      F_l_lowest := fun_mk (st := s_l_lowest) l19 c19 k19,
      g_l_lowest := PySem.W.mg_of X G a19,
      b_l_lowest := (fun_mk (st := s_l_lowest) l19 c19 k19).binds (ps := ["_law_top", "_law_bottom"]) fun _ _ _ _ _ _ us hl => match us, hl with | [_, _], _ => rfl,
      f_l_values := f20,
      d_l_values := _,
      F_l_values := fun_mk (st := s_l_values) l20 c20 k20,
      g_l_values := PySem.W.mg_of X G a20,
      b_l_values := (fun_mk (st := s_l_values) l20 c20 k20).binds (ps := ["_law_xs", "_law_many", "_law_unit"]) fun _ _ _ _ _ _ us hl => match us, hl with | [_, _, _], _ => rfl,
      f_l_bound := f21,
      d_l_bound := _,
      F_l_bound := fun_mk (st := s_l_bound) l21 c21 k21,
      g_l_bound := PySem.W.mg_of X G a21,
      b_l_bound := (fun_mk (st := s_l_bound) l21 c21 k21).binds (ps := ["_law_top", "_law_bottom", "_law_x"]) fun _ _ _ _ _ _ us hl => match us, hl with | [_, _, _], _ => rfl,
      f_l_around := f22,
      d_l_around := _,
      F_l_around := fun_mk (st := s_l_around) l22 c22 k22,
      g_l_around := PySem.W.mg_of X G a22,
      b_l_around := (fun_mk (st := s_l_around) l22 c22 k22).binds (ps := ["_law_values_here", "_law_xs"]) fun _ _ _ _ _ _ us hl => match us, hl with | [_, _], _ => rfl,
      f_l_mosts := f23,
      d_l_mosts := _,
      F_l_mosts := fun_mk (st := s_l_mosts) l23 c23 k23,
      g_l_mosts := PySem.W.mg_of X G a23,
      b_l_mosts := (fun_mk (st := s_l_mosts) l23 c23 k23).binds (ps := ["_law_values_here", "_law_xs", "_law_unit"]) fun _ _ _ _ _ _ us hl => match us, hl with | [_, _, _], _ => rfl,
      f_l_turned := f24,
      d_l_turned := _,
      F_l_turned := fun_mk (st := s_l_turned) l24 c24 k24,
      g_l_turned := PySem.W.mg_of X G a24,
      b_l_turned := (fun_mk (st := s_l_turned) l24 c24 k24).binds (ps := ["_law_bound_here", "_law_mine", "_law_other"]) fun _ _ _ _ _ _ us hl => match us, hl with | [_, _, _], _ => rfl,
      f_l_folded := f25,
      d_l_folded := _,
      F_l_folded := fun_mk (st := s_l_folded) l25 c25 k25,
      g_l_folded := PySem.W.mg_of X G a25,
      b_l_folded := (fun_mk (st := s_l_folded) l25 c25 k25).binds (ps := ["_law_zone", "_law_mosts_here"]) fun _ _ _ _ _ _ us hl => match us, hl with | [_, _], _ => rfl,
      f_law := fa,
      d_law := _,
      F_law := fun_mk (st := s_law) l26 c26 k26,
      g_law := PySem.W.mg_of X G a26,
      b_law := (fun_mk (st := s_law) l26 c26 k26).binds (ps := ["_law_script"]) fun _ _ _ _ _ _ us hl => match us, hl with | [_], _ => rfl,
      C_NoNumber := CNoNumber,
      g_NoNumber := PySem.W.mg_of X G gNoNumber,
      x_NoNumber := xNoNumber,
      k_NoNumber := kNoNumber,
      b_NoNumber := bNoNumber,
      t_NoNumber := tNoNumber,
      i_NoNumber := iNoNumber,
      t_NOUGHT := uNOUGHT,
      g_NOUGHT := PySem.W.mg_of X G gNOUGHT,
      m_abs := PySem.W.mg_none_of X G zabs,
      m_bool := PySem.W.mg_none_of X G zbool,
      m_int := PySem.W.mg_none_of X G zint,
      m_isinstance := PySem.W.mg_none_of X G zisinstance,
      m_len := PySem.W.mg_none_of X G zlen,
      m_list := PySem.W.mg_none_of X G zlist,
      m_max := PySem.W.mg_none_of X G zmax,
      m_min := PySem.W.mg_none_of X G zmin,
      m_range := PySem.W.mg_none_of X G zrange,
      m_zip := PySem.W.mg_none_of X G zzip }
  exact ⟨_, fun s v => .of_eq rfl, fun base _ _ => ok_law T⟩
end ZW
open PySem PySem.W PyProof.Rows
set_option maxRecDepth 100000 in
set_option maxHeartbeats 0 in
theorem PySem.Challenge.cw_zonewalk_k19_folded_holds : PySem.Challenge.rw_zonewalk_k19_folded.Holds := by
  w_on; o_law; k_head; (case hw => w_witness2)
  k_fill
  refine L2.walk_of (l := PySem.Challenge.rw_zonewalk_k19_folded) (n := 63) (k := 5) (x := "_law_script") (CX := fun _ => L2.CX0) (sp := fun w => ZW.spLaw _) rfl (by decide) rfl ⟨rfl, by decide, by decide⟩ (fun w h Y => PySem.W.kIn_of Y) ?F (fun _ _ a ns hl _ hS => ⟨a, ns, rfl, hS, hl, fun _ => rfl⟩) (fun _ _ _ _ _ h => h)
  case F =>
    intro w mg fa h KX G hmg
    refine' ZW.all_mk KX G hmg ?a0 ?l0 ?c0 ?k0 ?a1 ?l1 ?c1 ?k1 ?a2 ?l2 ?c2 ?k2 ?a3 ?l3 ?c3 ?k3 ?a4 ?l4 ?c4 ?k4 ?a5 ?l5 ?c5 ?k5 ?a6 ?l6 ?c6 ?k6 ?a7 ?l7 ?c7 ?k7 ?a8 ?l8 ?c8 ?k8 ?a9 ?l9 ?c9 ?k9 ?lt9 ?ld9 ?a10 ?l10 ?c10 ?k10 ?a11 ?l11 ?c11 ?k11 ?a12 ?l12 ?c12 ?k12 ?a13 ?l13 ?c13 ?k13 ?a14 ?l14 ?c14 ?k14 ?a15 ?l15 ?c15 ?k15 ?a16 ?l16 ?c16 ?k16 ?a17 ?l17 ?c17 ?k17 ?a18 ?l18 ?c18 ?k18 ?a19 ?l19 ?c19 ?k19 ?a20 ?l20 ?c20 ?k20 ?a21 ?l21 ?c21 ?k21 ?a22 ?l22 ?c22 ?k22 ?a23 ?l23 ?c23 ?k23 ?a24 ?l24 ?c24 ?k24 ?a25 ?l25 ?c25 ?k25 ?a26 ?l26 ?c26 ?k26 ?gNoNumber ?xNoNumber ?kNoNumber ?bNoNumber ?tNoNumber ?iNoNumber ?gNOUGHT ?zabs ?zbool ?zint ?zisinstance ?zlen ?zlist ?zmax ?zmin ?zrange ?zzip
    (case a0 => first | k_is | k_exc | rfl)
    (case l0 => first | k_is | k_exc | rfl)
    (case c0 => first | k_is | k_exc | rfl)
    (case k0 => first | k_is | k_exc | rfl)
    (case a1 => first | k_is | k_exc | rfl)
    (case l1 => first | k_is | k_exc | rfl)
    (case c1 => first | k_is | k_exc | rfl)
    (case k1 => first | k_is | k_exc | rfl)
    (case a2 => first | k_is | k_exc | rfl)
    (case l2 => first | k_is | k_exc | rfl)
    (case c2 => first | k_is | k_exc | rfl)
    (case k2 => first | k_is | k_exc | rfl)
    (case a3 => first | k_is | k_exc | rfl)
    (case l3 => first | k_is | k_exc | rfl)
    (case c3 => first | k_is | k_exc | rfl)
    (case k3 => first | k_is | k_exc | rfl)
    (case a4 => first | k_is | k_exc | rfl)
    (case l4 => first | k_is | k_exc | rfl)
    (case c4 => first | k_is | k_exc | rfl)
    (case k4 => first | k_is | k_exc | rfl)
    (case a5 => first | k_is | k_exc | rfl)
    (case l5 => first | k_is | k_exc | rfl)
    (case c5 => first | k_is | k_exc | rfl)
    (case k5 => first | k_is | k_exc | rfl)
    (case a6 => first | k_is | k_exc | rfl)
    (case l6 => first | k_is | k_exc | rfl)
    (case c6 => first | k_is | k_exc | rfl)
    (case k6 => first | k_is | k_exc | rfl)
    (case a7 => first | k_is | k_exc | rfl)
    (case l7 => first | k_is | k_exc | rfl)
    (case c7 => first | k_is | k_exc | rfl)
    (case k7 => first | k_is | k_exc | rfl)
    (case a8 => first | k_is | k_exc | rfl)
    (case l8 => first | k_is | k_exc | rfl)
    (case c8 => first | k_is | k_exc | rfl)
    (case k8 => first | k_is | k_exc | rfl)
    (case a9 => first | k_is | k_exc | rfl)
    (case l9 => first | k_is | k_exc | rfl)
    (case c9 => first | k_is | k_exc | rfl)
    (case k9 => first | k_is | k_exc | rfl)
    (case lt9 => first | k_is | k_exc | rfl)
    (case ld9 => first | k_is | k_exc | rfl)
    (case a10 => first | k_is | k_exc | rfl)
    (case l10 => first | k_is | k_exc | rfl)
    (case c10 => first | k_is | k_exc | rfl)
    (case k10 => first | k_is | k_exc | rfl)
    (case a11 => first | k_is | k_exc | rfl)
    (case l11 => first | k_is | k_exc | rfl)
    (case c11 => first | k_is | k_exc | rfl)
    (case k11 => first | k_is | k_exc | rfl)
    (case a12 => first | k_is | k_exc | rfl)
    (case l12 => first | k_is | k_exc | rfl)
    (case c12 => first | k_is | k_exc | rfl)
    (case k12 => first | k_is | k_exc | rfl)
    (case a13 => first | k_is | k_exc | rfl)
    (case l13 => first | k_is | k_exc | rfl)
    (case c13 => first | k_is | k_exc | rfl)
    (case k13 => first | k_is | k_exc | rfl)
    (case a14 => first | k_is | k_exc | rfl)
    (case l14 => first | k_is | k_exc | rfl)
    (case c14 => first | k_is | k_exc | rfl)
    (case k14 => first | k_is | k_exc | rfl)
    (case a15 => first | k_is | k_exc | rfl)
    (case l15 => first | k_is | k_exc | rfl)
    (case c15 => first | k_is | k_exc | rfl)
    (case k15 => first | k_is | k_exc | rfl)
    (case a16 => first | k_is | k_exc | rfl)
    (case l16 => first | k_is | k_exc | rfl)
    (case c16 => first | k_is | k_exc | rfl)
    (case k16 => first | k_is | k_exc | rfl)
    (case a17 => first | k_is | k_exc | rfl)
    (case l17 => first | k_is | k_exc | rfl)
    (case c17 => first | k_is | k_exc | rfl)
    (case k17 => first | k_is | k_exc | rfl)
    (case a18 => first | k_is | k_exc | rfl)
    (case l18 => first | k_is | k_exc | rfl)
    (case c18 => first | k_is | k_exc | rfl)
    (case k18 => first | k_is | k_exc | rfl)
    (case a19 => first | k_is | k_exc | rfl)
    (case l19 => first | k_is | k_exc | rfl)
    (case c19 => first | k_is | k_exc | rfl)
    (case k19 => first | k_is | k_exc | rfl)
    (case a20 => first | k_is | k_exc | rfl)
    (case l20 => first | k_is | k_exc | rfl)
    (case c20 => first | k_is | k_exc | rfl)
    (case k20 => first | k_is | k_exc | rfl)
    (case a21 => first | k_is | k_exc | rfl)
    (case l21 => first | k_is | k_exc | rfl)
    (case c21 => first | k_is | k_exc | rfl)
    (case k21 => first | k_is | k_exc | rfl)
    (case a22 => first | k_is | k_exc | rfl)
    (case l22 => first | k_is | k_exc | rfl)
    (case c22 => first | k_is | k_exc | rfl)
    (case k22 => first | k_is | k_exc | rfl)
    (case a23 => first | k_is | k_exc | rfl)
    (case l23 => first | k_is | k_exc | rfl)
    (case c23 => first | k_is | k_exc | rfl)
    (case k23 => first | k_is | k_exc | rfl)
    (case a24 => first | k_is | k_exc | rfl)
    (case l24 => first | k_is | k_exc | rfl)
    (case c24 => first | k_is | k_exc | rfl)
    (case k24 => first | k_is | k_exc | rfl)
    (case a25 => first | k_is | k_exc | rfl)
    (case l25 => first | k_is | k_exc | rfl)
    (case c25 => first | k_is | k_exc | rfl)
    (case k25 => first | k_is | k_exc | rfl)
    (case a26 => first | k_is | k_exc | rfl)
    (case l26 => first | k_is | k_exc | rfl)
    (case c26 => first | k_is | k_exc | rfl)
    (case k26 => first | k_is | k_exc | rfl)
    (case gNoNumber => first | k_is | k_exc | rfl)
    (case xNoNumber => first | k_is | k_exc | rfl)
    (case kNoNumber => first | k_is | k_exc | rfl)
    (case bNoNumber => first | k_is | k_exc | rfl)
    (case tNoNumber => first | k_is | k_exc | rfl)
    (case iNoNumber => first | k_is | k_exc | rfl)
    (case gNOUGHT => first | k_is | k_exc | rfl)
    (case zabs => first | k_is | k_exc | rfl)
    (case zbool => first | k_is | k_exc | rfl)
    (case zint => first | k_is | k_exc | rfl)
    (case zisinstance => first | k_is | k_exc | rfl)
    (case zlen => first | k_is | k_exc | rfl)
    (case zlist => first | k_is | k_exc | rfl)
    (case zmax => first | k_is | k_exc | rfl)
    (case zmin => first | k_is | k_exc | rfl)
    (case zrange => first | k_is | k_exc | rfl)
    (case zzip => first | k_is | k_exc | rfl)
