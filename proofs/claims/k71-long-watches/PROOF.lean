import PyProof.Rows.All
import Wide.All
import OpenK.AllK
import Wide.FinOn
import HandS.ForMost
import HandS.ForExc
import HandS.Wide
import HandS.WideBits
import HandS.IsInst
import HandS.TupLe
import KE.BitLaws
import HandS.Defaults
import HandS.ExcIs
import HandS.Conv
import HandS.Zip
import HandS.More
import HandS.SetKeys
import HandS.Strs
import PySem.Challenge.RW_zonewalk_k71_long_watches
set_option Elab.async false
set_option linter.all false
set_option maxRecDepth 100000
set_option maxHeartbeats 4000000

namespace ZW
theorem fmod_gcd (a b : Int) : Int.gcd b (a.fmod b) = Int.gcd a b := by
  rw [Int.fmod_def, Int.gcd_comm a b]
  exact Int.gcd_sub_mul_left_right b a (a.fdiv b)
theorem fmod_lt (a b : Int) (hb : b ≠ 0) : (a.fmod b).natAbs < b.natAbs := by
  rcases Int.lt_or_lt_of_ne hb with h | h
  · have h1 := Int.fmod_def a b
    have e : a.fmod b = -((-a).fmod (-b)) := by simp
    rw [e, Int.fmod_eq_emod_of_nonneg _ (by omega)]
    have := Int.emod_lt_of_pos (-a) (b := -b) (by omega)
    have := Int.emod_nonneg (-a) (b := -b) (by omega)
    omega
  · rw [Int.fmod_eq_emod_of_nonneg a (by omega)]
    have := Int.emod_lt_of_pos a h
    have := Int.emod_nonneg a hb
    omega
theorem gcd_pos_right {a b : Int} (hb : b ≠ 0) : (0 : Int) < Int.gcd a b := by
  have := Int.gcd_pos_of_ne_zero_right a hb
  omega
/-- both divided by their gcd -/
structure Low (a b t u : Int) : Prop where
  pos : 0 < b → 0 < u
  top : t * Int.gcd a b = a
  bot : u * Int.gcd a b = b
  eq : t * b = a * u
  one : Int.gcd t u = 1
theorem low_of {a b : Int} (hb : b ≠ 0) : Low a b (a.fdiv (Int.gcd a b)) (b.fdiv (Int.gcd a b)) := by
  have g := gcd_pos_right (a := a) hb
  have d1 : (Int.gcd a b : Int) ∣ a := Int.gcd_dvd_left ..
  have d2 : (Int.gcd a b : Int) ∣ b := Int.gcd_dvd_right ..
  rw [Int.fdiv_eq_ediv_of_nonneg _ (by omega), Int.fdiv_eq_ediv_of_nonneg _ (by omega)]
  have e1 := Int.ediv_mul_cancel d1
  have e2 := Int.ediv_mul_cancel d2
  generalize hx : a / (Int.gcd a b : Int) = x at *
  generalize hy : b / (Int.gcd a b : Int) = y at *
  generalize hg : (Int.gcd a b : Int) = G at *
  refine ⟨fun h => ?_, ?_, ?_, ?_, ?_⟩
  · rcases Int.lt_or_le 0 y with z | z
    · exact z
    · have := Int.mul_nonpos_of_nonpos_of_nonneg z (Int.le_of_lt g)
      omega
  · rw [hg]; exact e1
  · rw [hg]; exact e2
  · rw [← e2, ← e1]; rw [Int.mul_comm y G, ← Int.mul_assoc]
  · have q : Int.gcd (x * G) (y * G) = Int.gcd x y * G.natAbs := Int.gcd_mul_right ..
    rw [e1, e2] at q
    have hG : G.natAbs = Int.gcd a b := by omega
    rw [hG] at q
    have gp : 0 < Int.gcd a b := by omega
    exact Nat.eq_of_mul_eq_mul_right gp (by rw [Nat.one_mul]; exact q.symm)
theorem quo_le {t G a : Int} (h : t * G = a) (hG : 0 < G) : t.natAbs ≤ a.natAbs := by
  rw [← h, Int.natAbs_mul]
  exact Nat.le_mul_of_pos_right _ (by omega)
/-- the fraction t / u, in lowest terms, that stands so to a and b -/
structure Red (a b t u : Int) : Prop where
  pos : 0 < u
  eq : t * b = a * u
  one : Int.gcd t u = 1
  tle : t.natAbs ≤ a.natAbs
  ule : u.natAbs ≤ b.natAbs
theorem Low.red {a b t u : Int} (l : Low a b t u) (h : 0 < b) : Red a b t u := ⟨l.pos h, l.eq, l.one, quo_le l.top (gcd_pos_right (by omega)), quo_le l.bot (gcd_pos_right (by omega))⟩
theorem red_neg {a b : Int} (hb : b < 0) : Red a b (a.fdiv (0 - (Int.gcd a b : Int))) (b.fdiv (0 - (Int.gcd a b : Int))) := by
  have l := low_of (a := a) (b := b) (by omega)
  have g := gcd_pos_right (a := a) (b := b) (by omega)
  have k : ∀ x t : Int, t * (Int.gcd a b : Int) = x → x.fdiv (0 - (Int.gcd a b : Int)) = - t := by
    intro x t e
    rw [Int.zero_sub, show x = (-(Int.gcd a b : Int)) * (-t) by rw [Int.neg_mul_neg, Int.mul_comm, e], Int.mul_fdiv_cancel_left _ (by omega)]
  rw [k _ _ l.top, k _ _ l.bot]
  have hu : b.fdiv (Int.gcd a b) < 0 := by
    rcases Int.lt_or_le (b.fdiv (Int.gcd a b)) 0 with z | z
    · exact z
    · have := Int.mul_nonneg z (Int.le_of_lt g); rw [l.bot] at this; omega
  refine ⟨by omega, by rw [Int.neg_mul, Int.mul_neg, l.eq], by rw [Int.gcd_neg, Int.neg_gcd]; exact l.one, by rw [Int.natAbs_neg]; exact quo_le l.top g, by rw [Int.natAbs_neg]; exact quo_le l.bot g⟩
theorem dvd_cop {u t v : Int} (h : u ∣ t * v) (c : Int.gcd t u = 1) : u ∣ v := by
  have h1 : u.natAbs ∣ t.natAbs * v.natAbs := by rw [← Int.natAbs_mul]; exact Int.natAbs_dvd_natAbs.mpr h
  have h2 : Nat.Coprime u.natAbs t.natAbs := by rw [Nat.coprime_comm]; exact c
  exact Int.natAbs_dvd_natAbs.mp (h2.dvd_of_dvd_mul_left h1)
theorem cop_uniq {t u t' u' : Int} (hu : 0 < u) (hu' : 0 < u') (c : Int.gcd t u = 1) (c' : Int.gcd t' u' = 1) (e : t * u' = t' * u) : t = t' ∧ u = u' := by
  have d1 : u ∣ u' := by
    have : u ∣ t * u' := ⟨t', by rw [e, Int.mul_comm]⟩
    exact dvd_cop this c
  have d2 : u' ∣ u := by
    have : u' ∣ t' * u := ⟨t, by rw [← e, Int.mul_comm]⟩
    exact dvd_cop this c'
  have eu : u = u' := by
    have h1 := Int.le_of_dvd hu' d1
    have h2 := Int.le_of_dvd hu d2
    omega
  subst eu
  exact ⟨Int.eq_of_mul_eq_mul_right (by omega) e, rfl⟩
theorem Red.uniq {a b t u t' u' : Int} (hb : b ≠ 0) (h : Red a b t u) (k : Red a b t' u') : t = t' ∧ u = u' := by
  refine cop_uniq h.pos k.pos h.one k.one ?_
  have : t * u' * b = t' * u * b := by
    rw [Int.mul_right_comm, h.eq, Int.mul_right_comm t', k.eq]; ac_rfl
  exact Int.eq_of_mul_eq_mul_right hb this
/-- fractions that stand so to the same two numbers, told by cross products -/
theorem red_cross {a b a' b' t u t' u' : Int} (hb : b ≠ 0) (hb' : b' ≠ 0) (x : a * b' = a' * b) (h : Red a b t u) (k : Red a' b' t' u') : t = t' ∧ u = u' := by
  refine cop_uniq h.pos k.pos h.one k.one ?_
  have e : t * u' * (b * b') = t' * u * (b * b') := by
    rw [show t * u' * (b * b') = (t * b) * (u' * b') by ac_rfl, show t' * u * (b * b') = (t' * b') * (u * b) by ac_rfl, h.eq, k.eq,
      show a * u * (u' * b') = (a * b') * (u * u') by ac_rfl, show a' * u' * (u * b) = (a' * b) * (u * u') by ac_rfl, x]
  exact Int.eq_of_mul_eq_mul_right (Int.mul_ne_zero hb hb') e
theorem gcd_le_size {a b : Int} (hb : b ≠ 0) : (Int.gcd a b) ≤ b.natAbs := by
  have := Int.gcd_dvd_right (a := a) (b := b)
  exact Nat.le_of_dvd (by omega) (by simpa using Int.natAbs_dvd_natAbs.mpr this)
theorem log_lt {i : Int} {n m : Nat} (h : i.natAbs < 2 ^ n) (h0 : 0 < n) (hm : n ≤ m) : i.natAbs.log2 < m := by
  by_cases e : i.natAbs = 0
  · rw [e]; simp; omega
  · exact Nat.lt_of_lt_of_le ((Nat.log2_lt e).mpr h) hm
open PySem PySem.Spec PyProof.Rows L2
theorem upd_keep {H : Hp} {p : Addr} {o : HO} (h : H p = none) : Same H (upd H p o) := fun b x e => by
  rw [upd_ne (ne_of_none e h)]
  exact e
theorem Same.to {H H' : Hp} (s : Same H H') {a : Addr} {o : HO} (h : H a = some o) : H' a = some o := s a o h
theorem seq_step {t u : TS} {D : Ends} {σ : L2.St} {H : Hp} (h : t { D with nx := u D } σ H) : tSeq t u D σ H := h
theorem ite_d {c : Prop} [Decidable c] {A B : Prop} (h1 : c → A) (h2 : ¬ c → B) : if decide c = true then A else B := by
  by_cases h : c
  · rw [if_pos (decide_eq_true h)]; exact h1 h
  · rw [if_neg (by rw [decide_eq_false h]; exact Bool.false_ne_true)]; exact h2 h
theorem shl1 {i : Int} {n : Nat} (h : i.natAbs < 2 ^ n) (hn : n ≤ 100000) : CShl i 1 := shl_ok (j := 1) h (by omega)
theorem one_ne : ((1 : Int) = 0) = False := by simp
theorem pow_lit (i : Int) : i ^ (1 : Nat) = i := Int.pow_one i
theorem cxK {CX : CXT} {P : Program} {w : World} {K : PySem.W.Frag} {mg : Str → Option Value} {base : Heap} {N : List Str} {qual : Str} {scope : Scope} {f : Addr} {cd : Value} {A : Around} {outer : List Env} {s : Shared} {H : Hp} {E : XK} :
    (cxOf CX P w K mg base N qual scope f cd A outer s H E).K = K := rfl
theorem ix_l {K : PySem.W.Frag} {H : Hp} {p : Addr} {xs : List V} {i : Int} {v : V} {Q : VK} (h : SqL K H p xs) (hi : 0 ≤ i) (hv : xs[i.toNat]? = some v) (q : Q v H) : rIxL K (.ref p) (.int i) H Q :=
  ⟨p, xs, i, v, rfl, rfl, h, at_of (j := i.toNat) (by omega) hv, q⟩
theorem ix_t {K : PySem.W.Frag} {H : Hp} {p : Addr} {xs : List V} {i : Int} {v : V} {Q : VK} (h : SqT K H p xs) (hi : 0 ≤ i) (hv : xs[i.toNat]? = some v) (q : Q v H) : rIxT K (.ref p) (.int i) H Q :=
  ⟨p, xs, i, v, rfl, rfl, h, at_of (j := i.toNat) (by omega) hv, q⟩
theorem sqL_upd {K : PySem.W.Frag} {H : Hp} {p : Addr} {xs : List V} : SqL K (upd H p (.lst xs)) p xs := SqL.of upd_same
theorem fm2 (c : Int) : c.fmod 2 = 0 ∨ c.fmod 2 = 1 := by
  rw [Int.fmod_eq_emod_of_nonneg _ (by omega)]; omega
theorem fm_pos {c m : Int} (h : 0 < m) : 0 ≤ c.fmod m ∧ c.fmod m < m := by
  rw [Int.fmod_eq_emod_of_nonneg _ (by omega)]
  exact ⟨Int.emod_nonneg _ (by omega), Int.emod_lt_of_pos _ h⟩
/-- a number of at most n bits -/
def Sz (n : Nat) (i : Int) : Prop := i.natAbs < 2 ^ n
theorem Sz.mono {i : Int} {a c : Nat} (ha : Sz a i) (h : a ≤ c) : Sz c i := Nat.lt_of_lt_of_le ha (Nat.pow_le_pow_right (by decide) h)
theorem Sz.mulW {i j : Int} {a b : Nat} (ha : Sz a i) (hb : Sz b j) (h : a + b ≤ 999998) : CMulW i j :=
  wide_mul (a := a + 1) (b := b + 1) (Sz.mono ha (by omega)) (Sz.mono hb (by omega)) (by omega) (by omega) (by omega)
theorem Sz.mul {i j : Int} {a b c : Nat} (ha : Sz a i) (hb : Sz b j) (h : a + b ≤ c) : Sz c (i * j) := Sz.mono (wide_lt ha hb) h
theorem Sz.add {i j : Int} {a b c : Nat} (ha : Sz a i) (hb : Sz b j) (h1 : a + 1 ≤ c) (h2 : b + 1 ≤ c) : Sz c (i + j) := by
  have x : Sz (c - 1) i := ha.mono (by omega)
  have y : Sz (c - 1) j := hb.mono (by omega)
  have e : (2 : Nat) ^ c = 2 ^ (c - 1) * 2 := by rw [← Nat.pow_succ]; congr 1; omega
  unfold Sz at x y ⊢
  omega
theorem Sz.sub {i j : Int} {a b c : Nat} (ha : Sz a i) (hb : Sz b j) (h1 : a + 1 ≤ c) (h2 : b + 1 ≤ c) : Sz c (i - j) := by
  have x : Sz (c - 1) i := ha.mono (by omega)
  have y : Sz (c - 1) j := hb.mono (by omega)
  have e : (2 : Nat) ^ c = 2 ^ (c - 1) * 2 := by rw [← Nat.pow_succ]; congr 1; omega
  unfold Sz at x y ⊢
  omega
theorem Sz.le {i j : Int} {a : Nat} (h : i.natAbs ≤ j.natAbs) (hj : Sz a j) : Sz a i := Nat.lt_of_le_of_lt h hj
theorem Sz.nn {i j : Int} {a : Nat} (h0 : 0 ≤ i) (h : i ≤ j) (hj : Sz a j) : Sz a i := Sz.le (by omega) hj
theorem Sz.rg {i j : Int} {a : Nat} (h0 : -j ≤ i) (h : i ≤ j) (hj : Sz a j) : Sz a i := Sz.le (by omega) hj
/-- a divisor that the rule takes -/
def DivOk (j : Int) : Prop := j ≠ 0 ∧ j.natAbs.log2 < 9000
theorem DivOk.of {j : Int} {n : Nat} (h : j ≠ 0) (hs : Sz n j) (hn : n ≤ 8000) : DivOk j := ⟨h, log_lt (n := 8000) (hs.mono hn) (by omega) (by omega)⟩
theorem sz_line {n : Nat} (h : n ≤ 1000) : (n ≤ sizeLine) = True := eq_true (Nat.le_of_lt (small1000 h))
section
variable {X : Cx}
theorem op_fdivZ : OpR X (binaryOp .FloorDiv) (rI (fun _ j => DivOk j) fun i j => .int (i.fdiv j)) := opI fun _ _ _ _ _ _ _ hc q =>
  floordiv_int hc.1 q (.inl (PyProof.noPylong_of_log2 hc.2))
end
theorem gTup_of {K : PySem.W.Frag} {a : Addr} {xs : List V} {n : Nat} {t : TGs} {σ : L2.St} {H : Hp} {Q : L2.St → Hp → Prop} (h : SqT K H a xs) (hn : xs.length = n) (q : t xs σ H Q) : gTup K n t (.ref a) σ H Q := ⟨a, xs, rfl, h, hn, q⟩
theorem sqt {K : PySem.W.Frag} {H : Hp} {a : Addr} {xs : List V} (h : H a = some (.tup xs)) : SqT K H a xs := SqT.of h
theorem Low.top_le {a b t u : Int} (l : Low a b t u) (hb : b ≠ 0) : t.natAbs ≤ a.natAbs := quo_le l.top (gcd_pos_right hb)
theorem Low.bot_le {a b t u : Int} (l : Low a b t u) (hb : b ≠ 0) : u.natAbs ≤ b.natAbs := quo_le l.bot (gcd_pos_right hb)
theorem ite_and {a : Bool} {c : Prop} [Decidable c] {A R : Prop} (h1 : a = true → c → A) (h2 : ¬ (a = true ∧ c) → R) : if a = true then (if decide c = true then A else R) else R := by
  by_cases ha : a = true
  · rw [if_pos ha]; exact ite_d (h1 ha) fun z => h2 fun q => z q.2
  · rw [if_neg ha]; exact h2 fun q => ha q.1
section
variable {X : Cx} {e : Expr} {es : List Expr} {t t' : TE} {ta : TA} {pos : Pos}
theorem pe_imp (h : PE X e t) (k : ∀ σ H Q, t' σ H Q → t σ H Q) : PE X e t' := ⟨fun pins s σ H Q I q => h.run pins s σ H Q I (k σ H Q q)⟩
def tWk (ta : TA) : TA := fun σ H Q => ∃ Q0 : List V → Hp → Prop, ta σ H Q0 ∧ ∀ xs H1, Q0 xs H1 → Q xs H1
theorem pa_wk (h : PA X es ta) : PA X es (tWk ta) := ⟨fun pos pins s σ H _ I ⟨Q0, a, k⟩ => thn (h.run pos pins s σ H Q0 I a) fun _ _ ⟨xs, H1, I1, r, q⟩ => ⟨xs, H1, I1, r, k _ _ q⟩⟩
/-- a new tuple, a new list: nothing but what is tracked is told of the heap behind -/
def tTupN (ta : TA) : TE := fun σ H Q => ta σ H fun xs H1 => xs.length ≤ sizeLine ∧ ∀ p H2, Same H1 H2 → H1 p = none → H2 p = some (.tup xs) → Q (.ref p) H2
def tLstN (ta : TA) : TE := fun σ H Q => ta σ H fun xs H1 => xs.length ≤ sizeLine ∧ ∀ p H2, Same H1 H2 → H1 p = none → H2 p = some (.lst xs) → Q (.ref p) H2
theorem pe_tupN {x1} (h : PA X es ta) : PE X (.Tuple es x1 pos) (tTupN ta) :=
  pe_imp (pe_tup (pa_wk h)) fun _ _ _ q => ⟨_, q, fun _ _ ⟨z, k⟩ => ⟨z, fun p hp => k p _ (upd_keep hp) hp upd_same⟩⟩
theorem pe_lstN (h : PA X es ta) : PE X (.List es pos) (tLstN ta) :=
  pe_imp (pe_lst (pa_wk h)) fun _ _ _ q => ⟨_, q, fun _ _ ⟨z, k⟩ => ⟨z, fun p hp => k p _ (upd_keep hp) hp upd_same⟩⟩
def rSlN (K : PySem.W.Frag) : V → Option Int → Option Int → Hp → VK → Prop := fun x lo hi H Q => ∃ a xs, x = .ref a ∧ SqL K H a xs ∧ ∀ p H2, Same H H2 → H p = none → H2 p = some (.lst (cutV xs lo hi)) → Q (.ref p) H2
theorem sl_listN : SlR X (rSlN X.K) := fun pins s σ H x v vl vu lo hi sl Q I rx hs p1 p2 ⟨a, xs, e, h, q⟩ =>
  sl_list pins s σ H x v vl vu lo hi sl Q I rx hs p1 p2 ⟨a, xs, e, h, fun p hp => q p _ (upd_keep hp) hp upd_same⟩
theorem op_imp {f : Value → Value → Sem Value} {r r' : R2} (h : OpR X f r) (k : ∀ x y H Q, r' x y H Q → r x y H Q) : OpR X f r' := fun pins s σ H x y v u Q I rx ry q => h pins s σ H x y v u Q I rx ry (k x y H Q q)
def rCatN : R2 := fun x y H Q => ∃ l b xs zs, x = .ref l ∧ y = .ref b ∧ H l = some (.lst xs) ∧ H b = some (.lst zs) ∧ xs.length + zs.length ≤ sizeLine ∧ ∀ p H2, Same H H2 → H p = none → H2 p = some (.lst (xs ++ zs)) → Q (.ref p) H2
theorem op_catN : OpR X (binaryOp .Add) rCatN := op_imp op_cat fun _ _ _ _ ⟨l, b, xs, zs, e1, e2, h1, h2, z, q⟩ => ⟨l, b, xs, zs, e1, e2, h1, h2, z, fun p hp => q p _ (upd_keep hp) hp upd_same⟩
def rRepN : R2 := fun x y H Q => ∃ l k xs, x = .ref l ∧ y = .int k ∧ H l = some (.lst xs) ∧ -(2 ^ 63) ≤ k ∧ k < 2 ^ 63 ∧ xs.length * k.toNat ≤ sizeLine ∧ ∀ p H2, Same H H2 → H p = none → H2 p = some (.lst (List.replicate k.toNat xs).flatten) → Q (.ref p) H2
theorem op_repN : OpR X (binaryOp .Mult) rRepN := op_imp op_rep fun _ _ _ _ ⟨l, k, xs, e1, e2, h, a, b, z, q⟩ => ⟨l, k, xs, e1, e2, h, a, b, z, fun p hp => q p _ (upd_keep hp) hp upd_same⟩
theorem small1000' {n : Nat} (h : n ≤ 1000) : n ≤ sizeLine := Nat.le_of_lt (small1000 h)
theorem call_imp {f : Value} {r r' : List V → Hp → VK → Prop} (h : CallR X f r) (k : ∀ x H Q, r' x H Q → r x H Q) : CallR X f r' := fun pins s σ H xs us Q I r q => h pins s σ H xs us Q I r (k xs H Q q)
def rListN (K : PySem.W.Frag) : List V → Hp → VK → Prop := fun xs H Q => ∃ p ys, xs = [.ref p] ∧ (SqL K H p ys ∨ SqT K H p ys) ∧ ∀ l H2, Same H H2 → H l = none → H2 l = some (.lst ys) → Q (.ref l) H2
theorem call_listN : CallR X (.type "list") (rListN X.K) := call_imp call_list_of fun _ _ _ ⟨p, ys, e, h, q⟩ => ⟨p, ys, e, h, fun l hl => q l _ (upd_keep hl) hl upd_same⟩
def rIntB : List V → Hp → VK → Prop := fun xs H Q => ∃ k, xs = [.bl k] ∧ Q (.int (if k then 1 else 0)) H
theorem call_intB : CallR X (.type "int") rIntB := call_imp call_int1 fun _ _ _ h => .inr h
end
theorem nat_and_mod (x y : Nat) : (x &&& y) % 2 = (x % 2) * (y % 2) := by
  have h := Nat.and_mod_two_pow (a := x) (b := y) (n := 1)
  have h1 : x % 2 = 0 ∨ x % 2 = 1 := by omega
  have h2 : y % 2 = 0 ∨ y % 2 = 1 := by omega
  rw [Nat.pow_one] at h
  rcases h1 with e | e <;> rcases h2 with f | f <;> rw [h, e, f] <;> rfl
theorem nat_or_mod (x y : Nat) : (x ||| y) % 2 = if x % 2 = 0 ∧ y % 2 = 0 then 0 else 1 := by
  have h := Nat.or_mod_two_pow (a := x) (b := y) (n := 1)
  have h1 : x % 2 = 0 ∨ x % 2 = 1 := by omega
  have h2 : y % 2 = 0 ∨ y % 2 = 1 := by omega
  rw [Nat.pow_one] at h
  rcases h1 with e | e <;> rcases h2 with f | f <;> rw [h, e, f] <;> rfl
theorem and_bit (a b : Int) : Builtin.bitAnd a b % 2 = (if a % 2 = 1 ∧ b % 2 = 1 then 1 else 0) := by
  have key : ∀ x y : Nat, x % 2 = 0 ∨ x % 2 = 1 := by omega
  have nn : ∀ x, Builtin.bitNot x = - x - 1 := by intro x; unfold Builtin.bitNot; omega
  by_cases ha : 0 ≤ a <;> by_cases hb : 0 ≤ b
  · rw [bitAnd_pp ha hb]
    have h := nat_and_mod a.toNat b.toNat
    have h1 : a.toNat % 2 = 0 ∨ a.toNat % 2 = 1 := by omega
    have h2 : b.toNat % 2 = 0 ∨ b.toNat % 2 = 1 := by omega
    rcases h1 with e | e <;> rcases h2 with f | f <;> rw [e, f] at h <;> split <;> omega
  · rw [bitAnd_pn ha hb, nn]
    have h := nat_and_mod a.toNat (-b-1).toNat
    have h1 : a.toNat % 2 = 0 ∨ a.toNat % 2 = 1 := by omega
    have h2 : (-b-1).toNat % 2 = 0 ∨ (-b-1).toNat % 2 = 1 := by omega
    rcases h1 with e | e <;> rcases h2 with f | f <;> rw [e, f] at h <;> split <;> omega
  · rw [bitAnd_np ha hb, nn]
    have h := nat_and_mod b.toNat (-a-1).toNat
    have h1 : b.toNat % 2 = 0 ∨ b.toNat % 2 = 1 := by omega
    have h2 : (-a-1).toNat % 2 = 0 ∨ (-a-1).toNat % 2 = 1 := by omega
    rcases h1 with e | e <;> rcases h2 with f | f <;> rw [e, f] at h <;> split <;> omega
  · rw [bitAnd_nn ha hb, nn, nn, nn]
    have h := nat_or_mod (-a-1).toNat (-b-1).toNat
    have h1 : (-a-1).toNat % 2 = 0 ∨ (-a-1).toNat % 2 = 1 := by omega
    have h2 : (-b-1).toNat % 2 = 0 ∨ (-b-1).toNat % 2 = 1 := by omega
    rcases h1 with e | e <;> rcases h2 with f | f <;> rw [e, f] at h <;> split at h <;> split <;> omega

theorem bit_sum (a b : Int) : Builtin.bitOr ((a / 2 + b / 2) * 2) (Builtin.bitAnd (Builtin.bitAnd a b) 1) = 2 * (a / 2 + b / 2) + (if a % 2 = 1 ∧ b % 2 = 1 then 1 else 0) := by
  rw [bitAnd_m1, and_bit, bitOr_and]
  split
  · rw [bitAnd_m1]; omega
  · rw [bitAnd_zero]; omega
theorem isi {K : PySem.W.Frag} {H : Hp} {x : V} {a b : String} {r : Bool} {Q : VK} (h : TyX K H x (.type a)) (k : kitB a b = some r) (q : Q (.bl r) H) : rIsi K [x, .ty b] H Q := ⟨x, .ty b, _, _, r, rfl, .ty b, h, kit_ty k, q⟩
theorem if_t {b : Bool} {A B : Prop} (h : b = true) (q : A) : if b = true then A else B := by rw [if_pos h]; exact q
theorem if_f {b : Bool} {A B : Prop} (h : b = false) (q : B) : if b = true then A else B := by rw [h, if_neg Bool.false_ne_true]; exact q
/-- a bound, as a value -/
def oV : Option Int → V
  | none => .non
  | some i => .int i
theorem oV_none : oV none = .non := rfl
theorem oV_some (i : Int) : oV (some i) = .int i := rfl
theorem funD_mk {K : PySem.W.Frag} {x qual : Str} {st : Stmt} {f t : Addr} {oc kV doc pm cdv ct : Value} {od an : Option Addr} {osl : Array (Option Value)} {o : Obj} {n : Nat} {its : List Value} {dvs : List V}
    (l : K.lookup f = some ⟨oc, od, .func (PySem.W.fnOf x qual (defArgs st) (defBody st) (defScope st) (.ref t) kV doc pm an cdv ct), osl⟩) (c : PySem.W.codeIn K cdv qual = true) (k : PySem.W.keepIn K (.ref f) = true)
    (lt : K.lookup t = some o) (ld : o.data = .seq its.toArray n) (hv : Vals dvs its) (hd : dvs ≠ []) : FunD K x qual (defArgs st) (defBody st) (defScope st) dvs [] f (PySem.W.fnOf x qual (defArgs st) (defBody st) (defScope st) (.ref t) kV doc pm an cdv ct) :=
  ⟨⟨oc, od, .ref t, kV, doc, pm, an, cdv, ct, osl, rfl, l, c, .inr ⟨hd, t, o, its, n, rfl, lt, ld, hv⟩, .inl rfl⟩, k⟩
section
variable {X : Cx} {D a : Addr} {cls : Value} {d : Option Addr} {oe : Obj} {pn : List (Addr × Obj)}
/-- isinstance of the caught error: its class is told in the reading -/
theorem call_isE2 (hz : Zc cls d oe) (hf : ∃ vs, oe.data = .fields vs) : CallR (X.suite a ((a, oe) :: pn)) (.builtin "isinstance") (fun xs H Q => ∃ D, cls = .ref D ∧ d = none ∧ ExcC X.K D ∧ rIsE X.K D a xs H Q) := by
  intro pins s σ H xs us Q I r ⟨D, h1, h2, C, h⟩
  subst h1; subst h2
  exact call_isE C hz hf pins s σ H xs us Q I r h
end
theorem cut_int {ns : List Int} {lo hi : Option Int} {i : Nat} {x : V} (h : (cutV (ns.map V.int) lo hi)[i]? = some x) : ∃ z, x = .int z := by
  have m := List.mem_of_mem_drop (List.mem_of_mem_take (List.mem_of_getElem? h))
  obtain ⟨z, _, e⟩ := List.mem_map.mp m
  exact ⟨z, e.symm⟩
def kinds : List String := ["int", "bool", "NoneType", "str", "list", "tuple", "dict"]
/-- whether a thing is a whole number -/
def spWhole (K : PySem.W.Frag) : Sp := fun vs H Q _ => ∃ (x : V) (t : String), vs = [x] ∧ TyX K H x (.type t) ∧ t ∈ kinds ∧ Q (.bl (decide (t = "int"))) H
/-- two numbers in lowest terms, as a new tuple -/
def LowT (a b : Int) (H : Hp) (Q : VK) : Prop := ∀ (t u : Int) (p : Addr) (H' : Hp), Low a b t u → Same H H' → H' p = some (.tup [.int t, .int u]) → Q (.ref p) H'
/-- two numbers in lowest terms with a bottom above 0, as a new tuple -/
def RedT (a b : Int) (H : Hp) (Q : VK) : Prop := ∀ (t u : Int) (p : Addr) (H' : Hp), Red a b t u → Same H H' → H' p = some (.tup [.int t, .int u]) → Q (.ref p) H'
theorem ncast (n : Nat) : ((no_index (OfNat.ofNat n) : Nat) : Int) = OfNat.ofNat n := rfl
theorem exm_two {K : PySem.W.Frag} {C : Addr} {cls : Value} {b : Bool} (h1 : PySem.W.subIn K (.ref C) (.type "BaseException") = some true) (h2 : PySem.W.hasDictIn K C = true) (h3 : PySem.W.typeIn K (.ref C) = some (.type "type")) (h4 : PySem.W.subIn K cls (.ref C) = some b) : PySem.W.exmOne K cls (.ref C) = some b := PySem.W.exm_ref h1 h2 h3 h4
/-- isinstance(e, c) of a caught error -/
theorem isE {K : PySem.W.Frag} {D a : Addr} {c : V} {cv : Value} {b : Bool} {H : Hp} {Q : VK} (X : ExcC K D) (hc : ∀ u, RelV c u → u = cv) (k : PySem.W.kitOne K (.ref D) cv = some b) (q : Q (.bl b) H) : ∃ D', Value.ref D = Value.ref D' ∧ (Option.none : Option Addr) = Option.none ∧ ExcC K D' ∧ rIsE K D' a [.ref a, c] H Q :=
  ⟨D, rfl, rfl, X, c, cv, b, rfl, hc, k, q⟩
theorem tyx_same {K : PySem.W.Frag} {H H2 : Hp} (s : Same H H2) {x : V} {t : Value} (h : TyX K H x t) : TyX K H2 x t := by
  cases h with
  | base b =>
    refine .base ?_
    cases b with
    | non => exact .non
    | bl y => exact .bl y
    | int i => exact .int i
    | str y => exact .str y
    | flt y => exact .flt y
    | lst e => exact .lst (s _ _ e)
    | frz e => exact .frz (s _ _ e)
    | tup e => exact .tup (s _ _ e)
    | dK e => exact .dK (s _ _ e)
    | dT e => exact .dT (s _ _ e)
    | ins e cl a b c d => exact .ins (s _ _ e) cl a b c d
  | byt b => exact .byt b
  | set e => exact .set (s _ _ e)
  | kList e c => exact .kList e c
  | kTuple e c => exact .kTuple e c
  | kDict e c => exact .kDict e c
  | fTuple e => exact .fTuple (s _ _ e)
  | fDict e => exact .fDict (s _ _ e)
/-- what stands behind a statement is shown once, for all its ways -/
theorem join_if {t R : TS} {D : Ends} {σ : L2.St} {H : Hp} (P : L2.St → Hp → Prop) (h2 : ∀ σ' H', P σ' H' → R D σ' H') (h1 : (∀ σ' H', P σ' H' → R D σ' H') → tSeq t R D σ H) : tSeq t R D σ H := h1 h2
theorem red_zero {b t u : Int} (R : Red 0 b t u) : Red 0 1 t u := by
  have h1 := R.tle
  have h2 : t = 0 := by simp at h1; exact h1
  subst h2
  have h3 := R.one
  rw [Int.gcd_zero_left] at h3
  exact ⟨R.pos, by simp, R.one, h1, by omega⟩
theorem shaped_ii (a b : Int) : SeqAt.shaped (.tuple [.int a, .int b]) = true := rfl
section
variable {X : Cx} {K : PySem.W.Frag}
theorem call_isiA (h : X.K = K) : CallR X (.builtin "isinstance") (rIsi K) := by subst h; exact call_isi
theorem ix_listA (h : X.K = K) : IxR X (rIxL K) := by subst h; exact ix_list
theorem ix_tupA (h : X.K = K) : IxR X (rIxT K) := by subst h; exact ix_tup
theorem call_tupleLA (h : X.K = K) : CallR X (.type "tuple") (fun xs H Q => ∃ p ys, xs = [.ref p] ∧ SqL K H p ys ∧ ∀ l H2, Same H H2 → H l = none → H2 l = some (.tup ys) → Q (.ref l) H2) := by
  subst h
  exact call_imp call_tuple_of fun _ _ _ ⟨p, ys, e, h, q⟩ => ⟨p, ys, e, .inl ⟨h, fun l hl => q l _ (upd_keep hl) hl upd_same⟩⟩
def tRevN (K : PySem.W.Frag) (te : TE) : TE := fun σ H Q => te σ H fun x H1 => ∃ a xs, x = .ref a ∧ SqL K H1 a xs ∧ ∀ p H2, Same H1 H2 → H1 p = none → H2 p = some (.lst xs.reverse) → Q (.ref p) H2
theorem op_mulOk : OpR X (binaryOp .Mult) (rI IntMulOk fun i j => .int (i * j)) := opI fun _ _ _ _ _ _ _ hc q => mul_int q hc
theorem op_in_seqA (h : X.K = K) : OpR X (compareOp .In) (rIn K false) := by subst h; exact op_in_seq
theorem op_notIn_seqA (h : X.K = K) : OpR X (compareOp .NotIn) (rIn K true) := by subst h; exact op_notIn_seq
theorem pe_indexA {o e : Expr} {to : TE} {t : TA} {apos cpos : PySem.Pos} (h : X.K = K) (ho : PE X o to) (ha : PA X [e] t)
    (hbase : attributeBase o "index" X.env (eval o X.env) = eval o X.env := by rfl)
    (hfew : ((backTo cpos (starEach [e] X.env)).all (fun x => !x.1) && (backToKw cpos (keywordEach [] X.env)).all (fun x => x.1.isSome)
      && decide (([e] : List Expr).length + ([] : List Keyword).length + (if ([] : List Keyword).isEmpty then 0 else 1) < 30)) = true := by rfl)
    (hline : (apos.endLine == cpos.line) = true := by rfl) (hs : starEach [e] X.env = (false, eval e X.env) :: starEach [] X.env := by rfl) (hplain : (backTo cpos (starEach [] X.env)).any (·.1) = false := by rfl) :
    PE X (.Call (.Attribute o "index" apos) [e] [] cpos) (tBM K "list" (rIndex K) to t) := by subst h; exact pe_bm PySem.F.plainAttrs_list PySem.F.slot_list_index PySem.F.type_list_index mt_index ho ha hbase hfew hline hs hplain
theorem pg_tupA {es : List Expr} {k : Nat} {t : TGs} {n : Nat} (h' : X.K = K) (hc : X.calm = true) (h : PGs X es t)
    (hn : (assignEach es X.env).length = n := by rfl) (hst : (assignEach es X.env).findIdx? (·.1) = none := by rfl) {pos : PySem.Pos} : PG X (.Tuple es k pos) (gTup K n t) := by subst h'; exact pg_tup hc h hn hst
theorem pe_fldA {o : Expr} {f : Str} {pos : PySem.Pos} {ta : TE} (h' : X.K = K) (he : PE X o ta) (hb : attributeBase o f X.env (eval o X.env) = eval o X.env) : PE X (.Attribute o f pos) (tFld K ta f) := by subst h'; exact pe_fld he hb
theorem call_len_seqA (h : X.K = K) : CallR X (.builtin "len") (fun xs H Q => ∃ p ys, xs = [.ref p] ∧ (SqL K H p ys ∨ SqT K H p ys) ∧ Q (.int ys.length) H) := by subst h; exact call_len_seq
theorem sl_listA (h : X.K = K) : SlR X (rSlN K) := by subst h; exact sl_listN
theorem call_listA (h : X.K = K) : CallR X (.type "list") (rListN K) := by subst h; exact call_listN
theorem pi_listA {tg l : Expr} {tl : TE} (h : X.K = K) (hl : PE X l tl) : PI X tg l (iList K tl) := by subst h; exact pi_list hl
end
theorem lc_vs {X : Cx} {e : Expr} {wi : TI} {g : TG} {tt : TT} {te : TE} {own : List (Str × Nat)} {vs : List Nat} (h : PE X e (tLc wi g tt te (own.map (·.2)))) (hv : own.map (·.2) = vs) : PE X e (tLc wi g tt te vs) := hv ▸ h
theorem lc_vsS {X : Cx} {e : Stmt} {wi : TI} {g k : TG} {tt : TT} {te : TE} {own : List (Str × Nat)} {vs : List Nat} (h : PS X e (tAsg (tLc wi g tt te (own.map (·.2))) k)) (hv : own.map (·.2) = vs) : PS X e (tAsg (tLc wi g tt te vs) k) := hv ▸ h
theorem same_updN {H H2 : Hp} {D : Addr} {o : HO} (hD : H D = none) (s : Same H H2) : Same H (upd H2 D o) := fun b x e => by
  rw [upd_ne (ne_of_none e hD)]
  exact s b x e
theorem sql_keep {K : PySem.W.Frag} {H H' : Hp} {a : Addr} {xs : List V} (h : SqL K H a xs) (k : ∀ b o, H b = some o → H' b = some o) : SqL K H' a xs := Same.seq (show Same H H' from k) h
theorem dpall_of {K : PySem.W.Frag} {H : Hp} : ∀ {vs : List V} {ds : List PyData}, vs.length = ds.length → (∀ (k : Nat) (v : V) (d : PyData), vs[k]? = some v → ds[k]? = some d → Dp K H v d) → DpAll K H vs ds
  | [], [], _, _ => .nil
  | [], _ :: _, h, _ => by cases h
  | _ :: _, [], h, _ => by cases h
  | v :: vs, d :: ds, h, k => .cons (k 0 v d rfl rfl) (dpall_of (Nat.succ.inj h) fun j v' d' h1 h2 => k (j + 1) v' d' h1 h2)
theorem shaped_list {ds : List PyData} (h : ∀ d ∈ ds, d.canLay0 = true ∧ d.depth ≤ 60) : SeqAt.shaped (.list ds) = true := by
  have key : ∀ ds : List PyData, (∀ d ∈ ds, d.canLay0 = true ∧ d.depth ≤ 60) → PyData.canLayAll0 ds = true ∧ PyData.depthAll ds ≤ 60 := by
    intro ds
    induction ds with
    | nil => intro _; exact ⟨rfl, Nat.zero_le _⟩
    | cons d ds ih =>
      intro h
      have h1 := h d (List.mem_cons_self ..)
      have h2 := ih fun x hx => h x (List.mem_cons_of_mem _ hx)
      refine ⟨by show (d.canLay0 && PyData.canLayAll0 ds) = true; rw [h1.1, h2.1]; rfl, ?_⟩
      show max d.depth (PyData.depthAll ds) ≤ 60
      omega
  have z := key ds h
  refine Bool.and_eq_true_iff.mpr ⟨z.1, decide_eq_true ?_⟩
  show PyData.depthAll ds + 1 ≤ 64
  omega
/-- whether a fraction is let by a bound -/
def letsO : Option Int → Int → Int → Bool
  | none, _, _ => true
  | some b, t, u => decide (t < b / 2 * u ∨ (t = b / 2 * u ∧ b % 2 = 1))
def narO : Option Int → Option Int → Option Int
  | none, y => y
  | some a, none => some a
  | some a, some b => some (if b < a then b else a)
/-- a fraction's tuple -/
def FracAt (n : Nat) (H : Hp) (v : V) : Prop := ∃ (q : Addr) (t u : Int), v = .ref q ∧ H q = some (.tup [.int t, .int u]) ∧ 0 < u ∧ Sz n t ∧ Sz n u
theorem FracAt.keep {n : Nat} {H H' : Hp} {v : V} (s : Same H H') (h : FracAt n H v) : FracAt n H' v := by
  obtain ⟨q, t, u, e, e2, r⟩ := h
  exact ⟨q, t, u, e, s _ _ e2, r⟩
theorem join_bl {b : Bool} {P : Prop} (h1 : b = true → P) (h2 : b = false → P) : P := by cases b; exact h2 rfl; exact h1 rfl
/-- a for over a list, behind its iterable's reading -/
def ForL (K : PySem.W.Frag) (a : Addr) (g : TG) (tb : TS) (D : Ends) (σ : L2.St) (H : Hp) : Prop := ∃ W : Nat → Nat → L2.St → Hp → Prop, (∃ m, W 0 m σ H) ∧ ∀ i m σ H, W i m σ H →
  ((Itl K a).stop i H ∧ D.nx σ H) ∨ ((Itl K a).go i H ∧ ∃ N : L2.St → Hp → Prop, (∀ σ' H', N σ' H' → ∃ m', m' < m ∧ W (i + 1) m' σ' H') ∧ ∀ x H', (Itl K a).yld i H x H' → g x σ H' fun σ2 H2 => tb { D with nx := N, ct := N, bk := D.nx } σ2 H2)
theorem for_li {K : PySem.W.Frag} {te : TE} {g : TG} {tb : TS} {D : Ends} {σ : L2.St} {H : Hp} (h : te σ H fun x H1 => ∃ a, x = .ref a ∧ (∃ xs, SqL K H1 a xs) ∧ ForL K a g tb D σ H1) : tFor (iList K te) g tb D σ H := h
theorem forL_by {K : PySem.W.Frag} {a : Addr} {xs : List V} {g : TG} {tb : TS} {D : Ends} {σ : L2.St} {H : Hp} (Pv : Nat → L2.St → Hp → Prop) (h0 : Pv 0 σ H) (hl : ∀ i σ H, i ≤ xs.length → Pv i σ H → SqL K H a xs)
    (hs : ∀ i x σ H, xs[i]? = some x → Pv i σ H → g x σ H fun σ2 H2 => tb { D with nx := Pv (i + 1), ct := Pv (i + 1), bk := D.nx } σ2 H2) (hd : ∀ σ H, Pv xs.length σ H → D.nx σ H) : (∃ ys, SqL K H a ys) ∧ ForL K a g tb D σ H :=
  ⟨⟨xs, hl 0 σ H (Nat.zero_le _) h0⟩, for_list (K := K) (a := a) (xs := xs) Pv h0 hl hs hd⟩
/-- what is asked whether it is a fraction, and the answer -/
inductive FrIn (K : PySem.W.Frag) (H : Hp) : V → Bool → Prop where
  | other {x : V} {t : String} (h : TyX K H x (.type t)) (k : t ∈ kinds) (n : t ≠ "tuple") : FrIn K H x false
  | len {p : Addr} {xs : List V} (h : H p = some (.tup xs)) (n : xs.length ≠ 2) : FrIn K H (.ref p) false
  | odd {p : Addr} {v0 v1 : V} {t0 t1 : String} (h : H p = some (.tup [v0, v1])) (h0 : TyX K H v0 (.type t0)) (h1 : TyX K H v1 (.type t1)) (k0 : t0 ∈ kinds) (k1 : t1 ∈ kinds) (n : t0 ≠ "int" ∨ t1 ≠ "int") : FrIn K H (.ref p) false
  | num {p : Addr} {a b : Int} (h : H p = some (.tup [.int a, .int b])) : FrIn K H (.ref p) (decide (1 ≤ b ∧ Int.gcd a b = 1))
theorem FrIn.keep {K : PySem.W.Frag} {H H' : Hp} {x : V} {b : Bool} (s : Same H H') (h : FrIn K H x b) : FrIn K H' x b := by
  cases h with
  | other h k n => exact .other (tyx_same s h) k n
  | len h n => exact .len (s _ _ h) n
  | odd h h0 h1 k0 k1 n => exact .odd (s _ _ h) (tyx_same s h0) (tyx_same s h1) k0 k1 n
  | num h => exact .num (s _ _ h)
def tDictN : TE := fun _ H Q => ∀ p H2, Same H H2 → H p = none → H2 p = some (.dK []) → Q (.ref p) H2
theorem pe_dnewN {X : Cx} {pos : Pos} : PE X (.Dict [] [] pos) tDictN := pe_imp pe_dnewK fun _ _ _ q p hp => q p _ (upd_keep hp) hp upd_same
theorem fr_no {K : PySem.W.Frag} {H : Hp} {p : Addr} {a b : Int} (h : H p = some (.tup [.int a, .int b])) (n : ¬ (1 ≤ b ∧ Int.gcd a b = 1)) : FrIn K H (.ref p) false := by
  have z := FrIn.num (K := K) h
  rw [decide_eq_false n] at z
  exact z
def addO : Option Int → Option Int → Option Int
  | some a, some b => some (2 * (a / 2 + b / 2) + (if a % 2 = 1 ∧ b % 2 = 1 then 1 else 0))
  | _, _ => none
/-- a for over a range, behind its bound's reading -/
def ForR (n : Nat) (g : TG) (tb : TS) (D : Ends) (σ : L2.St) (H : Hp) : Prop := ∃ W : Nat → Nat → L2.St → Hp → Prop, (∃ m, W 0 m σ H) ∧ ∀ i m σ H, W i m σ H →
  ((Itr 0 n).stop i H ∧ D.nx σ H) ∨ ((Itr 0 n).go i H ∧ ∃ N : L2.St → Hp → Prop, (∀ σ' H', N σ' H' → ∃ m', m' < m ∧ W (i + 1) m' σ' H') ∧ ∀ x H', (Itr 0 n).yld i H x H' → g x σ H' fun σ2 H2 => tb { D with nx := N, ct := N, bk := D.nx } σ2 H2)
theorem for_rg {ta : TA} {g : TG} {tb : TS} {D : Ends} {σ : L2.St} {H : Hp} (h : ta σ H fun vs H1 => ∃ j : Int, vs = [.int j] ∧ -(2 ^ 62) ≤ j ∧ j < 2 ^ 62 ∧ ForR j.toNat g tb D σ H1) : tFor (iRng1 ta) g tb D σ H := h
theorem forR_by {n : Nat} {g : TG} {tb : TS} {D : Ends} {σ : L2.St} {H : Hp} (Pv : Nat → L2.St → Hp → Prop) (h0 : Pv 0 σ H)
    (hs : ∀ i σ H, i < n → Pv i σ H → g (.int (0 + i)) σ H fun σ2 H2 => tb { D with nx := Pv (i + 1), ct := Pv (i + 1), bk := D.nx } σ2 H2) (hd : ∀ σ H, Pv n σ H → D.nx σ H) : ForR n g tb D σ H := for_range (lo := 0) (n := n) Pv h0 hs hd
theorem rg_ok {n : Nat} (h : n ≤ 100000) : -(2 ^ 62) ≤ ((n : Nat) : Int) ∧ ((n : Nat) : Int) < 2 ^ 62 := by constructor <;> omega
theorem cut_from {xs : List V} {k : Nat} (h : k ≤ xs.length) : cutV xs (some (k : Int)) none = xs.drop k := by
  unfold cutV
  rw [HT.sIx_none, HT.sIx_nat, Nat.min_eq_left h]
  exact List.take_of_length_le (by rw [List.length_drop]; exact Nat.le_refl _)
/-- xs.append(v) -/
theorem app_at {H : Hp} {l : Addr} {xs : List V} {v : V} {Q : VK} (h : H l = some (.lst xs)) (hl : xs.length ≤ 1000) (q : Q .non (upd H l (.lst (xs ++ [v])))) : rAppend (.ref l) [v] H Q := ⟨l, xs, v, rfl, rfl, h, small1000 hl, q⟩
/-- the same, what stands behind kept closed -/
theorem join_op {t R : TS} {D : Ends} {σ : L2.St} {H : Hp} (P : L2.St → Hp → Prop) (h2 : ∀ σ' H', P σ' H' → R D σ' H') (h1 : ∀ R' : TS, (∀ σ' H', P σ' H' → R' D σ' H') → tSeq t R' D σ H) : tSeq t R D σ H := h1 R h2
theorem ex_int {i : Int} {P : Int → Prop} (h : P i) : ∃ j, V.int i = V.int j ∧ P j := ⟨i, rfl, h⟩
theorem pi_tupA {X : Cx} {K : PySem.W.Frag} {tg l : Expr} {tl : TE} (h : X.K = K) (hl : PE X l tl) : PI X tg l (iTup K tl) := by subst h; exact pi_tup hl
/-- a for over a tuple, behind its iterable's reading -/
def ForT (K : PySem.W.Frag) (a : Addr) (g : TG) (tb : TS) (D : Ends) (σ : L2.St) (H : Hp) : Prop := ∃ W : Nat → Nat → L2.St → Hp → Prop, (∃ m, W 0 m σ H) ∧ ∀ i m σ H, W i m σ H →
  ((Itt K a).stop i H ∧ D.nx σ H) ∨ ((Itt K a).go i H ∧ ∃ N : L2.St → Hp → Prop, (∀ σ' H', N σ' H' → ∃ m', m' < m ∧ W (i + 1) m' σ' H') ∧ ∀ x H', (Itt K a).yld i H x H' → g x σ H' fun σ2 H2 => tb { D with nx := N, ct := N, bk := D.nx } σ2 H2)
theorem for_tp {K : PySem.W.Frag} {te : TE} {g : TG} {tb : TS} {D : Ends} {σ : L2.St} {H : Hp} (h : te σ H fun x H1 => ∃ a, x = .ref a ∧ (∃ xs, SqT K H1 a xs) ∧ ForT K a g tb D σ H1) : tFor (iTup K te) g tb D σ H := h
theorem forT_by {K : PySem.W.Frag} {a : Addr} {xs : List V} {g : TG} {tb : TS} {D : Ends} {σ : L2.St} {H : Hp} (Pv : Nat → L2.St → Hp → Prop) (h0 : Pv 0 σ H) (hl : ∀ i σ H, i ≤ xs.length → Pv i σ H → SqT K H a xs)
    (hs : ∀ i x σ H, xs[i]? = some x → Pv i σ H → g x σ H fun σ2 H2 => tb { D with nx := Pv (i + 1), ct := Pv (i + 1), bk := D.nx } σ2 H2) (hd : ∀ σ H, Pv xs.length σ H → D.nx σ H) : (∃ ys, SqT K H a ys) ∧ ForT K a g tb D σ H :=
  ⟨⟨xs, hl 0 σ H (Nat.zero_le _) h0⟩, for_tup (K := K) (a := a) (xs := xs) Pv h0 hl hs hd⟩
/-! ### own classes -/
/-- what isinstance asks of an own class -/
structure OwnCls (K : PySem.W.Frag) (C : Addr) : Prop where
  hc : PySem.W.findIn K (.ref C) "__class__" = some (some (.builtin "object.__class__"))
  hn : PySem.W.specialIn K (.builtin "object.__class__") "__get__" = some (some (.builtin "getset_descriptor.__get__"))
  ht : PySem.W.takesIn K (.builtin "object.__class__") = some true
  hm : PySem.W.mroIn K C (.type "object") = some true
/-- isinstance of an own instance and its class -/
theorem is_own {K : PySem.W.Frag} {H : Hp} {p C dx : Addr} {fs : List (Str × V)} {Q : VK} (h : H p = some (.ins C dx fs)) (c : Cls K C) (o : OwnCls K C) (q : Q (.bl true) H) : rIsi K [.ref p, .ref C] H Q :=
  ⟨.ref p, .ref C, _, _, true, rfl, .own C, .base (.ins h c o.hc o.hn o.ht o.hm), by unfold PySem.W.kitOne; simp, q⟩
/-- a new instance: nothing but what is tracked is told of the heap behind -/
def tMakeN (C : Addr) (sp : Sp) (dvs : List V) (E : XK) (t : TA) : TE := fun σ H Q => t σ H fun vs H1 => ∀ x dx H2, Same H1 H2 → H1 x = none → H2 x = some (.ins C dx []) → sp (.ref x :: (vs ++ dvs)) H2 (fun v H3 => v = .non ∧ Q (.ref x) H3) E
section
variable {X : Cx} {CX : CXT} {k : Nat} {f C : Addr} {fd : FuncData} {ps : List Str} {ds : List Value} {dvs : List V} {sp : Sp} {E : XK} {x : Str} {e : Expr} {es : List Expr} {t : TA} {p pos : Pos}
theorem pe_makeN (M : Mk X.K C f) (F : FnOk X.prog X.w X.K X.mg X.base CX k f fd ps sp) (hr : Room (k + 1) X.A) (hg : Gl X x) (hm : X.mg x = some (.ref C)) (hb : Binds X.K fd ps ds) (hd : Vals dvs ds) (hx : Passes CX X E)
    (ha : PA X (e :: es) t) (hdb : (x == ("__debug__" : Str)) = false := by decide) (he : starEach (e :: es) X.env = (false, eval e X.env) :: starEach es X.env := by rfl) (hpl : (backTo pos (starEach es X.env)).any (·.1) = false := by rfl) :
    PE X (.Call (.Name x p) (e :: es) [] pos) (tMakeN C sp dvs E t) :=
  pe_imp (pe_make M F hr hg hm hb hd hx (pa_wk ha) hdb he hpl) fun σ H Q q => ⟨_, q, fun vs H1 q2 a dx h1 h2 ne => q2 a dx _ (fun b o z => by rw [upd_ne (ne_of_none z h1), upd_ne (ne_of_none z h2)]; exact z) h1 upd_same⟩
end
end ZW

namespace ZW
open PySem PySem.Spec PyProof.Rows L2
theorem dvl_2 : DivOk 2 = True := eq_true ⟨by decide, by decide +kernel⟩
theorem dvl_3 : DivOk 3 = True := eq_true ⟨by decide, by decide +kernel⟩
theorem dvl_4 : DivOk 4 = True := eq_true ⟨by decide, by decide +kernel⟩
theorem dvl_6 : DivOk 6 = True := eq_true ⟨by decide, by decide +kernel⟩
theorem dvl_7 : DivOk 7 = True := eq_true ⟨by decide, by decide +kernel⟩
theorem dvl_8 : DivOk 8 = True := eq_true ⟨by decide, by decide +kernel⟩
theorem dvl_12 : DivOk 12 = True := eq_true ⟨by decide, by decide +kernel⟩
theorem dvl_15 : DivOk 15 = True := eq_true ⟨by decide, by decide +kernel⟩
theorem dvl_16 : DivOk 16 = True := eq_true ⟨by decide, by decide +kernel⟩
theorem dvl_24 : DivOk 24 = True := eq_true ⟨by decide, by decide +kernel⟩
theorem dvl_26 : DivOk 26 = True := eq_true ⟨by decide, by decide +kernel⟩
theorem dvl_28 : DivOk 28 = True := eq_true ⟨by decide, by decide +kernel⟩
theorem dvl_840 : DivOk 840 = True := eq_true ⟨by decide, by decide +kernel⟩
theorem dvl_6720 : DivOk 6720 = True := eq_true ⟨by decide, by decide +kernel⟩
theorem dvl_1000000000000000000000000000000000000000000000 : DivOk 1000000000000000000000000000000000000000000000 = True := eq_true ⟨by decide, by decide +kernel⟩
theorem pwl_2_4 : CPow 2 4 = True := eq_true ⟨by decide, by decide, by decide +kernel⟩
theorem pwl_10_15 : CPow 10 15 = True := eq_true ⟨by decide, by decide, by decide +kernel⟩
theorem pwl_10_18 : CPow 10 18 = True := eq_true ⟨by decide, by decide, by decide +kernel⟩
theorem pwl_10_30 : CPow 10 30 = True := eq_true ⟨by decide, by decide, by decide +kernel⟩
theorem pwl_10_40 : CPow 10 40 = True := eq_true ⟨by decide, by decide, by decide +kernel⟩
theorem pwl_10_45 : CPow 10 45 = True := eq_true ⟨by decide, by decide, by decide +kernel⟩
end ZW
local macro_rules | `(tactic| walk_at "rd") => `(tactic| ((try simp only [L2.start, List.map_cons, List.map_nil, List.length_cons, List.length_nil, Nat.reduceAdd, Nat.zero_add, Nat.reduceSub, Nat.sub_self, List.replicate, List.cons_append, List.nil_append, List.append_nil]); try simp only [L2.tIfS, L2.tTest, L2.tB, L2.tOp, L2.tUn, L2.tVar, L2.tC, L2.tRet, L2.tRetN, L2.tNext, L2.tAsg, L2.tPar, L2.gName, L2.tCons, L2.tNil, L2.tCall, L2.tCB, L2.tAnd, L2.tOr, L2.tNot, L2.tAndV, L2.tOrV, L2.tNotV, L2.tIf, L2.rI0, L2.rI, L2.rU, L2.rAdd, L2.rSub, L2.rEq, L2.rNe, L2.scal, L2.tTup, L2.tLst, ZW.tTupN, ZW.tLstN, L2.tSl, L2.tPart, L2.tNoPart, ZW.rSlN, ZW.rCatN, ZW.rRepN, ZW.rListN, ZW.rIntB,  L2.tDrop, L2.tIsN, L2.tNotN, L2.tCmp, L2.t2I,
  List.map_cons, List.map_nil, List.length_cons, List.length_nil, List.append_nil, List.nil_append, List.cons_append, List.getElem?_cons_zero, List.getElem?_cons_succ, List.set_cons_zero, List.set_cons_succ, Nat.reduceSub, Nat.reduceAdd, Nat.sub_self, Nat.zero_add, List.getElem?_nil, List.append_eq,
  Option.some.injEq, L2.V.int.injEq, L2.V.bl.injEq, L2.V.ref.injEq, reduceCtorEq, exists_eq_left', exists_eq_left, exists_eq, true_and, and_true, exists_and_left, exists_eq_right, exists_eq_right', decide_true, decide_false, Bool.not_true, Bool.not_false, if_true, if_false, ite_true, ite_false, Bool.false_eq_true, List.cons.injEq, ite_self, and_self, and_assoc, L2.gCons, L2.gNil, Int.reduceToNat, Int.reduceMul, Int.reduceSub, Int.reduceAdd, Int.reduceNe, Int.reduceLE, Int.reduceLT, Int.reduceNeg, Int.reduceEq, ZW.dvl_2, ZW.dvl_3, ZW.dvl_4, ZW.dvl_6, ZW.dvl_7, ZW.dvl_8, ZW.dvl_12, ZW.dvl_15, ZW.dvl_16, ZW.dvl_24, ZW.dvl_26, ZW.dvl_28, ZW.dvl_840, ZW.dvl_6720, ZW.dvl_1000000000000000000000000000000000000000000000, ZW.pwl_2_4, ZW.pwl_10_15, ZW.pwl_10_18, ZW.pwl_10_30, ZW.pwl_10_40, ZW.pwl_10_45, ZW.sz_line, Nat.reduceLT, Nat.reduceLeDiff, Nat.reduceLeDiff, ne_eq, not_false_eq_true, Int.reducePow, Int.pow_one,  forall_const, implies_true, ZW.cxK, ZW.ncast, L2.tCallS, L2.tYes, L2.gSub, Int.zero_add, ZW.tDictN, L2.wipe, L2.tDGet, L2.tDIn, L2.tDNotIn, L2.sDPut]))
local macro_rules | `(tactic| walk_at "ix") => `(tactic| (walk_at "rd"; first | refine ZW.ix_l (L2.SqL.of (by assumption)) (by decide) rfl ?_ | refine ZW.ix_t (L2.SqT.of (by assumption)) (by decide) rfl ?_))
local macro_rules | `(tactic| walk_at "sq") => `(tactic| (walk_at "rd"; refine ZW.seq_step ?_; walk_at "rd"))
local macro_rules | `(tactic| walk_at "isT") => `(tactic| (walk_at "rd"; refine ZW.isi (r := true) (by first | exact .base (.int _) | exact .base (.bl _) | exact .base .non | exact .base (.str _) | exact .base (.tup (by assumption)) | exact .base (.lst (by assumption)) | exact .base (.dK (by assumption))) (by decide +kernel) ?_; walk_at "rd"))
local macro_rules | `(tactic| walk_at "isF") => `(tactic| (walk_at "rd"; refine ZW.isi (r := false) (by first | exact .base (.int _) | exact .base (.bl _) | exact .base .non | exact .base (.str _) | exact .base (.tup (by assumption)) | exact .base (.lst (by assumption)) | exact .base (.dK (by assumption))) (by decide +kernel) ?_; walk_at "rd"))
local macro_rules | `(tactic| walk_at "rt") => `(tactic| (walk_at "rd"; (try simp only [L2.V.str.injEq, L2.tChain, exists_eq_left', exists_eq_left, exists_eq_right', true_and, and_true, exists_and_left]); (try walk_at "rd"); (try simp only [L2.V.str.injEq, exists_eq_left', exists_eq_left, exists_eq_right', true_and, and_true, exists_and_left])))

namespace ZW
open PySem PySem.Spec PyProof.Rows L2
def topS (i : Nat) : Stmt := PySem.Challenge.pw_zonewalk_k71_long_watches.main.body.getD i (.Pass ⟨0, 0, 0, 0⟩)
abbrev s_is_whole : Stmt := topS 8
theorem sc_is_whole : FnScope ["thing"] ["thing"] (defScope s_is_whole) := ⟨rfl, rfl, rfl, by decide +kernel, rfl, by decide +kernel, by decide +kernel⟩
abbrev s_of_signs : Stmt := topS 16
theorem sc_of_signs : FnScope ["thing", "signs", "most", "sign"] ["thing", "signs", "most"] (defScope s_of_signs) := ⟨rfl, rfl, rfl, by decide +kernel, rfl, by decide +kernel, by decide +kernel⟩
abbrev s_is_name : Stmt := topS 17
theorem sc_is_name : FnScope ["thing"] ["thing"] (defScope s_is_name) := ⟨rfl, rfl, rfl, by decide +kernel, rfl, by decide +kernel, by decide +kernel⟩
abbrev s_is_watch_name : Stmt := topS 18
theorem sc_is_watch_name : FnScope ["thing"] ["thing"] (defScope s_is_watch_name) := ⟨rfl, rfl, rfl, by decide +kernel, rfl, by decide +kernel, by decide +kernel⟩
abbrev s_is_sign : Stmt := topS 19
theorem sc_is_sign : FnScope ["thing"] ["thing"] (defScope s_is_sign) := ⟨rfl, rfl, rfl, by decide +kernel, rfl, by decide +kernel, by decide +kernel⟩
abbrev s_is_look : Stmt := topS 20
theorem sc_is_look : FnScope ["thing", "words", "watches"] ["thing", "words", "watches"] (defScope s_is_look) := ⟨rfl, rfl, rfl, by decide +kernel, rfl, by decide +kernel, by decide +kernel⟩
abbrev s_is_guard : Stmt := topS 21
theorem sc_is_guard : FnScope ["thing", "words", "watches", "look"] ["thing", "words", "watches"] (defScope s_is_guard) := ⟨rfl, rfl, rfl, by decide +kernel, rfl, by decide +kernel, by decide +kernel⟩
abbrev s_unlike : Stmt := topS 22
theorem sc_unlike : FnScope ["things"] ["things"] (defScope s_unlike) := ⟨rfl, rfl, rfl, by decide +kernel, rfl, by decide +kernel, by decide +kernel⟩
abbrev s_own : Stmt := topS 23
theorem sc_own : FnScope ["thing"] ["thing"] (defScope s_own) := ⟨rfl, rfl, rfl, by decide +kernel, rfl, by decide +kernel, by decide +kernel⟩
abbrev s_Door_init : Stmt := inClass (topS 24) 0
theorem sc_Door_init : FnScope ["self", "start", "end", "guard", "noughts", "sign"] ["self", "start", "end", "guard", "noughts", "sign"] (defScope s_Door_init) := ⟨rfl, rfl, rfl, by decide +kernel, rfl, by decide +kernel, by decide +kernel⟩
abbrev s_Door_asks : Stmt := inClass (topS 24) 1
theorem sc_Door_asks : FnScope ["self"] ["self"] (defScope s_Door_asks) := ⟨rfl, rfl, rfl, by decide +kernel, rfl, by decide +kernel, by decide +kernel⟩
abbrev s_Door_sets : Stmt := inClass (topS 24) 2
theorem sc_Door_sets : FnScope ["self"] ["self"] (defScope s_Door_sets) := ⟨rfl, rfl, rfl, by decide +kernel, rfl, by decide +kernel, by decide +kernel⟩
abbrev s_are_watches : Stmt := topS 25
theorem sc_are_watches : FnScope ["thing", "watch"] ["thing"] (defScope s_are_watches) := ⟨rfl, rfl, rfl, by decide +kernel, rfl, by decide +kernel, by decide +kernel⟩
abbrev s_is_room : Stmt := topS 26
theorem sc_is_room : FnScope ["thing", "watches"] ["thing", "watches"] (defScope s_is_room) := ⟨rfl, rfl, rfl, by decide +kernel, rfl, by decide +kernel, by decide +kernel⟩
abbrev s_are_rooms : Stmt := topS 27
theorem sc_are_rooms : FnScope ["thing", "watches", "room"] ["thing", "watches"] (defScope s_are_rooms) := ⟨rfl, rfl, rfl, by decide +kernel, rfl, by decide +kernel, by decide +kernel⟩
abbrev s_is_door : Stmt := topS 28
theorem sc_is_door : FnScope ["thing", "watches", "names", "name", "noughts", "watch"] ["thing", "watches", "names"] (defScope s_is_door) := ⟨rfl, rfl, rfl, by decide +kernel, rfl, by decide +kernel, by decide +kernel⟩
abbrev s_Machine_init : Stmt := inClass (topS 29) 0
theorem sc_Machine_init : FnScope ["self", "watches", "rooms", "doors", "names", "room", "door"] ["self", "watches", "rooms", "doors"] (defScope s_Machine_init) := ⟨rfl, rfl, rfl, by decide +kernel, rfl, by decide +kernel, by decide +kernel⟩
abbrev s_Machine_watches : Stmt := inClass (topS 29) 1
theorem sc_Machine_watches : FnScope ["self"] ["self"] (defScope s_Machine_watches) := ⟨rfl, rfl, rfl, by decide +kernel, rfl, by decide +kernel, by decide +kernel⟩
abbrev s_Machine_rooms : Stmt := inClass (topS 29) 2
theorem sc_Machine_rooms : FnScope ["self"] ["self"] (defScope s_Machine_rooms) := ⟨rfl, rfl, rfl, by decide +kernel, rfl, by decide +kernel, by decide +kernel⟩
abbrev s_Machine_doors : Stmt := inClass (topS 29) 3
theorem sc_Machine_doors : FnScope ["self"] ["self"] (defScope s_Machine_doors) := ⟨rfl, rfl, rfl, by decide +kernel, rfl, by decide +kernel, by decide +kernel⟩
abbrev s_Machine_stay : Stmt := inClass (topS 29) 4
theorem sc_Machine_stay : FnScope ["self", "room"] ["self", "room"] (defScope s_Machine_stay) := ⟨rfl, rfl, rfl, by decide +kernel, rfl, by decide +kernel, by decide +kernel⟩
abbrev s_with_long : Stmt := topS 32
theorem sc_with_long : FnScope ["machine", "rooms", "room"] ["machine"] (defScope s_with_long) := ⟨rfl, rfl, rfl, by decide +kernel, rfl, by decide +kernel, by decide +kernel⟩
abbrev s_cut_off : Stmt := topS 33
theorem sc_cut_off : FnScope ["machine", "room", "doors", "door", "name"] ["machine", "room"] (defScope s_cut_off) := ⟨rfl, rfl, rfl, by decide +kernel, rfl, by decide +kernel, by decide +kernel⟩
abbrev s_l_cell_at : Stmt := topS 35
theorem sc_l_cell_at : FnScope ["_law_script", "_law_k"] ["_law_script", "_law_k"] (defScope s_l_cell_at) := ⟨rfl, rfl, rfl, by decide +kernel, rfl, by decide +kernel, by decide +kernel⟩
abbrev s_l_stream : Stmt := topS 36
theorem sc_l_stream : FnScope ["_law_cell", "_law_many", "_law_found", "_law_rest", "_law_k", "_law_number_here"] ["_law_cell", "_law_many"] (defScope s_l_stream) := ⟨rfl, rfl, rfl, by decide +kernel, rfl, by decide +kernel, by decide +kernel⟩
abbrev s_l_names : Stmt := topS 37
theorem sc_l_names : FnScope ["_law_cell", "_law_many", "_law_letters", "_law_size", "_law_at", "_law_names_here", "_law_k", "_law_word", "_law_j"] ["_law_cell", "_law_many"] (defScope s_l_names) := ⟨rfl, rfl, rfl, by decide +kernel, rfl, by decide +kernel, by decide +kernel⟩
abbrev s_l_number : Stmt := topS 38
theorem sc_l_number : FnScope ["_law_x", "_law_unit"] ["_law_x", "_law_unit"] (defScope s_l_number) := ⟨rfl, rfl, rfl, by decide +kernel, rfl, by decide +kernel, by decide +kernel⟩
abbrev s_l_guard : Stmt := topS 39
theorem sc_l_guard : FnScope ["_law_xs", "_law_unit", "_law_watches", "_law_guard_here", "_law_k", "_law_word"] ["_law_xs", "_law_unit", "_law_watches"] (defScope s_l_guard) := ⟨rfl, rfl, rfl, by decide +kernel, rfl, by decide +kernel, by decide +kernel⟩
abbrev s_l_stay : Stmt := topS 40
theorem sc_l_stay : FnScope ["_law_xs", "_law_unit", "_law_watches", "_law_stay_here", "_law_k", "_law_number_here"] ["_law_xs", "_law_unit", "_law_watches"] (defScope s_l_stay) := ⟨rfl, rfl, rfl, by decide +kernel, rfl, by decide +kernel, by decide +kernel⟩
abbrev s_l_door : Stmt := topS 41
theorem sc_l_door : FnScope ["_law_cell", "_law_unit", "_law_watches", "_law_many", "_law_xs", "_law_noughts", "_law_sign", "_law_k"] ["_law_cell", "_law_unit", "_law_watches", "_law_many"] (defScope s_l_door) := ⟨rfl, rfl, rfl, by decide +kernel, rfl, by decide +kernel, by decide +kernel⟩
abbrev s_l_machine : Stmt := topS 42
theorem sc_l_machine : FnScope ["_law_script", "_law_first", "_law_second", "_law_unit", "_law_watches", "_law_names_here", "_law_rooms", "_law_k", "_law_xs", "_law_doors", "_law_cell"] ["_law_script"] (defScope s_l_machine) := ⟨rfl, rfl, rfl, by decide +kernel, rfl, by decide +kernel, by decide +kernel⟩
abbrev s_l_made : Stmt := topS 43
theorem sc_l_made : FnScope ["_law_spec", "_law_watches", "_law_rooms", "_law_doors", "_law_built", "_law_begin", "_law_end", "_law_guard_here", "_law_noughts", "_law_sign", "_law_name", "_law_stay_here"] ["_law_spec"] (defScope s_l_made) := ⟨rfl, rfl, rfl, by decide +kernel, rfl, by decide +kernel, by decide +kernel⟩
abbrev s_l_told : Stmt := topS 44
theorem sc_l_told : FnScope ["_law_machine_here", "_law_rooms", "_law_doors", "_law_room", "_law_door_here"] ["_law_machine_here"] (defScope s_l_told) := ⟨rfl, rfl, rfl, by decide +kernel, rfl, by decide +kernel, by decide +kernel⟩
abbrev s_l_plain : Stmt := topS 45
theorem sc_l_plain : FnScope ["_law_spec", "_law_watches", "_law_rooms", "_law_doors", "_law_some", "_law_begin", "_law_end", "_law_guard_here", "_law_noughts", "_law_sign"] ["_law_spec"] (defScope s_l_plain) := ⟨rfl, rfl, rfl, by decide +kernel, rfl, by decide +kernel, by decide +kernel⟩
abbrev s_l_refused : Stmt := topS 46
theorem sc_l_refused : FnScope ["_law_which", "_law_machine_here", "_law_room", "_law_found", "_law_good", "e"] ["_law_which", "_law_machine_here", "_law_room"] (defScope s_l_refused) := ⟨rfl, rfl, rfl, by decide +kernel, rfl, by decide +kernel, by decide +kernel⟩
abbrev s_l_more : Stmt := topS 47
theorem sc_l_more : FnScope ["_law_spec", "_law_cell", "_law_watches", "_law_rooms", "_law_doors", "_law_watch"] ["_law_spec", "_law_cell"] (defScope s_l_more) := ⟨rfl, rfl, rfl, by decide +kernel, rfl, by decide +kernel, by decide +kernel⟩
abbrev s_law : Stmt := topS 48
theorem sc_law : FnScope ["_law_script", "_law_cell", "_law_spec", "_law_watches", "_law_rooms", "_law_doors", "_law_machine_here", "_law_plain_here", "_law_found", "_law_room", "_law_cut", "_law_begin", "_law_end", "_law_guard_here", "_law_noughts", "_law_sign"] ["_law_script"] (defScope s_law) := ⟨rfl, rfl, rfl, by decide +kernel, rfl, by decide +kernel, by decide +kernel⟩
structure Top (K : PySem.W.Frag) (mg : Str → Option Value) where
  C_Door : Addr
  g_Door : mg "Door" = some (.ref C_Door)
  cl_Door : Cls K C_Door
  ty_Door : OwnCls K C_Door
  n_Door_backs : NoAttr K C_Door "backs"
  n_Door_end : NoAttr K C_Door "end"
  n_Door_looks : NoAttr K C_Door "looks"
  n_Door_sign : NoAttr K C_Door "sign"
  n_Door_start : NoAttr K C_Door "start"
  C_Machine : Addr
  g_Machine : mg "Machine" = some (.ref C_Machine)
  cl_Machine : Cls K C_Machine
  ty_Machine : OwnCls K C_Machine
  n_Machine_door_list : NoAttr K C_Machine "door_list"
  n_Machine_room_names : NoAttr K C_Machine "room_names"
  n_Machine_stay_looks : NoAttr K C_Machine "stay_looks"
  n_Machine_watch_names : NoAttr K C_Machine "watch_names"
  t_BELOW : Addr
  g_BELOW : mg "BELOW" = some (.ref t_BELOW)
  q_BELOW : ∀ H, SqT K H t_BELOW ((["<", "<="] : List Str).map V.str)
  t_WORDS : Addr
  g_WORDS : mg "WORDS" = some (.ref t_WORDS)
  q_WORDS : ∀ H, SqT K H t_WORDS ((["<", "<=", ">", ">=", "="] : List Str).map V.str)
  f_is_whole : Addr
  d_is_whole : FuncData
  F_is_whole : Fun K "is_whole" "is_whole" s_is_whole f_is_whole d_is_whole
  b_is_whole : Binds K d_is_whole ["thing"] []
  g_is_whole : mg "is_whole" = some (.ref f_is_whole)
  f_of_signs : Addr
  d_of_signs : FuncData
  F_of_signs : Fun K "of_signs" "of_signs" s_of_signs f_of_signs d_of_signs
  b_of_signs : Binds K d_of_signs ["thing", "signs", "most"] []
  g_of_signs : mg "of_signs" = some (.ref f_of_signs)
  f_is_name : Addr
  d_is_name : FuncData
  F_is_name : Fun K "is_name" "is_name" s_is_name f_is_name d_is_name
  b_is_name : Binds K d_is_name ["thing"] []
  g_is_name : mg "is_name" = some (.ref f_is_name)
  f_is_watch_name : Addr
  d_is_watch_name : FuncData
  F_is_watch_name : Fun K "is_watch_name" "is_watch_name" s_is_watch_name f_is_watch_name d_is_watch_name
  b_is_watch_name : Binds K d_is_watch_name ["thing"] []
  g_is_watch_name : mg "is_watch_name" = some (.ref f_is_watch_name)
  f_is_sign : Addr
  d_is_sign : FuncData
  F_is_sign : Fun K "is_sign" "is_sign" s_is_sign f_is_sign d_is_sign
  b_is_sign : Binds K d_is_sign ["thing"] []
  g_is_sign : mg "is_sign" = some (.ref f_is_sign)
  f_is_look : Addr
  d_is_look : FuncData
  F_is_look : Fun K "is_look" "is_look" s_is_look f_is_look d_is_look
  b_is_look : Binds K d_is_look ["thing", "words", "watches"] []
  g_is_look : mg "is_look" = some (.ref f_is_look)
  f_is_guard : Addr
  d_is_guard : FuncData
  F_is_guard : Fun K "is_guard" "is_guard" s_is_guard f_is_guard d_is_guard
  b_is_guard : Binds K d_is_guard ["thing", "words", "watches"] []
  g_is_guard : mg "is_guard" = some (.ref f_is_guard)
  f_unlike : Addr
  d_unlike : FuncData
  F_unlike : Fun K "unlike" "unlike" s_unlike f_unlike d_unlike
  b_unlike : Binds K d_unlike ["things"] []
  g_unlike : mg "unlike" = some (.ref f_unlike)
  f_own : Addr
  d_own : FuncData
  F_own : Fun K "own" "own" s_own f_own d_own
  b_own : Binds K d_own ["thing"] []
  g_own : mg "own" = some (.ref f_own)
  f_Door_init : Addr
  d_Door_init : FuncData
  F_Door_init : FunD K "__init__" "Door.__init__" (defArgs s_Door_init) (defBody s_Door_init) (defScope s_Door_init) [.str ""] [] f_Door_init d_Door_init
  b_Door_init : Binds K d_Door_init ["self", "start", "end", "guard", "noughts", "sign"] []
  mk_Door : Mk K C_Door f_Door_init
  dv_Door_init : List Value
  v_Door_init : Vals [.str ""] dv_Door_init
  bd_Door_init : Binds K d_Door_init ["self", "start", "end", "guard", "noughts", "sign"] dv_Door_init
  f_Door_asks : Addr
  d_Door_asks : FuncData
  F_Door_asks : Fun K "asks" "Door.asks" s_Door_asks f_Door_asks d_Door_asks
  b_Door_asks : Binds K d_Door_asks ["self"] []
  m_Door_asks : Meth K C_Door "asks" f_Door_asks
  f_Door_sets : Addr
  d_Door_sets : FuncData
  F_Door_sets : Fun K "sets" "Door.sets" s_Door_sets f_Door_sets d_Door_sets
  b_Door_sets : Binds K d_Door_sets ["self"] []
  m_Door_sets : Meth K C_Door "sets" f_Door_sets
  f_are_watches : Addr
  d_are_watches : FuncData
  F_are_watches : Fun K "are_watches" "are_watches" s_are_watches f_are_watches d_are_watches
  b_are_watches : Binds K d_are_watches ["thing"] []
  g_are_watches : mg "are_watches" = some (.ref f_are_watches)
  f_is_room : Addr
  d_is_room : FuncData
  F_is_room : Fun K "is_room" "is_room" s_is_room f_is_room d_is_room
  b_is_room : Binds K d_is_room ["thing", "watches"] []
  g_is_room : mg "is_room" = some (.ref f_is_room)
  f_are_rooms : Addr
  d_are_rooms : FuncData
  F_are_rooms : Fun K "are_rooms" "are_rooms" s_are_rooms f_are_rooms d_are_rooms
  b_are_rooms : Binds K d_are_rooms ["thing", "watches"] []
  g_are_rooms : mg "are_rooms" = some (.ref f_are_rooms)
  f_is_door : Addr
  d_is_door : FuncData
  F_is_door : Fun K "is_door" "is_door" s_is_door f_is_door d_is_door
  b_is_door : Binds K d_is_door ["thing", "watches", "names"] []
  g_is_door : mg "is_door" = some (.ref f_is_door)
  f_Machine_init : Addr
  d_Machine_init : FuncData
  F_Machine_init : Fun K "__init__" "Machine.__init__" s_Machine_init f_Machine_init d_Machine_init
  b_Machine_init : Binds K d_Machine_init ["self", "watches", "rooms", "doors"] []
  mk_Machine : Mk K C_Machine f_Machine_init
  f_Machine_watches : Addr
  d_Machine_watches : FuncData
  F_Machine_watches : Fun K "watches" "Machine.watches" s_Machine_watches f_Machine_watches d_Machine_watches
  b_Machine_watches : Binds K d_Machine_watches ["self"] []
  m_Machine_watches : Meth K C_Machine "watches" f_Machine_watches
  f_Machine_rooms : Addr
  d_Machine_rooms : FuncData
  F_Machine_rooms : Fun K "rooms" "Machine.rooms" s_Machine_rooms f_Machine_rooms d_Machine_rooms
  b_Machine_rooms : Binds K d_Machine_rooms ["self"] []
  m_Machine_rooms : Meth K C_Machine "rooms" f_Machine_rooms
  f_Machine_doors : Addr
  d_Machine_doors : FuncData
  F_Machine_doors : Fun K "doors" "Machine.doors" s_Machine_doors f_Machine_doors d_Machine_doors
  b_Machine_doors : Binds K d_Machine_doors ["self"] []
  m_Machine_doors : Meth K C_Machine "doors" f_Machine_doors
  f_Machine_stay : Addr
  d_Machine_stay : FuncData
  F_Machine_stay : Fun K "stay" "Machine.stay" s_Machine_stay f_Machine_stay d_Machine_stay
  b_Machine_stay : Binds K d_Machine_stay ["self", "room"] []
  m_Machine_stay : Meth K C_Machine "stay" f_Machine_stay
  f_with_long : Addr
  d_with_long : FuncData
  F_with_long : Fun K "with_long" "with_long" s_with_long f_with_long d_with_long
  b_with_long : Binds K d_with_long ["machine"] []
  g_with_long : mg "with_long" = some (.ref f_with_long)
  f_cut_off : Addr
  d_cut_off : FuncData
  F_cut_off : Fun K "cut_off" "cut_off" s_cut_off f_cut_off d_cut_off
  b_cut_off : Binds K d_cut_off ["machine", "room"] []
  g_cut_off : mg "cut_off" = some (.ref f_cut_off)
  f_l_cell_at : Addr
  d_l_cell_at : FuncData
  F_l_cell_at : Fun K "_law_cell_at" "_law_cell_at" s_l_cell_at f_l_cell_at d_l_cell_at
  b_l_cell_at : Binds K d_l_cell_at ["_law_script", "_law_k"] []
  g_l_cell_at : mg "_law_cell_at" = some (.ref f_l_cell_at)
  f_l_stream : Addr
  d_l_stream : FuncData
  F_l_stream : Fun K "_law_stream" "_law_stream" s_l_stream f_l_stream d_l_stream
  b_l_stream : Binds K d_l_stream ["_law_cell", "_law_many"] []
  g_l_stream : mg "_law_stream" = some (.ref f_l_stream)
  f_l_names : Addr
  d_l_names : FuncData
  F_l_names : Fun K "_law_names" "_law_names" s_l_names f_l_names d_l_names
  b_l_names : Binds K d_l_names ["_law_cell", "_law_many"] []
  g_l_names : mg "_law_names" = some (.ref f_l_names)
  f_l_number : Addr
  d_l_number : FuncData
  F_l_number : Fun K "_law_number" "_law_number" s_l_number f_l_number d_l_number
  b_l_number : Binds K d_l_number ["_law_x", "_law_unit"] []
  g_l_number : mg "_law_number" = some (.ref f_l_number)
  f_l_guard : Addr
  d_l_guard : FuncData
  F_l_guard : Fun K "_law_guard" "_law_guard" s_l_guard f_l_guard d_l_guard
  b_l_guard : Binds K d_l_guard ["_law_xs", "_law_unit", "_law_watches"] []
  g_l_guard : mg "_law_guard" = some (.ref f_l_guard)
  f_l_stay : Addr
  d_l_stay : FuncData
  F_l_stay : Fun K "_law_stay" "_law_stay" s_l_stay f_l_stay d_l_stay
  b_l_stay : Binds K d_l_stay ["_law_xs", "_law_unit", "_law_watches"] []
  g_l_stay : mg "_law_stay" = some (.ref f_l_stay)
  f_l_door : Addr
  d_l_door : FuncData
  F_l_door : Fun K "_law_door" "_law_door" s_l_door f_l_door d_l_door
  b_l_door : Binds K d_l_door ["_law_cell", "_law_unit", "_law_watches", "_law_many"] []
  g_l_door : mg "_law_door" = some (.ref f_l_door)
  f_l_machine : Addr
  d_l_machine : FuncData
  F_l_machine : Fun K "_law_machine" "_law_machine" s_l_machine f_l_machine d_l_machine
  b_l_machine : Binds K d_l_machine ["_law_script"] []
  g_l_machine : mg "_law_machine" = some (.ref f_l_machine)
  f_l_made : Addr
  d_l_made : FuncData
  F_l_made : Fun K "_law_made" "_law_made" s_l_made f_l_made d_l_made
  b_l_made : Binds K d_l_made ["_law_spec"] []
  g_l_made : mg "_law_made" = some (.ref f_l_made)
  f_l_told : Addr
  d_l_told : FuncData
  F_l_told : Fun K "_law_told" "_law_told" s_l_told f_l_told d_l_told
  b_l_told : Binds K d_l_told ["_law_machine_here"] []
  g_l_told : mg "_law_told" = some (.ref f_l_told)
  f_l_plain : Addr
  d_l_plain : FuncData
  F_l_plain : Fun K "_law_plain" "_law_plain" s_l_plain f_l_plain d_l_plain
  b_l_plain : Binds K d_l_plain ["_law_spec"] []
  g_l_plain : mg "_law_plain" = some (.ref f_l_plain)
  f_l_refused : Addr
  d_l_refused : FuncData
  F_l_refused : Fun K "_law_refused" "_law_refused" s_l_refused f_l_refused d_l_refused
  b_l_refused : Binds K d_l_refused ["_law_which", "_law_machine_here", "_law_room"] []
  g_l_refused : mg "_law_refused" = some (.ref f_l_refused)
  f_l_more : Addr
  d_l_more : FuncData
  F_l_more : Fun K "_law_more" "_law_more" s_l_more f_l_more d_l_more
  b_l_more : Binds K d_l_more ["_law_spec", "_law_cell"] []
  g_l_more : mg "_law_more" = some (.ref f_l_more)
  f_law : Addr
  d_law : FuncData
  F_law : Fun K "law" "law" s_law f_law d_law
  b_law : Binds K d_law ["_law_script"] []
  g_law : mg "law" = some (.ref f_law)
  C_WalkError : Addr
  g_WalkError : mg "WalkError" = some (.ref C_WalkError)
  k_WalkError : PySem.W.keepIn K (.ref C_WalkError) = true
  b_WalkError : PySem.W.subIn K (.ref C_WalkError) (.type "BaseException") = some true
  t_WalkError : PySem.W.typeIn K (.ref C_WalkError) = some (.type "type")
  i_WalkError : PySem.W.isClsIn K C_WalkError = true
  C_BadMachine : Addr
  g_BadMachine : mg "BadMachine" = some (.ref C_BadMachine)
  x_BadMachine : PySem.W.excIn K C_BadMachine [.type "ValueError", .type "Exception", .type "BaseException", .type "object"] "ValueError.__new__" = true
  k_BadMachine : PySem.W.keepIn K (.ref C_BadMachine) = true
  b_BadMachine : PySem.W.subIn K (.ref C_BadMachine) (.type "BaseException") = some true
  t_BadMachine : PySem.W.typeIn K (.ref C_BadMachine) = some (.type "type")
  i_BadMachine : PySem.W.isClsIn K C_BadMachine = true
  C_TooMany : Addr
  g_TooMany : mg "TooMany" = some (.ref C_TooMany)
  x_TooMany : PySem.W.excIn K C_TooMany [.type "ValueError", .type "Exception", .type "BaseException", .type "object"] "ValueError.__new__" = true
  k_TooMany : PySem.W.keepIn K (.ref C_TooMany) = true
  b_TooMany : PySem.W.subIn K (.ref C_TooMany) (.type "BaseException") = some true
  t_TooMany : PySem.W.typeIn K (.ref C_TooMany) = some (.type "type")
  i_TooMany : PySem.W.isClsIn K C_TooMany = true
  C_NoMark : Addr
  g_NoMark : mg "NoMark" = some (.ref C_NoMark)
  x_NoMark : PySem.W.excIn K C_NoMark [.type "ValueError", .type "Exception", .type "BaseException", .type "object"] "ValueError.__new__" = true
  k_NoMark : PySem.W.keepIn K (.ref C_NoMark) = true
  b_NoMark : PySem.W.subIn K (.ref C_NoMark) (.type "BaseException") = some true
  t_NoMark : PySem.W.typeIn K (.ref C_NoMark) = some (.type "type")
  i_NoMark : PySem.W.isClsIn K C_NoMark = true
  C_NoRoom : Addr
  g_NoRoom : mg "NoRoom" = some (.ref C_NoRoom)
  k_NoRoom : PySem.W.keepIn K (.ref C_NoRoom) = true
  b_NoRoom : PySem.W.subIn K (.ref C_NoRoom) (.type "BaseException") = some true
  t_NoRoom : PySem.W.typeIn K (.ref C_NoRoom) = some (.type "type")
  i_NoRoom : PySem.W.isClsIn K C_NoRoom = true
  t_LETTERS : Tok
  g_LETTERS : mg "LETTERS" = some (.str "abcdefghijklmnopqrstuvwxyz" t_LETTERS)
  t_LONG : Tok
  g_LONG : mg "LONG" = some (.str "/" t_LONG)
  t_MOST_DOORS : Tok
  g_MOST_DOORS : mg "MOST_DOORS" = some (.int 200 t_MOST_DOORS)
  t_MOST_ROOMS : Tok
  g_MOST_ROOMS : mg "MOST_ROOMS" = some (.int 64 t_MOST_ROOMS)
  t_MOST_WATCHES : Tok
  g_MOST_WATCHES : mg "MOST_WATCHES" = some (.int 7 t_MOST_WATCHES)
  m_ValueError : mg "ValueError" = none
  m_all : mg "all" = none
  m_bool : mg "bool" = none
  m_int : mg "int" = none
  m_isinstance : mg "isinstance" = none
  m_len : mg "len" = none
  m_list : mg "list" = none
  m_range : mg "range" = none
  m_set : mg "set" = none
  m_str : mg "str" = none
  m_tuple : mg "tuple" = none
  e1_BadMachine : PySem.W.findIn K (.ref C_BadMachine) "__getattribute__" = some (some (.builtin "BaseException.__getattribute__"))
  e2_BadMachine : PySem.W.findIn K (.ref C_BadMachine) "__getattr__" = some none
  e4_BadMachine : PySem.W.hasDictIn K C_BadMachine = true
  e5_BadMachine : PySem.W.findIn K (.ref C_BadMachine) "__class__" = some (some (.builtin "object.__class__"))
  e8_BadMachine : PySem.W.mroIn K C_BadMachine (.type "object") = some true
  e1_NoMark : PySem.W.findIn K (.ref C_NoMark) "__getattribute__" = some (some (.builtin "BaseException.__getattribute__"))
  e2_NoMark : PySem.W.findIn K (.ref C_NoMark) "__getattr__" = some none
  e4_NoMark : PySem.W.hasDictIn K C_NoMark = true
  e5_NoMark : PySem.W.findIn K (.ref C_NoMark) "__class__" = some (some (.builtin "object.__class__"))
  e8_NoMark : PySem.W.mroIn K C_NoMark (.type "object") = some true
  s_BadMachine_BadMachine : PySem.W.subIn K (.ref C_BadMachine) (.ref C_BadMachine) = some true
  s_NoMark_BadMachine : PySem.W.subIn K (.ref C_NoMark) (.ref C_BadMachine) = some false
  s_NoMark_NoMark : PySem.W.subIn K (.ref C_NoMark) (.ref C_NoMark) = some true
  e6_ : PySem.W.specialIn K (.builtin "object.__class__") "__get__" = some (some (.builtin "getset_descriptor.__get__"))
  e7_ : PySem.W.takesIn K (.builtin "object.__class__") = some true
  k_BadMachine_NoMark : PySem.W.kitOne K (.ref C_BadMachine) (.ref C_NoMark) = some false
  k_BadMachine_TooMany : PySem.W.kitOne K (.ref C_BadMachine) (.ref C_TooMany) = some false
  k_BadMachine_WalkError : PySem.W.kitOne K (.ref C_BadMachine) (.ref C_WalkError) = some true
  k_NoMark_BadMachine : PySem.W.kitOne K (.ref C_NoMark) (.ref C_BadMachine) = some false
  k_NoMark_NoRoom : PySem.W.kitOne K (.ref C_NoMark) (.ref C_NoRoom) = some false
  k_NoMark_WalkError : PySem.W.kitOne K (.ref C_NoMark) (.ref C_WalkError) = some true
  k_BadMachine_v : PySem.W.kitOne K (.ref C_BadMachine) (.type "ValueError") = some true
/-! ### several except clauses, each with the same name -/
section
open PySem PySem.Spec PyProof.Rows L2
abbrev Clause := Value × (Addr → Value → Option Addr → TS)
def wNamed (K : PySem.W.Frag) (i : Nat) (Wo : WX) (D : Ends) : List Clause → WX
  | [] => Wo
  | z :: zs => wAs K z.1 i z.2 (wNamed K i Wo D zs) D
inductive NamedCl (X : Cx) (n : Str) : List ExceptHandler → List Clause → Prop
  | nil : NamedCl X n [] []
  | cons {y : Str} {c : Value} {ts : Addr → Value → Option Addr → TS} {st : Stmt} {sts : List Stmt} {q1 q2 : Pos} {hs : List ExceptHandler} {zs : List Clause} (nm : Names X y c)
      (su : ∀ (a : Addr) (oe : Obj) (cls : Value) (d : Option Addr) (pn : List (Addr × Obj)), Zc cls d oe → (∃ vs, oe.data = .fields vs) → PSs (X.suite a ((a, oe) :: pn)) (st :: sts) (ts a cls d)) (r : NamedCl X n hs zs) : NamedCl X n (.ExceptHandler (some (.Name y q1)) (some n) (st :: sts) q2 :: hs) ((c, ts) :: zs)
variable {X : Cx} {n : Str} {i : Nat} {body : List Stmt} {hd : ExceptHandler} {hds : List ExceptHandler} {zs : List Clause} {pos : Pos} {tb : WX → TS} {Wo : WX}
theorem ps_try_named (e1 : X.stack = X.env :: X.outer) (e2 : X.env.frame = some X.env.locals) (e3 : X.N.Nodup) (e4 : X.N[i]? = some n) (e5 : X.env.kindOf n = some .local) (tk : Takes X Wo)
    (bo : ∀ (W : WX) (pn : List (Addr × Obj)) (xe : Value → Shared → Prop), Takes (X.tr pn xe) W → PassesOwn (model X.prog X.w) X.A X.env xe → PSs (X.tr pn xe) body (tb W)) (cl : NamedCl X n (hd :: hds) zs) :
    PS X (.Try body (hd :: hds) [] [] pos) (fun D σ H => tb (wNamed X.K i Wo D zs) D σ H) := by
  refine ⟨fun pins s σ H D inv wish => ?_⟩
  have okay := inv.ok
  have frm : X.A.frames = some (X.env :: X.outer) := by rw [okay.frames, e1]
  have lcl : Loc X.env.scope n := .inl e5
  refine wpAny_Try_except (wpAny_mono ((bo (wNamed X.K i Wo D zs) (X.pn ++ pins) (fun ex t1 => wpAny (model X.prog X.w) X.A (noteFrame ex X.env) (fun _ t2 => wpAny (model X.prog X.w) X.A (setFlight ex none) (fun _ t3 => wpAny (model X.prog X.w) X.A (handleBy ex X.env (hd :: hds)) (SP X pins D) X.xe t3) X.xe t2) X.xe t1) (fun u t hx => ?_) PassesOwn.looking).run [] s σ H D (inv.toTry _) wish) (fun fl t hsp => ?_) fun _ _ hx => hx)
  · obtain ⟨a, B, tI, pins', σ', H', cls, d, rfl, inv1, nb, up, sky, na, os, ag, w⟩ := hx
    have inv2 : Inv X pins σ' H' tI := inv1.ofTry okay
    have sky2 : Sky B (X.env :: X.outer) a (Zc cls d) X.env.locals t.heap := by rw [← e1]; exact sky
    show wpAny (model X.prog X.w) X.A (noteFrame (.ref a) X.env) _ _ t
    refine Sky.land Zc.steady frm e2 sky2 fun g3 land3 up3 => ?_
    have inv3 : Inv X pins σ' H' { t with heap := g3 } := inv2.landed nb land3.1 (up.trans up3) os ag
    obtain ⟨ob, vals, got, hz3, dat⟩ := land3.there
    have away : a ∉ frs (X.env :: X.outer) := fun mem => by
      obtain ⟨_, ob', got', nf⟩ := land3.2.2.1.mem mem
      rw [got] at got'; cases got'
      exact nf _ dat
    have awayL : a ≠ X.env.locals := fun z => away (List.mem_filterMap.mpr ⟨X.env, List.mem_cons_self, by rw [e2, z]⟩)
    have awayF : a ∉ X.fs := fun mem => by
      obtain ⟨ev, he, q⟩ := List.mem_filterMap.mp mem
      exact away (List.mem_filterMap.mpr ⟨ev, List.mem_cons_of_mem _ he, q⟩)
    have invS := inv3.suite got dat na awayL awayF
    have run : ∀ {hs' : List ExceptHandler} {zs' : List Clause}, NamedCl X n hs' zs' → wNamed X.K i Wo D zs' cls d σ' H' → wpAny (model X.prog X.w) X.A (handleBy (.ref a) X.env hs') (SP X pins D) X.xe { t with heap := g3 } := by
      intro hs' zs' k
      induction k with
      | nil =>
        intro w
        have fin : wpAny (model X.prog X.w) X.A (setFlight (.ref a) X.env.frame) (fun _ t4 => wpAny (model X.prog X.w) X.A (throw (.ref a) : Sem Flow) (SP X pins D) X.xe t4) X.xe { t with heap := g3 } := by
          rw [e2]
          exact HandSPX.setFlight_upZ land3 fun g4 k4 up4 => wpAny_throw (tk _ _ ⟨a, B, tI, pins, σ', H', cls, d, rfl, inv2, nb, (up.trans up3).trans up4, .inr (.inr (by rw [e1]; exact k4)), na, os, ag, w⟩)
        obtain ⟨_, _, _, o4, v4, T4, oT4, tt4, f1, f2, f3, f4, f5⟩ := id land3
        refine wpAny_handleBy_nil ?_
        unfold PySem.passOn
        refine wpAny_bind (wpAny_field f1 f3 f4 ?_)
        rw [if_neg (by simp : ¬ ((Value.ref T4 == Value.none) = true))]
        first
          | exact wpAny_bind fin
          | exact wpAny_bind (wpAny_pure (wpAny_bind fin))
      | @cons y c ts st sts q1 q2 hs2 zs2 nm su r ih =>
        rintro ⟨b, hb, yes, no⟩
        refine wpAny_handleBy_cons (codeAny_handlers_test ?_) (by intro q; cases q)
        have LK : PySem.W.Looks (model X.prog X.w) g3 (typeOf (.ref a)) cls := fun A1 Q1 E1 s1 k1 q1 => wpAny_typeOf_ref (k1 _ _ got) (by rw [hz3.1]; exact q1)
        have named : ∀ {Q1 : Value → Shared → Prop} {E1 : Value → Shared → Prop}, Q1 c { t with heap := g3 } → wpAny (model X.prog X.w) (X.A.mark (some (.ref a))) (eval (.Name y q1) X.env) Q1 E1 { t with heap := g3 } := fun q => by
          obtain ⟨hg, hdb, hm | ⟨hm, hv, hnn⟩⟩ := nm
          · exact ld_glob (X := X.suite a ((a, ob) :: (X.pn ++ pins))) invS hg hm q hdb
          · exact ld_blt (X := X.suite a ((a, ob) :: (X.pn ++ pins))) invS hg hm hv q hnn hdb
        refine named ((PySem.W.exm_one (M := model X.prog X.w) inv3.kIn LK hb).here ?_)
        cases b with
        | false => exact ih (no rfl)
        | true =>
          refine codeAny_handlers_suite_as (HandSPX.lands_againZ land3 fun g4 land4 up4 => ?_)
          have inv4 : Inv X pins σ' H' { t with heap := g4 } := inv2.landed nb land4.1 ((up.trans up3).trans up4) os ag
          obtain ⟨ob4, vals4, got4, hz4, dat4⟩ := land4.there
          refine store_ok (X := X.suite a ((a, ob4) :: (X.pn ++ pins))) (v := .ref a) (inv4.suite got4 dat4 na awayL awayF) e3 e4 lcl rfl (fun t5 inv5 => ?_) (.inr e5)
          refine wpAny_mono ((su a ob4 cls d (X.pn ++ pins) hz4 ⟨_, dat4⟩).run [] t5 _ H' _ inv5 (yes rfl a na)) (fun fl t6 hsp => ?_) fun _ _ z => z.elim
          have close : ∀ {σ6 : L2.St} {H6 : Hp} {Q : Shared → Prop}, Inv (X.suite a ((a, ob4) :: (X.pn ++ pins))) [] σ6 H6 t6 → (∀ t7, Inv X pins (σ6.set i none) H6 t7 → Q t7) → wpAny (model X.prog X.w) X.A (do bindName X.env n .none; unbindBehindTheSuite X.env n q2) (fun _ t7 => Q t7) X.xe t6 := fun {σ6 H6 Q} inv6 hq => gone_ok (inv6.unsuite okay) e3 e4 e5 hq
          cases fl with
          | ret u => obtain ⟨v6, σ6, H6, inv6, r6, q6⟩ := hsp; exact close inv6 fun t7 inv7 => ⟨_, _, _, inv7, r6, q6⟩
          | _ => obtain ⟨σ6, H6, inv6, q6⟩ := hsp; exact close inv6 fun t7 inv7 => ⟨_, _, inv7, q6⟩
    exact run cl w
  · cases fl with
    | next => obtain ⟨σ', H', inv', q⟩ := hsp; exact wpAny_execs_nil ⟨σ', H', inv'.ofTry okay, q⟩
    | ret u => obtain ⟨v, σ', H', inv', r, q⟩ := hsp; exact ⟨v, σ', H', inv'.ofTry okay, r, q⟩
    | brk => obtain ⟨σ', H', inv', q⟩ := hsp; exact ⟨σ', H', inv'.ofTry okay, q⟩
    | cont => obtain ⟨σ', H', inv', q⟩ := hsp; exact ⟨σ', H', inv'.ofTry okay, q⟩
end
section
open PySem PySem.Spec PyProof.Rows L2
variable {X : Cx} {a : Addr} {cls : Value} {d : Option Addr} {oe : Obj} {pn : List (Addr × Obj)}
/-- isinstance(e, (c1, c2, ..)) of the caught error -/
theorem call_isET (hz : Zc cls d oe) (hf : ∃ vs, oe.data = .fields vs) : CallR (X.suite a ((a, oe) :: pn)) (.builtin "isinstance") (fun xs H Q => ∃ D, cls = .ref D ∧ d = none ∧ ExcC X.K D ∧ ∃ (tp : Addr) (cs : List V) (us : List Value) (b : Bool), xs = [.ref a, .ref tp] ∧ H tp = some (.tup cs) ∧ Paired ClsV cs us ∧ PySem.W.kitAny X.K (.ref D) us = some b ∧ Q (.bl b) H) := by
  rintro pins s σ H xs us Q inv r ⟨D, rfl, rfl, C, tp, cs, ws, b, rfl, hT, k, e, q⟩
  obtain ⟨u1, u2, rfl, r1, r2⟩ := vals2 r
  cases (show u1 = Value.ref a from r1)
  cases (show u2 = Value.ref tp from r2)
  obtain ⟨_, its, rv, o, h1, h2, n, h3⟩ := (show ObjOk _ _ H s.heap tp (.tup cs) from inv.hok tp _ hT)
  cases ClsV.all k rv
  obtain ⟨oc, od, dt, sl⟩ := o
  simp only at h2 h3
  subst h2; subst h3
  obtain ⟨got, _⟩ := inv.pin (a, oe) (List.mem_append.mpr (.inl List.mem_cons_self))
  obtain ⟨vs, hv⟩ := hf
  have J : PySem.W.InstAt s.heap a oe D none := by
    obtain ⟨c1, d1, t1, l1⟩ := oe
    obtain ⟨z1, z2⟩ := hz
    dsimp only at z1 z2 hv
    subst z1; subst z2; subst hv
    exact ⟨got, rfl, rfl, trivial⟩
  exact PySem.W.kia_tup (PySem.W.handS_kitx_exc C.hg C.hk C.hs C.hd C.ha C.hn C.ht C.hm) inv.kIn J h1 e (fun z => nomatch z) fun tk => ⟨.bl b, H, inv.kept (t' := tk) fun _ _ z => z, rfl, q⟩
end
/-! ### len(set(xs)) of a list of texts -/
/-- the set at a holds the first i texts: it has i members just where no two of these are one -/
def SetUp (P : Program) (w : World) (h : Heap) (a : Addr) (xs : List Str) (i : Nat) : Prop :=
  ∃ c, c ≤ i ∧ (c = i ↔ (xs.take i).Nodup) ∧ h.SetOf (PySem.strKind P w) a (fun k => decide (k ∈ xs.take i)) c
section
variable {P : Program} {w : World} {A : Around} {h h' : Heap} {a it : Addr} {xs : List Str} {i n : Nat}
theorem SetUp.keep (U : SetUp P w h a xs i) (k : ∀ o, h.get? a = some o → h'.get? a = some o) : SetUp P w h' a xs i := by
  obtain ⟨c, hc, hd, o, es, ep, t, ho, r⟩ := U
  exact ⟨c, hc, hd, o, es, ep, t, k o ho, r⟩
theorem nodup_snoc {l : List Str} {x : Str} : (l ++ [x]).Nodup ↔ l.Nodup ∧ x ∉ l := by
  rw [List.nodup_append]
  constructor
  · rintro ⟨p, _, q⟩
    exact ⟨p, fun hx => q x hx x (List.mem_singleton.mpr rfl) rfl⟩
  · rintro ⟨p, q⟩
    exact ⟨p, by simp, fun y hy z hz e => q (by rw [← List.mem_singleton.mp hz, ← e]; exact hy)⟩
theorem setUp_add {c : Nat} {x : Str} (hx : xs[i]? = some x) (hc : c ≤ i) (hd : c = i ↔ (xs.take i).Nodup)
    (S : h.SetOf (PySem.strKind P w) a (fun k => decide (k ∈ xs.take i) || decide (k = x)) (if decide (x ∈ xs.take i) = true then c else c + 1)) : SetUp P w h a xs (i + 1) := by
  have e : xs.take (i + 1) = xs.take i ++ [x] := by rw [List.take_add_one, hx]; rfl
  refine ⟨_, ?_, ?_, PyProof.Rows.SetOf_congr S (fun k => by rw [e]; simp) rfl⟩
  · split <;> omega
  · rw [e, nodup_snoc, ← hd]
    by_cases m : x ∈ xs.take i
    · rw [if_pos (decide_eq_true m)]
      exact ⟨fun z => by omega, fun z => absurd m z.2⟩
    · rw [if_neg (by simpa using m)]
      exact ⟨fun z => ⟨by omega, m⟩, fun z => by omega⟩
theorem setUp_loop {R : Result → Shared → Prop} {fp wr : List Addr} {G : Array GenState → Array GenState → Prop} {Pv : Nat → Value → Prop} {St : Nat → Shared → Prop} (W : WalksS P w A.in1 it fp wr G n Pv St) (ha : a ∉ fp)
    (few : n + 1 < scanBound) (hv : ∀ i v, Pv i v → ∃ x t, xs[i]? = some x ∧ v = Value.str x t) (k : Nat) : ∀ (i : Nat) (s : Shared), i + k = n → St i s → SetUp P w s.heap a xs i →
    (∀ z, Moved (a :: wr) G s z → SetUp P w z.heap a xs n → R (.ok (.ret .none)) z) → codeAny (model P w) A (.builtin "set.update.loop" ⟨[.ref a, .ref it], []⟩) R s := by
  have aw : a ∉ wr := fun z => ha (W.sub _ z)
  have up : ∀ b ∈ wr, b ∈ a :: wr := fun b z => List.mem_cons_of_mem _ z
  induction k with
  | zero =>
    intro i s hk st U fin
    obtain rfl : i = n := by omega
    refine codeAny_builtin PyProof.Rows.F.entry_set_update_loop (by rw [Around.under_plainId PyProof.Rows.F.plain_set_update_loop _]; exact wpAny_bind (W.done s _ _ st fun z m => wpAny_pure (fin z (m.mono up) (U.keep fun o e => m.heap a o aw e))))
  | succ k ih =>
    intro i s hk st U fin
    refine codeAny_builtin PyProof.Rows.F.entry_set_update_loop ?_; rw [Around.under_plainId PyProof.Rows.F.plain_set_update_loop _]
    refine wpAny_bind (m := pyNext (.ref it)) (W.item i s _ _ (by omega) st fun v z pv sz m => ?_)
    obtain ⟨x, t, hx, rfl⟩ := hv i v pv
    obtain ⟨c, hc, hd, S⟩ := U.keep fun o e => m.heap a o aw e
    refine wpAny_bind (m := holding [Value.str x t] (setAdd a (.str x t))) (wpAny_holding ?_)
    unfold setAdd
    refine wpAny_holding (wpAny_bind ((PySem.strKind P w).pyHash (k := x) (strKind_is _ _ _ _) ?_))
    refine wpAny_setAddHashed_of (knd := PySem.strKind P w) (s := { z with toks := z.toks + 1 }) (strKind_is _ _ _ _) rfl S (by omega) fun g sb S2 => wpAny_pure ⟨plainId_quiet PyProof.Rows.F.plain_set_update_loop _, ?_⟩
    refine ih (i + 1) _ (by omega) (W.frame _ z _ _ sz (Nat.le_succ _) fun b hb o e => ?_) (setUp_add hx hc hd S2) fun y m2 U2 => fin y (Moved.trans W.gtrans ((m.mono up).then_heap (Nat.le_succ _) fun b o hb e => ?_) m2) U2
    · exact (sb.2 b fun q => ha (q ▸ hb)).trans e
    · exact (sb.2 b fun q => hb (q ▸ List.mem_cons_self)).trans e
end
/-- a set that was just made -/
abbrev rawSet (led : Bool) : Obj := { cls := .type "set", dict := none, data := .set #[] 0 (.fresh 0 0 led) }
section
variable {P : Program} {w : World} {A : Around} {E : Value → Shared → Prop}
theorem setUp_init {s : Shared} {l a : Addr} {items : Array Value} {xs : List Str} {led : Bool} {Q : Value → Shared → Prop} (hh : A.handled = none) (hl : s.heap.IsList l items) (hn : items.size = xs.length) (few : xs.length + 1 < scanBound)
    (hv : ∀ (i : Nat) (v : Value), items[i]? = some v → ∃ (x : Str) (t : Tok), xs[i]? = some x ∧ v = Value.str x t) (ho : s.heap.get? a = some (rawSet led)) (al : a ≠ l)
    (fin : ∀ g tk, SetUp P w g a xs xs.length → (∀ b o, b ≠ a → s.heap.get? b = some o → g.get? b = some o) → Q .none { s with heap := g, toks := tk }) :
    wpAny (model P w) A.in1 (Builtin.«set.__init__» ⟨[.ref a, .ref l], []⟩) (fun r z => ∃ v, r = .done (.ret v) ∧ Q v z) E s := by
  obtain ⟨⟨ocls, odict, odata, oslots⟩, eo, ec, nl, ed⟩ := hl
  simp only at ec ed
  subst ec; subst ed
  have lst : s.heap.IsList l items := ⟨_, eo, rfl, nl, rfl⟩
  have f1 := PySem.F.sub_list_set
  have f2 := PySem.F.sub_list_frozenset
  have f3 : (Value.type "list" == Value.type "dict") = false := by decide
  unfold Builtin.«set.__init__» noKeywords Builtin.Frozenset.updateFrom
  generalize hp : pyIter = PI
  wp_walk
  subst hp
  refine wpAny_pyIter_list lst (wpAny_bind (wpAny_runValue ?_))
  have la : a < s.heap.objs.size := Heap.lt_size ho
  have ll : l < s.heap.objs.size := Heap.lt_size eo
  refine setUp_loop ((Walks.list (by simp [hh]) _ l (Nat.ne_of_lt ll) items).toS) ?_ (n := items.size) (by omega) hv items.size 0 _ (by omega) ⟨⟨_, Heap.get?_push_size _ rfl, rfl, rfl⟩, lst.push _⟩ ?_ fun z m U => ?_
  · intro z
    rcases List.mem_cons.mp z with z | z
    · exact absurd z (Nat.ne_of_lt la)
    · exact al (List.mem_singleton.mp z)
  · exact ⟨0, Nat.le_refl 0, by simp, PyProof.Rows.SetOf_congr ((PyProof.Rows.setObjOf_fresh (knd := PySem.strKind P w) led).setOf (Heap.get?_push_of_some _ ho) (by decide)) (fun k => by simp) rfl⟩
  · obtain ⟨g, gs, dr, tk, os⟩ := z
    obtain rfl : gs = s.gens := m.gens
    obtain rfl : dr = s.drawn := m.drawn
    obtain rfl : os = s.os := m.os
    rw [hn] at U
    refine wpAny_pure (wpAny_pure ⟨.none, rfl, fin g tk U fun b o hb e => m.heap b o (fun z => ?_) (Heap.get?_push_of_some _ e)⟩)
    have := Heap.lt_size e
    rcases List.mem_cons.mp z with z | z
    · exact hb z
    · exact absurd (List.mem_singleton.mp z) (Nat.ne_of_lt this)
end
section
variable {P : Program} {w : World} {A : Around} {E : Value → Shared → Prop}
theorem set_texts {s : Shared} {l : Addr} {items : Array Value} {xs : List Str} {Q : Value → Shared → Prop} (hh : A.handled = none) (hl : s.heap.IsList l items) (hn : items.size = xs.length) (few : xs.length + 1 < scanBound)
    (hv : ∀ (i : Nat) (v : Value), items[i]? = some v → ∃ (x : Str) (t : Tok), xs[i]? = some x ∧ v = Value.str x t)
    (fin : ∀ g tk, SetUp P w g s.heap.objs.size xs xs.length → (∀ b o, s.heap.get? b = some o → g.get? b = some o) → Q (.ref s.heap.objs.size) { s with heap := g, toks := tk }) :
    wpAny (model P w) A (call (.type "set") [.ref l]) Q E s := by
  obtain ⟨cs, tl, f0⟩ := PySem.F.called_set.mro
  have f1 := PySem.F.called_set.made
  have f2 := PySem.F.called_set.sub
  have f3 := PySem.F.called_set.notType
  have f4 := PySem.F.called_set.canCreate
  have f5 := PySem.F.typeCall_set_1 (.ref l)
  refine wpAny_call (codeAny_of_tree (wpAny_pure ⟨Code.quiet_builtin _ (by decide +kernel), codeAny_builtin PySem.F.entry_type_call ?_⟩))
  rw [Around.under_plain (weight_type_call_type "set" [.ref l] []) rfl]
  repeat (any_goals (first | assumption | wp_step))
  refine codeAny_mono (code_set_new_1 (.ref l) (E := E) (Q₁ := fun v z => ∃ led : Bool, v = .ref s.heap.objs.size ∧ z = { s with heap := s.heap.push (rawSet led) }) fun led => ⟨led, rfl, rfl⟩) fun r z hr => ?_
  rcases r with e | f
  · exact hr
  cases f with
  | ret v =>
    obtain ⟨led, rfl, rfl⟩ := hr
    have ho : (s.heap.push (rawSet led)).get? s.heap.objs.size = some (rawSet led) := Heap.get?_push_size _ rfl
    have ty : Shared.TypeIs { s with heap := s.heap.push (rawSet led) } (.ref s.heap.objs.size) "set" := ⟨_, ho, rfl⟩
    have f6 := PySem.F.called_set.init.lookup
    have f7 := PySem.F.called_set.init.bind (.ref s.heap.objs.size)
    repeat (any_goals (first | assumption | wp_step))
    obtain ⟨ol, eo, _⟩ := id hl
    have ll : l < s.heap.objs.size := Heap.lt_size eo
    have body := setUp_init (P := P) (w := w) (A := A.in1) (E := E) (s := { s with heap := s.heap.push (rawSet led) }) (led := led) (Q := fun v z => v = .none ∧ ∃ g tk, z = { s with heap := g, toks := tk } ∧ SetUp P w g s.heap.objs.size xs xs.length ∧ ∀ b o, s.heap.get? b = some o → g.get? b = some o) (by simp [hh]) (hl.push _) hn few hv ho (Nat.ne_of_gt ll)
      fun g tk U k => ⟨rfl, g, tk, rfl, U, fun b o e => k b o (Nat.ne_of_lt (Heap.lt_size e)) (Heap.get?_push_of_some _ e)⟩
    refine codeAny_call_builtin PySem.F.called_set.init.plain PySem.F.entry_set_init (check_set_init_1 ty (wpAny_mono body (fun r z hr => ?_) (fun e z he => he)))
    obtain ⟨v, rfl, rfl, g, tk, rfl, U, k⟩ := hr
    repeat (any_goals (first | assumption | wp_step))
    exact fin g tk U k
  | _ => exact hr.elim
end
def tLenSetN (K : PySem.W.Frag) (ta : TE) : TE := fun σ H Q => ta σ H fun x H1 => ∃ l, ∃ xs : List Str, x = .ref l ∧ SqL K H1 l (xs.map V.str) ∧ xs.length + 1 < scanBound ∧ ∀ c : Nat, c ≤ xs.length → (c = xs.length ↔ xs.Nodup) → Q (.int c) H1
section
variable {X : Cx}
theorem pe_lenSetN {a : Expr} {ta : TE} {p p2 q pos : Pos} (hc : X.calm = true) (hg : Gl X "len") (hm : X.mg "len" = none) (hg2 : Gl X "set") (hm2 : X.mg "set" = none) (ha : PE X a ta)
    (na : starEach [a] X.env = (false, eval a X.env) :: starEach [] X.env := by rfl) : PE X (.Call (.Name "len" p) [.Call (.Name "set" p2) [a] [] q] [] pos) (tLenSetN X.K ta) := by
  refine ⟨fun pins s σ H Q I h => Call_ (ld_blt I hg hm boot_len (PyProof.Rows.callWith_builtin1 (PyProof.Rows.args_cons (Call_ (ld_blt I hg2 hm2 boot_set ?_)) rfl) rfl rfl))⟩
  refine PyProof.Rows.callWith_type1 (PyProof.Rows.args_cons (thn (ha.run pins s σ H _ I h) fun v z ⟨x, H1, J, r, t⟩ => PyProof.Rows.args_nil ?_) na) na rfl
  obtain ⟨l, xs, rfl, hq, few, t⟩ := t
  cases r
  obtain ⟨its, rv, pl, _⟩ := J.list hq
  have hl : its.toArray.size = xs.length := by rw [List.size_toArray, ← rv.length, List.length_map]
  refine set_texts (J.ok.hd hc) pl.isList hl few (fun i v hv => ?_) fun g tk U k => PyProof.Rows.args_nil ?_
  · have hi : i < xs.length := by rw [← hl]; exact (Array.getElem?_eq_some_iff.mp hv).1
    have hx := List.getElem?_eq_getElem hi
    obtain ⟨u, hu, t, rfl⟩ := rv.get (i := i) (x := .str xs[i]) (by rw [List.getElem?_map, hx]; rfl)
    rw [List.getElem?_toArray, hu] at hv
    exact ⟨xs[i], t, hx, (Option.some.inj hv).symm⟩
  · obtain ⟨c, hc, hd, o, es, ep, tb, ho, he, hd2, _, _, _, hf, hs⟩ := U
    rw [List.take_length] at hd
    have J2 : Inv X pins σ H1 { z with heap := g, toks := tk } := J.kept k
    refine call_len_set ho he hd2 hf (by rw [hs]; unfold scanBound at few; omega) ⟨.int c, H1, J2.tok _, ⟨_, by rw [hs]⟩, t c hc hd⟩
end
/-! ### dicts of values -/
section
variable {X : Cx} {pins : List (Addr × Obj)} {σ : L2.St} {H : Hp} {s : Shared} {a b : Addr} {kvs more : List (Key × V)} {A : Around} {E : Value → Shared → Prop}
theorem d_update {Q : Value → Shared → Prop} (I : Inv X pins σ H s) (e : H a = some (.dK kvs)) (e2 : H b = some (.dK more)) (hab : a ≠ b) (hl : kvs.length + more.length ≤ sizeLine) (h : ∀ s', Inv X pins σ (upd H a (.dK (mergeK kvs more))) s' → Q .none s') :
    wpAny (model X.prog X.w) A (call (.builtin "dict.update") [.ref a, .ref b]) Q E s := by
  obtain ⟨z, hd, vs, rel, dd⟩ := dk_of I.hok e
  obtain ⟨z2, hd2, vs2, rel2, dd2⟩ := dk_of I.hok e2
  refine call_meetsIn PySem.F.slot_dict_update dd.typeIs PySem.F.entry_dict_update (PySem.F.args_dict_update_2 _ _) (meets_dict_update (mixKind X.prog X.w) a b hab hd2) ⟨vs, vs2, dd, dd2, by rw [← rel.length, ← rel2.length]; exact hl, fun h' dd' _ hs => h _ ?_⟩
  have he : ∃ q, h'.get? a = some q := let ⟨q, _, _, hq, _⟩ := dd'; ⟨q, hq⟩
  exact d_write (t' := s.toks) I (by rw [e]; exact True.intro) hs he (dk_new (Nat.le_trans (length_mergeK more kvs) hl) hd (rel2.merge rel) dd')
end
def tDUpd (td ty : TE) : TE := fun σ H Q => td σ H fun x H1 => ∃ a, x = .ref a ∧ IsD H1 a ∧ ty σ H1 fun y H2 => ∃ b kvs more, y = .ref b ∧ a ≠ b ∧ H2 a = some (.dK kvs) ∧ H2 b = some (.dK more) ∧ kvs.length + more.length ≤ sizeLine ∧ Q .non (upd H2 a (.dK (mergeK kvs more)))
theorem pe_dupd {X : Cx} {o e : Expr} {apos cpos : PySem.Pos} {td ty : TE} (ho : PE X o td) (he : PE X e ty) (m : M1 X o "update" apos e cpos) : PE X (.Call (.Attribute o "update" apos) [e] [] cpos) (tDUpd td ty) := by
  refine ⟨fun pins s σ H Q I h => ?_⟩
  refine wpAny_Call_method m.base m.few m.line PySem.F.plainAttrs_dict PySem.F.slot_dict_update PySem.F.type_dict_update (thn (ho.run pins s σ H _ I h) fun u s1 ⟨x, H1, I1, rx, a, ex, d, q1⟩ => ?_)
  subst ex
  obtain rfl : u = Value.ref a := rx
  obtain ⟨t1, t2, _⟩ := isD_at I1 d
  refine ⟨t1, t2, ?_⟩
  rw [m.trees]
  refine Calls.callWith_builtin rfl (Calls.evalArgs_plain (Calls.spliced_cons (thn (he.run pins s1 σ H1 _ I1 q1) fun iv s2 ⟨y, H2, I2, ry, b, kvs, more, ey, hab, ea, eb, hl, q2⟩ => Calls.spliced_nil ?_)))
  subst ey
  obtain rfl : iv = Value.ref b := ry
  exact d_update I2 ea eb hab hl fun s3 I3 => ⟨.non, _, I3, rfl, q2⟩
/-- a for over the pairs of a dict, behind its iterable's reading -/
def ForD (d : Addr) (od : Obj) (kvs : List (Key × V)) (g : TG) (tb : TS) (D : Ends) (σ : L2.St) (H : Hp) : Prop := ∃ W : Nat → Nat → L2.St → Hp → Prop, (∃ m, W 0 m σ H) ∧ ∀ i m σ H, W i m σ H →
  ((Iti d od kvs).stop i H ∧ D.nx σ H) ∨ ((Iti d od kvs).go i H ∧ ∃ N : L2.St → Hp → Prop, (∀ σ' H', N σ' H' → ∃ m', m' < m ∧ W (i + 1) m' σ' H') ∧ ∀ v H', (Iti d od kvs).yld i H v H' → g v σ H' fun σ2 H2 => tb { D with nx := N, ct := N, bk := D.nx } σ2 H2)
theorem forD_by {d : Addr} {od : Obj} {kvs : List (Key × V)} {g : TG} {tb : TS} {D : Ends} {σ : L2.St} {H : Hp} (Pv : Nat → L2.St → Hp → Prop) (h0 : Pv 0 σ H) (hq : ∀ i σ H, Pv i σ H → H d = some (.frz od (.dK kvs)))
    (hs : ∀ (i : Nat) (k : Key) (v : V) (T : Addr) (σ : L2.St) (H : Hp) (H2 : Hp), kvs[i]? = some (k, v) → Pv i σ H → Same H H2 → H2 T = some (.tup [kV k, v]) → g (.ref T) σ H2 fun σ2 H2 => tb { D with nx := Pv (i + 1), ct := Pv (i + 1), bk := D.nx } σ2 H2) (hd : ∀ σ H, Pv kvs.length σ H → D.nx σ H) : ForD d od kvs g tb D σ H := by
  refine ⟨fun i m σ H => m = kvs.length - i ∧ i ≤ kvs.length ∧ Pv i σ H, ⟨kvs.length, rfl, Nat.zero_le _, h0⟩, ?_⟩
  rintro i m σ H ⟨rfl, hi, p⟩
  have q := hq i σ H p
  by_cases hlt : i < kvs.length
  · refine .inr ⟨⟨q, hlt⟩, Pv (i + 1), fun σ' H' p' => ⟨kvs.length - (i + 1), by omega, rfl, hlt, p'⟩, fun v H' y => ?_⟩
    obtain ⟨T, k, v', ek, rfl, hT, rfl⟩ := y
    exact hs i k v' T σ H _ ek p (upd_keep hT) upd_same
  · have e : i = kvs.length := by omega
    subst e
    exact .inl ⟨⟨q, Nat.le_refl _⟩, hd σ H p⟩
/-- for k, v in d.items(), d a variable that holds a dict; the loop only makes new things -/
theorem for_items {i : Nat} {d : Addr} {kvs : List (Key × V)} {g : TG} {tb : TS} {D : Ends} {σ : L2.St} {H : Hp} (hv : σ[i]? = some (some (.ref d))) (hd : H d = some (.dK kvs))
    (h : ∀ od, ForD d od kvs g tb ⟨fun σ' H' => H' d = some (.frz od (.dK kvs)) ∧ D.nx σ' (upd H' d (.dK kvs)), fun v H' => H' d = some (.frz od (.dK kvs)) ∧ D.rt v (upd H' d (.dK kvs)), fun σ' H' => H' d = some (.frz od (.dK kvs)) ∧ D.bk σ' (upd H' d (.dK kvs)), fun σ' H' => H' d = some (.frz od (.dK kvs)) ∧ D.ct σ' (upd H' d (.dK kvs))⟩ σ (upd H d (.frz od (.dK kvs)))) :
    tLock (tFor (iItems (tVar i)) g tb) D σ H :=
  ⟨d, _, hd, True.intro, fun od => ⟨.ref d, hv, d, od, kvs, rfl, upd_same, h od⟩⟩
theorem unlock_same {H H' : Hp} {d : Addr} {od : Obj} {u : HO} (hd : H d = some u) (s : Same (upd H d (.frz od u)) H') : Same H (upd H' d u) := fun b o e => by
  by_cases c : b = d
  · subst c
    rw [hd] at e
    rw [upd_same]; exact e
  · rw [upd_ne c]
    exact s b o (by rw [upd_ne c]; exact e)
/-- values of some places, in a dict -/
structure DAt (H : Hp) (d : Addr) (n : Nat) (F : Nat → Option (Int × Int)) (kvs : List (Key × V)) : Prop where
  here : H d = some (.dK kvs)
  mem : ∀ k v, (k, v) ∈ kvs → ∃ (j : Nat) (x : Int × Int) (q : Addr), j < n ∧ k = .inl (j : Int) ∧ v = .ref q ∧ F j = some x ∧ H q = some (.tup [.int x.1, .int x.2])
  cov : ∀ (j : Nat) x, F j = some x → ∃ v, ((.inl (j : Int) : Key), v) ∈ kvs
theorem valV_mem {kvs : List (Key × V)} {k : Key} {v : V} (h : valV kvs k = some v) : (k, v) ∈ kvs := by
  unfold valV at h
  obtain ⟨p, hp, rfl⟩ := Option.map_eq_some_iff.mp h
  have h1 := List.mem_of_find?_eq_some hp
  have h2 := List.find?_some hp
  have h2 : p.1 = k := of_decide_eq_true h2
  rw [← h2]; exact h1
theorem valV_ex {kvs : List (Key × V)} {k : Key} {v : V} (h : (k, v) ∈ kvs) : ∃ w, valV kvs k = some w := by
  unfold valV
  cases hf : kvs.find? fun kv => decide (kv.1 = k) with
  | none =>
    have := List.find?_eq_none.mp hf (k, v) h
    simp at this
  | some p => exact ⟨p.2, rfl⟩
theorem DAt.val {H : Hp} {d : Addr} {n : Nat} {F : Nat → Option (Int × Int)} {kvs : List (Key × V)} (D : DAt H d n F kvs) {j : Nat} {x : Int × Int} (h : F j = some x) : ∃ q, valV kvs (.inl (j : Int)) = some (.ref q) ∧ H q = some (.tup [.int x.1, .int x.2]) := by
  obtain ⟨v, hv⟩ := D.cov j x h
  obtain ⟨w, hw⟩ := valV_ex hv
  obtain ⟨j', x', q, _, ek, ev, ef, eq⟩ := D.mem _ _ (valV_mem hw)
  have ek : (j : Int) = (j' : Int) := Sum.inl.inj ek
  have ej : j = j' := by omega
  subst ej
  rw [h] at ef; cases ef
  exact ⟨q, by rw [hw, ev], eq⟩
theorem DAt.no {H : Hp} {d : Addr} {n : Nat} {F : Nat → Option (Int × Int)} {kvs : List (Key × V)} (D : DAt H d n F kvs) {j : Nat} (h : F j = none) : valV kvs (.inl (j : Int)) = none := by
  cases hw : valV kvs (.inl (j : Int)) with
  | none => rfl
  | some w =>
    obtain ⟨j', x', q, _, ek, ev, ef, eq⟩ := D.mem _ _ (valV_mem hw)
    have ek : (j : Int) = (j' : Int) := Sum.inl.inj ek
    have ej : j = j' := by omega
    subst ej
    rw [h] at ef; cases ef
theorem DAt.keep {H H' : Hp} {d : Addr} {n : Nat} {F : Nat → Option (Int × Int)} {kvs : List (Key × V)} (D : DAt H d n F kvs) (s : Same H H') : DAt H' d n F kvs :=
  ⟨s _ _ D.here, fun k v h => by
    obtain ⟨j, x, q, a, b, c, e, f⟩ := D.mem k v h
    exact ⟨j, x, q, a, b, c, e, s _ _ f⟩, D.cov⟩
def setF (F : Nat → Option (Int × Int)) (k : Nat) (x : Int × Int) : Nat → Option (Int × Int) := fun j => if j = k then some x else F j
theorem DAt.put {H : Hp} {d q : Addr} {n k : Nat} {F : Nat → Option (Int × Int)} {kvs : List (Key × V)} {x : Int × Int} (D : DAt H d n F kvs) (hk : k < n) (hF : F k = none) (hq : H q = some (.tup [.int x.1, .int x.2])) :
    DAt (upd H d (.dK (putK kvs (.inl (k : Int)) (.ref q)))) d n (setF F k x) (putK kvs (.inl (k : Int)) (.ref q)) := by
  have e := putK_new (.ref q) (D.no hF)
  have nq : ∀ r y, H r = some (.tup y) → (upd H d (.dK (putK kvs (.inl (k : Int)) (.ref q)))) r = some (.tup y) := fun r y h => by
    rw [L2.upd_ne (ne_of h D.here (by intro z; cases z))]; exact h
  refine ⟨upd_same, fun k' v h => ?_, fun j y h => ?_⟩
  · rw [e] at h
    rcases List.mem_append.mp h with h | h
    · obtain ⟨j, y, r, a, b, c, f, g⟩ := D.mem k' v h
      refine ⟨j, y, r, a, b, c, ?_, nq _ _ g⟩
      unfold setF
      have : j ≠ k := fun z => by rw [z, hF] at f; cases f
      rw [if_neg this]; exact f
    · have h := List.mem_singleton.mp h
      cases h
      exact ⟨k, x, q, hk, rfl, rfl, if_pos rfl, nq _ _ hq⟩
  · rw [e]
    unfold setF at h
    by_cases c : j = k
    · subst c
      exact ⟨.ref q, List.mem_append.mpr (.inr (List.mem_singleton.mpr rfl))⟩
    · rw [if_neg c] at h
      obtain ⟨v, hv⟩ := D.cov j y h
      exact ⟨v, List.mem_append.mpr (.inl hv)⟩
theorem mem_putK {kvs : List (Key × V)} {k k' : Key} {v v' : V} (h : (k', v') ∈ putK kvs k v) : (k' = k ∧ v' = v) ∨ ((k', v') ∈ kvs ∧ k' ≠ k) := by
  unfold putK at h
  split at h
  · obtain ⟨p, hp, e⟩ := List.mem_map.mp h
    split at e
    · rename_i c
      cases e
      exact .inl ⟨c, rfl⟩
    · rename_i c
      cases e
      exact .inr ⟨hp, c⟩
  · rename_i ha
    rcases List.mem_append.mp h with h | h
    · refine .inr ⟨h, fun z => ha (List.any_eq_true.mpr ⟨_, h, decide_eq_true z⟩)⟩
    · cases List.mem_singleton.mp h
      exact .inl ⟨rfl, rfl⟩
theorem key_putK {kvs : List (Key × V)} {k j : Key} {v : V} (h : (∃ w, (j, w) ∈ kvs) ∨ j = k) : ∃ w, (j, w) ∈ putK kvs k v := by
  have key : ∃ w, valV (putK kvs k v) j = some w := by
    rw [valV_put]
    split
    · exact ⟨_, rfl⟩
    · rename_i c
      rcases h with ⟨w, h⟩ | h
      · exact valV_ex h
      · exact absurd h c
  obtain ⟨w, hw⟩ := key
  exact ⟨w, valV_mem hw⟩
theorem mem_mergeK : ∀ {more kvs : List (Key × V)} {k' : Key} {v' : V}, (k', v') ∈ mergeK kvs more → (k', v') ∈ more ∨ ((k', v') ∈ kvs ∧ ∀ v, (k', v) ∉ more)
  | [], kvs, k', v', h => .inr ⟨h, fun v z => by cases z⟩
  | p :: more, kvs, k', v', h => by
    obtain ⟨k, v⟩ := p
    have h : (k', v') ∈ mergeK (putK kvs k v) more := h
    rcases mem_mergeK h with h1 | ⟨h1, h2⟩
    · exact .inl (List.mem_cons_of_mem _ h1)
    · rcases mem_putK h1 with ⟨rfl, rfl⟩ | ⟨h3, h4⟩
      · exact .inl (List.mem_cons_self ..)
      · refine .inr ⟨h3, fun w z => ?_⟩
        rcases List.mem_cons.mp z with z | z
        · cases z; exact h4 rfl
        · exact h2 w z
theorem key_mergeK : ∀ {more kvs : List (Key × V)} {j : Key}, ((∃ w, (j, w) ∈ kvs) ∨ ∃ w, (j, w) ∈ more) → ∃ w, (j, w) ∈ mergeK kvs more
  | [], kvs, j, h => by
    rcases h with h | ⟨w, h⟩
    · exact h
    · cases h
  | p :: more, kvs, j, h => by
    obtain ⟨k, v⟩ := p
    refine key_mergeK (more := more) (kvs := putK kvs k v) ?_
    rcases h with h | ⟨w, h⟩
    · exact .inl (key_putK (.inl h))
    · rcases List.mem_cons.mp h with h | h
      · cases h; exact .inl (key_putK (.inr rfl))
      · exact .inr ⟨w, h⟩
/-- [value for j in range(lo, hi)] -/
theorem lc_vals2 {H : Hp} {n c : Nat} {lo : Int} {σ : L2.St} {f : Nat → V} {ta : TA} {te : TE} {Q : VK} (hn : n ≤ 60) (hlo : 0 ≤ lo) (hlo2 : lo ≤ 100) (hc : c < σ.length)
    (ha : ∀ Q1 : List V → Hp → Prop, Q1 [.int lo, .int (lo + n)] H → ta σ H Q1)
    (ht : ∀ j H1 (Q1 : VK), j < n → Same H H1 → Q1 (f j) H1 → te ((σ.set c none).set c (some (.int (lo + (j : Int))))) H1 Q1)
    (q : ∀ D H', Same H H' → H' D = some (.lst ((List.range n).map f)) → H D = none → Q (.ref D) H') :
    tLc (iRng2 ta) (gName c) tYes te [c] σ H Q := by
  refine ha _ ⟨lo, lo + (n : Int), rfl, ⟨by omega, by omega, by omega, by omega⟩, fun D hD => ?_⟩
  rw [show (lo + (n : Int) - lo).toNat = n by omega]
  refine lc_range (lo := lo) (n := n) (fun i H' => Same H H' ∧ H' D = some (.lst ((List.range i).map f))) ⟨upd_keep hD, upd_same⟩ ?_ ?_
  · rintro i H' hi ⟨sm, eD⟩
    refine ⟨?_, ?_⟩
    · show ((σ.set c none).set c (some (.int (lo + (i : Int))))).set c none = σ.set c none
      rw [List.set_set, List.set_set]
    refine ht i H' _ hi sm ?_
    refine ⟨(List.range i).map f, eD, by rw [List.length_map, List.length_range]; exact small1000 (by omega), same_updN hD sm, ?_⟩
    rw [upd_same, List.range_succ, List.map_append]
    rfl
  · rintro H' ⟨sm, eD⟩
    exact q D H' sm eD hD
def adr : V → Addr
  | .ref q => q
  | _ => 0
/-! ### comprehensions over a list -/
/-- what stands behind the source of a comprehension -/
def LcL (K : PySem.W.Frag) (a : Addr) (c : Nat) (te : TE) (σ : L2.St) (H1 : Hp) (Q : VK) : Prop := ∀ D, H1 D = none → ∃ W : Nat → Nat → Hp → Prop, (∃ m, W 0 m (upd H1 D (.lst []))) ∧ ∀ i m H, W i m H →
  ((Itl K a).stop i H ∧ Q (.ref D) H) ∨ ((Itl K a).go i H ∧ ∃ Nx : Hp → Prop, (∀ H', Nx H' → ∃ m', m' < m ∧ W (i + 1) m' H') ∧ ∀ x H', (Itl K a).yld i H x H' → gName c x (wipe σ [c]) H' fun σ2 H2 => wipe σ2 [c] = wipe σ [c] ∧ tYes σ2 H2 fun b H3 =>
    if b = true then te σ2 H3 fun y H4 => ∃ acc, H4 D = some (.lst acc) ∧ acc.length < sizeLine ∧ Nx (upd H4 D (.lst (acc ++ [y]))) else Nx H3)
theorem lc_src {K : PySem.W.Frag} {ts te : TE} {c : Nat} {σ : L2.St} {H : Hp} {Q : VK} (h : ts σ H fun x H1 => ∃ a, x = .ref a ∧ (∃ xs, SqL K H1 a xs) ∧ LcL K a c te σ H1 Q) : tLc (iList K ts) (gName c) tYes te [c] σ H Q := h
/-- each value turned into a value -/
theorem lcL_vals {K : PySem.W.Frag} {a : Addr} {c : Nat} {te : TE} {σ : L2.St} {H : Hp} {Q : VK} {xs : List V} {f : Nat → V} (hx : H a = some (.lst xs)) (hn : xs.length ≤ 900) (hc : c < σ.length)
    (ht : ∀ i x H2 (Q1 : VK), xs[i]? = some x → Same H H2 → (∀ H3, Same H2 H3 → Q1 (f i) H3) → te ((σ.set c none).set c (some x)) H2 Q1)
    (q : ∀ D H', Same H H' → H D = none → H' D = some (.lst ((List.range xs.length).map f)) → Q (.ref D) H') : LcL K a c te σ H Q := fun D hD => by
  refine lc_list (K := K) (a := a) (xs := xs) (fun i H' => Same H H' ∧ H' D = some (.lst ((List.range i).map f))) ⟨upd_keep hD, upd_same⟩ (fun i H' _ ⟨s, _⟩ => .of (s _ _ hx)) ?_ ?_
  · rintro i x H' hi ⟨sm, eD⟩
    have hin := (List.getElem?_eq_some_iff.mp hi).1
    refine ⟨?_, ?_⟩
    · show ((σ.set c none).set c (some x)).set c none = σ.set c none
      rw [List.set_set, List.set_set]
    refine ht i x H' _ hi sm fun H3 s3 => ?_
    refine ⟨(List.range i).map f, s3 _ _ eD, by rw [List.length_map, List.length_range]; exact small1000 (by omega), same_updN hD (sm.trans s3), ?_⟩
    rw [upd_same, List.range_succ, List.map_append]
    rfl
  · rintro H' ⟨sm, eD⟩
    exact q D H' sm hD eD
/-- each value turned into a new object -/
theorem lcL_objs {K : PySem.W.Frag} {a : Addr} {c : Nat} {te : TE} {σ : L2.St} {H : Hp} {Q : VK} {xs : List V} {Pr : Nat → HO → Prop} (hx : H a = some (.lst xs)) (hn : xs.length ≤ 900) (hc : c < σ.length)
    (ht : ∀ i x H2 (Q1 : VK), xs[i]? = some x → Same H H2 → (∀ r o H3, Same H2 H3 → H2 r = none → H3 r = some o → Pr i o → Q1 (.ref r) H3) → te ((σ.set c none).set c (some x)) H2 Q1)
    (q : ∀ D (as : List Addr) H', Same H H' → H D = none → H' D = some (.lst (as.map V.ref)) → as.length = xs.length → as.Nodup → (∀ a ∈ as, H a = none) → (∀ (i : Nat) (a : Addr), as[i]? = some a → ∃ o, H' a = some o ∧ Pr i o) → Q (.ref D) H') : LcL K a c te σ H Q := fun D hD => by
  refine lc_list (K := K) (a := a) (xs := xs) (fun i H' => ∃ as' : List Addr, Same H H' ∧ H' D = some (.lst (as'.map V.ref)) ∧ as'.length = i ∧ as'.Nodup ∧ (∀ a ∈ as', H a = none ∧ a ≠ D) ∧ ∀ (j : Nat) (a : Addr), as'[j]? = some a → ∃ o, H' a = some o ∧ Pr j o)
    ⟨[], upd_keep hD, upd_same, rfl, List.nodup_nil, (fun a h => by cases h), (fun j a h => by cases h)⟩ (fun i H' _ ⟨_, s, _⟩ => .of (s _ _ hx)) ?_ ?_
  · rintro i x H' hi ⟨as', sm, eD, hl, nd, hf, hr⟩
    have hin := (List.getElem?_eq_some_iff.mp hi).1
    refine ⟨?_, ?_⟩
    · show ((σ.set c none).set c (some x)).set c none = σ.set c none
      rw [List.set_set, List.set_set]
    refine ht i x H' _ hi sm fun l o H2 s2 fl e2 po => ?_
    have nD : l ≠ D := fun e => by rw [e, eD] at fl; cases fl
    have nl : l ∉ as' := fun hm => by
      obtain ⟨j, hj, e⟩ := List.mem_iff_getElem.mp hm
      obtain ⟨o', h', _⟩ := hr j l (by rw [List.getElem?_eq_getElem hj, e])
      rw [fl] at h'; cases h'
    refine ⟨as'.map V.ref, s2 _ _ eD, by rw [List.length_map, hl]; exact small1000 (by omega), as' ++ [l], same_updN hD (sm.trans s2), ?_, by simp [hl], ?_, ?_, ?_⟩
    · rw [upd_same, List.map_append]; rfl
    · rw [List.nodup_append]
      refine ⟨nd, by simp, fun a ha b hb e => ?_⟩
      have : b = l := by simpa using hb
      exact nl (by rw [← this, ← e]; exact ha)
    · intro a ha
      rcases List.mem_append.mp ha with h | h
      · exact hf a h
      · have : a = l := by simpa using h
        subst this
        exact ⟨sm.free fl, nD⟩
    · intro j a hj
      by_cases c1 : j < as'.length
      · rw [List.getElem?_append_left c1] at hj
        rw [upd_ne (hf a (List.mem_of_getElem? hj)).2]
        obtain ⟨o', h', p'⟩ := hr j a hj
        exact ⟨o', s2 _ _ h', p'⟩
      · have hlt := (List.getElem?_eq_some_iff.mp hj).1
        rw [List.length_append, List.length_singleton] at hlt
        obtain rfl : j = as'.length := by omega
        rw [List.getElem?_append_right (Nat.le_refl _), Nat.sub_self] at hj
        have : l = a := by simpa using hj
        subst this
        rw [upd_ne nD, hl]
        exact ⟨o, e2, po⟩
  · rintro H' ⟨as', sm, eD, hl, nd, hf, hr⟩
    exact q D as' H' sm hD eD hl nd (fun a ha => (hf a ha).1) hr
/-- each value turned into a tuple -/
theorem lcL_tups {K : PySem.W.Frag} {a : Addr} {c : Nat} {te : TE} {σ : L2.St} {H : Hp} {Q : VK} {xs : List V} {Pr : Nat → List V → Prop} (hx : H a = some (.lst xs)) (hn : xs.length ≤ 900) (hc : c < σ.length)
    (ht : ∀ i x H2 (Q1 : VK), xs[i]? = some x → Same H H2 → (∀ r o H3, Same H2 H3 → H3 r = some (.tup o) → Pr i o → Q1 (.ref r) H3) → te ((σ.set c none).set c (some x)) H2 Q1)
    (q : ∀ D (as : List Addr) H', Same H H' → H D = none → H' D = some (.lst (as.map V.ref)) → as.length = xs.length → (∀ (i : Nat) (a : Addr), as[i]? = some a → ∃ o, H' a = some (.tup o) ∧ Pr i o) → Q (.ref D) H') : LcL K a c te σ H Q := fun D hD => by
  refine lc_list (K := K) (a := a) (xs := xs) (fun i H' => ∃ as' : List Addr, Same H H' ∧ H' D = some (.lst (as'.map V.ref)) ∧ as'.length = i ∧ ∀ (j : Nat) (a : Addr), as'[j]? = some a → ∃ o, H' a = some (.tup o) ∧ Pr j o)
    ⟨[], upd_keep hD, upd_same, rfl, (fun j a h => by cases h)⟩ (fun i H' _ ⟨_, s, _⟩ => .of (s _ _ hx)) ?_ ?_
  · rintro i x H' hi ⟨as', sm, eD, hl, hr⟩
    have hin := (List.getElem?_eq_some_iff.mp hi).1
    refine ⟨?_, ?_⟩
    · show ((σ.set c none).set c (some x)).set c none = σ.set c none
      rw [List.set_set, List.set_set]
    refine ht i x H' _ hi sm fun l o H2 s2 e2 po => ?_
    have eD2 := s2 _ _ eD
    refine ⟨as'.map V.ref, eD2, by rw [List.length_map, hl]; exact small1000 (by omega), as' ++ [l], same_updN hD (sm.trans s2), ?_, by simp [hl], ?_⟩
    · rw [upd_same, List.map_append]; rfl
    · intro j a hj
      by_cases c1 : j < as'.length
      · rw [List.getElem?_append_left c1] at hj
        obtain ⟨o', h', p'⟩ := hr j a hj
        refine ⟨o', ?_, p'⟩
        have h2 := s2 _ _ h'
        rw [upd_ne (ne_of h2 eD2 (by intro z; cases z))]; exact h2
      · have hlt := (List.getElem?_eq_some_iff.mp hj).1
        rw [List.length_append, List.length_singleton] at hlt
        obtain rfl : j = as'.length := by omega
        rw [List.getElem?_append_right (Nat.le_refl _), Nat.sub_self] at hj
        have : l = a := by simpa using hj
        subst this
        rw [upd_ne (ne_of e2 eD2 (by intro z; cases z)), hl]
        exact ⟨o, e2, po⟩
  · rintro H' ⟨as', sm, eD, hl, hr⟩
    exact q D as' H' sm hD eD hl hr
/-! ### looks, guards, rooms, doors, machines on the heap -/
theorem tFor_str {te : TE} {g : TG} {tb : TS} {D : Ends} {σ : L2.St} {H : Hp} (h : te σ H fun x H1 => ∃ z : Str, x = .str z ∧ ∃ Pv : Nat → L2.St → Hp → Prop, Pv 0 σ H1 ∧
    (∀ i σ H c, z.cps.toList[i]? = some c → Pv i σ H → g (.str ⟨#[c]⟩) σ H fun σ2 H2 => tb { D with nx := Pv (i + 1), ct := Pv (i + 1), bk := D.nx } σ2 H2) ∧ ∀ σ H, Pv z.cps.toList.length σ H → D.nx σ H) (mono : ∀ (Q R : VK), (∀ v H, Q v H → R v H) → te σ H Q → te σ H R) : tFor (iStr te) g tb D σ H := by
  refine mono _ _ (fun v H1 ⟨z, hz, Pv, h0, hs, hd⟩ => ⟨z, hz, fun i m σ H => m = z.cps.toList.length - i ∧ i ≤ z.cps.toList.length ∧ Pv i σ H, ⟨_, rfl, Nat.zero_le _, h0⟩, ?_⟩) h
  rintro i m σ H ⟨rfl, hi, p⟩
  rw [Array.length_toList] at hi
  by_cases c : i < z.cps.size
  · refine .inr ⟨c, Pv (i + 1), fun σ' H' p' => ⟨z.cps.toList.length - (i + 1), by rw [Array.length_toList]; omega, rfl, by rw [Array.length_toList]; omega, p'⟩, ?_⟩
    rintro x H' ⟨rfl, c, hc, rfl⟩
    exact hs i σ H' c (by rw [Array.getElem?_toList]; exact hc) p
  · have e : i = z.cps.toList.length := by rw [Array.length_toList]; omega
    exact .inl ⟨by show z.cps.size ≤ i; omega, hd σ H (e ▸ p)⟩
/-- a text's look by its signs: one to most of some signs -/
def okT (x signs : Str) (most : Int) : Bool := decide (1 ≤ (x.length : Int)) && decide ((x.length : Int) ≤ most) && x.cps.toList.all fun c => decide (c ∈ signs.cps.toList)
abbrev letters : Str := "abcdefghijklmnopqrstuvwxyz"
def okName (x : Str) : Bool := okT x letters 8
def okWatch (x : Str) : Bool := decide (x = "/") || okName x
def okSign (x : Str) : Bool := decide (x = "") || (match x.cps.toList.getLast? with | some c => decide (c ∈ ("!?" : Str).cps.toList) && okName (cutS x none (some (-1))) | none => false)
/-- a look as it is told: a watch, a word, some value -/
abbrev Lq := Str × Str × V
/-- flat values with their kind -/
def kindV : V → Option String
  | .non => some "NoneType"
  | .bl _ => some "bool"
  | .int _ => some "int"
  | .str _ => some "str"
  | _ => none
def numOk : V → Bool
  | .int n => decide (0 ≤ n)
  | _ => false
def lookOk (ws watches : List Str) (l : Lq) : Bool := decide (l.1 ∈ watches) && decide (l.2.1 ∈ ws) && numOk l.2.2
def lookD : V → PyData
  | .bl b => .bool b
  | .int i => .int i
  | .str x => .str x
  | _ => .none
def LqAt (H : Hp) (q : Addr) (l : Lq) : Prop := H q = some (.tup [.str l.1, .str l.2.1, l.2.2]) ∧ (kindV l.2.2).isSome = true
/-- a list of things at new or old addresses -/
def SeqOf {α : Type} (R : Hp → Addr → α → Prop) (H : Hp) (p : Addr) (xs : List α) : Prop := ∃ qs : List Addr, H p = some (.lst (qs.map V.ref)) ∧ qs.length = xs.length ∧ ∀ (i : Nat) (q : Addr) (x : α), qs[i]? = some q → xs[i]? = some x → R H q x
theorem SeqOf.keep {α : Type} {R : Hp → Addr → α → Prop} {H H' : Hp} {p : Addr} {xs : List α} (k : ∀ q x, R H q x → R H' q x) (s : Same H H') (h : SeqOf R H p xs) : SeqOf R H' p xs := by
  obtain ⟨qs, a, b, c⟩ := h
  exact ⟨qs, s _ _ a, b, fun i q x h1 h2 => k q x (c i q x h1 h2)⟩
theorem LqAt.keep {H H' : Hp} {q : Addr} {l : Lq} (s : Same H H') (h : LqAt H q l) : LqAt H' q l := ⟨s _ _ h.1, h.2⟩
abbrev LsAt (H : Hp) (p : Addr) (ls : List Lq) : Prop := SeqOf LqAt H p ls
theorem LsAt.keep {H H' : Hp} {p : Addr} {ls : List Lq} (h : LsAt H p ls) (s : Same H H') : LsAt H' p ls := SeqOf.keep (fun _ _ => LqAt.keep s) s h
/-- a room with its stay; a mark -/
abbrev Rq := Str × List Lq
def RqAt (H : Hp) (q : Addr) (r : Rq) : Prop := ∃ g, H q = some (.tup [.str r.1, .ref g]) ∧ LsAt H g r.2
theorem RqAt.keep {H H' : Hp} {q : Addr} {r : Rq} (s : Same H H') (h : RqAt H q r) : RqAt H' q r := by
  obtain ⟨g, a, b⟩ := h
  exact ⟨g, s _ _ a, b.keep s⟩
abbrev RsAt (H : Hp) (p : Addr) (rs : List Rq) : Prop := SeqOf RqAt H p rs
theorem RsAt.keep {H H' : Hp} {p : Addr} {rs : List Rq} (h : RsAt H p rs) (s : Same H H') : RsAt H' p rs := SeqOf.keep (fun _ _ => RqAt.keep s) s h
structure DoorD where
  st : Str
  en : Str
  sg : Str
  looks : List Lq
  backs : List Str
def doorF (st en sg : Str) (g n : Addr) : List (Str × V) := putF "backs" (.ref n) (putF "looks" (.ref g) (putF "sign" (.str sg) (putF "end" (.str en) (putF "start" (.str st) []))))
def DoorAt (C : Addr) (H : Hp) (p : Addr) (d : DoorD) : Prop := ∃ dx g n, H p = some (.ins C dx (doorF d.st d.en d.sg g n)) ∧ LsAt H g d.looks ∧ H n = some (.lst (d.backs.map V.str))
theorem DoorAt.keep {C : Addr} {H H' : Hp} {p : Addr} {d : DoorD} (s : Same H H') (h : DoorAt C H p d) : DoorAt C H' p d := by
  obtain ⟨dx, g, n, a, b, c⟩ := h
  exact ⟨dx, g, n, s _ _ a, b.keep s, s _ _ c⟩
abbrev DsAt (C : Addr) (H : Hp) (p : Addr) (ds : List DoorD) : Prop := SeqOf (DoorAt C) H p ds
theorem DsAt.keep {C : Addr} {H H' : Hp} {p : Addr} {ds : List DoorD} (h : DsAt C H p ds) (s : Same H H') : DsAt C H' p ds := SeqOf.keep (fun _ _ => DoorAt.keep s) s h
local macro_rules | `(tactic| walk_at "lk") => `(tactic| repeat (first | rw [lookup_putF, if_pos rfl] | rw [lookup_putF, if_neg (by decide +kernel)]))
section
variable {st en sg : Str} {g n : Addr}
theorem door_start : (doorF st en sg g n).lookup ("start" : Str) = some (V.str st) := by unfold doorF; walk_at "lk"
theorem door_end : (doorF st en sg g n).lookup ("end" : Str) = some (V.str en) := by unfold doorF; walk_at "lk"
theorem door_sign : (doorF st en sg g n).lookup ("sign" : Str) = some (V.str sg) := by unfold doorF; walk_at "lk"
theorem door_looks : (doorF st en sg g n).lookup ("looks" : Str) = some (V.ref g) := by unfold doorF; walk_at "lk"
theorem door_backs : (doorF st en sg g n).lookup ("backs" : Str) = some (V.ref n) := by unfold doorF; walk_at "lk"
theorem door_no {m : Str} (h1 : ¬ m = "start") (h2 : ¬ m = "end") (h3 : ¬ m = "sign") (h4 : ¬ m = "looks") (h5 : ¬ m = "backs") : (doorF st en sg g n).lookup m = none := by
  unfold doorF
  rw [lookup_putF, if_neg h5, lookup_putF, if_neg h4, lookup_putF, if_neg h3, lookup_putF, if_neg h2, lookup_putF, if_neg h1]; rfl
end
structure MachD where
  watches : List Str
  rooms : List Rq
  doors : List DoorD
def machF (wn rn sl dl : Addr) : List (Str × V) := putF "door_list" (.ref dl) (putF "stay_looks" (.ref sl) (putF "room_names" (.ref rn) (putF "watch_names" (.ref wn) [])))
def MachAt (CM CD : Addr) (H : Hp) (p : Addr) (M : MachD) : Prop := ∃ dx wn rn sl dl, H p = some (.ins CM dx (machF wn rn sl dl)) ∧ H wn = some (.lst (M.watches.map V.str)) ∧ H rn = some (.lst ((M.rooms.map (·.1)).map V.str)) ∧ SeqOf LsAt H sl (M.rooms.map (·.2)) ∧ DsAt CD H dl M.doors
theorem MachAt.keep {CM CD : Addr} {H H' : Hp} {p : Addr} {M : MachD} (s : Same H H') (h : MachAt CM CD H p M) : MachAt CM CD H' p M := by
  obtain ⟨dx, wn, rn, sl, dl, a, b, c, d, e⟩ := h
  exact ⟨dx, wn, rn, sl, dl, s _ _ a, s _ _ b, s _ _ c, SeqOf.keep (fun _ _ h => LsAt.keep h s) s d, e.keep s⟩
section
variable {wn rn sl dl : Addr}
theorem mach_watch : (machF wn rn sl dl).lookup ("watch_names" : Str) = some (V.ref wn) := by unfold machF; walk_at "lk"
theorem mach_room : (machF wn rn sl dl).lookup ("room_names" : Str) = some (V.ref rn) := by unfold machF; walk_at "lk"
theorem mach_stay : (machF wn rn sl dl).lookup ("stay_looks" : Str) = some (V.ref sl) := by unfold machF; walk_at "lk"
theorem mach_door : (machF wn rn sl dl).lookup ("door_list" : Str) = some (V.ref dl) := by unfold machF; walk_at "lk"
theorem mach_no {m : Str} (h1 : ¬ m = "watch_names") (h2 : ¬ m = "room_names") (h3 : ¬ m = "stay_looks") (h4 : ¬ m = "door_list") : (machF wn rn sl dl).lookup m = none := by
  unfold machF
  rw [lookup_putF, if_neg h4, lookup_putF, if_neg h3, lookup_putF, if_neg h2, lookup_putF, if_neg h1]; rfl
end
def guardOk (ws watches : List Str) (ls : List Lq) : Bool := ls.all (lookOk ws watches)
def roomOk (watches : List Str) (r : Rq) : Bool := okT r.1 (letters ++ ("/" : Str)) 60 && guardOk ["<", "<="] watches r.2
def doorOk (watches names : List Str) (d : DoorD) : Bool :=
  okSign d.sg && decide (d.st ∈ names) && decide (d.en ∈ names) && guardOk ["<", "<=", ">", ">=", "="] watches d.looks && d.backs.all (fun b => decide (b ∈ watches)) && decide d.backs.Nodup
theorem inV_str {a : Str} {xs : List Str} : inV (.str a) (xs.map V.str) = decide (a ∈ xs) := by
  unfold inV
  rw [List.any_map, Bool.eq_iff_iff, List.any_eq_true, decide_eq_true_iff]
  constructor
  · rintro ⟨y, hy, e⟩
    have : y = a := by simpa [eqV] using e
    exact this ▸ hy
  · intro h
    exact ⟨a, h, by simp [eqV]⟩
theorem flat_of {xs : List Str} : (xs.map V.str).all flatV = true := L2.flat_strs xs
theorem ty_kind {K : PySem.W.Frag} {H : Hp} {v : V} (h : (kindV v).isSome = true) : ∃ t, t ∈ kinds ∧ TyX K H v (.type t) ∧ (t = "int" ↔ ∃ n, v = .int n) := by
  cases v with
  | non => exact ⟨_, by decide, .base .non, by simp⟩
  | bl b => exact ⟨_, by decide, .base (.bl b), by simp⟩
  | int i => exact ⟨_, by decide, .base (.int i), by simp⟩
  | str x => exact ⟨_, by decide, .base (.str x), by simp⟩
  | _ => cases h
def pick {α : Type} (ls : List α) (g : α → V) (d : V) (i : Nat) : V := match ls[i]? with | some l => g l | none => d
theorem pick_at {α : Type} {ls : List α} {g : α → V} {d : V} {i : Nat} {l : α} (h : ls[i]? = some l) : pick ls g d i = g l := by unfold pick; rw [h]
theorem range_map {α : Type} (ls : List α) (g : α → V) (d : V) : (List.range ls.length).map (pick ls g d) = ls.map g := by
  refine List.ext_getElem? fun k => ?_
  rw [List.getElem?_map, List.getElem?_map]
  by_cases h : k < ls.length
  · rw [List.getElem?_range h, List.getElem?_eq_getElem h]
    exact congrArg some (pick_at (List.getElem?_eq_getElem h))
  · rw [List.getElem?_eq_none (by rw [List.length_range]; omega), List.getElem?_eq_none (by omega)]; rfl
/-! ### looks and rooms as data -/
def ldat (l : Lq) : PyData := .tuple [.str l.1, .str l.2.1, lookD l.2.2]
def rdat (r : Rq) : PyData := .tuple [.str r.1, .list (r.2.map ldat)]
def TxOk (x : Str) : Prop := PyData.canLay0 (.str x) = true
def LqOk (l : Lq) : Prop := TxOk l.1 ∧ TxOk l.2.1 ∧ PyData.canLay0 (lookD l.2.2) = true
def RqOk (r : Rq) : Prop := TxOk r.1 ∧ ∀ l ∈ r.2, LqOk l
theorem lay_listM {ds : List PyData} {k : Nat} (h : ∀ d ∈ ds, d.canLay0 = true ∧ d.depth ≤ k) : (PyData.list ds).canLay0 = true ∧ (PyData.list ds).depth ≤ k + 1 := by
  have key : ∀ ds : List PyData, (∀ d ∈ ds, d.canLay0 = true ∧ d.depth ≤ k) → PyData.canLayAll0 ds = true ∧ PyData.depthAll ds ≤ k := by
    intro ds
    induction ds with
    | nil => intro _; exact ⟨rfl, Nat.zero_le _⟩
    | cons d ds ih =>
      intro h
      have h1 := h d (List.mem_cons_self ..)
      have h2 := ih fun x hx => h x (List.mem_cons_of_mem _ hx)
      refine ⟨by show (d.canLay0 && PyData.canLayAll0 ds) = true; rw [h1.1, h2.1]; rfl, ?_⟩
      show max d.depth (PyData.depthAll ds) ≤ k
      omega
  have z := key ds h
  exact ⟨z.1, by show PyData.depthAll ds + 1 ≤ k + 1; omega⟩
theorem lay_tup {ds : List PyData} {k : Nat} (h : ∀ d ∈ ds, d.canLay0 = true ∧ d.depth ≤ k) : (PyData.tuple ds).canLay0 = true ∧ (PyData.tuple ds).depth ≤ k + 1 := lay_listM h
theorem lay_flat {v : V} (h : PyData.canLay0 (lookD v) = true) : (lookD v).canLay0 = true ∧ (lookD v).depth ≤ 1 := ⟨h, by cases v <;> exact Nat.zero_le _⟩
theorem lay_str {x : Str} (h : TxOk x) : (PyData.str x).canLay0 = true ∧ (PyData.str x).depth ≤ 1 := ⟨h, Nat.zero_le _⟩
theorem lay_ldat {l : Lq} (h : LqOk l) : (ldat l).canLay0 = true ∧ (ldat l).depth ≤ 2 := lay_tup (k := 1) fun d hd => by
  simp only [List.mem_cons, List.not_mem_nil, or_false] at hd
  rcases hd with rfl | rfl | rfl
  · exact lay_str h.1
  · exact lay_str h.2.1
  · exact lay_flat h.2.2
theorem lay_ldats {ls : List Lq} (h : ∀ l ∈ ls, LqOk l) : (PyData.list (ls.map ldat)).canLay0 = true ∧ (PyData.list (ls.map ldat)).depth ≤ 3 := lay_listM fun d hd => by
  obtain ⟨l, hl, rfl⟩ := List.mem_map.mp hd
  exact lay_ldat (h l hl)
theorem lay_rdat {r : Rq} (h : RqOk r) : (rdat r).canLay0 = true ∧ (rdat r).depth ≤ 4 := lay_tup (k := 3) fun d hd => by
  simp only [List.mem_cons, List.not_mem_nil, or_false] at hd
  rcases hd with rfl | rfl
  · exact ⟨(lay_str h.1).1, Nat.le_trans (lay_str h.1).2 (by decide)⟩
  · exact lay_ldats h.2
theorem lay_rdats {rs : List Rq} (h : ∀ r ∈ rs, RqOk r) : (PyData.list (rs.map rdat)).canLay0 = true ∧ (PyData.list (rs.map rdat)).depth ≤ 5 := lay_listM fun d hd => by
  obtain ⟨l, hl, rfl⟩ := List.mem_map.mp hd
  exact lay_rdat (h l hl)
theorem shaped_ls {ls : List Lq} (h : ∀ l ∈ ls, LqOk l) : SeqAt.shaped (.list (ls.map ldat)) = true := Bool.and_eq_true_iff.mpr ⟨(lay_ldats h).1, decide_eq_true (by have := (lay_ldats h).2; omega)⟩
theorem shaped_rs {rs : List Rq} (h : ∀ r ∈ rs, RqOk r) : SeqAt.shaped (.list (rs.map rdat)) = true := Bool.and_eq_true_iff.mpr ⟨(lay_rdats h).1, decide_eq_true (by have := (lay_rdats h).2; omega)⟩
theorem shaped_xs {xs : List Str} (h : ∀ x ∈ xs, TxOk x) : SeqAt.shaped (.list (xs.map PyData.str)) = true := shaped_list fun d hd => by
  obtain ⟨x, hx, rfl⟩ := List.mem_map.mp hd
  exact ⟨h x hx, Nat.zero_le _⟩
section
variable {K : PySem.W.Frag} {H : Hp} {p : Addr}
theorem dp_flat {v : V} (h : (kindV v).isSome = true) : Dp K H v (lookD v) := by
  cases v with
  | non => exact .non
  | bl b => exact .bl b
  | int i => exact .int i
  | str x => exact .str x
  | _ => cases h
theorem dp_seq {α : Type} {R : Hp → Addr → α → Prop} {g : α → PyData} (k : ∀ q x, R H q x → Dp K H (.ref q) (g x)) {xs : List α} (h : SeqOf R H p xs) : Dp K H (.ref p) (.list (xs.map g)) := by
  obtain ⟨qs, a, b, c⟩ := h
  refine .lst (.of a) (dpall_of (by simp [b]) fun i v d h1 h2 => ?_)
  rw [List.getElem?_map] at h1 h2
  obtain ⟨q, hq, rfl⟩ := Option.map_eq_some_iff.mp h1
  obtain ⟨x, hx, rfl⟩ := Option.map_eq_some_iff.mp h2
  exact k q x (c i q x hq hx)
theorem dp_ls {ls : List Lq} (h : LsAt H p ls) : Dp K H (.ref p) (.list (ls.map ldat)) := dp_seq (fun q l h => .tup (.of h.1) (.cons (.str _) (.cons (.str _) (.cons (dp_flat h.2) .nil)))) h
theorem dp_rs {rs : List Rq} (h : RsAt H p rs) : Dp K H (.ref p) (.list (rs.map rdat)) := dp_seq (fun q r ⟨g, h1, h2⟩ => .tup (.of h1) (.cons (.str _) (.cons (dp_ls h2) .nil))) h
end
theorem ints_dp {K : PySem.W.Frag} {H : Hp} {p : Addr} {xs : List Int} (h : H p = some (.lst (xs.map V.int))) : Dp K H (.ref p) (.list (xs.map PyData.int)) :=
  .lst (.of h) (dpall_of (by simp) fun k v d h1 h2 => by
    rw [List.getElem?_map] at h1 h2
    obtain ⟨x, hx, rfl⟩ := Option.map_eq_some_iff.mp h1
    rw [hx] at h2; cases h2
    exact .int x)
theorem lay_ints (xs : List Int) : (PyData.list (xs.map PyData.int)).canLay0 = true ∧ (PyData.list (xs.map PyData.int)).depth ≤ 2 := lay_listM fun d hd => by
  obtain ⟨x, _, rfl⟩ := List.mem_map.mp hd
  exact ⟨rfl, Nat.zero_le _⟩
theorem shaped_ints (xs : List Int) : SeqAt.shaped (.list (xs.map PyData.int)) = true := Bool.and_eq_true_iff.mpr ⟨(lay_ints xs).1, decide_eq_true (by have := (lay_ints xs).2; omega)⟩
/-! ### comprehensions over a list: any target, a test, new objects -/
def LcG (K : PySem.W.Frag) (a : Addr) (g : TG) (tt : TT) (te : TE) (vs : List Nat) (σ : L2.St) (H1 : Hp) (Q : VK) : Prop := ∀ D, H1 D = none → ∃ W : Nat → Nat → Hp → Prop, (∃ m, W 0 m (upd H1 D (.lst []))) ∧ ∀ i m H, W i m H →
  ((Itl K a).stop i H ∧ Q (.ref D) H) ∨ ((Itl K a).go i H ∧ ∃ Nx : Hp → Prop, (∀ H', Nx H' → ∃ m', m' < m ∧ W (i + 1) m' H') ∧ ∀ x H', (Itl K a).yld i H x H' → g x (wipe σ vs) H' fun σ2 H2 => wipe σ2 vs = wipe σ vs ∧ tt σ2 H2 fun b H3 =>
    if b = true then te σ2 H3 fun y H4 => ∃ acc, H4 D = some (.lst acc) ∧ acc.length < sizeLine ∧ Nx (upd H4 D (.lst (acc ++ [y]))) else Nx H3)
theorem lcg_src {K : PySem.W.Frag} {ts te : TE} {g : TG} {tt : TT} {vs : List Nat} {σ : L2.St} {H : Hp} {Q : VK} (h : ts σ H fun x H1 => ∃ a, x = .ref a ∧ (∃ xs, SqL K H1 a xs) ∧ LcG K a g tt te vs σ H1 Q) : tLc (iList K ts) g tt te vs σ H Q := h
/-- H3 without what is new between H and H2 -/
noncomputable def cutH (H H2 H3 : Hp) : Hp := open Classical in fun b => if H b = none ∧ H2 b ≠ none then none else H3 b
theorem cut_same {H H2 H3 : Hp} (s : Same H H3) : Same H (cutH H H2 H3) := fun b o e => by
  unfold cutH; rw [if_neg (fun z => by rw [e] at z; cases z.1)]; exact s _ _ e
theorem cut_new {H H2 H3 : Hp} {r : Addr} {o : HO} (f : H2 r = none) (e : H3 r = some o) : cutH H H2 H3 r = some o := by
  unfold cutH; rw [if_neg (fun z => z.2 f)]; exact e
theorem cut_sub {H H2 H3 : Hp} : Same (cutH H H2 H3) H3 := fun b o e => by
  unfold cutH at e; split at e
  · cases e
  · exact e
open Classical in
noncomputable def delH (D : Addr) (H : Hp) : Hp := fun b => if b = D then none else H b
theorem del_at {D : Addr} {H : Hp} {b : Addr} {o : HO} (n : b ≠ D) (e : H b = some o) : delH D H b = some o := by unfold delH; rw [if_neg n]; exact e
theorem del_of {D : Addr} {H : Hp} {b : Addr} {o : HO} (e : delH D H b = some o) : b ≠ D ∧ H b = some o := by
  unfold delH at e
  by_cases h : b = D
  · rw [if_pos h] at e; cases e
  · rw [if_neg h] at e; exact ⟨h, e⟩
theorem cut_del {D : Addr} {H H2 H3 : Hp} {o : HO} (f : H D = none) (e : H2 D = some o) : Same (cutH H H2 H3) (delH D H3) := fun b o' h => by
  have hb : b ≠ D := fun z => by
    unfold cutH at h
    rw [z, if_pos ⟨f, by rw [e]; simp⟩] at h
    cases h
  exact del_at hb (cut_sub _ _ h)
def SeqV {α : Type} (R : Hp → V → α → Prop) (H : Hp) (p : Addr) (xs : List α) : Prop := ∃ ys : List V, H p = some (.lst ys) ∧ ys.length = xs.length ∧ ∀ (i : Nat) (y : V) (x : α), ys[i]? = some y → xs[i]? = some x → R H y x
/-- a list of new things that is still being made: what they are stands without it -/
def SeqD {α : Type} (R : Hp → Addr → α → Prop) (H : Hp) (p : Addr) (xs : List α) : Prop := ∃ qs : List Addr, H p = some (.lst (qs.map V.ref)) ∧ qs.length = xs.length ∧ ∀ (i : Nat) (q : Addr) (x : α), qs[i]? = some q → xs[i]? = some x → R (delH p H) q x
theorem del_same {p : Addr} {H H' : Hp} (s : Same H H') : Same (delH p H) (delH p H') := fun b o e => by
  have := del_of e
  exact del_at this.1 (s _ _ this.2)
theorem del_sub {p : Addr} {H : Hp} : Same (delH p H) H := fun b o e => (del_of e).2
theorem del_upd {p : Addr} {H : Hp} {o : HO} : Same (delH p H) (delH p (upd H p o)) := fun b o' e => by
  have := del_of e
  exact del_at this.1 (by rw [upd_ne this.1]; exact this.2)
section
variable {α : Type} {R : Hp → Addr → α → Prop} {H H' : Hp} {p : Addr} {xs : List α}
theorem SeqD.keep (k : ∀ H H' q x, Same H H' → R H q x → R H' q x) (s : Same H H') (h : SeqD R H p xs) : SeqD R H' p xs := by
  obtain ⟨qs, a, b, c⟩ := h
  exact ⟨qs, s _ _ a, b, fun i q x h1 h2 => k _ _ q x (del_same s) (c i q x h1 h2)⟩
theorem SeqD.seq (k : ∀ H H' q x, Same H H' → R H q x → R H' q x) (h : SeqD R H p xs) : SeqOf R H p xs := by
  obtain ⟨qs, a, b, c⟩ := h
  exact ⟨qs, a, b, fun i q x h1 h2 => k _ _ q x del_sub (c i q x h1 h2)⟩
theorem SeqD.nil (e : H p = some (.lst [])) : SeqD R H p [] := ⟨[], e, rfl, fun i q x h => by simp at h⟩
theorem SeqD.app (k : ∀ H H' q x, Same H H' → R H q x → R H' q x) (h : SeqD R H p xs) {q : Addr} {x : α} (hq : R (delH p H) q x) : ∃ items, H p = some (.lst items) ∧ items.length = xs.length ∧ SeqD R (upd H p (.lst (items ++ [.ref q]))) p (xs ++ [x]) := by
  obtain ⟨qs, a, b, c⟩ := h
  refine ⟨_, a, by rw [List.length_map]; exact b, qs ++ [q], by rw [upd_same, List.map_append]; rfl, by simp [b], fun i q' x' h1 h2 => ?_⟩
  refine k _ _ _ _ del_upd ?_
  by_cases c1 : i < qs.length
  · rw [List.getElem?_append_left c1] at h1
    rw [List.getElem?_append_left (by omega)] at h2
    exact c i q' x' h1 h2
  · have hlt := (List.getElem?_eq_some_iff.mp h1).1
    rw [List.length_append, List.length_singleton] at hlt
    obtain rfl : i = qs.length := by omega
    rw [List.getElem?_append_right (Nat.le_refl _), Nat.sub_self] at h1
    rw [b, List.getElem?_append_right (Nat.le_refl _), Nat.sub_self] at h2
    have a1 : q = q' := by simpa using h1
    have a2 : x = x' := by simpa using h2
    subst a1; subst a2
    exact hq
end
def SeqVD {α : Type} (R : Hp → V → α → Prop) (H : Hp) (p : Addr) (xs : List α) : Prop := ∃ ys : List V, H p = some (.lst ys) ∧ ys.length = xs.length ∧ ∀ (i : Nat) (y : V) (x : α), ys[i]? = some y → xs[i]? = some x → R (delH p H) y x
theorem seqVD_of {α : Type} {R : Hp → Addr → α → Prop} {H : Hp} {p : Addr} {xs : List α} (h : SeqVD (fun H y x => ∃ q, y = .ref q ∧ R H q x) H p xs) : SeqD R H p xs := by
  obtain ⟨ys, a, b, c⟩ := h
  have key : ∀ (ys : List V) (xs : List α), ys.length = xs.length → (∀ (i : Nat) (y : V) (x : α), ys[i]? = some y → xs[i]? = some x → ∃ q, y = .ref q ∧ R (delH p H) q x) → ∃ qs : List Addr, ys = qs.map V.ref ∧ qs.length = xs.length ∧ ∀ (i : Nat) (q : Addr) (x : α), qs[i]? = some q → xs[i]? = some x → R (delH p H) q x := by
    intro ys
    induction ys with
    | nil => intro xs hl _; exact ⟨[], rfl, hl, fun i q x h => by simp at h⟩
    | cons y ys ih =>
      intro xs hl h
      cases xs with
      | nil => simp at hl
      | cons x xs =>
        obtain ⟨q, e, r⟩ := h 0 y x rfl rfl
        obtain ⟨qs, e2, l2, r2⟩ := ih xs (by simpa using hl) fun i y x h1 h2 => h (i + 1) y x h1 h2
        refine ⟨q :: qs, by rw [e, e2]; rfl, by simp [l2], fun i q' x' h1 h2 => ?_⟩
        cases i with
        | zero => cases h1; cases h2; exact r
        | succ i => exact r2 i q' x' h1 h2
  obtain ⟨qs, e, l, r⟩ := key ys xs b c
  exact ⟨qs, e ▸ a, l, r⟩
theorem seqV_vals {α : Type} {f : α → V} {H : Hp} {p : Addr} {xs : List α} (h : SeqV (fun _ y x => y = f x) H p xs) : H p = some (.lst (xs.map f)) := by
  obtain ⟨ys, a, b, c⟩ := h
  rw [a]
  refine congrArg (fun z => some (HO.lst z)) (List.ext_getElem? fun i => ?_)
  rw [List.getElem?_map]
  by_cases hi : i < xs.length
  · have h1 := List.getElem?_eq_getElem (l := ys) (i := i) (by omega)
    have h2 := List.getElem?_eq_getElem hi
    rw [h1, h2, c i _ _ h1 h2]; rfl
  · rw [List.getElem?_eq_none (by omega), List.getElem?_eq_none (by omega)]; rfl
theorem lcG {K : PySem.W.Frag} {α β : Type} {RV : Hp → V → β → Prop} (keep : ∀ H H' y x, Same H H' → RV H y x → RV H' y x) {F : α → Option β} {a : Addr} {g : TG} {tt : TT} {te : TE} {vs : List Nat} {σ : L2.St} {H : Hp} {Q : VK} {xs : List V} {zs : List α}
    (hx : H a = some (.lst xs)) (hz : xs.length = zs.length) (hn : xs.length ≤ 900)
    (ht : ∀ (i : Nat) (x : V) (z : α) (H2 : Hp) (Yes : VK) (No : Hp → Prop), xs[i]? = some x → zs[i]? = some z → Same H H2 → (∀ y H5, Same H2 H5 → (∃ o, F z = some o ∧ ∀ D acc, H D = none → H2 D = some (.lst acc) → RV (delH D H5) y o) → Yes y H5) → (∀ H5, Same H2 H5 → F z = none → No H5) →
      g x (wipe σ vs) H2 fun σ2 H3 => wipe σ2 vs = wipe σ vs ∧ tt σ2 H3 fun b H4 => if b = true then te σ2 H4 Yes else No H4)
    (q : ∀ D H', Same H H' → H D = none → SeqVD RV H' D (zs.filterMap F) → Q (.ref D) H') : LcG K a g tt te vs σ H Q := fun D hD => by
  refine lc_list (K := K) (a := a) (xs := xs) (fun i H' => Same H H' ∧ ∃ acc : List V, H' D = some (.lst acc) ∧ acc.length = ((zs.take i).filterMap F).length ∧ ∀ (j : Nat) (y : V) (o : β), acc[j]? = some y → ((zs.take i).filterMap F)[j]? = some o → RV (delH D H') y o)
    ⟨upd_keep hD, [], upd_same, rfl, fun j y o h => by simp at h⟩ (fun i H' _ ⟨s, _⟩ => .of (s _ _ hx)) ?_ ?_
  · rintro i x H2 hi ⟨sm, acc, eD, hl, hr⟩
    have hin := (List.getElem?_eq_some_iff.mp hi).1
    have hzi := List.getElem?_eq_getElem (l := zs) (i := i) (by omega)
    have la : acc.length ≤ 900 := by
      have h1 := List.length_filterMap_le F (zs.take i)
      have h2 := List.length_take_le i zs
      have : (zs.take i).length ≤ i := by rw [List.length_take]; omega
      omega
    have tk : (zs.take (i + 1)).filterMap F = (zs.take i).filterMap F ++ (match F zs[i] with | some o => [o] | none => []) := by
      rw [List.take_add_one, hzi, List.filterMap_append]
      congr 1
      cases h : F zs[i] <;> simp [h]
    refine ht i x zs[i] H2 _ _ hi hzi sm ?yes ?no
    case yes =>
      rintro y H5 s5 ⟨o, ho, rv⟩
      refine ⟨acc, s5 _ _ eD, small1000 (by omega), same_updN hD (sm.trans s5), acc ++ [y], upd_same, ?_, ?_⟩
      · rw [tk, ho]; simp [hl]
      · intro j y' o' h1 h2
        rw [tk, ho] at h2
        by_cases c : j < acc.length
        · rw [List.getElem?_append_left c] at h1
          rw [List.getElem?_append_left (by omega)] at h2
          refine keep _ _ _ _ (fun b o e => ?_) (hr j y' o' h1 h2)
          have hb := del_of e
          exact del_at hb.1 (by rw [upd_ne hb.1]; exact s5 _ _ hb.2)
        · have hlt := (List.getElem?_eq_some_iff.mp h1).1
          rw [List.length_append, List.length_singleton] at hlt
          obtain rfl : j = acc.length := by omega
          rw [List.getElem?_append_right (Nat.le_refl _), Nat.sub_self] at h1
          rw [hl, List.getElem?_append_right (Nat.le_refl _), Nat.sub_self] at h2
          have h1 : y = y' := by simpa using h1
          have h2 : o = o' := by simpa using h2
          subst h1 h2
          refine keep _ _ _ _ (fun b o e => ?_) (rv D acc hD eD)
          have hb := del_of e
          exact del_at hb.1 (by rw [upd_ne hb.1]; exact hb.2)
    case no =>
      intro H5 s5 ho
      refine ⟨sm.trans s5, acc, s5 _ _ eD, ?_, ?_⟩
      · rw [tk, ho]; simp [hl]
      · intro j y' o' h1 h2
        rw [tk, ho, List.append_nil] at h2
        refine keep _ _ _ _ (fun b o e => ?_) (hr j y' o' h1 h2)
        have hb := del_of e
        exact del_at hb.1 (s5 _ _ hb.2)
  · rintro H' ⟨sm, acc, eD, hl, hr⟩
    rw [List.take_of_length_le (by omega)] at hl hr
    exact q D H' sm hD ⟨acc, eD, hl, hr⟩
/-- the same without a test: each turned into a new thing -/
theorem lcMD {K : PySem.W.Frag} {α β : Type} {R : Hp → Addr → β → Prop} (keep : ∀ H H' q x, Same H H' → R H q x → R H' q x) {F : α → β} {a : Addr} {g : TG} {te : TE} {vs : List Nat} {σ : L2.St} {H : Hp} {Q : VK} {xs : List V} {zs : List α}
    (hx : H a = some (.lst xs)) (hz : xs.length = zs.length) (hn : xs.length ≤ 900)
    (ht : ∀ (i : Nat) (x : V) (z : α) (H2 : Hp) (Yes : VK), xs[i]? = some x → zs[i]? = some z → Same H H2 → (∀ r H5, Same H2 H5 → (∀ D acc, H D = none → H2 D = some (.lst acc) → R (delH D H5) r (F z)) → Yes (.ref r) H5) → g x (wipe σ vs) H2 fun σ2 H3 => wipe σ2 vs = wipe σ vs ∧ te σ2 H3 Yes)
    (q : ∀ D H', Same H H' → H D = none → SeqD R H' D (zs.map F) → Q (.ref D) H') : LcG K a g tYes te vs σ H Q :=
  lcG (RV := fun H y x => ∃ q, y = .ref q ∧ R H q x) (fun _ _ _ _ s ⟨q, e, r⟩ => ⟨q, e, keep _ _ _ _ s r⟩) (F := fun z => some (F z)) hx hz hn
    (fun i x z H2 Yes No h1 h2 s hy hno => by
      have := ht i x z H2 Yes h1 h2 s fun r H5 s5 hr => hy _ _ s5 ⟨_, rfl, fun D acc f e => ⟨r, rfl, hr D acc f e⟩⟩
      simpa only [tYes, if_true] using this)
    (fun D H' s f h => q D H' s f (seqVD_of (by rw [show zs.map F = zs.filterMap (fun z => some (F z)) from (congrFun (List.filterMap_eq_map (f := F)) zs).symm]; exact h)))
theorem lcM {K : PySem.W.Frag} {α β : Type} {R : Hp → Addr → β → Prop} (keep : ∀ H H' q x, Same H H' → R H q x → R H' q x) {F : α → β} {a : Addr} {g : TG} {te : TE} {vs : List Nat} {σ : L2.St} {H : Hp} {Q : VK} {xs : List V} {zs : List α}
    (hx : H a = some (.lst xs)) (hz : xs.length = zs.length) (hn : xs.length ≤ 900)
    (ht : ∀ (i : Nat) (x : V) (z : α) (H2 : Hp) (Yes : VK), xs[i]? = some x → zs[i]? = some z → Same H H2 → (∀ r H5, Same H2 H5 → R (cutH H H2 H5) r (F z) → Yes (.ref r) H5) → g x (wipe σ vs) H2 fun σ2 H3 => wipe σ2 vs = wipe σ vs ∧ te σ2 H3 Yes)
    (q : ∀ D H', Same H H' → H D = none → SeqOf R H' D (zs.map F) → Q (.ref D) H') : LcG K a g tYes te vs σ H Q :=
  lcMD keep hx hz hn (fun i x z H2 Yes h1 h2 s hy => ht i x z H2 Yes h1 h2 s fun r H5 s5 hr => hy r H5 s5 fun D acc f e => keep _ _ _ _ (cut_del f e) hr) fun D H' s f h => q D H' s f (h.seq keep)
/-- each turned into a new thing that is drawn -/
theorem choose_refs {α β : Type} {R : Addr → β → Prop} {P : α → β → Prop} : ∀ (vs : List V) (zs : List α), vs.length = zs.length → (∀ (i : Nat) (v : V) (z : α), vs[i]? = some v → zs[i]? = some z → ∃ q y, v = .ref q ∧ P z y ∧ R q y) →
    ∃ (qs : List Addr) (ys : List β), vs = qs.map V.ref ∧ qs.length = ys.length ∧ ys.length = zs.length ∧ (∀ (i : Nat) (q : Addr) (y : β), qs[i]? = some q → ys[i]? = some y → R q y) ∧ ∀ (i : Nat) (z : α) (y : β), zs[i]? = some z → ys[i]? = some y → P z y := by
  intro vs
  induction vs with
  | nil =>
    intro zs hl _
    have : zs = [] := List.length_eq_zero_iff.mp hl.symm
    subst this
    exact ⟨[], [], rfl, rfl, rfl, (fun i q y h => by simp at h), (fun i z y h => by simp at h)⟩
  | cons v vs ih =>
    intro zs hl h
    cases zs with
    | nil => simp at hl
    | cons z zs =>
      obtain ⟨q, y, e, p, r⟩ := h 0 v z rfl rfl
      obtain ⟨qs, ys, e2, l2, l3, r2, p2⟩ := ih zs (by simpa using hl) fun i v z h1 h2 => h (i + 1) v z h1 h2
      refine ⟨q :: qs, y :: ys, by rw [e, e2]; rfl, by simp [l2], by simp [l3], fun i q' y' h1 h2 => ?_, fun i z' y' h1 h2 => ?_⟩
      · cases i with
        | zero => cases h1; cases h2; exact r
        | succ i => exact r2 i q' y' h1 h2
      · cases i with
        | zero => cases h1; cases h2; exact p
        | succ i => exact p2 i z' y' h1 h2
theorem lcMP {K : PySem.W.Frag} {α β : Type} {R : Hp → Addr → β → Prop} {P : α → β → Prop} (keep : ∀ H H' q x, Same H H' → R H q x → R H' q x) {a : Addr} {g : TG} {te : TE} {vs : List Nat} {σ : L2.St} {H : Hp} {Q : VK} {xs : List V} {zs : List α}
    (hx : H a = some (.lst xs)) (hz : xs.length = zs.length) (hn : xs.length ≤ 900)
    (ht : ∀ (i : Nat) (x : V) (z : α) (H2 : Hp) (Yes : VK), xs[i]? = some x → zs[i]? = some z → Same H H2 → (∀ r H5 y, Same H2 H5 → P z y → (∀ D acc, H D = none → H2 D = some (.lst acc) → R (delH D H5) r y) → Yes (.ref r) H5) → g x (wipe σ vs) H2 fun σ2 H3 => wipe σ2 vs = wipe σ vs ∧ te σ2 H3 Yes)
    (q : ∀ D H' ys, Same H H' → H D = none → SeqD R H' D ys → ys.length = zs.length → (∀ (i : Nat) (z : α) (y : β), zs[i]? = some z → ys[i]? = some y → P z y) → Q (.ref D) H') : LcG K a g tYes te vs σ H Q :=
  lcG (RV := fun H y z => ∃ q x, y = .ref q ∧ P z x ∧ R H q x) (fun _ _ _ _ s ⟨q, x, e, p, r⟩ => ⟨q, x, e, p, keep _ _ _ _ s r⟩) (F := fun z => some z) hx hz hn
    (fun i x z H2 Yes No h1 h2 s hy hno => by
      have := ht i x z H2 Yes h1 h2 s fun r H5 y s5 p hr => hy _ _ s5 ⟨_, rfl, fun D acc f e => ⟨r, y, rfl, p, hr D acc f e⟩⟩
      simpa only [tYes, if_true] using this)
    (fun D H' s f ⟨ys, a, b, c⟩ => by
      rw [show zs.filterMap (fun z => some z) = zs by simp] at b c
      obtain ⟨qs, ys', e, l1, l2, r, p⟩ := choose_refs (R := fun q y => R (delH D H') q y) (P := P) ys zs b (fun i v z h1 h2 => c i v z h1 h2)
      exact q D H' ys' s f ⟨qs, e ▸ a, l1, r⟩ l2 p)
/-- each turned into a value -/
theorem lcF {K : PySem.W.Frag} {α : Type} {F : α → V} {a : Addr} {g : TG} {te : TE} {vs : List Nat} {σ : L2.St} {H : Hp} {Q : VK} {xs : List V} {zs : List α}
    (hx : H a = some (.lst xs)) (hz : xs.length = zs.length) (hn : xs.length ≤ 900)
    (ht : ∀ (i : Nat) (x : V) (z : α) (H2 : Hp) (Yes : VK), xs[i]? = some x → zs[i]? = some z → Same H H2 → (∀ H5, Same H2 H5 → Yes (F z) H5) → g x (wipe σ vs) H2 fun σ2 H3 => wipe σ2 vs = wipe σ vs ∧ te σ2 H3 Yes)
    (q : ∀ D H', Same H H' → H D = none → H' D = some (.lst (zs.map F)) → Q (.ref D) H') : LcG K a g tYes te vs σ H Q :=
  lcG (RV := fun _ y x => y = F x) (fun _ _ _ _ _ e => e) (F := fun z => some z) hx hz hn
    (fun i x z H2 Yes No h1 h2 s hy hno => by
      have := ht i x z H2 Yes h1 h2 s fun H5 s5 => hy _ _ s5 ⟨_, rfl, fun _ _ _ _ => rfl⟩
      simpa only [tYes, if_true] using this)
    (fun D H' s f ⟨ys, a, b, c⟩ => q D H' s f (seqV_vals ⟨ys, a, by simpa using b, fun i y x h1 h2 => c i y x h1 (by simpa using h2)⟩))
theorem LsAt.del {H : Hp} {D r : Addr} {ls : List Lq} {acc : List V} (h : LsAt H r ls) (n : r ≠ D) (e : H D = some (.lst acc)) : LsAt (delH D H) r ls := by
  obtain ⟨qs, a, b, c⟩ := h
  exact ⟨qs, del_at n a, b, fun i q x h1 h2 => ⟨del_at (ne_of (c i q x h1 h2).1 e (by intro z; cases z)) (c i q x h1 h2).1, (c i q x h1 h2).2⟩⟩
/-! ### the same over a range: values, a test -/
def LcGR (n : Nat) (g : TG) (tt : TT) (te : TE) (vs : List Nat) (σ : L2.St) (H1 : Hp) (Q : VK) : Prop := ∀ D, H1 D = none → ∃ W : Nat → Nat → Hp → Prop, (∃ m, W 0 m (upd H1 D (.lst []))) ∧ ∀ i m H, W i m H →
  ((Itr 0 n).stop i H ∧ Q (.ref D) H) ∨ ((Itr 0 n).go i H ∧ ∃ Nx : Hp → Prop, (∀ H', Nx H' → ∃ m', m' < m ∧ W (i + 1) m' H') ∧ ∀ x H', (Itr 0 n).yld i H x H' → g x (wipe σ vs) H' fun σ2 H2 => wipe σ2 vs = wipe σ vs ∧ tt σ2 H2 fun b H3 =>
    if b = true then te σ2 H3 fun y H4 => ∃ acc, H4 D = some (.lst acc) ∧ acc.length < sizeLine ∧ Nx (upd H4 D (.lst (acc ++ [y]))) else Nx H3)
theorem lcr_src {ta : TA} {g : TG} {tt : TT} {te : TE} {vs : List Nat} {σ : L2.St} {H : Hp} {Q : VK} (h : ta σ H fun us H1 => ∃ j : Int, us = [.int j] ∧ -(2 ^ 62) ≤ j ∧ j < 2 ^ 62 ∧ LcGR j.toNat g tt te vs σ H1 Q) : tLc (iRng1 ta) g tt te vs σ H Q := h
theorem lcR {n : Nat} {F : Nat → Option V} {g : TG} {tt : TT} {te : TE} {vs : List Nat} {σ : L2.St} {H : Hp} {Q : VK} (hn : n ≤ 900)
    (ht : ∀ (j : Nat) (H2 : Hp) (Yes : VK) (No : Hp → Prop), j < n → Same H H2 → (∀ y H5, Same H2 H5 → F j = some y → Yes y H5) → (∀ H5, Same H2 H5 → F j = none → No H5) →
      g (.int (0 + (j : Int))) (wipe σ vs) H2 fun σ2 H3 => wipe σ2 vs = wipe σ vs ∧ tt σ2 H3 fun b H4 => if b = true then te σ2 H4 Yes else No H4)
    (q : ∀ D H', Same H H' → H D = none → H' D = some (.lst ((List.range n).filterMap F)) → Q (.ref D) H') : LcGR n g tt te vs σ H Q := fun D hD => by
  refine lc_range (lo := 0) (n := n) (fun i H' => Same H H' ∧ H' D = some (.lst ((List.range i).filterMap F))) ⟨upd_keep hD, upd_same⟩ ?_ ?_
  · rintro i H2 hi ⟨sm, eD⟩
    have la : ((List.range i).filterMap F).length ≤ 900 := by
      have h1 := List.length_filterMap_le F (List.range i)
      rw [List.length_range] at h1
      omega
    have tk : (List.range (i + 1)).filterMap F = (List.range i).filterMap F ++ (match F i with | some o => [o] | none => []) := by
      rw [List.range_succ, List.filterMap_append]
      congr 1
      cases h : F i <;> simp [h]
    refine ht i H2 _ _ hi sm ?yes ?no
    case yes =>
      intro y H5 s5 ho
      refine ⟨_, s5 _ _ eD, small1000 (by omega), same_updN hD (sm.trans s5), ?_⟩
      rw [upd_same, tk, ho]
    case no =>
      intro H5 s5 ho
      refine ⟨sm.trans s5, ?_⟩
      rw [s5 _ _ eD, tk, ho, List.append_nil]
  · rintro H' ⟨sm, eD⟩
    exact q D H' sm hD eD
/-- no test -/
theorem lcRM {n : Nat} {F : Nat → V} {g : TG} {te : TE} {vs : List Nat} {σ : L2.St} {H : Hp} {Q : VK} (hn : n ≤ 900)
    (ht : ∀ (j : Nat) (H2 : Hp) (Yes : VK), j < n → Same H H2 → (∀ H5, Same H2 H5 → Yes (F j) H5) → g (.int (0 + (j : Int))) (wipe σ vs) H2 fun σ2 H3 => wipe σ2 vs = wipe σ vs ∧ te σ2 H3 Yes)
    (q : ∀ D H', Same H H' → H D = none → H' D = some (.lst ((List.range n).map F)) → Q (.ref D) H') : LcGR n g tYes te vs σ H Q :=
  lcR (F := fun j => some (F j)) hn (fun j H2 Yes No hj s hy hno => by
    have := ht j H2 Yes hj s fun H5 s5 => hy _ H5 s5 rfl
    simpa only [tYes, if_true] using this) (fun D H' s f e => q D H' s f (e.trans (by rw [show (List.range n).filterMap (fun j => some (F j)) = (List.range n).map F from congrFun (List.filterMap_eq_map (f := F)) _])))
/-- over a range, each turned into a new thing that is drawn -/
theorem lcRP {n : Nat} {β : Type} {R : Hp → Addr → β → Prop} {P : Nat → β → Prop} (keep : ∀ H H' q x, Same H H' → R H q x → R H' q x) {g : TG} {te : TE} {vs : List Nat} {σ : L2.St} {H : Hp} {Q : VK} (hn : n ≤ 900)
    (ht : ∀ (j : Nat) (H2 : Hp) (Yes : VK), j < n → Same H H2 → (∀ r H5 y, Same H2 H5 → P j y → (∀ D acc, H D = none → H2 D = some (.lst acc) → R (delH D H5) r y) → Yes (.ref r) H5) → g (.int (0 + (j : Int))) (wipe σ vs) H2 fun σ2 H3 => wipe σ2 vs = wipe σ vs ∧ te σ2 H3 Yes)
    (q : ∀ D H' ys, Same H H' → H D = none → SeqD R H' D ys → ys.length = n → (∀ (i : Nat) (y : β), ys[i]? = some y → P i y) → Q (.ref D) H') : LcGR n g tYes te vs σ H Q := fun D hD => by
  refine lc_range (lo := 0) (n := n) (fun i H' => Same H H' ∧ ∃ ys : List β, SeqD R H' D ys ∧ ys.length = i ∧ ∀ (j : Nat) (y : β), ys[j]? = some y → P j y) ⟨upd_keep hD, [], SeqD.nil upd_same, rfl, fun j y h => by simp at h⟩ ?_ ?_
  · rintro i H2 hi ⟨sm, ys, sd, yl, yp⟩
    obtain ⟨qs, w1, w2, w3⟩ := id sd
    have key : ∀ r H5 y, Same H2 H5 → P i y → (∀ D acc, H D = none → H2 D = some (.lst acc) → R (delH D H5) r y) → ∃ acc, H5 D = some (.lst acc) ∧ acc.length < sizeLine ∧ (Same H (upd H5 D (.lst (acc ++ [.ref r]))) ∧ ∃ ys : List β, SeqD R (upd H5 D (.lst (acc ++ [.ref r]))) D ys ∧ ys.length = i + 1 ∧ ∀ (j : Nat) (y : β), ys[j]? = some y → P j y) := by
      intro r H5 y s5 p hr
      obtain ⟨items, it1, it2, it3⟩ := (sd.keep keep s5).app keep (hr D _ hD w1)
      refine ⟨items, it1, small1000 (by omega), same_updN hD (sm.trans s5), ys ++ [y], it3, by simp [yl], fun j y' h => ?_⟩
      by_cases c : j < ys.length
      · rw [List.getElem?_append_left c] at h; exact yp j y' h
      · have hlt := (List.getElem?_eq_some_iff.mp h).1
        rw [List.length_append, List.length_singleton] at hlt
        obtain rfl : j = ys.length := by omega
        rw [List.getElem?_append_right (Nat.le_refl _), Nat.sub_self] at h
        have : y = y' := by simpa using h
        rw [← this, yl]; exact p
    have := ht i H2 (fun v H5 => ∃ acc, H5 D = some (.lst acc) ∧ acc.length < sizeLine ∧ (Same H (upd H5 D (.lst (acc ++ [v]))) ∧ ∃ ys : List β, SeqD R (upd H5 D (.lst (acc ++ [v]))) D ys ∧ ys.length = i + 1 ∧ ∀ (j : Nat) (y : β), ys[j]? = some y → P j y)) hi sm key
    simpa only [tYes, if_true] using this
  · rintro H' ⟨sm, ys, sd, yl, yp⟩
    exact q D H' ys sm hD sd yl yp
/-! ### right machines: plain facts -/
theorem okT_len {x s : Str} {m : Int} (h : okT x s m = true) : (x.length : Int) ≤ m := by
  unfold okT at h
  rw [Bool.and_eq_true, Bool.and_eq_true] at h
  exact of_decide_eq_true h.1.2
theorem txok_of {x : Str} (h : ∀ c ∈ x.cps.toList, c < 0x110000) : TxOk x := by
  show PyData.strOk x = true
  unfold PyData.strOk
  rw [← Array.all_toList, List.all_eq_true]
  exact fun c hc => decide_eq_true (h c hc)
theorem okT_tx {x s : Str} {m : Int} (hs : ∀ c ∈ s.cps.toList, c < 0x110000) (h : okT x s m = true) : TxOk x := by
  unfold okT at h
  rw [Bool.and_eq_true, List.all_eq_true] at h
  exact txok_of fun c hc => hs c (of_decide_eq_true (h.2 c hc))
theorem letters_lt : ∀ c ∈ letters.cps.toList, c < 0x110000 := by decide +kernel
theorem letters_lt2 : ∀ c ∈ (letters ++ ("/" : Str)).cps.toList, c < 0x110000 := by decide +kernel
theorem okName_len {x : Str} (h : okName x = true) : x.length ≤ 8 := by have := okT_len (show okT x letters 8 = true from h); omega
theorem okName_tx {x : Str} (h : okName x = true) : TxOk x := okT_tx letters_lt (show okT x letters 8 = true from h)
theorem okWatch_len {x : Str} (h : okWatch x = true) : x.length ≤ 8 := by
  unfold okWatch at h
  rw [Bool.or_eq_true] at h
  rcases h with h | h
  · rw [of_decide_eq_true h]; decide +kernel
  · exact okName_len h
theorem okWatch_tx {x : Str} (h : okWatch x = true) : TxOk x := by
  unfold okWatch at h
  rw [Bool.or_eq_true] at h
  rcases h with h | h
  · rw [of_decide_eq_true h]; show PyData.strOk _ = true; decide +kernel
  · exact okName_tx h
theorem words_tx {ws : List Str} {x : Str} (h : x ∈ ws) (hw : ws.all (fun y => PyData.strOk y) = true) : TxOk x := List.all_eq_true.mp hw x h
theorem look_ok {ws watches : List Str} {l : Lq} (hw : ws.all (fun y => PyData.strOk y) = true) (ha : ∀ x ∈ watches, okWatch x = true) (h : lookOk ws watches l = true) : LqOk l := by
  unfold lookOk at h
  rw [Bool.and_eq_true, Bool.and_eq_true] at h
  refine ⟨okWatch_tx (ha _ (of_decide_eq_true h.1.1)), words_tx (of_decide_eq_true h.1.2) hw, ?_⟩
  have := h.2
  cases hv : l.2.2 <;> rw [hv] at this <;> first | rfl | cases this
theorem room_ok {watches : List Str} {r : Rq} (ha : ∀ x ∈ watches, okWatch x = true) (h : roomOk watches r = true) : r.1.length ≤ 60 ∧ RqOk r := by
  unfold roomOk at h
  rw [Bool.and_eq_true] at h
  refine ⟨by have := okT_len h.1; omega, okT_tx letters_lt2 h.1, fun l hl => look_ok (ws := ["<", "<="]) (by decide +kernel) ha (List.all_eq_true.mp h.2 l hl)⟩
theorem okSign_len {x : Str} (h : okSign x = true) : x.length ≤ 9 := by
  unfold okSign at h
  rw [Bool.or_eq_true] at h
  rcases h with h | h
  · rw [of_decide_eq_true h]; decide +kernel
  · cases e : x.cps.toList.getLast? with
    | none => rw [e] at h; cases h
    | some c =>
      rw [e] at h
      have h2 := (Bool.and_eq_true_iff.mp h).2
      have l8 := okName_len h2
      unfold cutS Str.length at l8
      simp only [List.size_toArray, List.length_take, List.length_drop] at l8
      unfold Str.length
      rw [← Array.length_toList]
      have s0 : HT.sIx x.length 0 none = 0 := rfl
      have s1 : HT.sIx x.length x.length (some (-1)) = x.length - 1 := by
        unfold HT.sIx
        simp only [show ((-1 : Int) < 0) from by decide, if_true]
        omega
      have s2 : x.length = x.cps.toList.length := by unfold Str.length; exact Array.length_toList.symm
      unfold Str.length at s0 s1 s2
      rw [s0, s1] at l8
      omega
def numOf : V → Int
  | .int n => n
  | _ => 0
structure MachOk (M : MachD) : Prop where
  w7 : M.watches.length ≤ 7
  wok : M.watches.all okWatch = true
  wnd : M.watches.Nodup
  rok : M.rooms.all (roomOk M.watches) = true
  rnd : (M.rooms.map (·.1)).Nodup
  rne : M.rooms ≠ []
  r64 : M.rooms.length ≤ 64
  dok : M.doors.all (doorOk M.watches (M.rooms.map (·.1))) = true
  d200 : M.doors.length ≤ 200
  rsz : ∀ r ∈ M.rooms, r.2.length ≤ 60
  dsz : ∀ d ∈ M.doors, d.looks.length ≤ 60
theorem nodup_len {α : Type} [DecidableEq α] : ∀ {xs ys : List α}, xs.Nodup → (∀ x ∈ xs, x ∈ ys) → xs.length ≤ ys.length := by
  intro xs
  induction xs with
  | nil => intro ys _ _; exact Nat.zero_le _
  | cons x xs ih =>
    intro ys h1 h2
    obtain ⟨n1, n2⟩ := List.nodup_cons.mp h1
    have hx := h2 x (List.mem_cons_self ..)
    have := ih (ys := ys.erase x) n2 fun y hy => (List.mem_erase_of_ne (show y ≠ x from fun e => n1 (by rw [← e]; exact hy))).mpr (h2 y (List.mem_cons_of_mem _ hy))
    rw [List.length_erase_of_mem hx] at this
    have hp := List.length_pos_of_mem hx
    simp only [List.length_cons]
    omega
section
variable {M : MachD}
theorem MachOk.watch (h : MachOk M) : ∀ x ∈ M.watches, okWatch x = true := List.all_eq_true.mp h.wok
theorem MachOk.room (h : MachOk M) {r : Rq} (hr : r ∈ M.rooms) : r.1.length ≤ 1000 ∧ r.2.length ≤ 60 ∧ RqOk r := by
  have := room_ok h.watch (List.all_eq_true.mp h.rok r hr)
  exact ⟨by omega, h.rsz r hr, this.2⟩
theorem MachOk.door (h : MachOk M) {d : DoorD} (hd : d ∈ M.doors) : okSign d.sg = true ∧ d.st ∈ M.rooms.map (·.1) ∧ d.en ∈ M.rooms.map (·.1) ∧ guardOk ["<", "<=", ">", ">=", "="] M.watches d.looks = true ∧ (∀ b ∈ d.backs, b ∈ M.watches) ∧ d.backs.Nodup ∧ d.backs.length ≤ 7 := by
  have := List.all_eq_true.mp h.dok d hd
  unfold doorOk at this
  rw [Bool.and_eq_true, Bool.and_eq_true, Bool.and_eq_true, Bool.and_eq_true, Bool.and_eq_true, List.all_eq_true] at this
  obtain ⟨⟨⟨⟨⟨a, b⟩, c⟩, d'⟩, e⟩, f⟩ := this
  have e' : ∀ b ∈ d.backs, b ∈ M.watches := fun b hb => of_decide_eq_true (e b hb)
  have n := of_decide_eq_true f
  exact ⟨a, of_decide_eq_true b, of_decide_eq_true c, d', e', n, Nat.le_trans (nodup_len n e') h.w7⟩
end
/-! ### heaps that differ at a new instance alone -/
def OffI (p : Addr) (H H' : Hp) : Prop := (∃ C dx fs, H p = some (.ins C dx fs)) ∧ ∀ b o, H b = some o → b ≠ p → H' b = some o
def OffN (p : Addr) (H H' : Hp) : Prop := (∃ C dx, H p = some (.ins C dx [])) ∧ ∀ b o, H b = some o → b ≠ p → H' b = some o
section
variable {p : Addr} {H H' : Hp}
theorem OffN.i (h : OffN p H H') : OffI p H H' := by
  obtain ⟨⟨C, dx, hp⟩, k⟩ := h
  exact ⟨⟨C, dx, _, hp⟩, k⟩
theorem OffI.lst (h : OffI p H H') {q : Addr} {xs : List V} (e : H q = some (.lst xs)) : H' q = some (.lst xs) := by
  obtain ⟨⟨C, dx, fs, hp⟩, k⟩ := h
  exact k _ _ e (ne_of e hp (by intro z; cases z))
theorem OffI.tup (h : OffI p H H') {q : Addr} {xs : List V} (e : H q = some (.tup xs)) : H' q = some (.tup xs) := by
  obtain ⟨⟨C, dx, fs, hp⟩, k⟩ := h
  exact k _ _ e (ne_of e hp (by intro z; cases z))
theorem OffI.seq {α : Type} {R : Hp → Addr → α → Prop} (h : OffI p H H') (k : ∀ q x, R H q x → R H' q x) {q : Addr} {xs : List α} (v : SeqOf R H q xs) : SeqOf R H' q xs := by
  obtain ⟨qs, a, b, c⟩ := v
  exact ⟨qs, h.lst a, b, fun i q x h1 h2 => k q x (c i q x h1 h2)⟩
theorem OffI.ls (h : OffI p H H') {q : Addr} {ls : List Lq} (v : LsAt H q ls) : LsAt H' q ls := h.seq (fun _ _ z => ⟨h.tup z.1, z.2⟩) v
theorem OffI.rs (h : OffI p H H') {q : Addr} {rs : List Rq} (v : RsAt H q rs) : RsAt H' q rs := h.seq (fun _ _ ⟨g, a, b⟩ => ⟨g, h.tup a, h.ls b⟩) v
theorem OffN.door (h : OffN p H H') {C q : Addr} {d : DoorD} (v : DoorAt C H q d) : DoorAt C H' q d := by
  obtain ⟨dx, g, n, a, b, c⟩ := v
  refine ⟨dx, g, n, h.2 _ _ a (fun z => ?_), h.i.ls b, h.i.lst c⟩
  obtain ⟨⟨C', dx', hp⟩, _⟩ := h
  rw [z, hp] at a
  have l := door_start (st := d.st) (en := d.en) (sg := d.sg) (g := g) (n := n)
  have e : ([] : List (Str × V)) = doorF d.st d.en d.sg g n := by injection a with a; injection a
  rw [← e] at l
  cases l
theorem OffN.ds (h : OffN p H H') {C q : Addr} {ds : List DoorD} (v : DsAt C H q ds) : DsAt C H' q ds := h.i.seq (fun _ _ z => h.door z) v
end
theorem refs_inj {xs ys : List Addr} (h : xs.map V.ref = ys.map V.ref) : xs = ys := (List.map_inj_right (f := V.ref) (fun a b e => by cases e; rfl)).mp h
theorem lst_inj {H : Hp} {p : Addr} {xs ys : List Addr} (h : H p = some (.lst (xs.map V.ref))) (k : H p = some (.lst (ys.map V.ref))) : xs = ys := refs_inj (by rw [h] at k; simpa using k)
theorem machF_inj {wn rn sl dl wn' rn' sl' dl' : Addr} (h : machF wn rn sl dl = machF wn' rn' sl' dl') : wn = wn' ∧ rn = rn' ∧ sl = sl' ∧ dl = dl' := by
  have a := mach_watch (wn := wn) (rn := rn) (sl := sl) (dl := dl)
  have b := mach_room (wn := wn) (rn := rn) (sl := sl) (dl := dl)
  have c := mach_stay (wn := wn) (rn := rn) (sl := sl) (dl := dl)
  have d := mach_door (wn := wn) (rn := rn) (sl := sl) (dl := dl)
  rw [h, mach_watch] at a; rw [h, mach_room] at b; rw [h, mach_stay] at c; rw [h, mach_door] at d
  simp only [Option.some.injEq, V.ref.injEq] at a b c d
  exact ⟨a.symm, b.symm, c.symm, d.symm⟩
/-! ### heaps without some lists -/
open Classical in
noncomputable def remU (U : Addr → Prop) (H : Hp) : Hp := fun b => if U b then none else H b
theorem rem_at {U : Addr → Prop} {H : Hp} {b : Addr} {o : HO} (n : ¬ U b) (e : H b = some o) : remU U H b = some o := by unfold remU; rw [if_neg n]; exact e
theorem rem_of {U : Addr → Prop} {H : Hp} {b : Addr} {o : HO} (e : remU U H b = some o) : ¬ U b ∧ H b = some o := by
  unfold remU at e
  by_cases h : U b
  · rw [if_pos h] at e; cases e
  · rw [if_neg h] at e; exact ⟨h, e⟩
theorem rem_sub {U : Addr → Prop} {H : Hp} : Same (remU U H) H := fun b o e => (rem_of e).2
theorem rem_same {U : Addr → Prop} {H H' : Hp} (s : Same H H') : Same (remU U H) (remU U H') := fun b o e => rem_at (rem_of e).1 (s _ _ (rem_of e).2)
/-- U holds lists of H alone -/
def ListsU (U : Addr → Prop) (H : Hp) : Prop := ∀ b, U b → ∃ xs, H b = some (.lst xs)
theorem ListsU.tup {U : Addr → Prop} {H H' : Hp} (u : ListsU U H) (s : ∀ b xs, H b = some (.lst xs) → H' b = some (.lst xs)) {q : Addr} {ys : List V} (e : H' q = some (.tup ys)) : ¬ U q := fun h => by
  obtain ⟨xs, hx⟩ := u q h
  have := s q xs hx
  rw [e] at this; cases this
theorem LsAt.rem {U : Addr → Prop} {H H' : Hp} (u : ListsU U H) (s : ∀ b xs, H b = some (.lst xs) → H' b = some (.lst xs)) {q : Addr} {ls : List Lq} (h : LsAt H' q ls) (n : ¬ U q) : LsAt (remU U H') q ls := by
  obtain ⟨qs, a, b, c⟩ := h
  exact ⟨qs, rem_at n a, b, fun i q x h1 h2 => ⟨rem_at (u.tup s (c i q x h1 h2).1) (c i q x h1 h2).1, (c i q x h1 h2).2⟩⟩
/-! ### drawn names -/
def lett (i : Int) : Nat := letters.cps.toList.getD i.toNat 0
def idx26 (i : Int) : Prop := 0 ≤ i ∧ i < 26
theorem letters_len : letters.cps.toList.length = 26 := by decide +kernel
theorem lett_get {i : Int} (h : 0 ≤ i ∧ i < 26) : letters.cps.toList[i.toNat]? = some (lett i) := by
  have h1 : i.toNat < letters.cps.toList.length := by rw [letters_len]; omega
  unfold lett
  rw [List.getD_eq_getElem?_getD, List.getElem?_eq_getElem h1]; rfl
theorem lett_at {i : Int} (h : 0 ≤ i ∧ i < 26) : atI letters.cps.toList i = some (lett i) := by
  have := atI_nat (lett_get h)
  rwa [Int.toNat_of_nonneg h.1] at this
theorem lett_mem {i : Int} (h : 0 ≤ i ∧ i < 26) : lett i ∈ letters.cps.toList := List.mem_of_getElem? (lett_get h)
theorem lett_inj : ∀ i j : Fin 26, lett (i.val : Int) = lett (j.val : Int) → i = j := by decide +kernel
theorem lett_inj' {i j : Int} (hi : 0 ≤ i ∧ i < 26) (hj : 0 ≤ j ∧ j < 26) (h : lett i = lett j) : i = j := by
  have := lett_inj ⟨i.toNat, by omega⟩ ⟨j.toNat, by omega⟩ (by
    show lett ((i.toNat : Nat) : Int) = lett ((j.toNat : Nat) : Int)
    rw [Int.toNat_of_nonneg hi.1, Int.toNat_of_nonneg hj.1]; exact h)
  have : i.toNat = j.toNat := by simpa using congrArg Fin.val this
  omega
def one (c : Nat) : Str := ⟨#[c]⟩
def txt (cs : List Nat) : Str := ⟨cs.toArray⟩
theorem join_one (cs : List Nat) : Txt.join ("" : Str) (cs.map one) = txt cs := by
  have key : ∀ (cs : List Nat) (acc : Array Nat), (cs.map one).foldl (fun acc p => acc ++ ("" : Str).cps ++ p.cps) acc = acc ++ cs.toArray := by
    intro cs
    induction cs with
    | nil => intro acc; simp
    | cons c cs ih =>
      intro acc
      rw [List.map_cons, List.foldl_cons, ih]
      have e : ("" : Str).cps = #[] := by decide +kernel
      rw [e]
      unfold one
      simp
  cases cs with
  | nil => decide +kernel
  | cons c cs =>
    show (⟨(((c :: cs).map one).drop 1).foldl (fun acc p => acc ++ ("" : Str).cps ++ p.cps) (((c :: cs).map one).headD Str.empty).cps⟩ : Str) = _
    rw [List.map_cons, List.drop_succ_cons, List.drop_zero, key]
    unfold txt one
    simp
theorem txt_inj {a b : List Nat} (h : txt a = txt b) : a = b := by
  unfold txt at h
  have := congrArg (fun s : Str => s.cps.toList) h
  simpa using this
/-- the letters of a drawn name -/
def nmL (size : Nat) (f : Nat → Int) : List Nat := (List.range size).map fun j => lett (f j)
theorem nm_ok {size : Nat} {cs : List Nat} (hl : cs.length = size) (h1 : 1 ≤ size) (h8 : size ≤ 8) (hc : ∀ c ∈ cs, c ∈ letters.cps.toList) : okName (txt cs) = true := by
  have e : (txt cs).length = size := by unfold txt Str.length; simpa using hl
  unfold okName okT
  rw [e, decide_eq_true (by omega), decide_eq_true (by omega)]
  simp only [Bool.true_and]
  rw [List.all_eq_true]
  intro c h
  exact decide_eq_true (hc c (by unfold txt at h; simpa using h))
/-- names drawn: what is told of them -/
def NamesOk (xs : List Str) (many : Nat) : Prop := xs.length = many ∧ (∀ x ∈ xs, okName x = true) ∧ xs.Nodup ∧ ∃ n, ∀ x ∈ xs, x.length = n
/-- the letters of the k-th name -/
def nmC (size at' : Nat) (f : Nat → Int) (g : Int) : List Nat := ((List.range size).map fun j => lett (f j)).set at' (lett g)
theorem nmC_len {size at' : Nat} {f : Nat → Int} {g : Int} : (nmC size at' f g).length = size := by unfold nmC; simp
theorem nmC_ok {size at' : Nat} {f : Nat → Int} {g : Int} (h1 : 1 ≤ size) (h8 : size ≤ 8) (hf : ∀ j, 0 ≤ f j ∧ f j < 26) (hg : 0 ≤ g ∧ g < 26) : okName (txt (nmC size at' f g)) = true := by
  refine nm_ok nmC_len h1 h8 fun c hc => ?_
  unfold nmC at hc
  rcases List.mem_or_eq_of_mem_set hc with h | h
  · obtain ⟨j, _, rfl⟩ := List.mem_map.mp h
    exact lett_mem (hf j)
  · rw [h]; exact lett_mem hg
theorem nmC_inj {size at' : Nat} {f : Nat → Int} {g g' : Int} (ha : at' < size) (hg : 0 ≤ g ∧ g < 26) (hg' : 0 ≤ g' ∧ g' < 26) (h : txt (nmC size at' f g) = txt (nmC size at' f g')) : g = g' := by
  have e := congrArg (fun l : List Nat => l[at']?) (txt_inj h)
  unfold nmC at e
  simp only [List.getElem?_set_self', List.getElem?_map] at e
  rw [List.getElem?_range ha] at e
  exact lett_inj' hg hg' (by simpa using e)
theorem names_ok {size at' : Nat} {f : Nat → Int} {c : Int} {many : Nat} (h1 : 1 ≤ size) (h8 : size ≤ 8) (ha : at' < size) (hm : many ≤ 20) (hf : ∀ j, 0 ≤ f j ∧ f j < 26) : NamesOk ((List.range many).map fun k : Nat => txt (nmC size at' f ((c + (k : Int)).fmod 26))) many := by
  have fm : ∀ k : Nat, 0 ≤ (c + (k : Int)).fmod 26 ∧ (c + (k : Int)).fmod 26 < 26 := fun k => fm_pos (by decide)
  refine ⟨by simp, fun x hx => ?_, ?_, size, fun x hx => ?_⟩
  · obtain ⟨k, _, rfl⟩ := List.mem_map.mp hx
    exact nmC_ok h1 h8 hf (fm k)
  · unfold List.Nodup
    rw [List.pairwise_map]
    refine List.Pairwise.imp_of_mem (fun {a b} ha' hb' hne he => hne ?_) List.nodup_range
    have := nmC_inj ha (fm a) (fm b) he
    rw [List.mem_range] at ha' hb'
    rw [Int.fmod_eq_emod_of_nonneg _ (by decide), Int.fmod_eq_emod_of_nonneg _ (by decide)] at this
    omega
  · obtain ⟨k, _, rfl⟩ := List.mem_map.mp hx
    unfold txt Str.length
    simp [nmC_len]
theorem sum_one (cs : List Nat) : ((cs.map one).map (·.length)).sum = cs.length := by
  induction cs with
  | nil => rfl
  | cons c cs ih =>
    rw [List.map_cons, List.map_cons, List.sum_cons, ih, List.length_cons]
    show 1 + cs.length = _
    omega
theorem nmC_vals {size at' : Nat} {f : Nat → Int} {g : Int} : ((List.range size).map fun j => V.str (one (lett (f j)))).set at' (V.str (one (lett g))) = ((nmC size at' f g).map one).map V.str := by
  unfold nmC
  rw [List.map_set, List.map_set, List.map_map, List.map_map]
  rfl
/-! ### names by sums -/
theorem txt_snoc (cs : List Nat) (c : Nat) : txt cs ++ one c = txt (cs ++ [c]) := by
  show (⟨cs.toArray ++ #[c]⟩ : Str) = ⟨(cs ++ [c]).toArray⟩
  simp

def nmI (b st : Int) (at' k : Nat) (j : Nat) : Nat := lett ((b + (j : Int) * st + (k : Int) * (if j = at' then 1 else 0)).fmod 26)
def nm2 (b st : Int) (size at' k : Nat) : List Nat := (List.range size).map (nmI b st at' k)
theorem names2_ok {b st : Int} {size at' many : Nat} (h1 : 1 ≤ size) (h8 : size ≤ 8) (ha : at' < size) (hm : many ≤ 20) : NamesOk ((List.range many).map fun k => txt (nm2 b st size at' k)) many := by
  have len : ∀ k, (nm2 b st size at' k).length = size := fun k => by unfold nm2; simp
  refine ⟨by simp, fun x hx => ?_, ?_, size, fun x hx => ?_⟩
  · obtain ⟨k, _, rfl⟩ := List.mem_map.mp hx
    refine nm_ok (len k) h1 h8 fun c hc => ?_
    unfold nm2 at hc
    obtain ⟨j, _, rfl⟩ := List.mem_map.mp hc
    exact lett_mem (fm_pos (by decide))
  · unfold List.Nodup
    rw [List.pairwise_map]
    refine List.Pairwise.imp_of_mem (fun {x y} hx hy hne he => hne ?_) List.nodup_range
    have e := congrArg (fun l : List Nat => l[at']?) (txt_inj he)
    unfold nm2 at e
    simp only [List.getElem?_map] at e
    rw [List.getElem?_range ha] at e
    have e2 : nmI b st at' x at' = nmI b st at' y at' := by simpa using e
    unfold nmI at e2
    rw [if_pos rfl] at e2
    have e3 := lett_inj' (fm_pos (by decide)) (fm_pos (by decide)) e2
    rw [Int.fmod_eq_emod_of_nonneg _ (by decide), Int.fmod_eq_emod_of_nonneg _ (by decide)] at e3
    rw [List.mem_range] at hx hy
    omega
  · obtain ⟨k, _, rfl⟩ := List.mem_map.mp hx
    unfold txt Str.length
    simp [len]
def spNames : Sp := fun vs H Q _ => ∃ (cell : Int) (many : Nat), vs = [.int cell, .int many] ∧ many ≤ 20 ∧ ∀ (p : Addr) (H' : Hp) (xs : List Str), Same H H' → H p = none → H' p = some (.lst (xs.map V.str)) → NamesOk xs many → Q (.ref p) H'
section
variable {P : Program} {w : World} {K : PySem.W.Frag} {mg : Str → Option Value} {base : Heap}
def spOfSigns : Sp := fun vs H Q _ => ∃ (x signs : Str) (most : Int), vs = [.str x, .str signs, .int most] ∧ x.length ≤ 1000 ∧ Q (.bl (okT x signs most)) H
theorem ok_of_signs (T : Top K mg) : FnOk P w K mg base CX0 1 T.f_of_signs T.d_of_signs ["thing", "signs", "most"] spOfSigns := by
  refine T.F_of_signs.ok sc_of_signs (fun vs H Q E h => ?_) (fun cdv A outer s H vs Q E hr h => ?_)
  · obtain ⟨x, signs, most, rfl, _⟩ := h; rfl
  · obtain ⟨x, signs, most, rfl, hl, q⟩ := h
    refine ⟨_, (pss_cons (ps_if (PW.pt (pw_or (pt_not (pt_val (pe_callB (call_isiA (K := K) rfl) (by rfl) T.m_isinstance (by decide +kernel) (pa_cons (pv 0) (pa_cons (pe_bltn (v := .ty "str") (u := .type "str") (by rfl) T.m_str (by decide +kernel) rfl) pa_nil))))) (pw_or1 (pt_not (pt_chain op_le op_le pe_int (pe_callB call_len_str (by rfl) T.m_len (by decide +kernel) (pa_cons (pv 0) pa_nil)) (pv 2)))))) (pss_one (ps_ret pe_bl)) pss_nil)
      (pss_cons (ps_for PassesOwn.never rfl (pi_str (pv 0)) (pg_name (i := 3) sc_of_signs.nd rfl (.inl rfl)) (pss_one (ps_if (pt_cmpR op_notIn_sign (pv 3) (pv 1) (by rfl)) (pss_one (ps_ret pe_bl)) pss_nil)))
      (pss_one (ps_ret pe_bl)))), ?_⟩
    refine seq_step ?_
    walk_at "rd"
    refine isi (r := true) (.base (.str _)) (by decide +kernel) ?_
    walk_at "rt"
    refine ⟨small1000' hl, ?_⟩
    unfold okT at q
    refine ite_d (fun h1 => ?_) (fun h1 => ?_)
    · rw [decide_eq_true h1] at q
      by_cases h2 : (x.length : Int) ≤ most
      · rw [decide_eq_true h2] at q ⊢
        walk_at "rd"
        refine seq_step ?_
        refine tFor_str ?_ (fun Q R k h => ?_)
        · walk_at "rt"
          refine ⟨fun i σ' H' => (∃ v3, σ' = [some (.str x), some (.str signs), some (.int most), v3]) ∧ H' = H ∧ (x.cps.toList.take i).all (fun c => decide (c ∈ signs.cps.toList)) = true, ⟨⟨_, rfl⟩, rfl, rfl⟩, ?_, ?_⟩
          · rintro i σ' H' c hc ⟨⟨v3, rfl⟩, rfl, ha⟩
            walk_at "rt"
            refine ⟨c, rfl, ?_⟩
            by_cases m : c ∈ signs.cps.toList
            · refine if_f (by rw [decide_eq_true m]; rfl) ?_
              rw [List.take_add_one, hc, List.all_append, ha]
              simpa using m
            · refine if_t (by rw [decide_eq_false m]; rfl) ?_
              have : (x.cps.toList.all fun c => decide (c ∈ signs.cps.toList)) = false := by
                rw [List.all_eq_false]
                exact ⟨c, List.mem_of_getElem? hc, by simp [m]⟩
              rw [this] at q
              exact q
          · rintro σ' H' ⟨⟨v3, rfl⟩, rfl, ha⟩
            walk_at "rd"
            rw [List.take_length] at ha
            rw [ha] at q
            exact q
        · exact ⟨_, rfl, by obtain ⟨v, h1, h2⟩ := h; cases h1; exact k _ _ h2⟩
      · rw [decide_eq_false h2] at q ⊢
        walk_at "rd"
        exact q
    · rw [decide_eq_false h1] at q
      exact q
def spName : Sp := fun vs H Q _ => ∃ x : Str, vs = [.str x] ∧ x.length ≤ 1000 ∧ Q (.bl (okName x)) H
theorem ok_is_name (T : Top K mg) : FnOk P w K mg base CX0 2 T.f_is_name T.d_is_name ["thing"] spName := by
  refine T.F_is_name.ok sc_is_name (fun vs H Q E h => ?_) (fun cdv A outer s H vs Q E hr h => ?_)
  · obtain ⟨x, rfl, _⟩ := h; rfl
  · obtain ⟨x, rfl, hl, q⟩ := h
    refine ⟨_, (pss_one (ps_ret (pe_call (ok_of_signs T) (hr.mono (by decide)) rfl T.g_of_signs T.F_of_signs.kp T.b_of_signs .nil pass0 (pa_cons (pv 0) (pa_cons (pe_glob (v := .str "abcdefghijklmnopqrstuvwxyz") rfl T.g_LETTERS ⟨_, rfl⟩) (pa_cons pe_int pa_nil)))))), ?_⟩
    walk_at "rd"
    exact ⟨x, letters, 8, rfl, hl, q⟩
def spWName : Sp := fun vs H Q _ => ∃ x : Str, vs = [.str x] ∧ x.length ≤ 1000 ∧ Q (.bl (okWatch x)) H
theorem ok_is_watch_name (T : Top K mg) : FnOk P w K mg base CX0 3 T.f_is_watch_name T.d_is_watch_name ["thing"] spWName := by
  refine T.F_is_watch_name.ok sc_is_watch_name (fun vs H Q E h => ?_) (fun cdv A outer s H vs Q E hr h => ?_)
  · obtain ⟨x, rfl, _⟩ := h; rfl
  · obtain ⟨x, rfl, hl, q⟩ := h
    refine ⟨_, (pss_one (ps_ret (pe_or (pe_cmpR op_eq (pv 0) pe_str (nomark _)) (pe_one (pe_call (ok_is_name T) (hr.mono (by decide)) rfl T.g_is_name T.F_is_name.kp T.b_is_name .nil pass0 (pa_cons (pv 0) pa_nil)))))), ?_⟩
    walk_at "rt"
    unfold okWatch at q
    refine ite_d (fun h => ?_) (fun h => ?_)
    · rw [decide_eq_true (show x = ("/" : Str) from h)] at q
      exact q
    · rw [decide_eq_false (show ¬ x = ("/" : Str) from h)] at q
      exact ⟨x, rfl, hl, q⟩
theorem str_nil {x : Str} (h : x.cps.toList = []) : x = ("" : Str) := by
  cases x with
  | mk cps =>
    have : cps = #[] := Array.toList_eq_nil_iff.mp h
    rw [this]; rfl
def spSign : Sp := fun vs H Q _ => ∃ x : Str, vs = [.str x] ∧ x.length ≤ 1000 ∧ Q (.bl (okSign x)) H
theorem ok_is_sign (T : Top K mg) : FnOk P w K mg base CX0 3 T.f_is_sign T.d_is_sign ["thing"] spSign := by
  refine T.F_is_sign.ok sc_is_sign (fun vs H Q E h => ?_) (fun cdv A outer s H vs Q E hr h => ?_)
  · obtain ⟨x, rfl, _⟩ := h; rfl
  · obtain ⟨x, rfl, hl, q⟩ := h
    refine ⟨_, (pss_cons (ps_if (pt_not (pt_val (pe_callB (call_isiA (K := K) rfl) (by rfl) T.m_isinstance (by decide +kernel) (pa_cons (pv 0) (pa_cons (pe_bltn (v := .ty "str") (u := .type "str") (by rfl) T.m_str (by decide +kernel) rfl) pa_nil))))) (pss_one (ps_ret pe_bl)) pss_nil)
      (pss_one (ps_ret (pe_or (pe_cmpR op_eq (pv 0) pe_str (nomark _)) (pe_one (pe_and (pe_cmpR op_in_sign (pe_ix ix_str (pv 0) (pe_un un_neg pe_int) (fun _ _ => rfl)) pe_str (by rfl)) (pe_one (pe_call (ok_is_name T) (hr.mono (by decide)) rfl T.g_is_name T.F_is_name.kp T.b_is_name .nil pass0 (pa_cons (pe_slice sl_str (pv 0) po_none (po_some (pe_un un_neg pe_int))) pa_nil))))))))), ?_⟩
    refine seq_step ?_
    walk_at "rt"
    refine isi (r := true) (.base (.str _)) (by decide +kernel) ?_
    walk_at "rt"
    unfold okSign at q
    refine ite_d (fun h => ?_) (fun h => ?_)
    · rw [decide_eq_true (show x = ("" : Str) from h)] at q
      exact q
    · rw [decide_eq_false (show ¬ x = ("" : Str) from h)] at q
      have n0 : x.cps.toList ≠ [] := fun z => h (str_nil z)
      have hp : 0 < x.cps.toList.length := List.length_pos_iff.mpr n0
      have hlast : x.cps.toList.getLast? = some (x.cps.toList[x.cps.toList.length - 1]'(by omega)) := by
        rw [List.getLast?_eq_getElem?, List.getElem?_eq_getElem (by omega)]
      rw [hlast] at q
      refine ⟨x, -1, _, rfl, rfl, small1000' hl, (by
        unfold atI ixN
        rw [if_neg (by decide), if_pos (by omega), show ((-1 : Int) + (x.cps.toList.length : Int)).toNat = x.cps.toList.length - 1 by omega]
        exact List.getElem?_eq_getElem (by omega)), ?_⟩
      generalize x.cps.toList[x.cps.toList.length - 1] = c at *
      walk_at "rt"
      refine ⟨c, rfl, ?_⟩
      replace q : Q (.bl (false || (decide (c ∈ ("!?" : Str).cps.toList) && okName (cutS x none (some (-1)))))) H := q
      refine ite_d (fun m => ?_) (fun m => ?_)
      · rw [decide_eq_true (show c ∈ ("!?" : Str).cps.toList from m)] at q
        refine ⟨x, rfl, small1000' hl, ?_⟩
        refine ⟨_, rfl, ?_, q⟩
        unfold cutS Str.length
        simp only [List.size_toArray, List.length_take, List.length_drop]
        unfold Str.length at hl
        rw [Array.length_toList]
        omega
      · rw [decide_eq_false (show ¬ c ∈ ("!?" : Str).cps.toList from m)] at q
        exact q
theorem ok_is_whole (T : Top K mg) : FnOk P w K mg base CX0 1 T.f_is_whole T.d_is_whole ["thing"] (spWhole K) := by
  refine T.F_is_whole.ok sc_is_whole (fun vs H Q E h => ?_) (fun cdv A outer s H vs Q E hr h => ?_)
  · obtain ⟨x, t, rfl, _⟩ := h; rfl
  · obtain ⟨x, t, rfl, hx, ht, q⟩ := h
    refine ⟨_, (pss_one (ps_ret (pe_and (pe_callB (call_isiA (K := K) rfl) (by rfl) T.m_isinstance (by decide +kernel) (pa_cons (pv 0) (pa_cons (pe_bltn (v := .ty "int") (u := .type "int") (by rfl) T.m_int (by decide +kernel) rfl) pa_nil))) (pe_one (pe_not (pe_callB (call_isiA (K := K) rfl) (by rfl) T.m_isinstance (by decide +kernel) (pa_cons (pv 0) (pa_cons (pe_bltn (v := .ty "bool") (u := .type "bool") (by rfl) T.m_bool (by decide +kernel) rfl) pa_nil)))))))), ?_⟩
    walk_at "rd"
    have k1 : ∃ r, kitB t "int" = some r ∧ ∃ r2, kitB t "bool" = some r2 ∧ (decide (t = "int")) = (r && !r2) := by
      simp only [kinds, List.mem_cons, List.not_mem_nil, or_false] at ht
      rcases ht with rfl | rfl | rfl | rfl | rfl | rfl | rfl
      · exact ⟨true, by decide +kernel, false, by decide +kernel, by decide +kernel⟩
      · exact ⟨true, by decide +kernel, true, by decide +kernel, by decide +kernel⟩
      · exact ⟨false, by decide +kernel, false, by decide +kernel, by decide +kernel⟩
      · exact ⟨false, by decide +kernel, false, by decide +kernel, by decide +kernel⟩
      · exact ⟨false, by decide +kernel, false, by decide +kernel, by decide +kernel⟩
      · exact ⟨false, by decide +kernel, false, by decide +kernel, by decide +kernel⟩
      · exact ⟨false, by decide +kernel, false, by decide +kernel, by decide +kernel⟩
    obtain ⟨r, e1, r2, e2, e3⟩ := k1
    refine isi hx e1 ?_
    rw [e3] at q
    walk_at "rd"
    cases r with
    | false => exact q
    | true =>
      walk_at "rd"
      refine isi hx e2 ?_
      walk_at "rd"
      exact q
/-- words and watches: a list or tuple of texts -/
def TxS (K : PySem.W.Frag) (H : Hp) (p : Addr) (ws : List Str) : Prop := SqL K H p (ws.map V.str) ∨ SqT K H p (ws.map V.str)
theorem TxS.keep {K : PySem.W.Frag} {H H' : Hp} {p : Addr} {ws : List Str} (s : Same H H') (h : TxS K H p ws) : TxS K H' p ws := by
  rcases h with h | h
  · exact .inl (s.seq h)
  · refine .inr ?_
    rcases h with h | h
    · rcases h with h | ⟨o, h⟩
      · exact .inl (.inl (s _ _ h))
      · exact .inl (.inr ⟨o, s _ _ h⟩)
    · exact .inr h
theorem kit_no {t u : String} (h : t ∈ kinds) (n : t ≠ u) (hu : u = "tuple" ∨ u = "list" ∨ u = "str") : kitB t u = some false := by
  simp only [kinds, List.mem_cons, List.not_mem_nil, or_false] at h
  rcases hu with rfl | rfl | rfl <;> rcases h with rfl | rfl | rfl | rfl | rfl | rfl | rfl <;> first | exact absurd rfl n | decide +kernel
/-- what is none of a look, by its kind -/
inductive NoLook (K : PySem.W.Frag) (H : Hp) : V → Prop where
  | kind {x : V} {t : String} (h : TyX K H x (.type t)) (k : t ∈ kinds) (n : t ≠ "tuple") : NoLook K H x
  | len {q : Addr} {xs : List V} (h : H q = some (.tup xs)) (n : xs.length ≠ 3) : NoLook K H (.ref q)
  | first {q : Addr} {a b c : V} {t : String} (h : H q = some (.tup [a, b, c])) (ha : TyX K H a (.type t)) (k : t ∈ kinds) (n : t ≠ "str") : NoLook K H (.ref q)
  | second {q : Addr} {s : Str} {b c : V} {t : String} (h : H q = some (.tup [.str s, b, c])) (hb : TyX K H b (.type t)) (k : t ∈ kinds) (n : t ≠ "str") : NoLook K H (.ref q)
theorem NoLook.keep {K : PySem.W.Frag} {H H' : Hp} {x : V} (s : Same H H') (h : NoLook K H x) : NoLook K H' x := by
  cases h with
  | kind h k n => exact .kind (tyx_same s h) k n
  | len h n => exact .len (s _ _ h) n
  | first h ha k n => exact .first (s _ _ h) (tyx_same s ha) k n
  | second h hb k n => exact .second (s _ _ h) (tyx_same s hb) k n
def spLook (K : PySem.W.Frag) : Sp := fun vs H Q _ => (∃ (p pw ps : Addr) (l : Lq) (ws watches : List Str), vs = [.ref p, .ref pw, .ref ps] ∧ LqAt H p l ∧ TxS K H pw ws ∧ TxS K H ps watches ∧ Q (.bl (lookOk ws watches l)) H) ∨
  (∃ (x : V) (pw ps : Addr) (ws watches : List Str), vs = [x, .ref pw, .ref ps] ∧ NoLook K H x ∧ TxS K H pw ws ∧ TxS K H ps watches ∧ Q (.bl false) H)
theorem ok_is_look (T : Top K mg) : FnOk P w K mg base CX0 2 T.f_is_look T.d_is_look ["thing", "words", "watches"] (spLook K) := by
  refine T.F_is_look.ok sc_is_look (fun vs H Q E h => ?_) (fun cdv A outer s H vs Q E hr h => ?_)
  · rcases h with ⟨p, pw, ps, l, ws, watches, rfl, _⟩ | ⟨x, pw, ps, ws, watches, rfl, _⟩ <;> rfl
  · refine ⟨_, (pss_cons (ps_if (PW.pt (pw_or (pt_not (pt_val (pe_callB (call_isiA (K := K) rfl) (by rfl) T.m_isinstance (by decide +kernel) (pa_cons (pv 0) (pa_cons (pe_bltn (v := .ty "tuple") (u := .type "tuple") (by rfl) T.m_tuple (by decide +kernel) rfl) pa_nil))))) (pw_or1 (pt_cmpR op_ne (pe_callB call_len_seq (by rfl) T.m_len (by decide +kernel) (pa_cons (pv 0) pa_nil)) pe_int (nomark _))))) (pss_one (ps_ret pe_bl)) pss_nil)
      (pss_cons (ps_if (PW.pt (pw_or (pt_not (pt_val (pe_callB (call_isiA (K := K) rfl) (by rfl) T.m_isinstance (by decide +kernel) (pa_cons (pe_ix (ix_tupA (K := K) rfl) (pv 0) pe_int (fun _ _ => rfl)) (pa_cons (pe_bltn (v := .ty "str") (u := .type "str") (by rfl) T.m_str (by decide +kernel) rfl) pa_nil))))) (pw_or1 (pt_cmpR (op_notIn_seqA (K := K) rfl) (pe_ix (ix_tupA (K := K) rfl) (pv 0) pe_int (fun _ _ => rfl)) (pv 2) (by rfl))))) (pss_one (ps_ret pe_bl)) pss_nil)
      (pss_cons (ps_if (PW.pt (pw_or (pt_not (pt_val (pe_callB (call_isiA (K := K) rfl) (by rfl) T.m_isinstance (by decide +kernel) (pa_cons (pe_ix (ix_tupA (K := K) rfl) (pv 0) pe_int (fun _ _ => rfl)) (pa_cons (pe_bltn (v := .ty "str") (u := .type "str") (by rfl) T.m_str (by decide +kernel) rfl) pa_nil))))) (pw_or1 (pt_cmpR (op_notIn_seqA (K := K) rfl) (pe_ix (ix_tupA (K := K) rfl) (pv 0) pe_int (fun _ _ => rfl)) (pv 1) (by rfl))))) (pss_one (ps_ret pe_bl)) pss_nil)
      (pss_one (ps_ret (pe_and (pe_call (ok_is_whole T) (hr.mono (by decide)) rfl T.g_is_whole T.F_is_whole.kp T.b_is_whole .nil pass0 (pa_cons (pe_ix (ix_tupA (K := K) rfl) (pv 0) pe_int (fun _ _ => rfl)) pa_nil)) (pe_one (pe_cmpR op_ge (pe_ix (ix_tupA (K := K) rfl) (pv 0) pe_int (fun _ _ => rfl)) pe_int (nomark _))))))))), ?_⟩
    rcases h with ⟨p, pw, ps, ⟨a, wd, v⟩, ws, watches, rfl, ⟨e, hk⟩, hw, hs, q⟩ | ⟨x, pw, ps, ws, watches, rfl, hn, hw, hs, q⟩
    rotate_left
    · refine seq_step ?_
      walk_at "rt"
      cases hn with
      | kind h k n =>
        refine isi (r := false) h (kit_no k n (.inl rfl)) ?_
        walk_at "rt"
        exact q
      | len h n =>
        refine isi (r := true) (.base (.tup h)) (by decide +kernel) ?_
        walk_at "rt"
        refine ⟨_, .inr (sqt h), ?_⟩
        refine if_t ?_ q
        rw [decide_eq_false (by omega)]; rfl
      | first h ha k n =>
        refine isi (r := true) (.base (.tup h)) (by decide +kernel) ?_
        walk_at "rt"
        refine ⟨_, .inr (sqt h), ?_⟩
        walk_at "rt"
        refine seq_step ?_
        walk_at "rt"
        refine ix_t (sqt h) (by decide) rfl ?_
        walk_at "rt"
        refine isi (r := false) ha (kit_no k n (.inr (.inr rfl))) ?_
        walk_at "rt"
        exact q
      | @second p a b c t h hb k n =>
        refine isi (r := true) (.base (.tup h)) (by decide +kernel) ?_
        walk_at "rt"
        refine ⟨_, .inr (sqt h), ?_⟩
        walk_at "rt"
        refine seq_step ?_
        walk_at "rt"
        refine ix_t (sqt h) (by decide) rfl ?_
        walk_at "rt"
        refine isi (r := true) (.base (.str _)) (by decide +kernel) ?_
        walk_at "rt"
        refine ix_t (sqt h) (by decide) rfl ?_
        walk_at "rt"
        refine ⟨ps, _, rfl, hs, rfl, flat_of, ?_⟩
        rw [inV_str]
        by_cases m : a ∈ watches
        · rw [decide_eq_true m]
          walk_at "rt"
          refine seq_step ?_
          walk_at "rt"
          refine ix_t (sqt h) (by decide) rfl ?_
          walk_at "rt"
          refine isi (r := false) hb (kit_no k n (.inr (.inr rfl))) ?_
          walk_at "rt"
          exact q
        · rw [decide_eq_false m]
          walk_at "rt"
          exact q
    unfold lookOk at q
    refine seq_step ?_
    walk_at "rt"
    refine isi (r := true) (.base (.tup e)) (by decide +kernel) ?_
    walk_at "rt"
    refine ⟨_, .inr (sqt e), ?_⟩
    walk_at "rt"
    refine seq_step ?_
    walk_at "rt"
    refine ix_t (sqt e) (by decide) rfl ?_
    walk_at "rt"
    refine isi (r := true) (.base (.str _)) (by decide +kernel) ?_
    walk_at "rt"
    refine ix_t (sqt e) (by decide) rfl ?_
    walk_at "rt"
    refine ⟨ps, _, rfl, hs, rfl, flat_of, ?_⟩
    rw [inV_str]
    by_cases m : a ∈ watches
    · rw [decide_eq_true m] at q ⊢
      walk_at "rt"
      refine seq_step ?_
      walk_at "rt"
      refine ix_t (sqt e) (by decide) rfl ?_
      walk_at "rt"
      refine isi (r := true) (.base (.str _)) (by decide +kernel) ?_
      walk_at "rt"
      refine ix_t (sqt e) (by decide) rfl ?_
      walk_at "rt"
      refine ⟨pw, _, rfl, hw, rfl, flat_of, ?_⟩
      rw [inV_str]
      by_cases m2 : wd ∈ ws
      · rw [decide_eq_true m2] at q ⊢
        walk_at "rt"
        refine ix_t (sqt e) (by decide) rfl ?_
        obtain ⟨t, ht, ty, hi⟩ := ty_kind (K := K) (H := H) hk
        refine ⟨v, t, rfl, ty, ht, ?_⟩
        walk_at "rt"
        by_cases c : t = "int"
        · obtain ⟨n, hn⟩ := hi.mp c
          have hn : v = .int n := hn
          subst hn
          rw [decide_eq_true c]
          walk_at "rt"
          refine ix_t (sqt e) (by decide) rfl ?_
          walk_at "rt"
          exact q
        · rw [decide_eq_false c]
          walk_at "rt"
          have : numOk v = false := by
            cases v with
            | int n => exact absurd (hi.mpr ⟨n, rfl⟩) c
            | _ => rfl
          rw [this] at q
          exact q
      · rw [decide_eq_false m2] at q ⊢
        walk_at "rt"
        exact q
    · rw [decide_eq_false m] at q ⊢
      walk_at "rt"
      exact q
def ThgAt (K : PySem.W.Frag) (H : Hp) (ws watches : List Str) (x : V) (b : Bool) : Prop := (∃ q l, x = .ref q ∧ LqAt H q l ∧ b = lookOk ws watches l) ∨ (NoLook K H x ∧ b = false)
theorem ThgAt.keep {K : PySem.W.Frag} {H H' : Hp} {ws watches : List Str} {x : V} {b : Bool} (s : Same H H') (h : ThgAt K H ws watches x b) : ThgAt K H' ws watches x b := by
  rcases h with ⟨q, l, e, h, hb⟩ | ⟨h, hb⟩
  · exact .inl ⟨q, l, e, h.keep s, hb⟩
  · exact .inr ⟨h.keep s, hb⟩
def spGuard (K : PySem.W.Frag) : Sp := fun vs H Q _ => (∃ (p pw ps : Addr) (ls : List Lq) (ws watches : List Str), vs = [.ref p, .ref pw, .ref ps] ∧ LsAt H p ls ∧ TxS K H pw ws ∧ TxS K H ps watches ∧ ls.length ≤ 60 ∧ ∀ H', Same H H' → Q (.bl (guardOk ws watches ls)) H') ∨
  (∃ (p pw ps : Addr) (xs : List V) (bs : List Bool) (ws watches : List Str), vs = [.ref p, .ref pw, .ref ps] ∧ H p = some (.lst xs) ∧ xs.length = bs.length ∧ xs.length ≤ 60 ∧ (∀ (i : Nat) (x : V) (b : Bool), xs[i]? = some x → bs[i]? = some b → ThgAt K H ws watches x b) ∧ TxS K H pw ws ∧ TxS K H ps watches ∧ ∀ H', Same H H' → Q (.bl (bs.all id)) H') ∨
  (∃ (x : V) (t : String) (pw ps : Addr), vs = [x, .ref pw, .ref ps] ∧ TyX K H x (.type t) ∧ t ∈ kinds ∧ t ≠ "list" ∧ Q (.bl false) H)
theorem ok_is_guard (T : Top K mg) : FnOk P w K mg base CX0 3 T.f_is_guard T.d_is_guard ["thing", "words", "watches"] (spGuard K) := by
  refine T.F_is_guard.ok sc_is_guard (fun vs H Q E h => ?_) (fun cdv A outer s H vs Q E hr h => ?_)
  · rcases h with ⟨p, pw, ps, ls, ws, watches, rfl, _⟩ | ⟨p, pw, ps, xs, bs, ws, watches, rfl, _⟩ | ⟨x, t, pw, ps, rfl, _⟩ <;> rfl
  · refine ⟨_, (pss_one (ps_ret (pe_and (pe_callB (call_isiA (K := K) rfl) (by rfl) T.m_isinstance (by decide +kernel) (pa_cons (pv 0) (pa_cons (pe_bltn (v := .ty "list") (u := .type "list") (by rfl) T.m_list (by decide +kernel) rfl) pa_nil))) (pe_one (pe_callB (cr_all rfl) (by rfl) T.m_all (by decide +kernel) (pa_cons (lc_vs (vs := [3]) (pe_lc (own := [("look", 3)]) (g := gName 3) (tt := tYes) rfl sc_is_guard.nd (pi_listA (K := K) rfl (pv 0)) (blkOk_by (own := [("look", 3)]) (N := ["thing", "words", "watches", "look"]) (sc := defScope s_is_guard) (by decide +kernel)) (fun _ _ _ _ _ => (pg_name (i := 3) sc_is_guard.nd rfl (.inl rfl))) (fun _ _ _ _ _ => pts_nil) (fun _ _ _ _ _ => (pe_call (ok_is_look T) (hr.mono (by decide)) rfl T.g_is_look T.F_is_look.kp T.b_is_look .nil pass0 (pa_cons (pv 3) (pa_cons (pv 1) (pa_cons (pv 2) pa_nil)))))) rfl) pa_nil)))))), ?_⟩
    have key : (∃ (p pw ps : Addr) (xs : List V) (bs : List Bool) (ws watches : List Str), vs = [.ref p, .ref pw, .ref ps] ∧ H p = some (.lst xs) ∧ xs.length = bs.length ∧ xs.length ≤ 60 ∧ (∀ (i : Nat) (x : V) (b : Bool), xs[i]? = some x → bs[i]? = some b → ThgAt K H ws watches x b) ∧ TxS K H pw ws ∧ TxS K H ps watches ∧ ∀ H', Same H H' → Q (.bl (bs.all id)) H') ∨
        (∃ (x : V) (t : String) (pw ps : Addr), vs = [x, .ref pw, .ref ps] ∧ TyX K H x (.type t) ∧ t ∈ kinds ∧ t ≠ "list" ∧ Q (.bl false) H) := by
      rcases h with ⟨p, pw, ps, ls, ws, watches, rfl, ⟨qs, a, b, c⟩, hw, hs, h60, q⟩ | h
      · refine .inl ⟨p, pw, ps, qs.map V.ref, ls.map (lookOk ws watches), ws, watches, rfl, a, by simp [b], by simp; omega, fun i x bo h1 h2 => ?_, hw, hs, fun H' s' => ?_⟩
        · rw [List.getElem?_map] at h1 h2
          obtain ⟨q', e1, rfl⟩ := Option.map_eq_some_iff.mp h1
          obtain ⟨l, e2, rfl⟩ := Option.map_eq_some_iff.mp h2
          exact .inl ⟨q', l, rfl, c i q' l e1 e2, rfl⟩
        · rw [List.all_map]; exact q H' s'
      · exact h
    rcases key with ⟨p, pw, ps, xs, bs, ws, watches, rfl, a, bl, h60, c, hw, hs, q⟩ | ⟨x, t, pw, ps, rfl, ht, k, n, q⟩
    · walk_at "rt"
      refine isi (r := true) (.base (.lst a)) (by decide +kernel) ?_
      walk_at "rt"
      refine lc_src ?_
      walk_at "rd"
      refine ⟨⟨_, .of a⟩, ?_⟩
      refine lcL_vals (xs := xs) (f := pick bs V.bl (V.bl false)) a (by omega) (by simp) (fun i x H1 Q1 hi s1 h => ?_) (fun D H1 s1 _ eD => ?_)
      · have hil := (List.getElem?_eq_some_iff.mp hi).1
        have hx := List.getElem?_eq_getElem (l := bs) (i := i) (by omega)
        have tx := (c i x _ hi hx).keep s1
        have := h H1 (Same.refl _)
        rw [pick_at hx] at this
        generalize bs[i] = bo at *
        walk_at "rd"
        rcases tx with ⟨q', l, rfl, hq, rfl⟩ | ⟨hn, rfl⟩
        · exact .inl ⟨q', pw, ps, l, ws, watches, rfl, hq, hw.keep s1, hs.keep s1, this⟩
        · exact .inr ⟨x, pw, ps, ws, watches, rfl, hn, hw.keep s1, hs.keep s1, this⟩
      · refine ⟨D, bs, rfl, .of (eD.trans (by rw [bl, range_map])), ?_⟩
        exact q H1 s1
    · walk_at "rt"
      refine isi (r := false) ht (kit_no k n (.inr (.inl rfl))) ?_
      walk_at "rt"
      exact q
def spUnlike (K : PySem.W.Frag) : Sp := fun vs H Q _ => ∃ (p : Addr) (xs : List Str), vs = [.ref p] ∧ H p = some (.lst (xs.map V.str)) ∧ xs.length ≤ 1000 ∧ Q (.bl (decide xs.Nodup)) H
theorem ok_unlike (T : Top K mg) : FnOk P w K mg base CX0 1 T.f_unlike T.d_unlike ["things"] (spUnlike K) := by
  refine T.F_unlike.ok sc_unlike (fun vs H Q E h => ?_) (fun cdv A outer s H vs Q E hr h => ?_)
  · obtain ⟨p, xs, rfl, _⟩ := h; rfl
  · obtain ⟨p, xs, rfl, hx, hl, q⟩ := h
    refine ⟨_, (pss_one (ps_ret (pe_cmpR op_eq (pe_lenSetN rfl (by rfl) T.m_len (by rfl) T.m_set (pv 0)) (pe_callB call_len_seq (by rfl) T.m_len (by decide +kernel) (pa_cons (pv 0) pa_nil)) (nomark _)))), ?_⟩
    walk_at "rt"
    refine ⟨_, rfl, p, xs, rfl, .of hx, by unfold scanBound; omega, fun c hc hd => ?_⟩
    walk_at "rt"
    refine ⟨_, .inl (.of hx), ?_⟩
    rw [List.length_map]
    rw [show decide ((c : Int) = (xs.length : Int)) = decide xs.Nodup from decide_eq_decide.mpr (by rw [← hd]; omega)]
    exact q
def spOwn : Sp := fun vs H Q _ => ∃ (p : Addr) (xs : List V), vs = [.ref p] ∧ H p = some (.lst xs) ∧ ∀ q H', Same H H' → H q = none → H' q = some (.lst xs) → Q (.ref q) H'
theorem ok_own (T : Top K mg) : FnOk P w K mg base CX0 1 T.f_own T.d_own ["thing"] spOwn := by
  refine T.F_own.ok sc_own (fun vs H Q E h => ?_) (fun cdv A outer s H vs Q E hr h => ?_)
  · obtain ⟨p, xs, rfl, _⟩ := h; rfl
  · obtain ⟨p, xs, rfl, hx, q⟩ := h
    refine ⟨_, (pss_cons (ps_if (pt_val (pe_callB (call_isiA (K := K) rfl) (by rfl) T.m_isinstance (by decide +kernel) (pa_cons (pv 0) (pa_cons (pe_bltn (v := .ty "list") (u := .type "list") (by rfl) T.m_list (by decide +kernel) rfl) pa_nil)))) (pss_one (ps_ret (pe_callTy (call_listA (K := K) rfl) (by rfl) T.m_list (by decide +kernel) (pa_cons (pv 0) pa_nil)))) pss_nil)
      (pss_one (ps_ret (pv 0)))), ?_⟩
    refine seq_step ?_
    walk_at "rt"
    refine isi (r := true) (.base (.lst hx)) (by decide +kernel) ?_
    walk_at "rt"
    exact ⟨xs, .inl (.of hx), fun r H' s f e => q r H' s f e⟩
def spDoorInit (C : Addr) : Sp := fun vs H Q _ => ∃ (p dx g n : Addr) (st en sg : Str) (gl nl : List V), vs = [.ref p, .str st, .str en, .ref g, .ref n, .str sg] ∧ H p = some (.ins C dx []) ∧ H g = some (.lst gl) ∧ H n = some (.lst nl) ∧
  ∀ g' n' H', (∀ b o, H b = some o → b ≠ p → H' b = some o) → H g' = none → H n' = none → H' p = some (.ins C dx (doorF st en sg g' n')) → H' g' = some (.lst gl) → H' n' = some (.lst nl) → Q .non H'
theorem ok_Door_init (T : Top K mg) : FnOk P w K mg base CX0 2 T.f_Door_init T.d_Door_init ["self", "start", "end", "guard", "noughts", "sign"] (spDoorInit T.C_Door) := by
  refine T.F_Door_init.ok sc_Door_init (fun vs H Q E h => ?_) (fun cdv A outer s H vs Q E hr h => ?_)
  · obtain ⟨p, dx, g, n, st, en, sg, gl, nl, rfl, _⟩ := h; rfl
  · obtain ⟨p, dx, g, n, st, en, sg, gl, nl, rfl, hp, hg, hn, q⟩ := h
    refine ⟨_, (pss_cons (ps_fld (pv 0) (pv 1) rfl)
      (pss_cons (ps_fld (pv 0) (pv 2) rfl)
      (pss_cons (ps_fld (pv 0) (pv 5) rfl)
      (pss_cons (ps_fld (pv 0) (pe_call (ok_own T) (hr.mono (by decide)) rfl T.g_own T.F_own.kp T.b_own .nil pass0 (pa_cons (pv 3) pa_nil)) rfl)
      (pss_one (ps_fld (pv 0) (pe_call (ok_own T) (hr.mono (by decide)) rfl T.g_own T.F_own.kp T.b_own .nil pass0 (pa_cons (pv 4) pa_nil)) rfl)))))), ?_⟩
    have pg : g ≠ p := ne_of hg hp (by intro z; cases z)
    have pn : n ≠ p := ne_of hn hp (by intro z; cases z)
    refine seq_step ?_
    refine ⟨_, rfl, _, rfl, p, _, dx, _, rfl, hp, T.cl_Door, T.n_Door_start, (by show 0 < 1000; decide), ?_⟩
    refine seq_step ?_
    refine ⟨_, rfl, _, rfl, p, _, dx, _, rfl, upd_same, T.cl_Door, T.n_Door_end, (by show 1 < 1000; decide), ?_⟩
    refine seq_step ?_
    refine ⟨_, rfl, _, rfl, p, _, dx, _, rfl, upd_same, T.cl_Door, T.n_Door_sign, (by show 2 < 1000; decide), ?_⟩
    refine seq_step ?_
    rw [upd_upd, upd_upd]
    refine ⟨_, rfl, g, gl, rfl, (by rw [upd_ne pg]; exact hg), fun g' H2 s2 f2 e2 => ?_⟩
    have p2 : g' ≠ p := fun z => by rw [z, upd_same] at f2; cases f2
    refine ⟨_, rfl, p, _, dx, _, rfl, s2 _ _ upd_same, T.cl_Door, T.n_Door_looks, (by show 3 < 1000; decide), ?_⟩
    have hn2 : H2 n = some (.lst nl) := s2 _ _ (by rw [upd_ne pn]; exact hn)
    refine ⟨_, rfl, n, nl, rfl, (by rw [upd_ne pn]; exact hn2), fun n' H3 s3 f3 e3 => ?_⟩
    have p3 : n' ≠ p := fun z => by rw [z, upd_same] at f3; cases f3
    refine ⟨_, rfl, p, _, dx, _, rfl, s3 _ _ upd_same, T.cl_Door, T.n_Door_backs, (by show 4 < 1000; decide), ?_⟩
    rw [upd_ne p2] at f2
    rw [upd_ne p3] at f3
    have k02 : ∀ b o, H b = some o → b ≠ p → H2 b = some o := fun b o e z => s2 _ _ (by rw [upd_ne z]; exact e)
    refine q g' n' _ (fun b o e z => ?_) f2 ?_ upd_same ?_ ?_
    · rw [upd_ne z]
      exact s3 _ _ (by rw [upd_ne z]; exact k02 b o e z)
    · cases e : H n' with
      | none => rfl
      | some o => rw [k02 _ _ e p3] at f3; cases f3
    · rw [upd_ne p2]
      exact s3 _ _ (by rw [upd_ne p2]; exact e2)
    · rw [upd_ne p3]; exact e3
def spAsks (C : Addr) : Sp := fun vs H Q _ => ∃ (p : Addr) (d : DoorD), vs = [.ref p] ∧ DoorAt C H p d ∧ ∀ q H', Same H H' → H q = none → LsAt H' q d.looks → Q (.ref q) H'
theorem ok_Door_asks (T : Top K mg) : FnOk P w K mg base CX0 2 T.f_Door_asks T.d_Door_asks ["self"] (spAsks T.C_Door) := by
  refine T.F_Door_asks.ok sc_Door_asks (fun vs H Q E h => ?_) (fun cdv A outer s H vs Q E hr h => ?_)
  · obtain ⟨p, d, rfl, _⟩ := h; rfl
  · obtain ⟨p, d, rfl, ⟨dx, g, n, h1, ⟨qs, a, b, c⟩, h3⟩, q⟩ := h
    refine ⟨_, (pss_one (ps_ret (pe_call (ok_own T) (hr.mono (by decide)) rfl T.g_own T.F_own.kp T.b_own .nil pass0 (pa_cons (pe_fldA (K := K) rfl (pv 0) rfl) pa_nil)))), ?_⟩
    refine ⟨_, rfl, p, _, dx, _, _, rfl, h1, T.cl_Door, T.n_Door_looks, door_looks, g, _, rfl, a, fun r H' s' f e => q r H' s' f ⟨qs, e, b, fun i q x h1 h2 => (c i q x h1 h2).keep s'⟩⟩
def spSets (C : Addr) : Sp := fun vs H Q _ => ∃ (p : Addr) (d : DoorD), vs = [.ref p] ∧ DoorAt C H p d ∧ ∀ q H', Same H H' → H q = none → H' q = some (.lst (d.backs.map V.str)) → Q (.ref q) H'
theorem ok_Door_sets (T : Top K mg) : FnOk P w K mg base CX0 2 T.f_Door_sets T.d_Door_sets ["self"] (spSets T.C_Door) := by
  refine T.F_Door_sets.ok sc_Door_sets (fun vs H Q E h => ?_) (fun cdv A outer s H vs Q E hr h => ?_)
  · obtain ⟨p, d, rfl, _⟩ := h; rfl
  · obtain ⟨p, d, rfl, ⟨dx, g, n, h1, h2, h3⟩, q⟩ := h
    refine ⟨_, (pss_one (ps_ret (pe_call (ok_own T) (hr.mono (by decide)) rfl T.g_own T.F_own.kp T.b_own .nil pass0 (pa_cons (pe_fldA (K := K) rfl (pv 0) rfl) pa_nil)))), ?_⟩
    exact ⟨_, rfl, p, _, dx, _, _, rfl, h1, T.cl_Door, T.n_Door_backs, door_backs, n, _, rfl, h3, fun r H' s' f e => q r H' s' f e⟩
/-- texts that are lists: what the comprehension's list holds -/
theorem names_dp {H : Hp} {p : Addr} {xs : List Str} (h : H p = some (.lst (xs.map V.str))) : Dp K H (.ref p) (.list (xs.map PyData.str)) :=
  .lst (.of h) (dpall_of (by simp) fun k v d h1 h2 => by
    rw [List.getElem?_map] at h1 h2
    obtain ⟨x, hx, rfl⟩ := Option.map_eq_some_iff.mp h1
    rw [hx] at h2; cases h2
    exact .str x)
def areW (xs : List Str) : Bool := decide (xs.length ≤ 7) && (xs.all okWatch && decide xs.Nodup)
def spAreW : Sp := fun vs H Q _ => ∃ (p : Addr) (xs : List Str), vs = [.ref p] ∧ H p = some (.lst (xs.map V.str)) ∧ xs.length ≤ 60 ∧ (∀ x ∈ xs, x.length ≤ 1000) ∧ ∀ H', Same H H' → Q (.bl (areW xs)) H'
theorem ok_are_watches (T : Top K mg) : FnOk P w K mg base CX0 4 T.f_are_watches T.d_are_watches ["thing"] spAreW := by
  refine T.F_are_watches.ok sc_are_watches (fun vs H Q E h => ?_) (fun cdv A outer s H vs Q E hr h => ?_)
  · obtain ⟨p, xs, rfl, _⟩ := h; rfl
  · obtain ⟨p, xs, rfl, hx, h7, hl, q⟩ := h
    refine ⟨_, (pss_cons (ps_if (PW.pt (pw_or (pt_not (pt_val (pe_callB (call_isiA (K := K) rfl) (by rfl) T.m_isinstance (by decide +kernel) (pa_cons (pv 0) (pa_cons (pe_bltn (v := .ty "list") (u := .type "list") (by rfl) T.m_list (by decide +kernel) rfl) pa_nil))))) (pw_or1 (pt_cmpR op_gt (pe_callB call_len_seq (by rfl) T.m_len (by decide +kernel) (pa_cons (pv 0) pa_nil)) (pe_glob (v := .int 7) rfl T.g_MOST_WATCHES ⟨_, rfl⟩) (nomark _))))) (pss_one (ps_ret pe_bl)) pss_nil)
      (pss_one (ps_ret (pe_and (pe_callB (cr_all rfl) (by rfl) T.m_all (by decide +kernel) (pa_cons (lc_vs (vs := [1]) (pe_lc (own := [("watch", 1)]) (g := gName 1) (tt := tYes) rfl sc_are_watches.nd (pi_listA (K := K) rfl (pv 0)) (blkOk_by (own := [("watch", 1)]) (N := ["thing", "watch"]) (sc := defScope s_are_watches) (by decide +kernel)) (fun _ _ _ _ _ => (pg_name (i := 1) sc_are_watches.nd rfl (.inl rfl))) (fun _ _ _ _ _ => pts_nil) (fun _ _ _ _ _ => (pe_call (ok_is_watch_name T) (hr.mono (by decide)) rfl T.g_is_watch_name T.F_is_watch_name.kp T.b_is_watch_name .nil pass0 (pa_cons (pv 1) pa_nil)))) rfl) pa_nil)) (pe_one (pe_call (ok_unlike T) (hr.mono (by decide)) rfl T.g_unlike T.F_unlike.kp T.b_unlike .nil pass0 (pa_cons (pv 0) pa_nil))))))), ?_⟩
    refine seq_step ?_
    walk_at "rt"
    refine isi (r := true) (.base (.lst hx)) (by decide +kernel) ?_
    walk_at "rt"
    refine ⟨_, .inl (.of hx), ?_⟩
    rw [List.length_map]
    unfold areW at q
    refine ite_d (fun c => ?_) (fun c => ?_)
    · walk_at "rd"
      rw [show decide (xs.length ≤ 7) = false from decide_eq_false (by omega)] at q
      exact q H (Same.refl _)
    rw [show decide (xs.length ≤ 7) = true from decide_eq_true (by omega), Bool.true_and] at q
    refine lc_src ?_
    walk_at "rd"
    refine ⟨⟨_, .of hx⟩, ?_⟩
    refine lcL_vals (xs := xs.map V.str) (f := pick xs (fun x => .bl (okWatch x)) (V.bl false)) hx (by simp; omega) (by simp) (fun i x H1 Q1 hi s1 h => ?_) (fun D H1 s1 _ eD => ?_)
    · rw [List.getElem?_map] at hi
      obtain ⟨y, h1, rfl⟩ := Option.map_eq_some_iff.mp hi
      walk_at "rd"
      refine ⟨y, rfl, hl y (List.mem_of_getElem? h1), ?_⟩
      have := h H1 (Same.refl _)
      rw [pick_at h1] at this
      exact this
    · refine ⟨D, xs.map okWatch, rfl, .of (eD.trans (by rw [List.length_map, range_map, List.map_map]; rfl)), ?_⟩
      have q1 := q H1 s1
      rw [show (xs.map okWatch).all id = xs.all okWatch by rw [List.all_map]; rfl]
      generalize xs.all okWatch = r at q1 ⊢
      cases r with
      | false => walk_at "rd"; exact q1
      | true =>
        walk_at "rd"
        exact ⟨p, xs, rfl, s1 _ _ hx, by omega, q1⟩
def spRoom (K : PySem.W.Frag) : Sp := fun vs H Q _ => ∃ (p ps : Addr) (r : Rq) (watches : List Str), vs = [.ref p, .ref ps] ∧ RqAt H p r ∧ TxS K H ps watches ∧ r.1.length ≤ 1000 ∧ r.2.length ≤ 60 ∧ ∀ H', Same H H' → Q (.bl (roomOk watches r)) H'
theorem ok_is_room (T : Top K mg) : FnOk P w K mg base CX0 4 T.f_is_room T.d_is_room ["thing", "watches"] (spRoom K) := by
  refine T.F_is_room.ok sc_is_room (fun vs H Q E h => ?_) (fun cdv A outer s H vs Q E hr h => ?_)
  · obtain ⟨p, ps, r, watches, rfl, _⟩ := h; rfl
  · obtain ⟨p, ps, ⟨n, ls⟩, watches, rfl, ⟨g, e, hg⟩, hs, hn, h60, q⟩ := h
    refine ⟨_, (pss_cons (ps_if (PW.pt (pw_or (pt_not (pt_val (pe_callB (call_isiA (K := K) rfl) (by rfl) T.m_isinstance (by decide +kernel) (pa_cons (pv 0) (pa_cons (pe_bltn (v := .ty "tuple") (u := .type "tuple") (by rfl) T.m_tuple (by decide +kernel) rfl) pa_nil))))) (pw_or1 (pt_cmpR op_ne (pe_callB call_len_seq (by rfl) T.m_len (by decide +kernel) (pa_cons (pv 0) pa_nil)) pe_int (nomark _))))) (pss_one (ps_ret pe_bl)) pss_nil)
      (pss_one (ps_ret (pe_and (pe_call (ok_of_signs T) (hr.mono (by decide)) rfl T.g_of_signs T.F_of_signs.kp T.b_of_signs .nil pass0 (pa_cons (pe_ix (ix_tupA (K := K) rfl) (pv 0) pe_int (fun _ _ => rfl)) (pa_cons (pe_op op_add_str (pe_glob (v := .str "abcdefghijklmnopqrstuvwxyz") rfl T.g_LETTERS ⟨_, rfl⟩) pe_str) (pa_cons pe_int pa_nil)))) (pe_one (pe_call (ok_is_guard T) (hr.mono (by decide)) rfl T.g_is_guard T.F_is_guard.kp T.b_is_guard .nil pass0 (pa_cons (pe_ix (ix_tupA (K := K) rfl) (pv 0) pe_int (fun _ _ => rfl)) (pa_cons (pe_glob (v := .ref T.t_BELOW) rfl T.g_BELOW rfl) (pa_cons (pv 1) pa_nil))))))))), ?_⟩
    refine seq_step ?_
    walk_at "rt"
    refine isi (r := true) (.base (.tup e)) (by decide +kernel) ?_
    walk_at "rt"
    refine ⟨_, .inr (sqt e), ?_⟩
    walk_at "rt"
    refine ix_t (sqt e) (by decide) rfl ?_
    walk_at "rt"
    refine ⟨by rw [sz_line (by decide)]; trivial, ?_⟩
    refine ⟨n, _, 60, rfl, hn, ?_⟩
    unfold roomOk at q
    by_cases c : okT n (letters ++ ("/" : Str)) 60 = true
    · rw [show okT (n, ls).1 (letters ++ ("/" : Str)) 60 = true from c] at q
      rw [show okT n (Str.ofString "abcdefghijklmnopqrstuvwxyz" ++ Str.ofString "/") 60 = true from c]
      walk_at "rt"
      refine ix_t (sqt e) (by decide) rfl ?_
      exact .inl ⟨g, T.t_BELOW, _, ls, ["<", "<="], watches, rfl, hg, .inr (T.q_BELOW _), hs, h60, fun H' s' => q H' s'⟩
    · have c : okT n (letters ++ ("/" : Str)) 60 = false := by simpa using c
      rw [show okT (n, ls).1 (letters ++ ("/" : Str)) 60 = false from c] at q
      rw [show okT n (Str.ofString "abcdefghijklmnopqrstuvwxyz" ++ Str.ofString "/") 60 = false from c]
      walk_at "rt"
      exact q H (Same.refl _)
def spRooms (K : PySem.W.Frag) : Sp := fun vs H Q _ => ∃ (p ps : Addr) (rs : List Rq) (watches : List Str), vs = [.ref p, .ref ps] ∧ RsAt H p rs ∧ TxS K H ps watches ∧ (∀ r ∈ rs, r.1.length ≤ 1000 ∧ r.2.length ≤ 60 ∧ RqOk r) ∧ rs ≠ [] ∧ rs.length ≤ 200 ∧ ∀ H', Same H H' → Q (.bl (rs.all (roomOk watches) && decide (rs.map (·.1)).Nodup)) H'
theorem ok_are_rooms (T : Top K mg) : FnOk P w K mg base CX0 5 T.f_are_rooms T.d_are_rooms ["thing", "watches"] (spRooms K) := by
  refine T.F_are_rooms.ok sc_are_rooms (fun vs H Q E h => ?_) (fun cdv A outer s H vs Q E hr h => ?_)
  · obtain ⟨p, ps, rs, watches, rfl, _⟩ := h; rfl
  · obtain ⟨p, ps, rs, watches, rfl, hrs, hs, hok, hne, h200, q⟩ := h
    refine ⟨_, (pss_cons (ps_if (PW.pt (pw_or (pt_not (pt_val (pe_callB (call_isiA (K := K) rfl) (by rfl) T.m_isinstance (by decide +kernel) (pa_cons (pv 0) (pa_cons (pe_bltn (v := .ty "list") (u := .type "list") (by rfl) T.m_list (by decide +kernel) rfl) pa_nil))))) (pw_or1 (pt_cmpR (op_eqD hr.units) (pv 0) (pe_lstN pa_nil) (nomark _))))) (pss_one (ps_ret pe_bl)) pss_nil)
      (pss_one (ps_ret (pe_and (pe_callB (cr_all rfl) (by rfl) T.m_all (by decide +kernel) (pa_cons (lc_vs (vs := [2]) (pe_lc (own := [("room", 2)]) (g := gName 2) (tt := tYes) rfl sc_are_rooms.nd (pi_listA (K := K) rfl (pv 0)) (blkOk_by (own := [("room", 2)]) (N := ["thing", "watches", "room"]) (sc := defScope s_are_rooms) (by decide +kernel)) (fun _ _ _ _ _ => (pg_name (i := 2) sc_are_rooms.nd rfl (.inl rfl))) (fun _ _ _ _ _ => pts_nil) (fun _ _ _ _ _ => (pe_call (ok_is_room T) (hr.mono (by decide)) rfl T.g_is_room T.F_is_room.kp T.b_is_room .nil pass0 (pa_cons (pv 2) (pa_cons (pv 1) pa_nil))))) rfl) pa_nil)) (pe_one (pe_call (ok_unlike T) (hr.mono (by decide)) rfl T.g_unlike T.F_unlike.kp T.b_unlike .nil pass0 (pa_cons (lc_vs (vs := [2]) (pe_lc (own := [("room", 2)]) (g := gName 2) (tt := tYes) rfl sc_are_rooms.nd (pi_listA (K := K) rfl (pv 0)) (blkOk_by (own := [("room", 2)]) (N := ["thing", "watches", "room"]) (sc := defScope s_are_rooms) (by decide +kernel)) (fun _ _ _ _ _ => (pg_name (i := 2) sc_are_rooms.nd rfl (.inl rfl))) (fun _ _ _ _ _ => pts_nil) (fun _ _ _ _ _ => (pe_ix (ix_tupA (K := K) rfl) (pv 2) pe_int (fun _ _ => rfl)))) rfl) pa_nil))))))), ?_⟩
    obtain ⟨qs, a, b, c⟩ := id hrs
    refine seq_step ?_
    walk_at "rt"
    refine isi (r := true) (.base (.lst a)) (by decide +kernel) ?_
    walk_at "rt"
    intro p1 H1 s1 _ e1
    refine ⟨_, _, dp_rs (hrs.keep s1), .lst (.of e1) .nil, shaped_rs fun r h => (hok r h).2.2, rfl, ?_⟩
    have ne : PyData.eqv (.list (rs.map rdat)) (.list []) = false := by
      cases rs with
      | nil => exact absurd rfl hne
      | cons r rs => rfl
    rw [ne]
    walk_at "rt"
    refine lc_src ?_
    walk_at "rd"
    refine ⟨⟨_, .of (s1 _ _ a)⟩, ?_⟩
    refine lcL_vals (xs := qs.map V.ref) (f := pick rs (fun r => .bl (roomOk watches r)) (V.bl false)) (s1 _ _ a) (by simp; omega) (by simp) (fun i x H2 Q1 hi s2 h => ?_) (fun D H2 s2 _ eD => ?_)
    · rw [List.getElem?_map] at hi
      obtain ⟨qi, h1, rfl⟩ := Option.map_eq_some_iff.mp hi
      have hil := (List.getElem?_eq_some_iff.mp h1).1
      have hx := List.getElem?_eq_getElem (l := rs) (i := i) (by omega)
      have hk := hok _ (List.mem_of_getElem? hx)
      walk_at "rd"
      refine ⟨qi, ps, rs[i], watches, rfl, (c i qi _ h1 hx).keep (s1.trans s2), hs.keep (s1.trans s2), hk.1, hk.2.1, fun H3 s3 => ?_⟩
      have := h H3 s3
      rw [pick_at hx] at this
      exact this
    · refine ⟨D, rs.map (roomOk watches), rfl, .of (eD.trans (by rw [List.length_map, b, range_map, List.map_map]; rfl)), ?_⟩
      rw [show (rs.map (roomOk watches)).all id = rs.all (roomOk watches) by rw [List.all_map]; rfl]
      generalize rs.all (roomOk watches) = r at q ⊢
      cases r with
      | false => walk_at "rd"; exact q _ (s1.trans s2)
      | true =>
        walk_at "rd"
        refine lc_src ?_
        walk_at "rd"
        have s12 := s1.trans s2
        refine ⟨⟨_, .of (s12 _ _ a)⟩, ?_⟩
        refine lcL_vals (xs := qs.map V.ref) (f := pick rs (fun r => .str r.1) V.non) (s12 _ _ a) (by simp; omega) (by simp) (fun i x H3 Q1 hi s3 h => ?_) (fun D2 H3 s3 _ eD2 => ?_)
        · rw [List.getElem?_map] at hi
          obtain ⟨qi, h1, rfl⟩ := Option.map_eq_some_iff.mp hi
          have hil := (List.getElem?_eq_some_iff.mp h1).1
          have hx := List.getElem?_eq_getElem (l := rs) (i := i) (by omega)
          obtain ⟨g, e, _⟩ := (c i qi _ h1 hx).keep (s12.trans s3)
          walk_at "rd"
          refine ix_t (sqt e) (by decide) rfl ?_
          have := h H3 (Same.refl _)
          rw [pick_at hx] at this
          exact this
        · refine ⟨D2, rs.map (·.1), rfl, eD2.trans (by rw [List.length_map, b, range_map, List.map_map]; rfl), by simp; omega, by simpa using q _ (s12.trans s3)⟩
def spIsDoor (K : PySem.W.Frag) (C : Addr) : Sp := fun vs H Q _ => ∃ (p pw pn : Addr) (d : DoorD) (watches names : List Str), vs = [.ref p, .ref pw, .ref pn] ∧ DoorAt C H p d ∧ TxS K H pw watches ∧ TxS K H pn names ∧ d.sg.length ≤ 1000 ∧ d.looks.length ≤ 60 ∧ d.backs.length ≤ 900 ∧ ∀ H', Same H H' → Q (.bl (doorOk watches names d)) H'
theorem ok_is_door (T : Top K mg) : FnOk P w K mg base CX0 4 T.f_is_door T.d_is_door ["thing", "watches", "names"] (spIsDoor K T.C_Door) := by
  refine T.F_is_door.ok sc_is_door (fun vs H Q E h => ?_) (fun cdv A outer s H vs Q E hr h => ?_)
  · obtain ⟨p, pw, pn, d, watches, names, rfl, _⟩ := h; rfl
  · obtain ⟨p, pw, pn, d, watches, names, rfl, hd, hw, hn, hsg, h60, hb, q⟩ := h
    refine ⟨_, (pss_cons (ps_if (PW.pt (pw_or (pt_not (pt_val (pe_callB (call_isiA (K := K) rfl) (by rfl) T.m_isinstance (by decide +kernel) (pa_cons (pv 0) (pa_cons (pe_glob (v := .ref T.C_Door) rfl T.g_Door rfl) pa_nil))))) (pw_or1 (pt_not (pt_val (pe_call (ok_is_sign T) (hr.mono (by decide)) rfl T.g_is_sign T.F_is_sign.kp T.b_is_sign .nil pass0 (pa_cons (pe_fldA (K := K) rfl (pv 0) rfl) pa_nil))))))) (pss_one (ps_ret pe_bl)) pss_nil)
      (pss_cons (ps_for PassesOwn.never rfl (pi_listA (K := K) rfl (pe_lstN (pa_cons (pe_fldA (K := K) rfl (pv 0) rfl) (pa_cons (pe_fldA (K := K) rfl (pv 0) rfl) pa_nil)))) (pg_name (i := 3) sc_is_door.nd rfl (.inl rfl)) (pss_one (ps_if (PW.pt (pw_or (pt_not (pt_val (pe_callB (call_isiA (K := K) rfl) (by rfl) T.m_isinstance (by decide +kernel) (pa_cons (pv 3) (pa_cons (pe_bltn (v := .ty "str") (u := .type "str") (by rfl) T.m_str (by decide +kernel) rfl) pa_nil))))) (pw_or1 (pt_cmpR (op_notIn_seqA (K := K) rfl) (pv 3) (pv 2) (by rfl))))) (pss_one (ps_ret pe_bl)) pss_nil)))
      (pss_cons (ps_set (i := 4) sc_is_door.nd rfl (.inl rfl) (pe_meth0 (pv 0) T.cl_Door T.m_Door_sets (ok_Door_sets T) (hr.mono (by decide)) T.b_Door_sets .nil pass0))
      (pss_cons (ps_if (PW.pt (pw_or (pt_not (pt_val (pe_call (ok_is_guard T) (hr.mono (by decide)) rfl T.g_is_guard T.F_is_guard.kp T.b_is_guard .nil pass0 (pa_cons (pe_meth0 (pv 0) T.cl_Door T.m_Door_asks (ok_Door_asks T) (hr.mono (by decide)) T.b_Door_asks .nil pass0) (pa_cons (pe_glob (v := .ref T.t_WORDS) rfl T.g_WORDS rfl) (pa_cons (pv 1) pa_nil)))))) (pw_or1 (pt_not (pt_val (pe_callB (call_isiA (K := K) rfl) (by rfl) T.m_isinstance (by decide +kernel) (pa_cons (pv 4) (pa_cons (pe_bltn (v := .ty "list") (u := .type "list") (by rfl) T.m_list (by decide +kernel) rfl) pa_nil)))))))) (pss_one (ps_ret pe_bl)) pss_nil)
      (pss_one (ps_ret (pe_and (pe_callB (cr_all rfl) (by rfl) T.m_all (by decide +kernel) (pa_cons (lc_vs (vs := [5]) (pe_lc (own := [("watch", 5)]) (g := gName 5) (tt := tYes) rfl sc_is_door.nd (pi_listA (K := K) rfl (pv 4)) (blkOk_by (own := [("watch", 5)]) (N := ["thing", "watches", "names", "name", "noughts", "watch"]) (sc := defScope s_is_door) (by decide +kernel)) (fun _ _ _ _ _ => (pg_name (i := 5) sc_is_door.nd rfl (.inl rfl))) (fun _ _ _ _ _ => pts_nil) (fun _ _ _ _ _ => (pe_and (pe_callB (call_isiA (K := K) rfl) (by rfl) T.m_isinstance (by decide +kernel) (pa_cons (pv 5) (pa_cons (pe_bltn (v := .ty "str") (u := .type "str") (by rfl) T.m_str (by decide +kernel) rfl) pa_nil))) (pe_one (pe_cmpR (op_in_seqA (K := K) rfl) (pv 5) (pv 1) (by rfl)))))) rfl) pa_nil)) (pe_one (pe_call (ok_unlike T) (hr.mono (by decide)) rfl T.g_unlike T.F_unlike.kp T.b_unlike .nil pass0 (pa_cons (pv 4) pa_nil)))))))))), ?_⟩
    obtain ⟨dx, g, n, e, e2, e3⟩ := id hd
    unfold doorOk at q
    refine seq_step ?_
    walk_at "rt"
    refine is_own e T.cl_Door T.ty_Door ?_
    walk_at "rt"
    refine ⟨_, rfl, p, _, dx, _, _, rfl, e, T.cl_Door, T.n_Door_sign, door_sign, ?_⟩
    refine ⟨_, rfl, hsg, ?_⟩
    by_cases c1 : okSign d.sg = true
    · rw [c1] at q ⊢
      walk_at "rt"
      refine seq_step ?_
      refine for_li ?_
      walk_at "rt"
      refine ⟨_, rfl, p, _, dx, _, _, rfl, e, T.cl_Door, T.n_Door_start, door_start, _, rfl, p, _, dx, _, _, rfl, e, T.cl_Door, T.n_Door_end, door_end, ?_⟩
      intro pl H1 s1 f1 e1
      refine forL_by (xs := [.str d.st, .str d.en]) (fun i σ' H' => (∃ v3 v4 v5, σ' = [some (.ref p), some (.ref pw), some (.ref pn), v3, v4, v5]) ∧ H' = H1 ∧ (0 < i → d.st ∈ names) ∧ (1 < i → d.en ∈ names)) ⟨⟨_, _, _, rfl⟩, rfl, (fun h => absurd h (by omega)), (fun h => absurd h (by omega))⟩ (fun i σ H' _ ⟨_, h, _⟩ => by subst h; exact .of e1) ?_ ?_
      · rintro i x σ' H' hi ⟨⟨v3, v4, v5, rfl⟩, rfl, m1, m2⟩
        have key : ∃ nmx : Str, x = .str nmx ∧ (i = 0 ∧ nmx = d.st ∨ i = 1 ∧ nmx = d.en) := by
          cases i with
          | zero => exact ⟨d.st, by simpa using hi.symm, .inl ⟨rfl, rfl⟩⟩
          | succ i => cases i with
            | zero => exact ⟨d.en, by simpa using hi.symm, .inr ⟨rfl, rfl⟩⟩
            | succ i => simp at hi
        obtain ⟨nmx, rfl, hx⟩ := key
        walk_at "rt"
        refine isi (r := true) (.base (.str _)) (by decide +kernel) ?_
        walk_at "rt"
        refine ⟨pn, _, rfl, hn.keep s1, rfl, flat_of, ?_⟩
        rw [inV_str]
        by_cases m : nmx ∈ names
        · rw [decide_eq_true m]
          walk_at "rt"
          refine ⟨⟨_, rfl⟩, fun _ => ?_, fun h => ?_⟩
          · rcases hx with ⟨_, rfl⟩ | ⟨rfl, _⟩
            · exact m
            · exact m1 (by omega)
          · rcases hx with ⟨rfl, _⟩ | ⟨_, rfl⟩
            · omega
            · exact m
        · rw [decide_eq_false m]
          walk_at "rt"
          have q1 := q _ s1
          rcases hx with ⟨_, rfl⟩ | ⟨_, rfl⟩
          · rw [decide_eq_false m] at q1; simpa only [Bool.true_and, Bool.false_and] using q1
          · rw [decide_eq_false m] at q1; simpa only [Bool.true_and, Bool.false_and, Bool.and_false] using q1
      · rintro σ' H' ⟨⟨v3, v4, v5, rfl⟩, rfl, m1, m2⟩
        have m1 := m1 (by show 0 < 2; decide)
        have m2 := m2 (by show 1 < 2; decide)
        rw [decide_eq_true m1, decide_eq_true m2] at q
        walk_at "rd"
        refine seq_step ?_
        refine ⟨_, rfl, p, dx, _, rfl, s1 _ _ e, door_no (by decide +kernel) (by decide +kernel) (by decide +kernel) (by decide +kernel) (by decide +kernel), p, d, rfl, hd.keep s1, fun nb H2 s2 f2 e2n => ?_⟩
        walk_at "rd"
        refine seq_step ?_
        have s02 := s1.trans s2
        walk_at "rt"
        refine ⟨_, rfl, p, dx, _, rfl, s02 _ _ e, door_no (by decide +kernel) (by decide +kernel) (by decide +kernel) (by decide +kernel) (by decide +kernel), p, d, rfl, hd.keep s02, fun lg H3 s3 f3 e3g => ?_⟩
        have s03 := s02.trans s3
        walk_at "rt"
        refine .inl ⟨lg, T.t_WORDS, pw, d.looks, ["<", "<=", ">", ">=", "="], watches, rfl, e3g, .inr (T.q_WORDS _), hw.keep s03, h60, fun H4 s4 => ?_⟩
        have s04 := s03.trans s4
        have hnb := (s3.trans s4) _ _ e2n
        by_cases c2 : guardOk ["<", "<=", ">", ">=", "="] watches d.looks = true
        · rw [c2] at q ⊢
          walk_at "rt"
          refine isi (r := true) (.base (.lst hnb)) (by decide +kernel) ?_
          walk_at "rt"
          refine lc_src ?_
          walk_at "rd"
          refine ⟨⟨_, .of hnb⟩, ?_⟩
          refine lcL_vals (xs := d.backs.map V.str) (f := pick d.backs (fun b => .bl (decide (b ∈ watches))) (V.bl false)) hnb (by simp; omega) (by simp) (fun i x H5 Q1 hi s5 h => ?_) (fun D H5 s5 _ eD => ?_)
          · rw [List.getElem?_map] at hi
            obtain ⟨y, h1, rfl⟩ := Option.map_eq_some_iff.mp hi
            walk_at "rt"
            refine isi (r := true) (.base (.str _)) (by decide +kernel) ?_
            walk_at "rt"
            refine ⟨pw, _, rfl, (hw.keep (s04.trans s5)), rfl, flat_of, ?_⟩
            rw [inV_str]
            have := h _ (Same.refl _)
            rw [pick_at h1] at this
            exact this
          · refine ⟨D, d.backs.map (fun b => decide (b ∈ watches)), rfl, .of (eD.trans (by rw [List.length_map, range_map, List.map_map]; rfl)), ?_⟩
            have q1 := q _ (s04.trans s5)
            rw [show (d.backs.map (fun b => decide (b ∈ watches))).all id = d.backs.all (fun b => decide (b ∈ watches)) by rw [List.all_map]; rfl]
            generalize d.backs.all (fun b => decide (b ∈ watches)) = r at q1 ⊢
            cases r with
            | false => walk_at "rd"; simpa only [Bool.true_and, Bool.false_and, Bool.and_false] using q1
            | true =>
              walk_at "rd"
              exact ⟨nb, d.backs, rfl, s5 _ _ hnb, by omega, by simpa only [Bool.true_and] using q1⟩
        · have c2 : guardOk ["<", "<=", ">", ">=", "="] watches d.looks = false := by simpa using c2
          rw [c2] at q ⊢
          walk_at "rt"
          simpa only [Bool.true_and, Bool.false_and, Bool.and_false] using q _ s04
    · have c1 : okSign d.sg = false := by simpa using c1
      rw [c1] at q ⊢
      walk_at "rt"
      exact q _ (Same.refl _)
def spMachInit0 (K : PySem.W.Frag) (CM CD : Addr) : Sp := fun vs H Q _ => ∃ (p dx pw pr pd : Addr) (M : MachD), vs = [.ref p, .ref pw, .ref pr, .ref pd] ∧ H p = some (.ins CM dx []) ∧ H pw = some (.lst (M.watches.map V.str)) ∧ RsAt H pr M.rooms ∧ DsAt CD H pd M.doors ∧ MachOk M ∧
  ∀ H', OffN p H H' → MachAt CM CD H' p M → (∀ U : Addr → Prop, ListsU U H → (∀ q d, DoorAt CD H q d → d ∈ M.doors → (∃ (qs : List Addr) (i : Nat), H pd = some (.lst (qs.map V.ref)) ∧ qs[i]? = some q ∧ M.doors[i]? = some d) → DoorAt CD (remU U H) q d) → MachAt CM CD (remU U H') p M) → Q .non H'
def spMachInit (K : PySem.W.Frag) (CM CD CB : Addr) : Sp := fun vs H Q E => spMachInit0 K CM CD vs H Q E ∨
  ∃ (p dx pw : Addr) (x y : V) (W : List Str), vs = [.ref p, .ref pw, x, y] ∧ H p = some (.ins CM dx []) ∧ H pw = some (.lst (W.map V.str)) ∧ W.length ≤ 60 ∧ (∀ x ∈ W, x.length ≤ 1000) ∧ areW W = false ∧ ∀ H', Same H H' → E (.ref CB) none H'
theorem ok_Machine_init (T : Top K mg) : FnOk P w K mg base (L2.CX P w) 6 T.f_Machine_init T.d_Machine_init ["self", "watches", "rooms", "doors"] (spMachInit K T.C_Machine T.C_Door T.C_BadMachine) := by
  refine T.F_Machine_init.okX sc_Machine_init (fun vs H Q E h => ?_) (fun cdv A outer s H vs Q E hr h => ?_)
  · rcases h with ⟨p, dx, pw, pr, pd, M, rfl, _⟩ | ⟨p, dx, pw, x, y, W, rfl, _⟩ <;> rfl
  · refine ⟨_, (pss_cons (ps_if (PW.pt (pw_or (pt_not (pt_val (pe_call (ok_are_watches T) (hr.mono (by decide)) rfl T.g_are_watches T.F_are_watches.kp T.b_are_watches .nil pass0 (pa_cons (pv 1) pa_nil)))) (pw_or (pt_not (pt_val (pe_call (ok_are_rooms T) (hr.mono (by decide)) rfl T.g_are_rooms T.F_are_rooms.kp T.b_are_rooms .nil pass0 (pa_cons (pv 2) (pa_cons (pv 1) pa_nil))))) (pw_or1 (pt_not (pt_val (pe_callB (call_isiA (K := K) rfl) (by rfl) T.m_isinstance (by decide +kernel) (pa_cons (pv 3) (pa_cons (pe_bltn (v := .ty "list") (u := .type "list") (by rfl) T.m_list (by decide +kernel) rfl) pa_nil))))))))) (pss_one (ps_raise rfl (takes_of rfl rfl rfl rfl) (pmk_own PySem.F.excBase_ValueError T.x_BadMachine T.g_BadMachine T.k_BadMachine (raises_own T.b_BadMachine T.t_BadMachine) rfl))) pss_nil)
      (pss_cons (ps_set (i := 4) sc_Machine_init.nd rfl (.inr rfl) (lc_vs (vs := [5]) (pe_lc (own := [("room", 5)]) (g := gName 5) (tt := tYes) rfl sc_Machine_init.nd (pi_listA (K := K) rfl (pv 2)) (blkOk_by (own := [("room", 5)]) (N := ["self", "watches", "rooms", "doors", "names", "room", "door"]) (sc := defScope s_Machine_init) (by decide +kernel)) (fun _ _ _ _ _ => (pg_name (i := 5) sc_Machine_init.nd rfl (.inl rfl))) (fun _ _ _ _ _ => pts_nil) (fun _ _ _ _ _ => (pe_ix (ix_tupA (K := K) rfl) (pv 5) pe_int (fun _ _ => rfl)))) rfl))
      (pss_cons (ps_if (pt_not (pt_val (pe_callB (cr_all rfl) (by rfl) T.m_all (by decide +kernel) (pa_cons (lc_vs (vs := [6]) (pe_lc (own := [("door", 6)]) (g := gName 6) (tt := tYes) rfl sc_Machine_init.nd (pi_listA (K := K) rfl (pv 3)) (blkOk_by (own := [("door", 6)]) (N := ["self", "watches", "rooms", "doors", "names", "room", "door"]) (sc := defScope s_Machine_init) (by decide +kernel)) (fun _ _ _ _ _ => (pg_name (i := 6) sc_Machine_init.nd rfl (.inl rfl))) (fun _ _ _ _ _ => pts_nil) (fun _ _ _ _ _ => (pe_call (ok_is_door T) (hr.mono (by decide)) rfl T.g_is_door T.F_is_door.kp T.b_is_door .nil pass0 (pa_cons (pv 6) (pa_cons (pv 1) (pa_cons (pv 4) pa_nil)))))) rfl) pa_nil)))) (pss_one (ps_raise rfl (takes_of rfl rfl rfl rfl) (pmk_own PySem.F.excBase_ValueError T.x_BadMachine T.g_BadMachine T.k_BadMachine (raises_own T.b_BadMachine T.t_BadMachine) rfl))) pss_nil)
      (pss_cons (ps_if (PW.pt (pw_or (pt_cmpR op_gt (pe_callB call_len_seq (by rfl) T.m_len (by decide +kernel) (pa_cons (pv 2) pa_nil)) (pe_glob (v := .int 64) rfl T.g_MOST_ROOMS ⟨_, rfl⟩) (nomark _)) (pw_or1 (pt_cmpR op_gt (pe_callB call_len_seq (by rfl) T.m_len (by decide +kernel) (pa_cons (pv 3) pa_nil)) (pe_glob (v := .int 200) rfl T.g_MOST_DOORS ⟨_, rfl⟩) (nomark _))))) (pss_one (ps_raise rfl (takes_of rfl rfl rfl rfl) (pmk_own PySem.F.excBase_ValueError T.x_TooMany T.g_TooMany T.k_TooMany (raises_own T.b_TooMany T.t_TooMany) rfl))) pss_nil)
      (pss_cons (ps_fld (pv 0) (pe_callTy (call_listA (K := K) rfl) (by rfl) T.m_list (by decide +kernel) (pa_cons (pv 1) pa_nil)) rfl)
      (pss_cons (ps_fld (pv 0) (pv 4) rfl)
      (pss_cons (ps_fld (pv 0) (lc_vs (vs := [5]) (pe_lc (own := [("room", 5)]) (g := gName 5) (tt := tYes) rfl sc_Machine_init.nd (pi_listA (K := K) rfl (pv 2)) (blkOk_by (own := [("room", 5)]) (N := ["self", "watches", "rooms", "doors", "names", "room", "door"]) (sc := defScope s_Machine_init) (by decide +kernel)) (fun _ _ _ _ _ => (pg_name (i := 5) sc_Machine_init.nd rfl (.inl rfl))) (fun _ _ _ _ _ => pts_nil) (fun _ _ _ _ _ => (pe_callTy (call_listA (K := K) rfl) (by rfl) T.m_list (by decide +kernel) (pa_cons (pe_ix (ix_tupA (K := K) rfl) (pv 5) pe_int (fun _ _ => rfl)) pa_nil)))) rfl) rfl)
      (pss_one (ps_fld (pv 0) (pe_callTy (call_listA (K := K) rfl) (by rfl) T.m_list (by decide +kernel) (pa_cons (pv 3) pa_nil)) rfl))))))))), ?_⟩
    rcases h with ⟨p, dx, pw, pr, pd, M, rfl, hp, hw, hrs, hds, ok, q⟩ | ⟨p, dx, pw, x, y, W, rfl, hp, hw, w60, wl, wbad, q⟩
    rotate_left
    · refine seq_step ?_
      walk_at "rt"
      refine ⟨pw, W, rfl, hw, w60, wl, fun H1 s1 => ?_⟩
      rw [wbad]
      walk_at "rt"
      exact q H1 s1
    have r64 := ok.r64
    have d200 := ok.d200
    obtain ⟨dqs, d1, d2, d3⟩ := id hds
    obtain ⟨rqs, r1, r2, r3⟩ := id hrs
    refine seq_step ?_
    walk_at "rt"
    refine ⟨pw, M.watches, rfl, hw, Nat.le_trans ok.w7 (by decide), (fun x hx => by have := okWatch_len (ok.watch x hx); omega), fun H1 s1 => ?_⟩
    rw [show areW M.watches = true by unfold areW; rw [decide_eq_true ok.w7, ok.wok, decide_eq_true ok.wnd]; rfl]
    walk_at "rt"
    refine ⟨pr, pw, M.rooms, M.watches, rfl, hrs.keep s1, .inl (.of (s1 _ _ hw)), (fun r h => ok.room h), ok.rne, by omega, fun H2 s2 => ?_⟩
    rw [show (M.rooms.all (roomOk M.watches) && decide (M.rooms.map (·.1)).Nodup) = true by rw [ok.rok, decide_eq_true ok.rnd]; rfl]
    have s12 := s1.trans s2
    walk_at "rt"
    refine isi (r := true) (.base (.lst (s12 _ _ d1))) (by decide +kernel) ?_
    walk_at "rt"
    refine seq_step ?_
    walk_at "rd"
    refine lcg_src ?_
    walk_at "rd"
    refine ⟨⟨_, .of (s12 _ _ r1)⟩, ?_⟩
    refine lcF (F := fun r : Rq => V.str r.1) (zs := M.rooms) (s12 _ _ r1) (by simp [r2]) (by simp; omega) (fun i x z H3 Yes hx hz s3 hy => ?_) (fun nq H3 s3 f3 e3 => ?_)
    · rw [List.getElem?_map] at hx
      obtain ⟨qi, h1, rfl⟩ := Option.map_eq_some_iff.mp hx
      obtain ⟨g, e, _⟩ := (r3 i qi z h1 hz).keep (s12.trans s3)
      walk_at "rd"
      refine ix_t (sqt e) (by decide) rfl ?_
      exact hy _ (Same.refl _)
    · have s13 := s12.trans s3
      walk_at "rd"
      refine seq_step ?_
      walk_at "rd"
      refine lcg_src ?_
      walk_at "rd"
      refine ⟨⟨_, .of (s13 _ _ d1)⟩, ?_⟩
      refine lcF (F := fun d : DoorD => V.bl (doorOk M.watches (M.rooms.map (·.1)) d)) (zs := M.doors) (s13 _ _ d1) (by simp [d2]) (by simp; omega) (fun i x z H4 Yes hx hz s4 hy => ?_) (fun D H4 s4 f4 e4 => ?_)
      · rw [List.getElem?_map] at hx
        obtain ⟨qi, h1, rfl⟩ := Option.map_eq_some_iff.mp hx
        have s14 := s13.trans s4
        have dz := (d3 i qi z h1 hz).keep s14
        have oz := ok.door (List.mem_of_getElem? hz)
        have lz := okSign_len oz.1
        walk_at "rd"
        refine ⟨qi, pw, nq, z, M.watches, M.rooms.map (·.1), rfl, dz, .inl (.of (s14 _ _ hw)), .inl (.of (s4 _ _ (e3.trans (by rw [List.map_map]; rfl)))), by omega, ok.dsz z (List.mem_of_getElem? hz), by omega, fun H5 s5 => hy _ s5⟩
      · have s14 := s13.trans s4
        refine ⟨D, M.doors.map (doorOk M.watches (M.rooms.map (·.1))), rfl, .of (e4.trans (by rw [List.map_map]; rfl)), ?_⟩
        rw [show (M.doors.map (doorOk M.watches (M.rooms.map (·.1)))).all id = true by rw [List.all_map]; exact ok.dok]
        walk_at "rd"
        refine seq_step ?_
        walk_at "rd"
        refine ⟨_, .inl (.of (s14 _ _ r1)), ?_⟩
        refine if_f (decide_eq_false (by rw [List.length_map, r2]; omega)) ?_
        refine ⟨_, .inl (.of (s14 _ _ d1)), ?_⟩
        refine if_f (decide_eq_false (by rw [List.length_map, d2]; omega)) ?_
        have hp4 := s14 _ _ hp
        refine seq_step ?_
        refine ⟨_, rfl, pw, _, rfl, .inl (.of (s14 _ _ hw)), fun w1 H5 s5 f5 e5 => ?_⟩
        refine ⟨_, rfl, p, _, dx, _, rfl, s5 _ _ hp4, T.cl_Machine, T.n_Machine_watch_names, (by show 0 < 1000; decide), ?_⟩
        refine seq_step ?_
        refine ⟨_, rfl, _, rfl, p, _, dx, _, rfl, upd_same, T.cl_Machine, T.n_Machine_room_names, (by show 1 < 1000; decide), ?_⟩
        rw [upd_upd]
        have s15 := s14.trans s5
        generalize h6 : upd H5 p (.ins T.C_Machine dx (putF "room_names" (.ref nq) (putF "watch_names" (.ref w1) []))) = H6
        have off6 : OffN p H H6 := ⟨⟨_, dx, hp⟩, fun b o e z => by rw [← h6, upd_ne z]; exact s15 _ _ e⟩
        have hp6 : H6 p = some (.ins T.C_Machine dx (putF "room_names" (.ref nq) (putF "watch_names" (.ref w1) []))) := by rw [← h6, upd_same]
        obtain ⟨rqs6, q1, q2, q3⟩ := off6.i.rs hrs
        walk_at "rd"
        refine seq_step ?_
        refine lcg_src ?_
        refine ⟨_, rfl, pr, rfl, ⟨_, .of q1⟩, ?_⟩
        refine lcM (R := fun Hx q x => LsAt Hx q x ∧ H6 q = none) (fun H H' q x s h => ⟨LsAt.keep h.1 s, h.2⟩) (F := fun r : Rq => r.2) (zs := M.rooms) q1 (by simp [q2]) (by simp; omega) (fun i x z H7 Yes hx hz s7 hy => ?_) (fun slq H7 s7 f7 e7 => ?_)
        · rw [List.getElem?_map] at hx
          obtain ⟨qi, h1, rfl⟩ := Option.map_eq_some_iff.mp hx
          obtain ⟨g, e, ⟨gs, g1, g2, g3⟩⟩ := q3 i qi z h1 hz
          walk_at "rd"
          refine ix_t (sqt (s7 _ _ e)) (by decide) rfl ?_
          walk_at "rd"
          exact ⟨_, .inl (.of (s7 _ _ g1)), fun l H8 s8 f8 e8 => hy l H8 s8 ⟨⟨gs, cut_new f8 e8, g2, fun i q x h1 h2 => (g3 i q x h1 h2).keep (cut_same (s7.trans s8))⟩, s7.free f8⟩⟩
        · refine ⟨_, rfl, p, _, dx, _, rfl, s7 _ _ hp6, T.cl_Machine, T.n_Machine_stay_looks, (by show 2 < 1000; decide), ?_⟩
          generalize h8 : upd H7 p (.ins T.C_Machine dx (putF "stay_looks" (.ref slq) (putF "room_names" (.ref nq) (putF "watch_names" (.ref w1) [])))) = H8
          have hp8 : H8 p = some (.ins T.C_Machine dx (putF "stay_looks" (.ref slq) (putF "room_names" (.ref nq) (putF "watch_names" (.ref w1) [])))) := by rw [← h8, upd_same]
          have up68 : ∀ b o, H6 b = some o → b ≠ p → H8 b = some o := fun b o e z => by rw [← h8, upd_ne z]; exact s7 _ _ e
          have off8 : OffN p H H8 := ⟨⟨_, dx, hp⟩, fun b o e z => up68 b o (off6.2 b o e z) z⟩
          obtain ⟨dqs8, t1, t2, t3⟩ := off8.ds hds
          refine ⟨_, rfl, pd, _, rfl, .inl (.of t1), fun dl H9 s9 f9 e9 => ?_⟩
          refine ⟨_, rfl, p, _, dx, _, rfl, s9 _ _ hp8, T.cl_Machine, T.n_Machine_door_list, (by show 3 < 1000; decide), ?_⟩
          generalize h10 : upd H9 p (.ins T.C_Machine dx (putF "door_list" (.ref dl) (putF "stay_looks" (.ref slq) (putF "room_names" (.ref nq) (putF "watch_names" (.ref w1) []))))) = H10
          have up810 : ∀ b o, H8 b = some o → b ≠ p → H10 b = some o := fun b o e z => by rw [← h10, upd_ne z]; exact s9 _ _ e
          have off10 : OffN p H H10 := ⟨⟨_, dx, hp⟩, fun b o e z => up810 b o (off8.2 b o e z) z⟩
          have hp9 := s9 _ _ hp8
          have o510 : OffI p H5 H10 := ⟨⟨_, dx, _, s5 _ _ hp4⟩, fun b o e z => up810 b o (up68 b o (by rw [← h6, upd_ne z]; exact e) z) z⟩
          have o710 : OffI p H7 H10 := ⟨⟨_, dx, _, s7 _ _ hp6⟩, fun b o e z => up810 b o (by rw [← h8, upd_ne z]; exact e) z⟩
          have o910 : OffI p H9 H10 := ⟨⟨_, dx, _, hp9⟩, fun b o e z => by rw [← h10, upd_ne z]; exact e⟩
          have hp10 : H10 p = some (.ins T.C_Machine dx (machF w1 nq slq dl)) := by rw [← h10, upd_same]; rfl
          have hnq := o510.lst ((s4.trans s5) _ _ (e3.trans (by rw [List.map_map]; rfl : some (HO.lst (M.rooms.map fun r => V.str r.1)) = some (HO.lst ((M.rooms.map (·.1)).map V.str)))))
          refine q H10 off10 ⟨dx, w1, nq, slq, dl, hp10, o510.lst e5, hnq, ?_, ?_⟩ ?_
          · have e7' : SeqOf LsAt H7 slq (M.rooms.map fun r : Rq => r.2) := by
              obtain ⟨qs, a, b, c⟩ := e7
              exact ⟨qs, a, b, fun i q x h1 h2 => (c i q x h1 h2).1⟩
            exact o710.seq (fun _ _ h => o710.ls h) e7'
          · exact ⟨dqs8, o910.lst e9, t2, fun i q x h1 h2 => by
              obtain ⟨dqs', u1, u2, u3⟩ := off10.ds hds
              have : dqs' = dqs8 := by
                have e1 := off8.i.lst d1
                have e2 := off10.i.lst d1
                rw [t1] at e1; rw [u1] at e2
                have inj : ∀ xs ys : List Addr, xs.map V.ref = ys.map V.ref → xs = ys := fun xs ys h => List.map_inj_right (f := V.ref) (fun a b e => by cases e; rfl) |>.mp h
                have a1 : dqs8.map V.ref = dqs.map V.ref := by simpa using e1
                have a2 : dqs'.map V.ref = dqs.map V.ref := by simpa using e2
                exact inj _ _ (a2.trans a1.symm)
              subst this
              exact u3 i q x h1 h2⟩
          · intro U u hdU
            have lst10 : ∀ b xs, H b = some (.lst xs) → H10 b = some (.lst xs) := fun b xs e => off10.i.lst e
            have isU : ∀ b, U b → ∃ o, H b = some o := fun b h => let ⟨xs, e⟩ := u b h; ⟨_, e⟩
            have pU : ¬ U p := fun h => by
              obtain ⟨xs, e⟩ := u p h
              rw [hp] at e; cases e
            have freshU : ∀ {Hx : Hp} {b : Addr}, Same H Hx → Hx b = none → ¬ U b := fun {Hx b} s f h => by
              obtain ⟨o, e⟩ := isU b h
              rw [s _ _ e] at f; cases f
            refine ⟨dx, w1, nq, slq, dl, rem_at pU hp10, rem_at (freshU s14 f5) (o510.lst e5), rem_at (freshU s12 f3) hnq, ?_, ?_⟩
            · obtain ⟨zqs, z1, z2, z3⟩ := o710.seq (R := fun Hx q x => LsAt Hx q x ∧ H6 q = none) (fun q x h => ⟨o710.ls h.1, h.2⟩) e7
              refine ⟨zqs, rem_at (fun h => ?_) z1, z2, fun i q x h1 h2 => ?_⟩
              · obtain ⟨xs, e⟩ := u slq h
                rw [off6.i.lst e] at f7; cases f7
              · obtain ⟨y1, y2⟩ := z3 i q x h1 h2
                refine y1.rem u lst10 fun h => ?_
                obtain ⟨xs, e⟩ := u q h
                rw [off6.i.lst e] at y2; cases y2
            · refine ⟨dqs8, rem_at (fun h => ?_) (o910.lst e9), t2, fun i q x h1 h2 => ?_⟩
              · obtain ⟨xs, e⟩ := u dl h
                rw [off8.i.lst e] at f9; cases f9
              · have e8' := lst_inj t1 (off8.i.lst d1)
                subst e8'
                have dx0 := hdU q x (d3 i q x h1 h2) (List.mem_of_getElem? h2) ⟨dqs8, i, d1, h1, h2⟩
                obtain ⟨ddx, dg, dn, k1, k2, k3⟩ := dx0
                have nn := rem_of k1
                have tr : ∀ b xs, remU U H b = some (.lst xs) → remU U H10 b = some (.lst xs) := fun b xs e => rem_at (rem_of e).1 (off10.i.lst (rem_of e).2)
                have tt : ∀ b xs, remU U H b = some (.tup xs) → remU U H10 b = some (.tup xs) := fun b xs e => rem_at (rem_of e).1 (off10.i.tup (rem_of e).2)
                obtain ⟨ls1, ls2, ls3, ls4⟩ := k2
                obtain ⟨odx, og, on, oa, ob, oc⟩ := off10.door (d3 i q x h1 h2)
                have k1' : H10 q = some (.ins T.C_Door ddx (doorF x.st x.en x.sg dg dn)) := off10.2 _ _ nn.2 (fun z => by
                  rw [z, hp] at nn
                  have l := door_start (st := x.st) (en := x.en) (sg := x.sg) (g := dg) (n := dn)
                  have e : ([] : List (Str × V)) = doorF x.st x.en x.sg dg dn := by have a := nn.2; injection a with a; injection a
                  rw [← e] at l; cases l)
                exact ⟨ddx, dg, dn, rem_at nn.1 k1', ⟨ls1, tr _ _ ls2, ls3, fun i q x h1 h2 => ⟨tt _ _ (ls4 i q x h1 h2).1, (ls4 i q x h1 h2).2⟩⟩, tr _ _ k3⟩
def spMWatches (CM CD : Addr) : Sp := fun vs H Q _ => ∃ (p : Addr) (M : MachD), vs = [.ref p] ∧ MachAt CM CD H p M ∧ ∀ q H', Same H H' → H q = none → H' q = some (.lst (M.watches.map V.str)) → Q (.ref q) H'
theorem ok_Machine_watches (T : Top K mg) : FnOk P w K mg base CX0 1 T.f_Machine_watches T.d_Machine_watches ["self"] (spMWatches T.C_Machine T.C_Door) := by
  refine T.F_Machine_watches.ok sc_Machine_watches (fun vs H Q E h => ?_) (fun cdv A outer s H vs Q E hr h => ?_)
  · obtain ⟨p, M, rfl, _⟩ := h; rfl
  · obtain ⟨p, M, rfl, ⟨dx, wn, rn, sl, dl, a, b, c, d, e⟩, q⟩ := h
    refine ⟨_, (pss_one (ps_ret (pe_callTy (call_listA (K := K) rfl) (by rfl) T.m_list (by decide +kernel) (pa_cons (pe_fldA (K := K) rfl (pv 0) rfl) pa_nil)))), ?_⟩
    refine ⟨_, rfl, p, _, dx, _, _, rfl, a, T.cl_Machine, T.n_Machine_watch_names, mach_watch, ?_⟩
    walk_at "rd"
    exact ⟨_, .inl (.of b), fun l H s f e => q l H s f e⟩
def spMRooms (CM CD : Addr) : Sp := fun vs H Q _ => ∃ (p : Addr) (M : MachD), vs = [.ref p] ∧ MachAt CM CD H p M ∧ ∀ q H', Same H H' → H q = none → H' q = some (.lst ((M.rooms.map (·.1)).map V.str)) → Q (.ref q) H'
theorem ok_Machine_rooms (T : Top K mg) : FnOk P w K mg base CX0 1 T.f_Machine_rooms T.d_Machine_rooms ["self"] (spMRooms T.C_Machine T.C_Door) := by
  refine T.F_Machine_rooms.ok sc_Machine_rooms (fun vs H Q E h => ?_) (fun cdv A outer s H vs Q E hr h => ?_)
  · obtain ⟨p, M, rfl, _⟩ := h; rfl
  · obtain ⟨p, M, rfl, ⟨dx, wn, rn, sl, dl, a, b, c, d, e⟩, q⟩ := h
    refine ⟨_, (pss_one (ps_ret (pe_callTy (call_listA (K := K) rfl) (by rfl) T.m_list (by decide +kernel) (pa_cons (pe_fldA (K := K) rfl (pv 0) rfl) pa_nil)))), ?_⟩
    refine ⟨_, rfl, p, _, dx, _, _, rfl, a, T.cl_Machine, T.n_Machine_room_names, mach_room, ?_⟩
    walk_at "rd"
    exact ⟨_, .inl (.of c), fun l H s f e => q l H s f e⟩
def spMDoors (CM CD : Addr) : Sp := fun vs H Q _ => ∃ (p : Addr) (M : MachD), vs = [.ref p] ∧ MachAt CM CD H p M ∧ ∀ q H' (qs : List Addr), Same H H' → H q = none → H' q = some (.lst (qs.map V.ref)) → qs.length = M.doors.length → (∀ H0, Same H0 H → MachAt CM CD H0 p M → ∀ (i : Nat) (q : Addr) (x : DoorD), qs[i]? = some q → M.doors[i]? = some x → DoorAt CD H0 q x) → Q (.ref q) H'
theorem ok_Machine_doors (T : Top K mg) : FnOk P w K mg base CX0 1 T.f_Machine_doors T.d_Machine_doors ["self"] (spMDoors T.C_Machine T.C_Door) := by
  refine T.F_Machine_doors.ok sc_Machine_doors (fun vs H Q E h => ?_) (fun cdv A outer s H vs Q E hr h => ?_)
  · obtain ⟨p, M, rfl, _⟩ := h; rfl
  · obtain ⟨p, M, rfl, ⟨dx, wn, rn, sl, dl, a, b, c, d, ⟨qs, e1, e2, e3⟩⟩, q⟩ := h
    refine ⟨_, (pss_one (ps_ret (pe_callTy (call_listA (K := K) rfl) (by rfl) T.m_list (by decide +kernel) (pa_cons (pe_fldA (K := K) rfl (pv 0) rfl) pa_nil)))), ?_⟩
    refine ⟨_, rfl, p, _, dx, _, _, rfl, a, T.cl_Machine, T.n_Machine_door_list, mach_door, ?_⟩
    walk_at "rd"
    refine ⟨_, .inl (.of e1), fun l H' s f e => q l H' qs s f e e2 fun H0 s0 ⟨dx', wn', rn', sl', dl', a', _, _, _, ⟨qs', u1, u2, u3⟩⟩ i q x h1 h2 => ?_⟩
    have e0 := s0 _ _ a'
    rw [a] at e0
    have hf : machF wn rn sl dl = machF wn' rn' sl' dl' := by injection e0 with e0; injection e0
    obtain ⟨_, _, _, rfl⟩ := machF_inj hf
    obtain rfl := lst_inj e1 (s0 _ _ u1)
    exact u3 i q x h1 h2
theorem index_of {xs : List Str} {x : Str} (h : x ∈ xs) : ∃ j, xs.idxOf x = j ∧ (xs.map V.str)[j]? = some (.str x) ∧ ∀ (m : Nat) (z : V), m < j → (xs.map V.str)[m]? = some z → eqV z (.str x) = false := by
  refine ⟨_, rfl, ?_, fun m z hm hz => ?_⟩
  · rw [List.getElem?_map, List.getElem?_eq_getElem (List.idxOf_lt_length_of_mem h)]
    simp
  · rw [List.getElem?_map] at hz
    obtain ⟨y, h1, rfl⟩ := Option.map_eq_some_iff.mp hz
    obtain ⟨hl, h2⟩ := List.getElem?_eq_some_iff.mp h1
    have : y ≠ x := fun e => by
      have := List.not_of_lt_findIdx (p := (· == x)) (xs := xs) (i := m) hm
      rw [h2, e] at this
      simp at this
    simp [eqV, this]
def spMStay (CM CD : Addr) : Sp := fun vs H Q _ => ∃ (p : Addr) (M : MachD) (r : Rq), vs = [.ref p, .str r.1] ∧ MachAt CM CD H p M ∧ r ∈ M.rooms ∧ (M.rooms.map (·.1)).Nodup ∧ ∀ q H', Same H H' → H q = none → LsAt H' q r.2 → Q (.ref q) H'
theorem ok_Machine_stay (T : Top K mg) : FnOk P w K mg base CX0 1 T.f_Machine_stay T.d_Machine_stay ["self", "room"] (spMStay T.C_Machine T.C_Door) := by
  refine T.F_Machine_stay.ok sc_Machine_stay (fun vs H Q E h => ?_) (fun cdv A outer s H vs Q E hr h => ?_)
  · obtain ⟨p, M, r, rfl, _⟩ := h; rfl
  · obtain ⟨p, M, r, rfl, ⟨dx, wn, rn, sl, dl, a, b, c, ⟨qs, d1, d2, d3⟩, e⟩, hmem, nd, q⟩ := h
    refine ⟨_, (pss_one (ps_ret (pe_callTy (call_listA (K := K) rfl) (by rfl) T.m_list (by decide +kernel) (pa_cons (pe_ix (ix_listA (K := K) rfl) (pe_fldA (K := K) rfl (pv 0) rfl) (pe_bm PySem.F.plainAttrs_list PySem.F.slot_list_index PySem.F.type_list_index mt_index (pe_fldA (K := K) rfl (pv 0) rfl) (pa_cons (pv 1) pa_nil)) (fun _ _ => rfl)) pa_nil)))), ?_⟩
    obtain ⟨j, ej, hj, hno⟩ := index_of (List.mem_map_of_mem hmem : r.1 ∈ M.rooms.map (·.1))
    have hj2 : M.rooms[j]? = some r := by
      obtain ⟨m, hm, e2⟩ := List.mem_iff_getElem.mp hmem
      have hm2 : (M.rooms.map (·.1))[m]? = some r.1 := by rw [List.getElem?_map, List.getElem?_eq_getElem hm, e2]; rfl
      have hj3 : (M.rooms.map (·.1))[j]? = some r.1 := by
        rw [List.getElem?_map] at hj
        obtain ⟨y, h1, h2⟩ := Option.map_eq_some_iff.mp hj
        rw [h1]; exact congrArg some (by simpa using h2)
      have : m = j := (List.getElem?_inj (by simpa using hm) nd).mp (hm2.trans hj3.symm)
      rw [← this, List.getElem?_eq_getElem hm, e2]
    refine ⟨_, rfl, p, _, dx, _, _, rfl, a, T.cl_Machine, T.n_Machine_stay_looks, mach_stay, ?_⟩
    refine ⟨_, rfl, p, _, dx, _, _, rfl, a, T.cl_Machine, T.n_Machine_room_names, mach_room, .inl ⟨rfl, _, .of c⟩, ?_⟩
    walk_at "rd"
    refine ⟨rn, _, _, j, _, rfl, rfl, .of c, rfl, flat_of, hj, by simp [eqV], hno, ?_⟩
    have hjl := (List.getElem?_eq_some_iff.mp hj2).1
    rw [List.length_map] at d2
    have hq := List.getElem?_eq_getElem (l := qs) (i := j) (by omega)
    have hls := d3 j _ r.2 hq (by rw [List.getElem?_map, hj2]; rfl)
    generalize qs[j] = ql at *
    obtain ⟨rs, f1, f2, f3⟩ := hls
    refine ix_l (.of d1) (by omega) (by rw [Int.toNat_natCast, List.getElem?_map, hq]; rfl) ?_
    walk_at "rd"
    exact ⟨_, .inl (.of f1), fun l H' s' f e => q l H' s' f ⟨rs, e, f2, fun i q x h1 h2 => (f3 i q x h1 h2).keep s'⟩⟩
abbrev WORDS : List Str := ["<", "<=", ">", ">=", "="]
def spCell_at (K : PySem.W.Frag) : Sp := fun vs H Q _ => ∃ (a : Addr) (ns : List Int) (k : Int), vs = [.ref a, .int k] ∧ SqL K H a (ns.map V.int) ∧ 0 ≤ k ∧ Q (.int (ns.getD k.toNat 0)) H
theorem ok_l_cell_at (T : Top K mg) : FnOk P w K mg base CX0 1 T.f_l_cell_at T.d_l_cell_at ["_law_script", "_law_k"] (spCell_at K) := by
  refine T.F_l_cell_at.ok sc_l_cell_at (fun vs H Q E h => ?_) (fun cdv A outer s H vs Q E hr h => ?_)
  · obtain ⟨a, ns, k, rfl, _⟩ := h; rfl
  · obtain ⟨a, ns, k, rfl, hS, hk, q⟩ := h
    refine ⟨_, (pss_cons (ps_if (pt_cmpR op_lt (pv 1) (pe_callB call_len_seq (by rfl) T.m_len (by decide +kernel) (pa_cons (pv 0) pa_nil)) (nomark _)) (pss_one (ps_ret (pe_ix (ix_listA (K := K) rfl) (pv 0) (pv 1) (fun _ _ => rfl)))) pss_nil)
      (pss_one (ps_ret pe_int))), ?_⟩
    refine seq_step ?_
    walk_at "rd"
    refine ⟨_, .inl hS, ite_d (fun c => ?_) (fun c => ?_)⟩
    · rw [List.length_map] at c
      have hl : k.toNat < ns.length := by omega
      refine ⟨a, _, k, .int (ns[k.toNat]), rfl, rfl, hS, at_of (j := k.toNat) (by omega) (by rw [List.getElem?_map, List.getElem?_eq_getElem hl]; rfl), ?_⟩
      rw [List.getD_eq_getElem?_getD, List.getElem?_eq_getElem hl] at q
      exact q
    · rw [List.length_map] at c
      rw [List.getD_eq_getElem?_getD, List.getElem?_eq_none (by omega)] at q
      exact q
def spStream (K : PySem.W.Frag) : Sp := fun vs H Q _ => ∃ (c : Int) (m : Nat), vs = [.int c, .int m] ∧ m ≤ 60 ∧ ∀ (p : Addr) (H' : Hp) (xs : List Int), Same H H' → H p = none → H' p = some (.lst (xs.map V.int)) → xs.length = m → (∀ x ∈ xs, 0 ≤ x ∧ Sz 150 x) → Q (.ref p) H'
theorem ok_l_stream (T : Top K mg) : FnOk P w K mg base CX0 1 T.f_l_stream T.d_l_stream ["_law_cell", "_law_many"] (spStream K) := by
  refine T.F_l_stream.ok sc_l_stream (fun vs H Q E h => ?_) (fun cdv A outer s H vs Q E hr h => ?_)
  · obtain ⟨c, m, rfl, _⟩ := h; rfl
  · obtain ⟨c, m, rfl, hm, q⟩ := h
    refine ⟨_, (pss_cons (ps_set (i := 2) sc_l_stream.nd rfl (.inl rfl) (pe_lstN pa_nil))
      (pss_cons (ps_if (pt_cmpR op_ge (pv 0) (pe_op op_pow pe_int pe_int) (nomark _)) (pss_cons (ps_set (i := 3) sc_l_stream.nd rfl (.inl rfl) (pe_op op_sub (pv 0) (pe_op op_pow pe_int pe_int)))
      (pss_cons (ps_for PassesOwn.never rfl (pi_range1 (by rfl) T.m_range (pa_cons (pv 1) pa_nil)) (pg_name (i := 4) sc_l_stream.nd rfl (.inl rfl)) (pss_cons (ps_expr (pe_bm PySem.F.plainAttrs_list PySem.F.slot_list_append PySem.F.type_list_append mt_append (pv 2) (pa_cons (pe_op op_modN (pv 3) (pe_op op_pow pe_int pe_int)) pa_nil)))
      (pss_one (ps_set (i := 3) sc_l_stream.nd rfl (.inl rfl) (pe_op op_fdivZ (pv 3) (pe_op op_pow pe_int pe_int))))))
      (pss_one (ps_ret (pv 2))))) pss_nil)
      (pss_cons (ps_set (i := 5) sc_l_stream.nd rfl (.inl rfl) (pe_op op_add (pe_op op_modN (pv 0) (pe_op op_add (pe_op op_pow pe_int pe_int) pe_int)) pe_int))
      (pss_cons (ps_for PassesOwn.never rfl (pi_range1 (by rfl) T.m_range (pa_cons (pe_op op_add (pv 1) pe_int) pa_nil)) (pg_name (i := 4) sc_l_stream.nd rfl (.inl rfl)) (pss_cons (ps_set (i := 5) sc_l_stream.nd rfl (.inl rfl) (pe_op op_modN (pe_op op_add (pe_op op_add (pe_op op_mulW (pv 5) (pv 5)) (pe_op op_mulW pe_int (pv 5))) (pv 4)) (pe_op op_add (pe_op op_pow pe_int pe_int) pe_int)))
      (pss_one (ps_expr (pe_bm PySem.F.plainAttrs_list PySem.F.slot_list_append PySem.F.type_list_append mt_append (pv 2) (pa_cons (pv 5) pa_nil))))))
      (pss_one (ps_ret (pe_slice (sl_listA (K := K) rfl) (pv 2) (po_some pe_int) po_none))))))), ?_⟩
    refine seq_step ?_
    walk_at "rd"
    intro l H1 s1 fl e1
    refine seq_step ?_
    walk_at "rd"
    refine ite_d (fun _ => ?_) (fun _ => ?_)
    · refine seq_step ?_
      walk_at "rd"
      refine seq_step ?_
      refine for_rg ?_
      walk_at "rd"
      refine ⟨(rg_ok (by omega)).1, (rg_ok (by omega)).2, ?_⟩
      rw [Int.toNat_natCast]
      refine forR_by (fun i σ' H' => ∃ (r : Int) (v4 : Option V) (xs : List Int), σ' = [some (.int c), some (.int m), some (.ref l), some (.int r), v4, none] ∧ Same H H' ∧ H' l = some (.lst (xs.map V.int)) ∧ xs.length = i ∧ ∀ x ∈ xs, 0 ≤ x ∧ Sz 150 x) ⟨_, _, [], rfl, s1, e1, rfl, fun x h => by cases h⟩ ?_ ?_
      · rintro i σ' H2 hi ⟨r, v4, xs, rfl, s2, el, hl, hx⟩
        walk_at "rd"
        refine seq_step ?_
        refine ⟨.ref l, rfl, .inl ⟨rfl, _, .of el⟩, ?_⟩
        walk_at "rd"
        refine app_at el (by rw [List.length_map]; omega) ?_
        walk_at "rd"
        have f := fm_pos (c := r) (m := 1000000000000000000000000000000000000000000000) (by decide)
        refine ⟨same_updN fl s2, xs ++ [r.fmod 1000000000000000000000000000000000000000000000], by rw [upd_same, List.map_append]; rfl, by simp [hl], fun x hx' => ?_⟩
        rcases List.mem_append.mp hx' with h | h
        · exact hx x h
        · have : x = r.fmod 1000000000000000000000000000000000000000000000 := by simpa using h
          rw [this]
          exact ⟨f.1, Sz.nn f.1 (Int.le_of_lt f.2) (by unfold Sz; decide +kernel)⟩
      · rintro σ' H2 ⟨r, v4, xs, rfl, s2, el, hl, hx⟩
        walk_at "rd"
        exact q l H2 xs s2 fl el hl hx
    · refine seq_step ?_
      walk_at "rd"
      have f0 := fm_pos (c := c) (m := 1000000000000000009) (by decide)
      refine seq_step ?_
      refine for_rg ?_
      walk_at "rd"
      refine ⟨by omega, by omega, ?_⟩
      rw [show ((m : Int) + 2).toNat = m + 2 by omega]
      refine forR_by (fun i σ' H' => ∃ (r : Int) (v4 : Option V) (xs : List Int), σ' = [some (.int c), some (.int m), some (.ref l), none, v4, some (.int r)] ∧ 0 ≤ r ∧ Sz 62 r ∧ Same H H' ∧ H' l = some (.lst (xs.map V.int)) ∧ xs.length = i ∧ ∀ x ∈ xs, 0 ≤ x ∧ Sz 150 x) ⟨_, _, [], rfl, by omega, by unfold Sz; omega, s1, e1, rfl, fun x h => by cases h⟩ ?_ ?_
      · rintro i σ' H2 hi ⟨r, v4, xs, rfl, r0, sr, s2, el, hl, hx⟩
        walk_at "rd"
        refine seq_step ?_
        walk_at "rd"
        refine ⟨sr.mulW sr (by omega), Sz.mulW (a := 20) (by unfold Sz; decide) sr (by omega), ?_⟩
        have f := fm_pos (c := r * r + 48271 * r + i) (m := 1000000000000000009) (by decide)
        generalize (r * r + 48271 * r + i).fmod 1000000000000000009 = r2 at *
        refine ⟨.ref l, rfl, .inl ⟨rfl, _, .of el⟩, ?_⟩
        walk_at "rd"
        refine app_at el (by rw [List.length_map]; omega) ?_
        walk_at "rd"
        refine ⟨f.1, by unfold Sz; omega, same_updN fl s2, xs ++ [r2], by rw [upd_same, List.map_append]; rfl, by simp [hl], fun x hx' => ?_⟩
        rcases List.mem_append.mp hx' with h | h
        · exact hx x h
        · have : x = r2 := by simpa using h
          rw [this]
          exact ⟨f.1, by unfold Sz; omega⟩
      · rintro σ' H2 ⟨r, v4, xs, rfl, r0, sr, s2, el, hl, hx⟩
        walk_at "rd"
        refine ⟨_, .of el, fun p2 H3 s3 f3 e3 => ?_⟩
        have ec : cutV (xs.map V.int) (some 2) none = (xs.drop 2).map V.int := by
          rw [List.map_drop]
          exact cut_from (k := 2) (by rw [List.length_map]; omega)
        rw [ec] at e3
        exact q p2 H3 (xs.drop 2) (s2.trans s3) (s2.free f3) e3 (by rw [List.length_drop]; omega) fun x h => hx x (List.mem_of_mem_drop h)
theorem ok_l_names (T : Top K mg) : FnOk P w K mg base CX0 1 T.f_l_names T.d_l_names ["_law_cell", "_law_many"] spNames := by
  refine T.F_l_names.ok sc_l_names (fun vs H Q E h => ?_) (fun cdv A outer s H vs Q E hr h => ?_)
  · obtain ⟨c, m, rfl, _⟩ := h; rfl
  · obtain ⟨cell, many, rfl, hm, q⟩ := h
    refine ⟨_, (pss_cons (ps_set (i := 2) sc_l_names.nd rfl (.inr rfl) pe_str)
      (pss_cons (ps_set (i := 3) sc_l_names.nd rfl (.inl rfl) (pe_op op_add pe_int (pe_op op_modN (pv 0) pe_int)))
      (pss_cons (ps_set (i := 4) sc_l_names.nd rfl (.inl rfl) (pe_op op_modN (pe_op op_modN (pe_op op_fdivZ (pv 0) pe_int) pe_int) (pv 3)))
      (pss_cons (ps_set (i := 5) sc_l_names.nd rfl (.inl rfl) (pe_lstN pa_nil))
      (pss_cons (ps_for PassesOwn.never rfl (pi_range1 (by rfl) T.m_range (pa_cons (pv 1) pa_nil)) (pg_name (i := 6) sc_l_names.nd rfl (.inl rfl)) (pss_cons (lc_vsS (vs := [8]) (ps_setLc (i := 7) (own := [("_law_j", 8)]) (g := gName 8) (tt := tYes) rfl sc_l_names.nd rfl rfl (sw_true rfl rfl rfl (by decide +kernel)) (pi_range1 (by rfl) T.m_range (pa_cons (pv 3) pa_nil)) (blkOk_by (own := [("_law_j", 8)]) (N := ["_law_cell", "_law_many", "_law_letters", "_law_size", "_law_at", "_law_names_here", "_law_k", "_law_word", "_law_j"]) (sc := defScope s_l_names) (by decide +kernel)) (fun _ _ _ _ _ => (pg_name (i := 8) sc_l_names.nd rfl (.inl rfl))) (fun _ _ _ _ _ => pts_nil) (fun _ _ _ _ _ => (pe_ix ix_str (pv 2) (pe_op op_modN (pe_op op_fdivZ (pv 0) (pe_op op_add pe_int (pe_op op_mulW pe_int (pv 8)))) pe_int) (fun _ _ => rfl)))) rfl)
      (pss_cons (ps_asg (pe_ix ix_str (pv 2) (pe_op op_modN (pe_op op_add (pe_op op_fdivZ (pv 0) pe_int) (pv 6)) pe_int) (fun _ _ => rfl)) (pg_sub (pv 7) (pv 4) set_list))
      (pss_one (ps_expr (pe_bm PySem.F.plainAttrs_list PySem.F.slot_list_append PySem.F.type_list_append mt_append (pv 5) (pa_cons (pe_join pe_str (pv 7)) pa_nil)))))))
      (pss_one (ps_ret (pv 5)))))))), ?_⟩
    refine seq_step ?_
    walk_at "rt"
    refine seq_step ?_
    walk_at "rt"
    refine seq_step ?_
    walk_at "rt"
    have m8 := fm_pos (c := cell) (m := 8) (by decide)
    refine ⟨by omega, ?_⟩
    generalize hsz : 1 + cell.fmod 8 = szI at *
    generalize hat : Int.fmod _ szI = atv
    have at0 : 0 ≤ atv ∧ atv < szI := by rw [← hat]; exact fm_pos (by omega)
    refine seq_step ?_
    walk_at "rd"
    intro l H1 s1 f1 e1
    refine seq_step ?_
    refine for_rg ?_
    walk_at "rd"
    refine ⟨(rg_ok (by omega)).1, (rg_ok (by omega)).2, ?_⟩
    rw [Int.toNat_natCast]
    obtain ⟨sz, rfl⟩ : ∃ n : Nat, szI = (n : Int) := ⟨szI.toNat, by omega⟩
    obtain ⟨av, rfl⟩ : ∃ n : Nat, atv = (n : Int) := ⟨atv.toNat, by omega⟩
    have fr : ∀ j : Nat, 0 ≤ (cell.fdiv (6720 + 31 * (j : Int))).fmod 26 ∧ (cell.fdiv (6720 + 31 * (j : Int))).fmod 26 < 26 := fun j => fm_pos (by decide)
    have nok : NamesOk ((List.range many).map fun k : Nat => txt (nmC sz av (fun j => (cell.fdiv (6720 + 31 * (j : Int))).fmod 26) ((cell.fdiv 6720 + (k : Int)).fmod 26))) many := names_ok (by omega) (by omega) (by omega) hm fr
    generalize hF : (fun k : Nat => txt (nmC sz av (fun j => (cell.fdiv (6720 + 31 * (j : Int))).fmod 26) ((cell.fdiv 6720 + (k : Int)).fmod 26))) = F at nok
    refine forR_by (fun i σ' H' => (∃ v6 v7 v8, σ' = [some (.int cell), some (.int many), some (.str letters), some (.int sz), some (.int av), some (.ref l), v6, v7, v8]) ∧ Same H H' ∧ H' l = some (.lst (((List.range i).map F).map V.str))) ⟨⟨_, _, _, rfl⟩, s1, e1⟩ ?_ ?_
    · rintro i σ' H2 hi ⟨⟨v6, v7, v8, rfl⟩, s2, e2⟩
      walk_at "rd"
      refine seq_step ?_
      refine lcr_src ?_
      walk_at "rd"
      refine ⟨(rg_ok (by omega)).1, (rg_ok (by omega)).2, ?_⟩
      rw [Int.toNat_natCast]
      refine lcRM (F := fun j => V.str (one (lett ((cell.fdiv (6720 + 31 * (j : Int))).fmod 26)))) (by omega) (fun j H3 Yes hj s3 hy => ?_) (fun wl H3 s3 f3 e3 => ?_)
      · walk_at "rd"
        refine ⟨Sz.mulW (a := 8) (b := 8) (by show (31 : Int).natAbs < 2 ^ 8; decide) (by show (j : Int).natAbs < 2 ^ 8; omega) (by decide), .of (n := 16) (by omega) (by show (6720 + 31 * (j : Int)).natAbs < 2 ^ 16; omega) (by decide), ?_⟩
        exact ⟨letters, _, _, rfl, rfl, small1000' (by decide +kernel), lett_at (fr j), hy _ (Same.refl _)⟩
      · walk_at "rd"
        refine seq_step ?_
        walk_at "rd"
        have fg : 0 ≤ (cell.fdiv 6720 + (i : Int)).fmod 26 ∧ (cell.fdiv 6720 + (i : Int)).fmod 26 < 26 := fm_pos (by decide)
        refine ⟨letters, _, _, rfl, rfl, small1000' (by decide +kernel), lett_at fg, ?_⟩
        walk_at "rd"
        refine ⟨wl, _, _, av, rfl, rfl, e3, (by rw [List.length_map, List.length_range]; unfold ixN; rw [if_pos (by omega), if_pos (by omega)]; simp), ?_⟩
        rw [show (V.str { cps := #[lett ((cell.fdiv 6720 + (i : Int)).fmod 26)] }) = V.str (one (lett ((cell.fdiv 6720 + (i : Int)).fmod 26))) from rfl, nmC_vals]
        have lw : l ≠ wl := fun z => by rw [← z, e2] at f3; cases f3
        refine ⟨_, rfl, .inl ⟨rfl, _, .of (by rw [upd_ne lw]; exact s3 _ _ e2)⟩, ?_⟩
        walk_at "rd"
        refine ⟨⟨_, rfl⟩, _, rfl, _, rfl, wl, rfl, _, .inl (.of upd_same), ?_, ?_⟩
        · rw [sum_one, nmC_len, List.length_map, nmC_len]
          have : (Str.ofString "").length = 0 := by decide +kernel
          rw [this]; omega
        · rw [join_one]
          walk_at "rd"
          refine app_at (by rw [upd_ne lw]; exact s3 _ _ e2) (by rw [List.length_map, List.length_map, List.length_range]; omega) ?_
          walk_at "rd"
          refine ⟨⟨_, rfl⟩, same_updN f1 (same_updN (s2.free f3) (s2.trans s3)), ?_⟩
          rw [upd_same, List.range_succ, List.map_append, List.map_append]
          subst hF
          rfl
    · rintro σ' H2 ⟨⟨v6, v7, v8, rfl⟩, s2, e2⟩
      walk_at "rd"
      exact q l H2 _ s2 f1 e2 nok
/-! ### what is new between two heaps -/
open Classical in
noncomputable def newH (H H' : Hp) : Hp := fun b => if H b = none then H' b else none
theorem new_at {H H' : Hp} {b : Addr} {o : HO} (f : H b = none) (e : H' b = some o) : newH H H' b = some o := by unfold newH; rw [if_pos f]; exact e
theorem new_of {H H' : Hp} {b : Addr} {o : HO} (e : newH H H' b = some o) : H b = none ∧ H' b = some o := by
  unfold newH at e
  by_cases h : H b = none
  · rw [if_pos h] at e; exact ⟨h, e⟩
  · rw [if_neg h] at e; cases e
theorem new_sub {H H' : Hp} : Same (newH H H') H' := fun b o e => (new_of e).2
theorem new_mono {H1 H H' H2 : Hp} (s1 : Same H1 H) (s2 : Same H' H2) : Same (newH H H') (newH H1 H2) := fun b o e => by
  have := new_of e
  exact new_at (s1.free this.1) (s2 _ _ this.2)
theorem new_later {H H' H2 : Hp} (s2 : Same H' H2) : Same (newH H H') (newH H H2) := new_mono (Same.refl _) s2
theorem new_del {H H' : Hp} {D : Addr} {o : HO} (e : H D = some o) : Same (newH H H') (delH D H') := fun b o' h => by
  have := new_of h
  exact del_at (fun z => by rw [z, e] at this; cases this.1) this.2
theorem new_upd {H H' : Hp} {g : Addr} {o : HO} (f : H g = none) : newH H (upd H' g o) = upd (newH H H') g o := by
  funext b
  by_cases h : b = g
  · rw [h, upd_same]; exact new_at f upd_same
  · rw [upd_ne h]
    unfold newH
    rw [upd_ne h]
theorem new_refl {H : Hp} {b : Addr} : newH H H b = none := by
  unfold newH
  by_cases h : H b = none
  · rw [if_pos h, h]
  · rw [if_neg h]
/-! ### the law's own machines, as they are drawn -/
structure LDoor where
  b : Nat
  e : Nat
  gd : List Lq
  ns : List Str
  sg : Str
def LDoorAt (H : Hp) (q : Addr) (d : LDoor) : Prop := ∃ g n, H q = some (.tup [.int d.b, .int d.e, .ref g, .ref n, .str d.sg]) ∧ LsAt H g d.gd ∧ H n = some (.lst (d.ns.map V.str))
theorem LDoorAt.keep {H H' : Hp} {q : Addr} {d : LDoor} (s : Same H H') (h : LDoorAt H q d) : LDoorAt H' q d := by
  obtain ⟨g, n, a, b, c⟩ := h
  exact ⟨g, n, s _ _ a, b.keep s, s _ _ c⟩
structure Spec where
  watches : List Str
  rooms : List Rq
  doors : List LDoor
def SpecAt (H : Hp) (q : Addr) (S : Spec) : Prop := ∃ w r d, H q = some (.tup [.ref w, .ref r, .ref d]) ∧ H w = some (.lst (S.watches.map V.str)) ∧ RsAt H r S.rooms ∧ SeqOf LDoorAt H d S.doors
theorem SpecAt.keep {H H' : Hp} {q : Addr} {S : Spec} (s : Same H H') (h : SpecAt H q S) : SpecAt H' q S := by
  obtain ⟨w, r, d, a, b, c, e⟩ := h
  exact ⟨w, r, d, s _ _ a, s _ _ b, c.keep s, SeqOf.keep (fun _ _ => LDoorAt.keep s) s e⟩
def NumsOk (ls : List Lq) : Prop := ∀ l ∈ ls, ∃ n : Int, l.2.2 = .int n ∧ 0 ≤ n ∧ Sz 210 n
structure SpecOk (S : Spec) : Prop where
  w : NamesOk S.watches S.watches.length
  w2 : S.watches.length ≤ 2
  r : NamesOk (S.rooms.map (·.1)) S.rooms.length
  r1 : 1 ≤ S.rooms.length
  r4 : S.rooms.length ≤ 4
  st : ∀ r ∈ S.rooms, guardOk ["<", "<="] S.watches r.2 = true ∧ r.2.length ≤ 2 ∧ NumsOk r.2
  d6 : S.doors.length ≤ 6
  d : ∀ d ∈ S.doors, d.b < S.rooms.length ∧ d.e < S.rooms.length ∧ guardOk WORDS S.watches d.gd = true ∧ d.gd.length ≤ 2 ∧ NumsOk d.gd ∧ d.ns.Nodup ∧ (∀ x ∈ d.ns, x ∈ S.watches) ∧ (d.sg = "" ∨ d.sg = "go!")
def Spec.name (S : Spec) (i : Nat) : Str := (S.rooms.map (·.1)).getD i ""
def Spec.door (S : Spec) (d : LDoor) : DoorD := ⟨S.name d.b, S.name d.e, d.sg, d.gd, d.ns⟩
def Spec.mach (S : Spec) : MachD := ⟨S.watches, S.rooms, S.doors.map S.door⟩
theorem okName_okT {x : Str} (h : okName x = true) : okT x (letters ++ ("/" : Str)) 60 = true := by
  unfold okName okT at h
  rw [Bool.and_eq_true, Bool.and_eq_true, List.all_eq_true] at h
  unfold okT
  rw [Bool.and_eq_true, Bool.and_eq_true, List.all_eq_true]
  refine ⟨⟨h.1.1, decide_eq_true (by have := of_decide_eq_true h.1.2; omega)⟩, fun c hc => decide_eq_true ?_⟩
  have := of_decide_eq_true (h.2 c hc)
  rw [show (letters ++ ("/" : Str)).cps.toList = letters.cps.toList ++ ("/" : Str).cps.toList by decide +kernel]
  exact List.mem_append_left _ this
theorem name_at {S : Spec} {i : Nat} (h : i < S.rooms.length) : ∃ r : Rq, S.rooms[i]? = some r ∧ S.name i = r.1 := by
  refine ⟨S.rooms[i], List.getElem?_eq_getElem h, ?_⟩
  unfold Spec.name
  rw [List.getD_eq_getElem?_getD, List.getElem?_map, List.getElem?_eq_getElem h]; rfl
theorem name_mem {S : Spec} {i : Nat} (h : i < S.rooms.length) : S.name i ∈ S.rooms.map (·.1) := by
  obtain ⟨r, h1, h2⟩ := name_at h
  rw [h2]; exact List.mem_map_of_mem (List.mem_of_getElem? h1)
theorem SpecOk.mach {S : Spec} (h : SpecOk S) : MachOk S.mach where
  w7 := by show S.watches.length ≤ 7; have := h.w2; omega
  wok := List.all_eq_true.mpr fun x hx => by
    have := h.w.2.1 x hx
    unfold okWatch; rw [this, Bool.or_true]
  wnd := h.w.2.2.1
  rok := List.all_eq_true.mpr fun r hr => by
    have h1 := okName_okT (h.r.2.1 r.1 (List.mem_map_of_mem hr))
    have h2 := (h.st r hr).1
    unfold roomOk
    rw [h1]
    exact h2
  rnd := h.r.2.2.1
  rne := fun z => by
    have h1 := h.r1
    have z : S.rooms = [] := z
    rw [z] at h1; simp at h1
  r64 := by show S.rooms.length ≤ 64; have := h.r4; omega
  dok := List.all_eq_true.mpr fun d hd => by
    obtain ⟨d', hd', rfl⟩ := List.mem_map.mp hd
    obtain ⟨a, b, c, _, _, e, f, g⟩ := h.d d' hd'
    unfold doorOk
    have s1 : okSign (S.door d').sg = true := by
      show okSign d'.sg = true
      rcases g with g | g <;> rw [g] <;> decide +kernel
    have s2 : (S.door d').backs.all (fun b => decide (b ∈ S.mach.watches)) = true := List.all_eq_true.mpr fun x hx => decide_eq_true (f x hx)
    rw [s1, s2, decide_eq_true (show (S.door d').st ∈ S.mach.rooms.map (·.1) from name_mem a), decide_eq_true (show (S.door d').en ∈ S.mach.rooms.map (·.1) from name_mem b), decide_eq_true (show (S.door d').backs.Nodup from e)]
    have s3 : guardOk ["<", "<=", ">", ">=", "="] S.mach.watches (S.door d').looks = true := c
    rw [s3]; rfl
  d200 := by show (S.doors.map S.door).length ≤ 200; rw [List.length_map]; have := h.d6; omega
  rsz := fun r hr => by have := (h.st r hr).2.1; omega
  dsz := fun d hd => by
    obtain ⟨d', hd', rfl⟩ := List.mem_map.mp hd
    have := (h.d d' hd').2.2.2.1
    show d'.gd.length ≤ 60
    omega
abbrev lqKeep : ∀ (H H' : Hp) (q : Addr) (x : Lq), Same H H' → LqAt H q x → LqAt H' q x := fun _ _ _ _ s h => LqAt.keep s h
theorem pick_word {ws : List Str} {i : Int} (h : 0 ≤ i ∧ i < (ws.length : Int)) : ∃ x, (ws.map V.str)[i.toNat]? = some (.str x) ∧ x ∈ ws := by
  have h1 : i.toNat < ws.length := by omega
  exact ⟨ws[i.toNat], by rw [List.getElem?_map, List.getElem?_eq_getElem h1]; rfl, List.getElem_mem h1⟩
theorem RqAt.keep' : ∀ (H H' : Hp) (q : Addr) (x : Rq), Same H H' → RqAt H q x → RqAt H' q x := fun _ _ _ _ s h => RqAt.keep s h
def spLNumber : Sp := fun vs H Q _ => ∃ (x unit : Int), vs = [.int x, .int unit] ∧ 0 ≤ unit ∧ Sz 180 unit ∧ ∀ (n : Int) (H' : Hp), Same H H' → 0 ≤ n → Sz 200 n → Q (.int n) H'
theorem ok_l_number (T : Top K mg) : FnOk P w K mg base CX0 1 T.f_l_number T.d_l_number ["_law_x", "_law_unit"] spLNumber := by
  refine T.F_l_number.ok sc_l_number (fun vs H Q E h => ?_) (fun cdv A outer s H vs Q E hr h => ?_)
  · obtain ⟨x, unit, rfl, _⟩ := h; rfl
  · obtain ⟨x, unit, rfl, hu, su, q⟩ := h
    refine ⟨_, (pss_one (ps_ret (pe_op op_add (pe_op op_mulW (pv 1) (pe_op op_modN (pv 0) pe_int)) (pe_ix (ix_listA (K := K) rfl) (pe_lstN (pa_cons pe_int (pa_cons pe_int (pa_cons pe_int (pa_cons (pe_op op_add pe_int (pe_op op_modN (pe_op op_fdivZ (pv 0) pe_int) pe_int)) pa_nil))))) (pe_op op_modN (pe_op op_fdivZ (pv 0) pe_int) pe_int) (fun _ _ => rfl))))), ?_⟩
    have m7 := fm_pos (c := x) (m := 7) (by decide)
    have m4 := fm_pos (c := x.fdiv 7) (m := 4) (by decide)
    have m3 := fm_pos (c := x.fdiv 28) (m := 3) (by decide)
    have s7 : Sz 8 (x.fmod 7) := by show (x.fmod 7).natAbs < 2 ^ 8; omega
    have sm : Sz 190 (unit * x.fmod 7) := Sz.mul su s7 (by decide)
    have n0 : 0 ≤ unit * x.fmod 7 := Int.mul_nonneg hu m7.1
    walk_at "rd"
    refine ⟨Sz.mulW su s7 (by decide), fun l H1 s1 f1 e1 => ?_⟩
    generalize x.fmod 7 = r7 at *
    generalize (x.fdiv 7).fmod 4 = r4 at *
    generalize (x.fdiv 28).fmod 3 = r3 at *
    have key : ∃ z : Int, [V.int 0, V.int 0, V.int 0, V.int (1 + r3)][r4.toNat]? = some (.int z) ∧ 0 ≤ z ∧ z ≤ 3 := by
      obtain rfl | rfl | rfl | rfl : r4 = 0 ∨ r4 = 1 ∨ r4 = 2 ∨ r4 = 3 := by omega
      · exact ⟨_, rfl, by omega, by omega⟩
      · exact ⟨_, rfl, by omega, by omega⟩
      · exact ⟨_, rfl, by omega, by omega⟩
      · exact ⟨_, rfl, by omega, by omega⟩
    obtain ⟨z, hz, z0, z3⟩ := key
    refine ix_l (.of e1) m4.1 hz ?_
    walk_at "rd"
    exact q _ _ s1 (by omega) (Sz.add sm (show Sz 8 z by show z.natAbs < 2 ^ 8; omega) (by decide) (by decide))
def spLGuard (ws : List Str) (most : Nat) : Sp := fun vs H Q _ => ∃ (px pw : Addr) (xs : List Int) (unit : Int) (watches : List Str), vs = [.ref px, .int unit, .ref pw] ∧ H px = some (.lst (xs.map V.int)) ∧ 5 ≤ xs.length ∧ xs.length ≤ 60 ∧ H pw = some (.lst (watches.map V.str)) ∧ NamesOk watches watches.length ∧ watches.length ≤ 7 ∧ 0 ≤ unit ∧ Sz 180 unit ∧
  ∀ (q : Addr) (H' : Hp) (ls : List Lq), Same H H' → H q = none → LsAt (newH H H') q ls → ls.length ≤ most → guardOk ws watches ls = true → NumsOk ls → Q (.ref q) H'
theorem ok_l_guard (T : Top K mg) : FnOk P w K mg base CX0 2 T.f_l_guard T.d_l_guard ["_law_xs", "_law_unit", "_law_watches"] (spLGuard WORDS 2) := by
  refine T.F_l_guard.ok sc_l_guard (fun vs H Q E h => ?_) (fun cdv A outer s H vs Q E hr h => ?_)
  · obtain ⟨px, pw, xs, unit, watches, rfl, _⟩ := h; rfl
  · obtain ⟨px, pw, xs, unit, watches, rfl, hx, x5, x60, hw, wok, w7, u0, su, q⟩ := h
    refine ⟨_, (pss_cons (ps_set (i := 3) sc_l_guard.nd rfl (.inl rfl) (pe_lstN pa_nil))
      (pss_cons (ps_for PassesOwn.never rfl (pi_range1 (by rfl) T.m_range (pa_cons (pe_ix (ix_listA (K := K) rfl) (pe_lstN (pa_cons pe_int (pa_cons pe_int (pa_cons pe_int (pa_cons pe_int pa_nil))))) (pe_op op_modN (pe_ix (ix_listA (K := K) rfl) (pv 0) pe_int (fun _ _ => rfl)) pe_int) (fun _ _ => rfl)) pa_nil)) (pg_name (i := 4) sc_l_guard.nd rfl (.inl rfl)) (pss_one (ps_if (pt_cmpR (op_neD hr.units) (pv 2) (pe_lstN pa_nil) (nomark _)) (pss_cons (ps_set (i := 5) sc_l_guard.nd rfl (.inl rfl) (pe_ix (ix_listA (K := K) rfl) (pe_lstN (pa_cons pe_str (pa_cons pe_str (pa_cons pe_str (pa_cons pe_str (pa_cons pe_str (pa_cons pe_str pa_nil))))))) (pe_op op_modN (pe_op op_fdivZ (pe_ix (ix_listA (K := K) rfl) (pv 0) (pe_op op_add pe_int (pe_op op_mulW pe_int (pv 4))) (fun _ _ => rfl)) pe_int) pe_int) (fun _ _ => rfl)))
      (pss_one (ps_expr (pe_bm PySem.F.plainAttrs_list PySem.F.slot_list_append PySem.F.type_list_append mt_append (pv 3) (pa_cons (pe_tupN (pa_cons (pe_ix (ix_listA (K := K) rfl) (pv 2) (pe_op op_modN (pe_ix (ix_listA (K := K) rfl) (pv 0) (pe_op op_add pe_int (pe_op op_mulW pe_int (pv 4))) (fun _ _ => rfl)) (pe_callB call_len_seq (by rfl) T.m_len (by decide +kernel) (pa_cons (pv 2) pa_nil))) (fun _ _ => rfl)) (pa_cons (pv 5) (pa_cons (pe_call (ok_l_number T) (hr.mono (by decide)) rfl T.g_l_number T.F_l_number.kp T.b_l_number .nil pass0 (pa_cons (pe_ix (ix_listA (K := K) rfl) (pv 0) (pe_op op_add pe_int (pe_op op_mulW pe_int (pv 4))) (fun _ _ => rfl)) (pa_cons (pv 1) pa_nil))) pa_nil)))) pa_nil))))) pss_nil)))
      (pss_one (ps_ret (pv 3))))), ?_⟩
    have xat : ∀ i : Nat, i < 5 → ∃ v : Int, (xs.map V.int)[i]? = some (.int v) := fun i h => ⟨xs[i], by rw [List.getElem?_map, List.getElem?_eq_getElem (by omega)]; rfl⟩
    refine seq_step ?_
    walk_at "rd"
    intro g H1 s1 f1 e1
    refine seq_step ?_
    refine for_rg ?_
    walk_at "rd"
    intro l H2 s2 f2 e2
    obtain ⟨x0, h0⟩ := xat 0 (by omega)
    refine ix_l (.of ((s1.trans s2) _ _ hx)) (by decide) h0 ?_
    walk_at "rd"
    have m4 := fm_pos (c := x0) (m := 4) (by decide)
    generalize x0.fmod 4 = r4 at *
    obtain ⟨n, hn, n2⟩ : ∃ n : Nat, [V.int 0, V.int 1, V.int 1, V.int 2][r4.toNat]? = some (.int (n : Int)) ∧ n ≤ 2 := by
      obtain rfl | rfl | rfl | rfl : r4 = 0 ∨ r4 = 1 ∨ r4 = 2 ∨ r4 = 3 := by omega
      · exact ⟨0, rfl, by omega⟩
      · exact ⟨1, rfl, by omega⟩
      · exact ⟨1, rfl, by omega⟩
      · exact ⟨2, rfl, by omega⟩
    refine ix_l (.of e2) m4.1 hn ?_
    walk_at "rd"
    refine ⟨(rg_ok (by omega)).1, (rg_ok (by omega)).2, ?_⟩
    rw [Int.toNat_natCast]
    have s12 := s1.trans s2
    refine forR_by (fun i σ' H' => (∃ v4 v5, σ' = [some (.ref px), some (.int unit), some (.ref pw), some (.ref g), v4, v5]) ∧ Same H H' ∧ ∃ ls, SeqD LqAt (newH H H') g ls ∧ ls.length ≤ i ∧ guardOk WORDS watches ls = true ∧ NumsOk ls) ⟨⟨_, _, rfl⟩, s12, [], SeqD.nil (new_at f1 (s2 _ _ e1)), by simp, rfl, fun l h => by cases h⟩ ?_ ?_
    · rintro i σ' H' hi ⟨⟨v4, v5, rfl⟩, s', ls, sd, ll, gk, nk⟩
      walk_at "rd"
      intro l3 H3 s3 f3 e3
      have sh := s'.trans s3
      refine ⟨_, _, names_dp (sh _ _ hw), .lst (.of e3) .nil, shaped_xs fun x h => okName_tx (wok.2.1 x h), rfl, ?_⟩
      by_cases we : watches = []
      · subst we
        walk_at "rd"
        exact ⟨⟨_, rfl⟩, sh, ls, sd.keep lqKeep (new_later s3), by omega, gk, nk⟩
      · have ne : PyData.eqv (.list (watches.map PyData.str)) (.list []) = false := by
          cases watches with
          | nil => exact absurd rfl we
          | cons r rs => rfl
        rw [ne]
        walk_at "rd"
        have wl : 0 < watches.length := List.length_pos_iff.mpr we
        have cm : CMulW 2 (i : Int) := Sz.mulW (a := 8) (b := 8) (by show (2 : Int).natAbs < 2 ^ 8; decide) (by show (i : Int).natAbs < 2 ^ 8; omega) (by decide)
        obtain ⟨v1, hv1⟩ := xat (1 + 2 * i) (by omega)
        obtain ⟨v2, hv2⟩ := xat (2 + 2 * i) (by omega)
        refine seq_step ?_
        walk_at "rd"
        intro l4 H4 s4 f4 e4
        have sh4 := sh.trans s4
        refine ⟨cm, ?_⟩
        refine ix_l (.of (sh4 _ _ hx)) (by omega) (by rw [show (1 + 2 * (i : Int)).toNat = 1 + 2 * i by omega]; exact hv1) ?_
        walk_at "rd"
        have m6 := fm_pos (c := v1.fdiv 8) (m := 6) (by decide)
        obtain ⟨wd, hwd, hwm⟩ := pick_word (ws := ["<", "<=", ">", ">=", ">=", "="]) (i := (v1.fdiv 8).fmod 6) m6
        have hwm : wd ∈ WORDS := (by decide +kernel : ∀ x ∈ (["<", "<=", ">", ">=", ">=", "="] : List Str), x ∈ WORDS) wd hwm
        refine ix_l (.of e4) m6.1 hwd ?_
        walk_at "rd"
        have sd4 := sd.keep lqKeep (new_later (H := H) (s3.trans s4))
        obtain ⟨gqs, gq1, _⟩ := id sd4
        refine ⟨_, rfl, .inl ⟨rfl, _, .of (new_of gq1).2⟩, ?_⟩
        walk_at "rd"
        refine ⟨cm, ?_⟩
        refine ix_l (.of (sh4 _ _ hx)) (by omega) (by rw [show (1 + 2 * (i : Int)).toNat = 1 + 2 * i by omega]; exact hv1) ?_
        walk_at "rd"
        refine ⟨_, .inl (.of (sh4 _ _ hw)), ?_⟩
        rw [List.length_map]
        refine ⟨by omega, ?_⟩
        have mw := fm_pos (c := v1) (m := (watches.length : Int)) (by omega)
        obtain ⟨wn, hwn, hwnm⟩ := pick_word (ws := watches) mw
        refine ix_l (.of (sh4 _ _ hw)) mw.1 hwn ?_
        walk_at "rd"
        refine ⟨cm, ?_⟩
        refine ix_l (.of (sh4 _ _ hx)) (by omega) (by rw [show (2 + 2 * (i : Int)).toNat = 2 + 2 * i by omega]; exact hv2) ?_
        walk_at "rd"
        refine ⟨_, _, rfl, u0, su, fun n H5 s5 n0 sn => ?_⟩
        walk_at "rd"
        intro tq H6 s6 f6 e6
        have s46 := s5.trans s6
        have sh6 := sh4.trans s46
        have sd6 := sd4.keep lqKeep (new_later (H := H) s46)
        have tg : tq ≠ g := fun z => by
          rw [z, s5 _ _ (new_of gq1).2] at f6; cases f6
        obtain ⟨items, it1, it2, it3⟩ := sd6.app lqKeep (x := (wn, wd, V.int n)) ⟨del_at tg (new_at ((sh4.trans s5).free f6) e6), rfl⟩
        refine app_at (new_of it1).2 (by omega) ?_
        walk_at "rd"
        rw [← new_upd f1] at it3
        refine ⟨⟨_, rfl⟩, same_updN f1 sh6, _, it3, by rw [List.length_append, List.length_singleton]; omega, ?_, ?_⟩
        · show (ls ++ [(wn, wd, V.int n)]).all (lookOk WORDS watches) = true
          rw [List.all_append, show ls.all (lookOk WORDS watches) = true from gk]
          simp only [List.all_cons, List.all_nil, Bool.and_true, Bool.true_and]
          unfold lookOk numOk
          simp only [decide_eq_true hwnm, decide_eq_true hwm, decide_eq_true n0, Bool.and_true]
        · intro l hl
          rcases List.mem_append.mp hl with h | h
          · exact nk l h
          · have : l = (wn, wd, V.int n) := by simpa using h
            subst this
            exact ⟨n, rfl, n0, sn.mono (by decide)⟩
    · rintro σ' H' ⟨⟨v4, v5, rfl⟩, s', ls, sd, ll, gk, nk⟩
      walk_at "rd"
      exact q g H' ls s' f1 (sd.seq lqKeep) (by omega) gk nk
theorem ok_l_stay (T : Top K mg) : FnOk P w K mg base CX0 2 T.f_l_stay T.d_l_stay ["_law_xs", "_law_unit", "_law_watches"] (spLGuard ["<", "<="] 2) := by
  refine T.F_l_stay.ok sc_l_stay (fun vs H Q E h => ?_) (fun cdv A outer s H vs Q E hr h => ?_)
  · obtain ⟨px, pw, xs, unit, watches, rfl, _⟩ := h; rfl
  · obtain ⟨px, pw, xs, unit, watches, rfl, hx, x5, x60, hw, wok, w7, u0, su, q⟩ := h
    refine ⟨_, (pss_cons (ps_set (i := 3) sc_l_stay.nd rfl (.inl rfl) (pe_lstN pa_nil))
      (pss_cons (ps_for PassesOwn.never rfl (pi_range1 (by rfl) T.m_range (pa_cons (pe_ix (ix_listA (K := K) rfl) (pe_lstN (pa_cons pe_int (pa_cons pe_int (pa_cons pe_int (pa_cons pe_int pa_nil))))) (pe_op op_modN (pe_ix (ix_listA (K := K) rfl) (pv 0) pe_int (fun _ _ => rfl)) pe_int) (fun _ _ => rfl)) pa_nil)) (pg_name (i := 4) sc_l_stay.nd rfl (.inl rfl)) (pss_one (ps_if (pt_cmpR (op_neD hr.units) (pv 2) (pe_lstN pa_nil) (nomark _)) (pss_cons (ps_set (i := 5) sc_l_stay.nd rfl (.inl rfl) (pe_op op_add (pe_call (ok_l_number T) (hr.mono (by decide)) rfl T.g_l_number T.F_l_number.kp T.b_l_number .nil pass0 (pa_cons (pe_ix (ix_listA (K := K) rfl) (pv 0) (pe_op op_add pe_int (pe_op op_mulW pe_int (pv 4))) (fun _ _ => rfl)) (pa_cons (pv 1) pa_nil))) (pe_op op_mulW (pv 1) (pe_op op_sub pe_int (pe_op op_fdivZ (pe_op op_modN (pe_op op_fdivZ (pe_ix (ix_listA (K := K) rfl) (pv 0) pe_int (fun _ _ => rfl)) pe_int) pe_int) pe_int)))))
      (pss_one (ps_expr (pe_bm PySem.F.plainAttrs_list PySem.F.slot_list_append PySem.F.type_list_append mt_append (pv 3) (pa_cons (pe_tupN (pa_cons (pe_ix (ix_listA (K := K) rfl) (pv 2) (pe_op op_modN (pe_ix (ix_listA (K := K) rfl) (pv 0) (pe_op op_add pe_int (pe_op op_mulW pe_int (pv 4))) (fun _ _ => rfl)) (pe_callB call_len_seq (by rfl) T.m_len (by decide +kernel) (pa_cons (pv 2) pa_nil))) (fun _ _ => rfl)) (pa_cons (pe_ix (ix_listA (K := K) rfl) (pe_lstN (pa_cons pe_str (pa_cons pe_str pa_nil))) (pe_op op_modN (pe_op op_fdivZ (pe_ix (ix_listA (K := K) rfl) (pv 0) (pe_op op_add pe_int (pe_op op_mulW pe_int (pv 4))) (fun _ _ => rfl)) pe_int) pe_int) (fun _ _ => rfl)) (pa_cons (pv 5) pa_nil)))) pa_nil))))) pss_nil)))
      (pss_one (ps_ret (pv 3))))), ?_⟩
    have xat : ∀ i : Nat, i < 5 → ∃ v : Int, (xs.map V.int)[i]? = some (.int v) := fun i h => ⟨xs[i], by rw [List.getElem?_map, List.getElem?_eq_getElem (by omega)]; rfl⟩
    refine seq_step ?_
    walk_at "rd"
    intro g H1 s1 f1 e1
    refine seq_step ?_
    refine for_rg ?_
    walk_at "rd"
    intro l H2 s2 f2 e2
    obtain ⟨x0, h0⟩ := xat 0 (by omega)
    refine ix_l (.of ((s1.trans s2) _ _ hx)) (by decide) h0 ?_
    walk_at "rd"
    have m4 := fm_pos (c := x0) (m := 4) (by decide)
    generalize x0.fmod 4 = r4 at *
    obtain ⟨n, hn, n2⟩ : ∃ n : Nat, [V.int 0, V.int 0, V.int 1, V.int 2][r4.toNat]? = some (.int (n : Int)) ∧ n ≤ 2 := by
      obtain rfl | rfl | rfl | rfl : r4 = 0 ∨ r4 = 1 ∨ r4 = 2 ∨ r4 = 3 := by omega
      · exact ⟨0, rfl, by omega⟩
      · exact ⟨0, rfl, by omega⟩
      · exact ⟨1, rfl, by omega⟩
      · exact ⟨2, rfl, by omega⟩
    refine ix_l (.of e2) m4.1 hn ?_
    walk_at "rd"
    refine ⟨(rg_ok (by omega)).1, (rg_ok (by omega)).2, ?_⟩
    rw [Int.toNat_natCast]
    have s12 := s1.trans s2
    refine forR_by (fun i σ' H' => (∃ v4 v5, σ' = [some (.ref px), some (.int unit), some (.ref pw), some (.ref g), v4, v5]) ∧ Same H H' ∧ ∃ ls, SeqD LqAt (newH H H') g ls ∧ ls.length ≤ i ∧ guardOk ["<", "<="] watches ls = true ∧ NumsOk ls) ⟨⟨_, _, rfl⟩, s12, [], SeqD.nil (new_at f1 (s2 _ _ e1)), by simp, rfl, fun l h => by cases h⟩ ?_ ?_
    · rintro i σ' H' hi ⟨⟨v4, v5, rfl⟩, s', ls, sd, ll, gk, nk⟩
      walk_at "rd"
      intro l3 H3 s3 f3 e3
      have sh := s'.trans s3
      refine ⟨_, _, names_dp (sh _ _ hw), .lst (.of e3) .nil, shaped_xs fun x h => okName_tx (wok.2.1 x h), rfl, ?_⟩
      by_cases we : watches = []
      · subst we
        walk_at "rd"
        exact ⟨⟨_, rfl⟩, sh, ls, sd.keep lqKeep (new_later s3), by omega, gk, nk⟩
      · have ne : PyData.eqv (.list (watches.map PyData.str)) (.list []) = false := by
          cases watches with
          | nil => exact absurd rfl we
          | cons r rs => rfl
        rw [ne]
        walk_at "rd"
        have wl : 0 < watches.length := List.length_pos_iff.mpr we
        have cm : CMulW 2 (i : Int) := Sz.mulW (a := 8) (b := 8) (by show (2 : Int).natAbs < 2 ^ 8; decide) (by show (i : Int).natAbs < 2 ^ 8; omega) (by decide)
        obtain ⟨v1, hv1⟩ := xat (1 + 2 * i) (by omega)
        obtain ⟨v2, hv2⟩ := xat (2 + 2 * i) (by omega)
        refine seq_step ?_
        walk_at "rd"
        refine ⟨cm, ?_⟩
        refine ix_l (.of (sh _ _ hx)) (by omega) (by rw [show (2 + 2 * (i : Int)).toNat = 2 + 2 * i by omega]; exact hv2) ?_
        walk_at "rd"
        refine ⟨_, _, rfl, u0, su, fun n1 H4 s4 n10 sn1 => ?_⟩
        walk_at "rd"
        have sh4 := sh.trans s4
        refine ix_l (.of (sh4 _ _ hx)) (by decide) h0 ?_
        walk_at "rd"
        have m16 := fm_pos (c := x0.fdiv 4) (m := 16) (by decide)
        have d15 : 0 ≤ ((x0.fdiv 4).fmod 16).fdiv 15 ∧ ((x0.fdiv 4).fmod 16).fdiv 15 ≤ 1 := by
          rw [Int.fdiv_eq_ediv_of_nonneg _ (by decide)]
          omega
        have sn0 : Sz 190 (unit * (1 - ((x0.fdiv 4).fmod 16).fdiv 15)) := Sz.mul su (show Sz 4 _ by show (1 - ((x0.fdiv 4).fmod 16).fdiv 15).natAbs < 2 ^ 4; omega) (by decide)
        have nn0 : 0 ≤ unit * (1 - ((x0.fdiv 4).fmod 16).fdiv 15) := Int.mul_nonneg u0 (by omega)
        refine ⟨Sz.mulW su (show Sz 4 _ by show (1 - ((x0.fdiv 4).fmod 16).fdiv 15).natAbs < 2 ^ 4; omega) (by decide), ?_⟩
        generalize hn : n1 + unit * (1 - ((x0.fdiv 4).fmod 16).fdiv 15) = n at *
        have n0 : 0 ≤ n := by omega
        have sn : Sz 205 n := by rw [← hn]; exact Sz.add sn1 sn0 (by decide) (by decide)
        have sd4 := sd.keep lqKeep (new_later (H := H) (s3.trans s4))
        obtain ⟨gqs, gq1, _⟩ := id sd4
        refine ⟨_, rfl, .inl ⟨rfl, _, .of (new_of gq1).2⟩, ?_⟩
        walk_at "rd"
        refine ⟨cm, ?_⟩
        refine ix_l (.of (sh4 _ _ hx)) (by omega) (by rw [show (1 + 2 * (i : Int)).toNat = 1 + 2 * i by omega]; exact hv1) ?_
        walk_at "rd"
        refine ⟨_, .inl (.of (sh4 _ _ hw)), ?_⟩
        rw [List.length_map]
        refine ⟨by omega, ?_⟩
        have mw := fm_pos (c := v1) (m := (watches.length : Int)) (by omega)
        obtain ⟨wn, hwn, hwnm⟩ := pick_word (ws := watches) mw
        refine ix_l (.of (sh4 _ _ hw)) mw.1 hwn ?_
        walk_at "rd"
        intro l4 H5 s5 f5 e5
        have sh5 := sh4.trans s5
        refine ⟨cm, ?_⟩
        refine ix_l (.of (sh5 _ _ hx)) (by omega) (by rw [show (1 + 2 * (i : Int)).toNat = 1 + 2 * i by omega]; exact hv1) ?_
        walk_at "rd"
        have m2 := fm_pos (c := v1.fdiv 8) (m := 2) (by decide)
        obtain ⟨wd, hwd, hwdm⟩ := pick_word (ws := ["<", "<="]) (i := (v1.fdiv 8).fmod 2) m2
        refine ix_l (.of e5) m2.1 hwd ?_
        walk_at "rd"
        intro tq H6 s6 f6 e6
        have s46 := s5.trans s6
        have sh6 := sh4.trans s46
        have sd6 := sd4.keep lqKeep (new_later (H := H) s46)
        have tg : tq ≠ g := fun z => by
          rw [z, s5 _ _ (new_of gq1).2] at f6; cases f6
        obtain ⟨items, it1, it2, it3⟩ := sd6.app lqKeep (x := (wn, wd, V.int n)) ⟨del_at tg (new_at ((sh4.trans s5).free f6) e6), rfl⟩
        refine app_at (new_of it1).2 (by omega) ?_
        walk_at "rd"
        rw [← new_upd f1] at it3
        refine ⟨⟨_, rfl⟩, same_updN f1 sh6, _, it3, by rw [List.length_append, List.length_singleton]; omega, ?_, ?_⟩
        · show (ls ++ [(wn, wd, V.int n)]).all (lookOk ["<", "<="] watches) = true
          rw [List.all_append, show ls.all (lookOk ["<", "<="] watches) = true from gk]
          simp only [List.all_cons, List.all_nil, Bool.and_true, Bool.true_and]
          unfold lookOk numOk
          simp only [decide_eq_true hwnm, decide_eq_true hwdm, decide_eq_true n0, Bool.and_true]
        · intro l hl
          rcases List.mem_append.mp hl with h | h
          · exact nk l h
          · have : l = (wn, wd, V.int n) := by simpa using h
            subst this
            exact ⟨n, rfl, n0, sn.mono (by decide)⟩
    · rintro σ' H' ⟨⟨v4, v5, rfl⟩, s', ls, sd, ll, gk, nk⟩
      walk_at "rd"
      exact q g H' ls s' f1 (sd.seq lqKeep) (by omega) gk nk
theorem cut_nat {xs : List V} {a b : Nat} (h : a ≤ b) (hb : b ≤ xs.length) : cutV xs (some (a : Int)) (some (b : Int)) = (xs.drop a).take (b - a) := by
  unfold cutV
  rw [HT.sIx_nat, HT.sIx_nat, Nat.min_eq_left hb, Nat.min_eq_left (Nat.le_trans h hb)]
theorem fm_nodup {ws : List Str} (h : ws.Nodup) {n : Nat} {F : Nat → Option Str} (hF : ∀ k x, F k = some x → ws[k]? = some x) : ((List.range n).filterMap F).Nodup ∧ ∀ x ∈ (List.range n).filterMap F, x ∈ ws := by
  constructor
  · unfold List.Nodup
    rw [List.pairwise_filterMap]
    refine List.Pairwise.imp_of_mem (fun {a b} _ _ hne x hx y hy he => hne ?_) List.nodup_range
    have h1 := hF a x hx
    have h2 := hF b y hy
    rw [← he] at h2
    exact (List.getElem?_inj (List.getElem?_eq_some_iff.mp h1).1 h).mp (h1.trans h2.symm)
  · intro x hx
    obtain ⟨k, _, hk⟩ := List.mem_filterMap.mp hx
    exact List.mem_of_getElem? (hF k x hk)
def LDoorOk (watches : List Str) (many : Nat) (d : LDoor) : Prop := d.b < many ∧ d.e < many ∧ guardOk WORDS watches d.gd = true ∧ d.gd.length ≤ 2 ∧ NumsOk d.gd ∧ d.ns.Nodup ∧ (∀ x ∈ d.ns, x ∈ watches) ∧ (d.sg = "" ∨ d.sg = "go!")
def spLDoor : Sp := fun vs H Q _ => ∃ (cell unit : Int) (pw : Addr) (watches : List Str) (many : Nat), vs = [.int cell, .int unit, .ref pw, .int many] ∧ H pw = some (.lst (watches.map V.str)) ∧ NamesOk watches watches.length ∧ watches.length ≤ 7 ∧ 0 ≤ unit ∧ Sz 180 unit ∧ 1 ≤ many ∧
  ∀ (q : Addr) (H' : Hp) (d : LDoor), Same H H' → H q = none → LDoorAt (newH H H') q d → LDoorOk watches many d → Q (.ref q) H'
theorem ok_l_door (T : Top K mg) : FnOk P w K mg base CX0 3 T.f_l_door T.d_l_door ["_law_cell", "_law_unit", "_law_watches", "_law_many"] spLDoor := by
  refine T.F_l_door.ok sc_l_door (fun vs H Q E h => ?_) (fun cdv A outer s H vs Q E hr h => ?_)
  · obtain ⟨cell, unit, pw, watches, many, rfl, _⟩ := h; rfl
  · obtain ⟨cell, unit, pw, watches, many, rfl, hw, wok, w7, u0, su, hm1, q⟩ := h
    refine ⟨_, (pss_cons (ps_set (i := 4) sc_l_door.nd rfl (.inr rfl) (pe_call (ok_l_stream T) (hr.mono (by decide)) rfl T.g_l_stream T.F_l_stream.kp T.b_l_stream .nil pass0 (pa_cons (pv 0) (pa_cons pe_int pa_nil))))
      (pss_cons (lc_vsS (vs := [7]) (ps_setLc (i := 5) (own := [("_law_k", 7)]) (g := gName 7) rfl sc_l_door.nd rfl rfl (sw_true rfl rfl rfl (by decide +kernel)) (pi_range1 (by rfl) T.m_range (pa_cons (pe_callB call_len_seq (by rfl) T.m_len (by decide +kernel) (pa_cons (pv 2) pa_nil)) pa_nil)) (blkOk_by (own := [("_law_k", 7)]) (N := ["_law_cell", "_law_unit", "_law_watches", "_law_many", "_law_xs", "_law_noughts", "_law_sign", "_law_k"]) (sc := defScope s_l_door) (by decide +kernel)) (fun _ _ _ _ _ => (pg_name (i := 7) sc_l_door.nd rfl (.inl rfl))) (fun _ _ _ _ _ => pts_one (pt_cmpR op_eq (pe_op op_modN (pe_op op_fdivZ (pe_op op_fdivZ (pe_ix (ix_listA (K := K) rfl) (pv 4) pe_int (fun _ _ => rfl)) (pe_op op_pow pe_int pe_int)) (pe_op op_add (pv 7) pe_int)) pe_int) pe_int (nomark _))) (fun _ _ _ _ _ => (pe_ix (ix_listA (K := K) rfl) (pv 2) (pv 7) (fun _ _ => rfl)))) rfl)
      (pss_cons (ps_set (i := 6) sc_l_door.nd rfl (.inl rfl) (pe_ix (ix_listA (K := K) rfl) (pe_lstN (pa_cons pe_str (pa_cons pe_str (pa_cons pe_str (pa_cons pe_str pa_nil))))) (pe_op op_mulW (pe_op op_fdivZ (pe_op op_modN (pe_ix (ix_listA (K := K) rfl) (pv 4) pe_int (fun _ _ => rfl)) pe_int) pe_int) (pe_op op_modN (pe_op op_fdivZ (pe_ix (ix_listA (K := K) rfl) (pv 4) pe_int (fun _ _ => rfl)) pe_int) pe_int)) (fun _ _ => rfl)))
      (pss_one (ps_ret (pe_tupN (pa_cons (pe_op op_modN (pe_ix (ix_listA (K := K) rfl) (pv 4) pe_int (fun _ _ => rfl)) (pv 3)) (pa_cons (pe_op op_modN (pe_ix (ix_listA (K := K) rfl) (pv 4) pe_int (fun _ _ => rfl)) (pv 3)) (pa_cons (pe_call (ok_l_guard T) (hr.mono (by decide)) rfl T.g_l_guard T.F_l_guard.kp T.b_l_guard .nil pass0 (pa_cons (pe_slice (sl_listA (K := K) rfl) (pv 4) (po_some pe_int) (po_some pe_int)) (pa_cons (pv 1) (pa_cons (pv 2) pa_nil)))) (pa_cons (pv 5) (pa_cons (pv 6) pa_nil))))))))))), ?_⟩
    refine seq_step ?_
    walk_at "rd"
    refine ⟨cell, 9, rfl, by decide, fun px H1 xs s1 f1 e1 xl xok => ?_⟩
    have xat : ∀ i : Nat, i < 9 → ∃ v : Int, (xs.map V.int)[i]? = some (.int v) := fun i h => ⟨xs[i], by rw [List.getElem?_map, List.getElem?_eq_getElem (by omega)]; rfl⟩
    obtain ⟨x0, h0⟩ := xat 0 (by omega)
    obtain ⟨x1, h1⟩ := xat 1 (by omega)
    obtain ⟨x7, h7⟩ := xat 7 (by omega)
    obtain ⟨x8, h8⟩ := xat 8 (by omega)
    walk_at "rd"
    refine seq_step ?_
    refine lcr_src ?_
    walk_at "rd"
    refine ⟨_, .inl (.of (s1 _ _ hw)), ?_⟩
    rw [List.length_map]
    refine ⟨(rg_ok (by omega)).1, (rg_ok (by omega)).2, ?_⟩
    rw [Int.toNat_natCast]
    generalize hF : (fun k : Nat => if ((x7.fdiv 16).fdiv ((k : Int) + 1)).fmod 2 = 1 then watches[k]? else none) = F
    have fn := fm_nodup wok.2.2.1 (n := watches.length) (F := F) (fun k x h => by
      subst hF
      simp only at h
      split at h
      · exact h
      · cases h)
    refine lcR (F := fun k => (F k).map V.str) (by omega) (fun j H2 Yes No hj s2 hy hno => ?_) (fun nl H2 s2 f2 e2 => ?_)
    · have s12 := s1.trans s2
      walk_at "rd"
      refine ix_l (.of (s2 _ _ e1)) (by decide) h7 ?_
      walk_at "rd"
      refine ⟨.of (n := 8) (by omega) (by show ((j : Int) + 1).natAbs < 2 ^ 8; omega) (by decide), ?_⟩
      have hwj : watches[j]? = some watches[j] := List.getElem?_eq_getElem hj
      refine ite_d (fun c => ?_) (fun c => ?_)
      · refine ix_l (.of (s12 _ _ hw)) (by omega) (by rw [Int.toNat_natCast, List.getElem?_map, hwj]; rfl) (hy _ _ (Same.refl _) ?_)
        subst hF
        simp only
        rw [if_pos c, hwj]; rfl
      · refine hno _ (Same.refl _) ?_
        subst hF
        simp only
        rw [if_neg c]; rfl
    · have e2' : H2 nl = some (.lst (((List.range watches.length).filterMap F).map V.str)) := by rw [e2, List.map_filterMap]
      generalize (List.range watches.length).filterMap F = ns at fn e2'
      walk_at "rd"
      refine seq_step ?_
      walk_at "rd"
      intro sl H3 s3 f3 e3
      have s13 : Same H1 H3 := s2.trans s3
      refine ix_l (.of (s13 _ _ e1)) (by decide) h8 ?_
      walk_at "rd"
      refine ix_l (.of (s13 _ _ e1)) (by decide) h8 ?_
      walk_at "rd"
      have a1 : (x8.fmod 16).fdiv 12 = 0 ∨ (x8.fmod 16).fdiv 12 = 1 := by
        have := fm_pos (c := x8) (m := 16) (by decide)
        rw [Int.fdiv_eq_ediv_of_nonneg _ (by decide)]
        omega
      have a2 := fm_pos (c := x8.fdiv 16) (m := 4) (by decide)
      generalize (x8.fmod 16).fdiv 12 = r1 at *
      generalize (x8.fdiv 16).fmod 4 = r2 at *
      have a3 : 0 ≤ r1 * r2 ∧ r1 * r2 < 4 := by rcases a1 with rfl | rfl <;> omega
      refine ⟨Sz.mulW (a := 4) (b := 4) (by show r1.natAbs < 2 ^ 4; omega) (by show r2.natAbs < 2 ^ 4; omega) (by decide), ?_⟩
      generalize r1 * r2 = r at *
      obtain ⟨sg, hsg, sgm⟩ := pick_word (ws := ["", "", "", "go!"]) (i := r) a3
      have sgo : sg = "" ∨ sg = "go!" := by simpa using sgm
      refine ix_l (.of e3) a3.1 hsg ?_
      walk_at "rd"
      refine ix_l (.of (s13 _ _ e1)) (by decide) h0 ?_
      walk_at "rd"
      refine ⟨by omega, ?_⟩
      refine ix_l (.of (s13 _ _ e1)) (by decide) h1 ?_
      walk_at "rd"
      refine ⟨by omega, ?_⟩
      refine ⟨_, .of (s13 _ _ e1), fun gx H4 s4 f4 e4 => ?_⟩
      have s04 := (s1.trans s13).trans s4
      have ec : H4 gx = some (.lst (((xs.drop 2).take 5).map V.int)) := by
        rw [e4, show (some (2 : Int)) = some ((2 : Nat) : Int) from rfl, show (some (7 : Int)) = some ((7 : Nat) : Int) from rfl, cut_nat (by decide) (by rw [List.length_map]; omega), List.map_take, List.map_drop]
      have m0 := fm_pos (c := x0) (m := (many : Int)) (by omega)
      have m1 := fm_pos (c := x1) (m := (many : Int)) (by omega)
      obtain ⟨bn, hb⟩ : ∃ n : Nat, x0.fmod many = (n : Int) := ⟨(x0.fmod many).toNat, by omega⟩
      obtain ⟨en, he⟩ : ∃ n : Nat, x1.fmod many = (n : Int) := ⟨(x1.fmod many).toNat, by omega⟩
      rw [hb, he]
      rw [hb] at m0
      rw [he] at m1
      refine ⟨gx, pw, (xs.drop 2).take 5, unit, watches, rfl, ec, by simp; omega, by simp; omega, s04 _ _ hw, wok, w7, u0, su, fun g H5 ls s5 f5 e5 l2 gk nk => ?_⟩
      walk_at "rd"
      intro t H6 s6 f6 e6
      have s46 := s5.trans s6
      refine q t H6 ⟨bn, en, ls, ns, sg⟩ (s04.trans s46) ((s04.trans s5).free f6) ⟨g, nl, new_at ((s04.trans s5).free f6) e6, e5.keep (new_mono s04 s6), new_at (s1.free f2) (((s3.trans s4).trans s46) _ _ e2')⟩ ⟨by show bn < many; omega, by show en < many; omega, gk, l2, nk, fn.1, fn.2, sgo⟩
theorem cut_ints {cs : List Int} {a b : Nat} (h : a ≤ b) : ∃ ds : List Int, cutV (cs.map V.int) (some (a : Int)) (some (b : Int)) = ds.map V.int ∧ ds.length ≤ b - a := by
  refine ⟨(cs.drop (min a cs.length)).take (min b cs.length - min a cs.length), ?_, ?_⟩
  · unfold cutV
    rw [HT.sIx_nat, HT.sIx_nat, List.length_map, List.map_take, List.map_drop]
  · rw [List.length_take]; omega
theorem LDoorAt.keep' : ∀ (H H' : Hp) (q : Addr) (x : LDoor), Same H H' → LDoorAt H q x → LDoorAt H' q x := fun _ _ _ _ s h => LDoorAt.keep s h
def spLMachine (K : PySem.W.Frag) : Sp := fun vs H Q _ => ∃ (ps : Addr) (cs : List Int), vs = [.ref ps] ∧ SqL K H ps (cs.map V.int) ∧ cs.length ≤ 63 ∧ ∀ (q : Addr) (H' : Hp) (S : Spec), Same H H' → SpecAt H' q S → SpecOk S → Q (.ref q) H'
theorem ok_l_machine (T : Top K mg) : FnOk P w K mg base CX0 4 T.f_l_machine T.d_l_machine ["_law_script"] (spLMachine K) := by
  refine T.F_l_machine.ok sc_l_machine (fun vs H Q E h => ?_) (fun cdv A outer s H vs Q E hr h => ?_)
  · obtain ⟨ps, cs, rfl, _⟩ := h; rfl
  · obtain ⟨ps, cs, rfl, hc, c63, q⟩ := h
    refine ⟨_, (pss_cons (ps_set (i := 1) sc_l_machine.nd rfl (.inl rfl) (pe_call (ok_l_cell_at T) (hr.mono (by decide)) rfl T.g_l_cell_at T.F_l_cell_at.kp T.b_l_cell_at .nil pass0 (pa_cons (pv 0) (pa_cons pe_int pa_nil))))
      (pss_cons (ps_set (i := 2) sc_l_machine.nd rfl (.inl rfl) (pe_call (ok_l_cell_at T) (hr.mono (by decide)) rfl T.g_l_cell_at T.F_l_cell_at.kp T.b_l_cell_at .nil pass0 (pa_cons (pv 0) (pa_cons pe_int pa_nil))))
      (pss_cons (ps_set (i := 3) sc_l_machine.nd rfl (.inr rfl) (pe_op op_add pe_int (pe_op op_modN (pe_op op_fdivZ (pv 1) pe_int) (pe_ix (ix_listA (K := K) rfl) (pe_lstN (pa_cons pe_int (pa_cons pe_int (pa_cons (pe_op op_pow pe_int pe_int) (pa_cons (pe_op op_pow pe_int pe_int) pa_nil))))) (pe_op op_modN (pv 1) pe_int) (fun _ _ => rfl)))))
      (pss_cons (ps_set (i := 4) sc_l_machine.nd rfl (.inr rfl) (pe_call (ok_l_names T) (hr.mono (by decide)) rfl T.g_l_names T.F_l_names.kp T.b_l_names .nil pass0 (pa_cons (pe_op op_fdivZ (pv 1) pe_int) (pa_cons (pe_ix (ix_listA (K := K) rfl) (pe_lstN (pa_cons pe_int (pa_cons pe_int (pa_cons pe_int (pa_cons pe_int (pa_cons pe_int (pa_cons pe_int pa_nil))))))) (pe_op op_modN (pv 2) pe_int) (fun _ _ => rfl)) pa_nil))))
      (pss_cons (ps_set (i := 5) sc_l_machine.nd rfl (.inr rfl) (pe_call (ok_l_names T) (hr.mono (by decide)) rfl T.g_l_names T.F_l_names.kp T.b_l_names .nil pass0 (pa_cons (pe_op op_fdivZ (pv 2) pe_int) (pa_cons (pe_op op_add pe_int (pe_op op_modN (pe_op op_fdivZ (pv 2) pe_int) pe_int)) pa_nil))))
      (pss_cons (ps_set (i := 6) sc_l_machine.nd rfl (.inl rfl) (pe_lstN pa_nil))
      (pss_cons (ps_for PassesOwn.never rfl (pi_range1 (by rfl) T.m_range (pa_cons (pe_callB call_len_seq (by rfl) T.m_len (by decide +kernel) (pa_cons (pv 5) pa_nil)) pa_nil)) (pg_name (i := 7) sc_l_machine.nd rfl (.inl rfl)) (pss_cons (ps_set (i := 8) sc_l_machine.nd rfl (.inl rfl) (pe_call (ok_l_stream T) (hr.mono (by decide)) rfl T.g_l_stream T.F_l_stream.kp T.b_l_stream .nil pass0 (pa_cons (pe_op op_add (pe_call (ok_l_cell_at T) (hr.mono (by decide)) rfl T.g_l_cell_at T.F_l_cell_at.kp T.b_l_cell_at .nil pass0 (pa_cons (pv 0) (pa_cons (pe_op op_add pe_int (pv 7)) pa_nil))) (pv 7)) (pa_cons pe_int pa_nil))))
      (pss_one (ps_expr (pe_bm PySem.F.plainAttrs_list PySem.F.slot_list_append PySem.F.type_list_append mt_append (pv 6) (pa_cons (pe_tupN (pa_cons (pe_ix (ix_listA (K := K) rfl) (pv 5) (pv 7) (fun _ _ => rfl)) (pa_cons (pe_call (ok_l_stay T) (hr.mono (by decide)) rfl T.g_l_stay T.F_l_stay.kp T.b_l_stay .nil pass0 (pa_cons (pv 8) (pa_cons (pv 3) (pa_cons (pv 4) pa_nil)))) pa_nil))) pa_nil))))))
      (pss_cons (lc_vsS (vs := [10]) (ps_setLc (i := 9) (own := [("_law_cell", 10)]) (g := gName 10) (tt := tYes) rfl sc_l_machine.nd rfl rfl (sw_true rfl rfl rfl (by decide +kernel)) (pi_listA (K := K) rfl (pe_slice (sl_listA (K := K) rfl) (pv 0) (po_some pe_int) (po_some pe_int))) (blkOk_by (own := [("_law_cell", 10)]) (N := ["_law_script", "_law_first", "_law_second", "_law_unit", "_law_watches", "_law_names_here", "_law_rooms", "_law_k", "_law_xs", "_law_doors", "_law_cell"]) (sc := defScope s_l_machine) (by decide +kernel)) (fun _ _ _ _ _ => (pg_name (i := 10) sc_l_machine.nd rfl (.inl rfl))) (fun _ _ _ _ _ => pts_nil) (fun _ _ _ _ _ => (pe_call (ok_l_door T) (hr.mono (by decide)) rfl T.g_l_door T.F_l_door.kp T.b_l_door .nil pass0 (pa_cons (pv 10) (pa_cons (pv 3) (pa_cons (pv 4) (pa_cons (pe_callB (call_len_seqA (K := K) rfl) (by rfl) T.m_len (by decide +kernel) (pa_cons (pv 5) pa_nil)) pa_nil))))))) rfl)
      (pss_one (ps_ret (pe_tupN (pa_cons (pv 4) (pa_cons (pv 6) (pa_cons (pv 9) pa_nil)))))))))))))), ?_⟩
    refine seq_step ?_
    walk_at "rd"
    refine ⟨ps, cs, 0, rfl, hc, by decide, ?_⟩
    generalize cs.getD (0 : Int).toNat 0 = first
    walk_at "rd"
    refine seq_step ?_
    walk_at "rd"
    refine ⟨ps, cs, 1, rfl, hc, by decide, ?_⟩
    generalize cs.getD (1 : Int).toNat 0 = second
    walk_at "rd"
    refine seq_step ?_
    walk_at "rd"
    intro ul H1 s1 f1 e1
    have m4 := fm_pos (c := first) (m := 4) (by decide)
    obtain ⟨z, hz, z1, zs⟩ : ∃ z : Int, [V.int 1, V.int 3, V.int (10 ^ 15), V.int (10 ^ 40)][(first.fmod 4).toNat]? = some (.int z) ∧ 1 ≤ z ∧ z ≤ 10 ^ 40 := by
      generalize first.fmod 4 = r4 at *
      obtain rfl | rfl | rfl | rfl : r4 = 0 ∨ r4 = 1 ∨ r4 = 2 ∨ r4 = 3 := by omega
      · exact ⟨_, rfl, by decide, by decide⟩
      · exact ⟨_, rfl, by decide, by decide⟩
      · exact ⟨_, rfl, by decide, by decide⟩
      · exact ⟨_, rfl, by decide, by decide⟩
    refine ix_l (.of e1) m4.1 hz ?_
    walk_at "rd"
    refine ⟨by omega, ?_⟩
    have mz := fm_pos (c := first.fdiv 4) (m := z) (by omega)
    generalize hun : 1 + (first.fdiv 4).fmod z = unit
    have u0 : 0 ≤ unit := by omega
    have su : Sz 180 unit := Sz.nn (j := 10 ^ 40) u0 (by omega) (by show (10 ^ 40 : Int).natAbs < 2 ^ 180; decide +kernel)
    refine seq_step ?_
    walk_at "rd"
    intro wl H2 s2 f2 e2
    have m6 := fm_pos (c := second) (m := 6) (by decide)
    obtain ⟨wn, hwn, wn2⟩ : ∃ n : Nat, [V.int 0, V.int 1, V.int 1, V.int 2, V.int 2, V.int 2][(second.fmod 6).toNat]? = some (.int (n : Int)) ∧ n ≤ 2 := by
      generalize second.fmod 6 = r6 at *
      obtain rfl | rfl | rfl | rfl | rfl | rfl : r6 = 0 ∨ r6 = 1 ∨ r6 = 2 ∨ r6 = 3 ∨ r6 = 4 ∨ r6 = 5 := by omega
      · exact ⟨0, rfl, by decide⟩
      · exact ⟨1, rfl, by decide⟩
      · exact ⟨1, rfl, by decide⟩
      · exact ⟨2, rfl, by decide⟩
      · exact ⟨2, rfl, by decide⟩
      · exact ⟨2, rfl, by decide⟩
    refine ix_l (.of e2) m6.1 hwn ?_
    walk_at "rd"
    refine ⟨_, wn, rfl, by omega, fun pw H3 ws s3 f3 e3 wok => ?_⟩
    have s13 := (s1.trans s2).trans s3
    walk_at "rd"
    refine seq_step ?_
    walk_at "rd"
    have m24 := fm_pos (c := second.fdiv 6) (m := 4) (by decide)
    obtain ⟨rn, hrn⟩ : ∃ n : Nat, 1 + (second.fdiv 6).fmod 4 = (n : Int) := ⟨(1 + (second.fdiv 6).fmod 4).toNat, by omega⟩
    rw [hrn]
    refine ⟨_, rn, rfl, by omega, fun pn H4 ns s4 f4 e4 nok => ?_⟩
    have s14 := s13.trans s4
    walk_at "rd"
    refine seq_step ?_
    walk_at "rd"
    intro rl H5 s5 f5 e5
    have s15 := s14.trans s5
    have w2 : ws.length ≤ 2 := by rw [wok.1]; exact wn2
    have wok : NamesOk ws ws.length := ⟨rfl, wok.2⟩
    have nl : ns.length = rn := nok.1
    refine seq_step ?_
    refine for_rg ?_
    walk_at "rd"
    refine ⟨_, .inl (.of (s5 _ _ e4)), ?_⟩
    rw [List.length_map, Int.toNat_natCast]
    refine ⟨(rg_ok (by omega)).1, (rg_ok (by omega)).2, ?_⟩
    refine forR_by (fun i σ' H' => (∃ v7 v8, σ' = [some (.ref ps), some (.int first), some (.int second), some (.int unit), some (.ref pw), some (.ref pn), some (.ref rl), v7, v8, none, none]) ∧ Same H4 H' ∧ ∃ rs : List Rq, SeqD RqAt (newH H H') rl rs ∧ rs.map (·.1) = ns.take i ∧ ∀ r ∈ rs, guardOk ["<", "<="] ws r.2 = true ∧ r.2.length ≤ 2 ∧ NumsOk r.2) ⟨⟨_, _, rfl⟩, s5, [], SeqD.nil (new_at (s14.free f5) e5), rfl, fun r h => by cases h⟩ ?_ ?_
    · rintro i σ' H' hi ⟨⟨v7, v8, rfl⟩, s', rs, sd, hnm, hok⟩
      have s0' := s14.trans s'
      walk_at "rd"
      refine seq_step ?_
      walk_at "rd"
      refine ⟨ps, cs, 2 + (i : Int), rfl, s0'.seq hc, by omega, ?_⟩
      generalize cs.getD (2 + (i : Int)).toNat 0 = cell
      walk_at "rd"
      refine ⟨_, 5, rfl, by decide, fun px H6 xs s6 f6 e6 xl xok => ?_⟩
      walk_at "rd"
      obtain ⟨gqs, gq1, _⟩ := id sd
      have s06 := s0'.trans s6
      refine ⟨_, rfl, .inl ⟨rfl, _, .of (s6 _ _ (new_of gq1).2)⟩, ?_⟩
      walk_at "rd"
      have hni := List.getElem?_eq_getElem (l := ns) (i := i) hi
      generalize hnm2 : ns[i] = nm at *
      refine ix_l (.of ((s'.trans s6) _ _ e4)) (by omega) (by rw [Int.toNat_natCast, List.getElem?_map, hni]; rfl) ?_
      walk_at "rd"
      refine ⟨px, pw, xs, unit, ws, rfl, e6, by omega, by omega, ((s4.trans s').trans s6) _ _ e3, wok, by omega, u0, su, fun g H7 ls s7 f7 e7 l2 gk nk => ?_⟩
      walk_at "rd"
      intro t H8 s8 f8 e8
      have s68 := s7.trans s8
      have sd8 := sd.keep RqAt.keep' (new_later (H := H) (s6.trans s68))
      have tr : t ≠ rl := fun y => by rw [y, (s6.trans s7) _ _ (new_of gq1).2] at f8; cases f8
      have lg : LsAt (newH H H8) g ls := e7.keep (new_mono s06 s8)
      have gr : g ≠ rl := fun y => by rw [y, s6 _ _ (new_of gq1).2] at f7; cases f7
      obtain ⟨dqs, dq1, _⟩ := id sd8
      obtain ⟨items, it1, it2, it3⟩ := sd8.app RqAt.keep' (q := t) (x := (nm, ls)) ⟨g, del_at tr (new_at ((s06.trans s7).free f8) e8), lg.del gr dq1⟩
      have ll : rs.length = i := by
        have := congrArg List.length hnm
        rw [List.length_map, List.length_take] at this
        omega
      refine app_at (new_of it1).2 (by omega) ?_
      walk_at "rd"
      have frl : H rl = none := s14.free f5
      rw [← new_upd frl] at it3
      refine ⟨⟨_, rfl⟩, same_updN f5 ((s'.trans s6).trans s68), _, it3, ?_, ?_⟩
      · rw [List.map_append, hnm, List.take_add_one, hni]; rfl
      · intro r hr
        rcases List.mem_append.mp hr with h | h
        · exact hok r h
        · have : r = (nm, ls) := by simpa using h
          subst this
          exact ⟨gk, l2, nk⟩
    · rintro σ' H' ⟨⟨v7, v8, rfl⟩, s', rs, sd, hnm, hok⟩
      rw [List.take_length] at hnm
      have s0' := s14.trans s'
      walk_at "rd"
      refine seq_step ?_
      refine lcg_src ?_
      walk_at "rd"
      refine ⟨_, s0'.seq hc, fun cl H6 s6 f6 e6 => ?_⟩
      obtain ⟨ds, hds, dl6⟩ := cut_ints (cs := cs) (a := 6) (b := 12) (by decide)
      have e6' : H6 cl = some (.lst (ds.map V.int)) := by rw [← hds]; exact e6
      refine ⟨⟨_, .of e6'⟩, ?_⟩
      refine lcMP (R := LDoorAt) (P := fun (_ : Int) d => LDoorOk ws ns.length d) LDoorAt.keep' (zs := ds) e6' (by simp) (by simp; omega) (fun i x z H7 Yes hx hz s7 hy => ?_) (fun dq H7 dd s7 f7 e7 dl dp => ?_)
      · rw [List.getElem?_map, hz] at hx
        obtain rfl : x = .int z := by simpa using hx.symm
        have s47 := (s'.trans s6).trans s7
        walk_at "rd"
        refine ⟨_, .inl (.of (s47 _ _ e4)), ?_⟩
        rw [List.length_map]
        refine ⟨z, unit, pw, ws, ns.length, rfl, (s4.trans s47) _ _ e3, wok, by omega, u0, su, by omega, fun q H8 d s8 f8 e8 ok8 => ?_⟩
        exact hy q H8 d s8 ok8 fun D acc fD eD => e8.keep (new_del eD)
      · walk_at "rd"
        intro t H8 s8 f8 e8
        have s48 := ((s'.trans s6).trans s7).trans s8
        have rq : RsAt H' rl rs := (sd.keep RqAt.keep' new_sub |>.seq RqAt.keep')
        have lr : rs.length = ns.length := by rw [← hnm, List.length_map]
        refine q t H8 ⟨ws, rs, dd⟩ (s14.trans s48) ⟨pw, rl, dq, e8, (s4.trans s48) _ _ e3, rq.keep ((s6.trans s7).trans s8), (e7.seq LDoorAt.keep').keep (fun _ _ => LDoorAt.keep s8) s8⟩ ⟨wok, w2, ?_, by show 1 ≤ rs.length; omega, by show rs.length ≤ 4; omega, hok, by show dd.length ≤ 6; omega, fun d hd => ?_⟩
        · show NamesOk (rs.map (·.1)) rs.length
          rw [hnm, lr]
          exact ⟨rfl, nok.2⟩
        · obtain ⟨i, hi, e⟩ := List.mem_iff_getElem.mp hd
          have hi : i < dd.length := hi
          have hy := List.getElem?_eq_getElem hi
          have hz := List.getElem?_eq_getElem (l := ds) (i := i) (by omega)
          have := dp i _ _ hz hy
          rw [e] at this
          show LDoorOk ws rs.length d
          rw [lr]; exact this
abbrev doorKeep {C : Addr} : ∀ (H H' : Hp) (q : Addr) (x : DoorD), Same H H' → DoorAt C H q x → DoorAt C H' q x := fun _ _ _ _ s h => DoorAt.keep s h
/-- what a made machine wants of its spec -/
structure MadeOk (S : Spec) : Prop where
  r4 : S.rooms.length ≤ 4
  d6 : S.doors.length ≤ 6
  d : ∀ d ∈ S.doors, d.b < S.rooms.length ∧ d.e < S.rooms.length
  mach : MachOk S.mach
theorem SpecOk.made {S : Spec} (h : SpecOk S) : MadeOk S := ⟨h.r4, h.d6, fun d hd => ⟨(h.d d hd).1, (h.d d hd).2.1⟩, h.mach⟩
def spLMade (CM CD : Addr) : Sp := fun vs H Q _ => ∃ (ps : Addr) (S : Spec), vs = [.ref ps] ∧ SpecAt H ps S ∧ MadeOk S ∧ ∀ (q : Addr) (H' : Hp), Same H H' → MachAt CM CD H' q S.mach → Q (.ref q) H'
theorem ok_l_made (T : Top K mg) : FnOk P w K mg base CX0 8 T.f_l_made T.d_l_made ["_law_spec"] (spLMade T.C_Machine T.C_Door) := by
  refine T.F_l_made.ok sc_l_made (fun vs H Q E h => ?_) (fun cdv A outer s H vs Q E hr h => ?_)
  · obtain ⟨ps, S, rfl, _⟩ := h; rfl
  · obtain ⟨ps, S, rfl, hs, ok, q⟩ := h
    refine ⟨_, (pss_cons (ps_asg (pv 0) (pg_tupA (K := K) (n := 3) rfl (by rfl) (pgs_cons (pg_name (i := 1) sc_l_made.nd rfl (.inl rfl)) (pgs_cons (pg_name (i := 2) sc_l_made.nd rfl (.inl rfl)) (pgs_cons (pg_name (i := 3) sc_l_made.nd rfl (.inl rfl)) pgs_nil)))))
      (pss_cons (ps_set (i := 4) sc_l_made.nd rfl (.inl rfl) (pe_lstN pa_nil))
      (pss_cons (ps_for PassesOwn.never rfl (pi_listA (K := K) rfl (pv 3)) (pg_tupA (K := K) (n := 5) rfl (by rfl) (pgs_cons (pg_name (i := 5) sc_l_made.nd rfl (.inl rfl)) (pgs_cons (pg_name (i := 6) sc_l_made.nd rfl (.inl rfl)) (pgs_cons (pg_name (i := 7) sc_l_made.nd rfl (.inl rfl)) (pgs_cons (pg_name (i := 8) sc_l_made.nd rfl (.inl rfl)) (pgs_cons (pg_name (i := 9) sc_l_made.nd rfl (.inl rfl)) pgs_nil)))))) (pss_one (ps_expr (pe_bm PySem.F.plainAttrs_list PySem.F.slot_list_append PySem.F.type_list_append mt_append (pv 4) (pa_cons (pe_makeN T.mk_Door (ok_Door_init T) (hr.mono (by decide)) rfl T.g_Door T.b_Door_init .nil pass0 (pa_cons (pe_ix (ix_tupA (K := K) rfl) (pe_ix (ix_listA (K := K) rfl) (pv 2) (pv 5) (fun _ _ => rfl)) pe_int (fun _ _ => rfl)) (pa_cons (pe_ix (ix_tupA (K := K) rfl) (pe_ix (ix_listA (K := K) rfl) (pv 2) (pv 6) (fun _ _ => rfl)) pe_int (fun _ _ => rfl)) (pa_cons (pe_callTy (call_listA (K := K) rfl) (by rfl) T.m_list (by decide +kernel) (pa_cons (pv 7) pa_nil)) (pa_cons (pe_callTy (call_listA (K := K) rfl) (by rfl) T.m_list (by decide +kernel) (pa_cons (pv 8) pa_nil)) (pa_cons (pv 9) pa_nil)))))) pa_nil)))))
      (pss_one (ps_ret (pe_makeN T.mk_Machine (ok_Machine_init T) (hr.mono (by decide)) rfl T.g_Machine T.b_Machine_init .nil passL (pa_cons (pe_callTy (call_listA (K := K) rfl) (by rfl) T.m_list (by decide +kernel) (pa_cons (pv 1) pa_nil)) (pa_cons (lc_vs (vs := [10, 11]) (pe_lc (own := [("_law_name", 10), ("_law_stay_here", 11)]) (tt := tYes) rfl sc_l_made.nd (pi_listA (K := K) rfl (pv 2)) (blkOk_by (own := [("_law_name", 10), ("_law_stay_here", 11)]) (N := ["_law_spec", "_law_watches", "_law_rooms", "_law_doors", "_law_built", "_law_begin", "_law_end", "_law_guard_here", "_law_noughts", "_law_sign", "_law_name", "_law_stay_here"]) (sc := defScope s_l_made) (by decide +kernel)) (fun _ _ _ _ _ => (pg_tupA (K := K) (n := 2) rfl (by rfl) (pgs_cons (pg_name (i := 10) sc_l_made.nd rfl (.inl rfl)) (pgs_cons (pg_name (i := 11) sc_l_made.nd rfl (.inl rfl)) pgs_nil)))) (fun _ _ _ _ _ => pts_nil) (fun _ _ _ _ _ => (pe_tupN (pa_cons (pv 10) (pa_cons (pe_callTy (call_listA (K := K) rfl) (by rfl) T.m_list (by decide +kernel) (pa_cons (pv 11) pa_nil)) pa_nil))))) rfl) (pa_cons (pv 4) pa_nil))))))))), ?_⟩
    obtain ⟨pw, pr, pd, es, hw, hr', hd⟩ := id hs
    obtain ⟨rqs, r1, r2, r3⟩ := id hr'
    obtain ⟨dqs, d1, d2, d3⟩ := id hd
    have r4 := ok.r4
    have d6 := ok.d6
    refine seq_step ?_
    walk_at "rd"
    refine gTup_of (sqt es) rfl ?_
    walk_at "rd"
    refine seq_step ?_
    walk_at "rd"
    intro bl H1 s1 f1 e1
    refine seq_step ?_
    refine for_li ?_
    walk_at "rd"
    have bne : ∀ b o, H b = some o → b ≠ bl := fun b o e z => by rw [← z, e] at f1; cases f1
    refine forL_by (xs := dqs.map V.ref) (fun i σ' H' => (∃ v5 v6 v7 v8 v9, σ' = [some (.ref ps), some (.ref pw), some (.ref pr), some (.ref pd), some (.ref bl), v5, v6, v7, v8, v9, none, none]) ∧ Same H H' ∧ SeqD (DoorAt T.C_Door) H' bl ((S.doors.take i).map S.door)) ⟨⟨_, _, _, _, _, rfl⟩, s1, SeqD.nil e1⟩ (fun i σ H' _ ⟨_, k, _⟩ => .of (k _ _ d1)) ?_ ?_
    · rintro i x σ' H2 hi ⟨⟨v5, v6, v7, v8, v9, rfl⟩, s2, sd⟩
      rw [List.getElem?_map] at hi
      obtain ⟨qi, h1, rfl⟩ := Option.map_eq_some_iff.mp hi
      have hil := (List.getElem?_eq_some_iff.mp h1).1
      have hz := List.getElem?_eq_getElem (l := S.doors) (i := i) (by omega)
      have okz := ok.d _ (List.mem_of_getElem? hz)
      obtain ⟨g, n, e, hg, hn⟩ := d3 i qi _ h1 hz
      generalize S.doors[i] = z at *
      obtain ⟨gs, g1, g2, g3⟩ := id hg
      obtain ⟨rb, hb1, hb2⟩ := name_at okz.1
      obtain ⟨re, he1, he2⟩ := name_at okz.2
      obtain ⟨bqs, w1, w2, w3⟩ := id sd
      have hqb := List.getElem?_eq_getElem (l := rqs) (i := z.b) (by rw [r2]; exact okz.1)
      have hqe := List.getElem?_eq_getElem (l := rqs) (i := z.e) (by rw [r2]; exact okz.2)
      obtain ⟨gb, tb, _⟩ := r3 _ _ _ hqb hb1
      obtain ⟨ge, te', _⟩ := r3 _ _ _ hqe he1
      refine gTup_of (sqt (s2 _ _ e)) rfl ?_
      walk_at "rd"
      refine ⟨_, rfl, .inl ⟨rfl, _, .of w1⟩, ?_⟩
      walk_at "rd"
      simp only [tMakeN]
      walk_at "rd"
      refine ix_l (.of (s2 _ _ r1)) (by omega) (by rw [Int.toNat_natCast, List.getElem?_map, hqb]; rfl) ?_
      walk_at "rd"
      refine ix_t (sqt (s2 _ _ tb)) (by decide) rfl ?_
      walk_at "rd"
      refine ix_l (.of (s2 _ _ r1)) (by omega) (by rw [Int.toNat_natCast, List.getElem?_map, hqe]; rfl) ?_
      walk_at "rd"
      refine ix_t (sqt (s2 _ _ te')) (by decide) rfl ?_
      walk_at "rd"
      refine ⟨_, .inl (.of (s2 _ _ g1)), fun g' H3 s3 f3 e3 => ?_⟩
      walk_at "rd"
      refine ⟨_, .inl (.of ((s2.trans s3) _ _ hn)), fun n' H4 s4 f4 e4 => ?_⟩
      walk_at "rd"
      intro p dx H5 s5 f5 e5
      refine ⟨p, dx, g', n', rb.1, re.1, z.sg, _, _, rfl, e5, s5 _ _ (s4 _ _ e3), s5 _ _ e4, fun g2' n2' H6 k6 fg fn e6 eg en => ?_⟩
      walk_at "rd"
      have s24 := s3.trans s4
      have s46 : Same H4 H6 := fun b o e => k6 b o (s5 _ _ e) (fun z => by rw [z, f5] at e; cases e)
      have s06 : Same H H6 := (s2.trans s24).trans s46
      have bl4 := s24 _ _ w1
      have sdel : Same H (delH bl H6) := fun b o e => del_at (bne b o e) (s06 _ _ e)
      have dz : DoorAt T.C_Door (delH bl H6) p (S.door z) := by
        refine ⟨dx, g2', n2', del_at (fun y => by rw [y, bl4] at f5; cases f5) ?_, ⟨gs, del_at (fun y => by rw [y, s5 _ _ bl4] at fg; cases fg) eg, g2, fun i q x h1 h2 => (g3 i q x h1 h2).keep sdel⟩, del_at (fun y => by rw [y, s5 _ _ bl4] at fn; cases fn) en⟩
        show H6 p = some (.ins T.C_Door dx (doorF (S.name z.b) (S.name z.e) z.sg g2' n2'))
        rw [hb2, he2]; exact e6
      obtain ⟨items, it1, it2, it3⟩ := (sd.keep doorKeep (s24.trans s46)).app doorKeep dz
      refine app_at it1 (by rw [it2, List.length_map, List.length_take]; omega) ?_
      walk_at "rd"
      refine ⟨⟨_, rfl⟩, same_updN f1 s06, ?_⟩
      rw [List.take_add_one, hz, List.map_append]
      exact it3
    · rintro σ' H2 ⟨⟨v5, v6, v7, v8, v9, rfl⟩, s2, sd⟩
      rw [List.length_map, d2, List.take_length] at sd
      walk_at "rd"
      simp only [tMakeN]
      walk_at "rd"
      refine ⟨_, .inl (.of (s2 _ _ hw)), fun w' H3 s3 f3 e3 => ?_⟩
      walk_at "rd"
      refine lcg_src ?_
      walk_at "rd"
      have s03 := s2.trans s3
      refine ⟨⟨_, .of (s03 _ _ r1)⟩, ?_⟩
      refine lcM (R := RqAt) RqAt.keep' (F := id) (zs := S.rooms) (s03 _ _ r1) (by simp [r2]) (by simp; omega) (fun i x z H4 Yes hx hz s4 hy => ?_) (fun rq H4 s4 f4 e4 => ?_)
      · rw [List.getElem?_map] at hx
        obtain ⟨qi, h1, rfl⟩ := Option.map_eq_some_iff.mp hx
        have s04 := s03.trans s4
        obtain ⟨g, e, gs, g1, g2, g3⟩ := r3 i qi z h1 hz
        refine gTup_of (sqt (s04 _ _ e)) rfl ?_
        walk_at "rd"
        refine ⟨_, .inl (.of (s04 _ _ g1)), fun l H5 s5 f5 e5 => ?_⟩
        walk_at "rd"
        intro t H6 s6 f6 e6
        have sc : Same H (cutH H3 H4 H6) := s03.trans (cut_same (s4.trans (s5.trans s6)))
        refine hy t H6 (s5.trans s6) ⟨l, cut_new (s5.free f6) e6, gs, cut_new f5 (s6 _ _ e5), g2, fun i q x h1 h2 => (g3 i q x h1 h2).keep sc⟩
      · have e4' : RsAt H4 rq S.rooms := by simpa using e4
        walk_at "rd"
        intro p dx H5 s5 f5 e5
        have s25 := (s3.trans s4).trans s5
        refine .inl ⟨p, dx, w', rq, bl, S.mach, rfl, e5, (s4.trans s5) _ _ e3, e4'.keep s5, ((sd.seq doorKeep).keep (fun _ _ h => DoorAt.keep s25 h) s25), ok.mach, fun H6 off mach _ => ?_⟩
        walk_at "rd"
        refine q p H6 (fun b o e => off.2 b o ((s2.trans s25) _ _ e) fun y => ?_) mach
        have := (s2.trans (s3.trans s4)) _ _ e
        rw [y, f5] at this; cases this
/-! ### machines with a long watch, with a room cut off -/
def TDAt (H : Hp) (q : Addr) (d : DoorD) : Prop := ∃ g n, H q = some (.tup [.str d.st, .str d.en, .ref g, .ref n, .str d.sg]) ∧ LsAt H g d.looks ∧ H n = some (.lst (d.backs.map V.str))
theorem TDAt.keep : ∀ (H H' : Hp) (q : Addr) (d : DoorD), Same H H' → TDAt H q d → TDAt H' q d := fun _ _ _ _ s ⟨g, n, a, b, c⟩ => ⟨g, n, s _ _ a, b.keep s, s _ _ c⟩
def LooksOk (d : DoorD) : Prop := (∀ l ∈ d.looks, LqOk l) ∧ ∀ x ∈ d.backs, TxOk x
def longW (W : List Str) : List Str := W ++ [("/" : Str)]
def longM (M : MachD) : MachD := ⟨longW M.watches, M.rooms, M.doors⟩
def cutD (r : Str) (d : DoorD) : DoorD := if r = d.st ∨ r = d.en then ⟨d.st, d.en, "cut!", d.looks, d.backs⟩ else d
def cutM (r : Str) (M : MachD) : MachD := ⟨M.watches, M.rooms, M.doors.map (cutD r)⟩
theorem lookOk_mono {ws W W' : List Str} {l : Lq} (h : ∀ x ∈ W, x ∈ W') (k : lookOk ws W l = true) : lookOk ws W' l = true := by
  unfold lookOk at k ⊢
  rw [Bool.and_eq_true, Bool.and_eq_true] at k ⊢
  exact ⟨⟨decide_eq_true (h _ (of_decide_eq_true k.1.1)), k.1.2⟩, k.2⟩
theorem guardOk_mono {ws W W' : List Str} {ls : List Lq} (h : ∀ x ∈ W, x ∈ W') (k : guardOk ws W ls = true) : guardOk ws W' ls = true := List.all_eq_true.mpr fun l hl => lookOk_mono h (List.all_eq_true.mp k l hl)
theorem roomOk_mono {W W' : List Str} {r : Rq} (h : ∀ x ∈ W, x ∈ W') (k : roomOk W r = true) : roomOk W' r = true := by
  unfold roomOk at k ⊢
  rw [Bool.and_eq_true] at k ⊢
  exact ⟨k.1, guardOk_mono h k.2⟩
theorem doorOk_mono {W W' ns : List Str} {d : DoorD} (h : ∀ x ∈ W, x ∈ W') (k : doorOk W ns d = true) : doorOk W' ns d = true := by
  unfold doorOk at k ⊢
  rw [Bool.and_eq_true, Bool.and_eq_true, Bool.and_eq_true, Bool.and_eq_true, Bool.and_eq_true, List.all_eq_true] at k ⊢
  obtain ⟨⟨⟨⟨⟨a, b⟩, c⟩, d'⟩, e⟩, f⟩ := k
  exact ⟨⟨⟨⟨⟨a, b⟩, c⟩, guardOk_mono h d'⟩, fun x hx => decide_eq_true (h x (of_decide_eq_true (e x hx)))⟩, f⟩
theorem MachOk.areW {M : MachD} (h : MachOk M) : areW M.watches = true := by unfold ZW.areW; rw [decide_eq_true h.w7, h.wok, decide_eq_true h.wnd]; rfl
theorem MachOk.more {M : MachD} {W : List Str} (h : MachOk M) (sub : ∀ x ∈ M.watches, x ∈ W) (ha : ZW.areW W = true) : MachOk ⟨W, M.rooms, M.doors⟩ := by
  unfold ZW.areW at ha
  rw [Bool.and_eq_true, Bool.and_eq_true] at ha
  exact { w7 := of_decide_eq_true ha.1, wok := ha.2.1, wnd := of_decide_eq_true ha.2.2, rok := List.all_eq_true.mpr fun r hr => roomOk_mono sub (List.all_eq_true.mp h.rok r hr), rnd := h.rnd, rne := h.rne, r64 := h.r64
          dok := List.all_eq_true.mpr fun d hd => doorOk_mono sub (List.all_eq_true.mp h.dok d hd), d200 := h.d200, rsz := h.rsz, dsz := h.dsz }
theorem MachOk.long {M : MachD} (h : MachOk M) (ha : ZW.areW (longW M.watches) = true) : MachOk (longM M) := h.more (fun x hx => List.mem_append_left _ hx) ha
theorem cutD_ok {W ns : List Str} {r : Str} {d : DoorD} (k : doorOk W ns d = true) : doorOk W ns (cutD r d) = true := by
  unfold cutD
  split
  · unfold doorOk at k ⊢
    rw [Bool.and_eq_true, Bool.and_eq_true, Bool.and_eq_true, Bool.and_eq_true, Bool.and_eq_true] at k ⊢
    obtain ⟨⟨⟨⟨⟨a, b⟩, c⟩, d'⟩, e⟩, f⟩ := k
    exact ⟨⟨⟨⟨⟨show okSign "cut!" = true by decide +kernel, b⟩, c⟩, d'⟩, e⟩, f⟩
  · exact k
theorem cutD_looks {r : Str} {d : DoorD} : (cutD r d).looks = d.looks := by unfold cutD; split <;> rfl
theorem cutD_backs {r : Str} {d : DoorD} : (cutD r d).backs = d.backs := by unfold cutD; split <;> rfl
theorem cutD_st {r : Str} {d : DoorD} : (cutD r d).st = d.st := by unfold cutD; split <;> rfl
theorem cutD_en {r : Str} {d : DoorD} : (cutD r d).en = d.en := by unfold cutD; split <;> rfl
theorem MachOk.cut {M : MachD} (h : MachOk M) (r : Str) : MachOk (cutM r M) := { w7 := h.w7, wok := h.wok, wnd := h.wnd, rok := h.rok, rnd := h.rnd, rne := h.rne, r64 := h.r64
                                                                                 dok := List.all_eq_true.mpr fun d hd => by
                                                                                   obtain ⟨d', hd', rfl⟩ := List.mem_map.mp hd
                                                                                   exact cutD_ok (List.all_eq_true.mp h.dok d' hd')
                                                                                 d200 := by show (M.doors.map _).length ≤ 200; rw [List.length_map]; exact h.d200
                                                                                 rsz := h.rsz
                                                                                 dsz := fun d hd => by
                                                                                   obtain ⟨d', hd', rfl⟩ := List.mem_map.mp hd
                                                                                   rw [cutD_looks]; exact h.dsz d' hd' }
theorem MachOk.lq {M : MachD} (h : MachOk M) {r : Rq} (hr : r ∈ M.rooms) : RqOk r := (h.room hr).2.2
theorem MachOk.dlooks {M : MachD} (h : MachOk M) {d : DoorD} (hd : d ∈ M.doors) : LooksOk d := by
  have k := h.door hd
  exact ⟨fun l hl => look_ok (ws := ["<", "<=", ">", ">=", "="]) (by decide +kernel) h.watch (List.all_eq_true.mp k.2.2.2.1 l hl), fun x hx => okWatch_tx (h.watch x (k.2.2.2.2.1 x hx))⟩
theorem MachOk.names {M : MachD} (h : MachOk M) {x : Str} (hx : x ∈ M.rooms.map (·.1)) : TxOk x := by
  obtain ⟨r, hr, rfl⟩ := List.mem_map.mp hx
  exact (h.lq hr).1
theorem lay_strs {xs : List Str} (h : ∀ x ∈ xs, TxOk x) : (PyData.list (xs.map PyData.str)).canLay0 = true ∧ (PyData.list (xs.map PyData.str)).depth ≤ 2 := lay_listM fun d hd => by
  obtain ⟨x, hx, rfl⟩ := List.mem_map.mp hd
  exact ⟨h x hx, Nat.zero_le _⟩
/-- what is told of a machine -/
def TM (H : Hp) (q : Addr) (M : MachD) : Prop := ∃ w r d, H q = some (.tup [.ref w, .ref r, .ref d]) ∧ H w = some (.lst (M.watches.map V.str)) ∧ RsAt H r M.rooms ∧ SeqOf TDAt H d M.doors
theorem TM.keep {H H' : Hp} {q : Addr} {M : MachD} (s : Same H H') (h : TM H q M) : TM H' q M := by
  obtain ⟨w, r, d, a, b, c, e⟩ := h
  exact ⟨w, r, d, s _ _ a, s _ _ b, c.keep s, SeqOf.keep (fun _ _ => TDAt.keep _ _ _ _ s) s e⟩
def ddat (d : DoorD) : PyData := .tuple [.str d.st, .str d.en, .list (d.looks.map ldat), .list (d.backs.map PyData.str), .str d.sg]
def mdat (M : MachD) : PyData := .tuple [.list (M.watches.map PyData.str), .list (M.rooms.map rdat), .list (M.doors.map ddat)]
section
variable {K : PySem.W.Frag} {H : Hp} {q : Addr}
theorem dp_td {d : DoorD} (h : TDAt H q d) : Dp K H (.ref q) (ddat d) := by
  obtain ⟨g, n, a, b, c⟩ := h
  exact .tup (.of a) (.cons (.str _) (.cons (.str _) (.cons (dp_ls b) (.cons (names_dp c) (.cons (.str _) .nil)))))
theorem dp_tds {ds : List DoorD} (h : SeqOf TDAt H q ds) : Dp K H (.ref q) (.list (ds.map ddat)) := dp_seq (fun _ _ h => dp_td h) h
theorem dp_tm {M : MachD} (h : TM H q M) : Dp K H (.ref q) (mdat M) := by
  obtain ⟨w, r, d, a, b, c, e⟩ := h
  exact .tup (.of a) (.cons (names_dp b) (.cons (dp_rs c) (.cons (dp_tds e) .nil)))
end
theorem okSign_tx {x : Str} (h : okSign x = true) : TxOk x := by
  unfold okSign at h
  rw [Bool.or_eq_true] at h
  rcases h with h | h
  · rw [of_decide_eq_true h]; show PyData.strOk _ = true; decide +kernel
  · cases e : x.cps.toList.getLast? with
    | none => rw [e] at h; cases h
    | some c =>
      rw [e] at h
      have h1 := of_decide_eq_true (Bool.and_eq_true_iff.mp h).1
      have h2 := okName_tx (Bool.and_eq_true_iff.mp h).2
      refine txok_of fun z hz => ?_
      have s0 : HT.sIx x.length 0 none = 0 := rfl
      have s1 : HT.sIx x.length x.length (some (-1)) = x.length - 1 := by
        unfold HT.sIx
        simp only [show ((-1 : Int) < 0) from by decide, if_true]
        omega
      have len : x.length = x.cps.toList.length := by unfold Str.length; exact Array.length_toList.symm
      have hx : x.cps.toList = x.cps.toList.dropLast ++ [c] := by
        obtain ⟨ys, hys⟩ := List.getLast?_eq_some_iff.mp e
        rw [hys]; simp
      have h3 : ∀ z ∈ x.cps.toList.dropLast, z < 0x110000 := fun z hz => by
        have h2 : PyData.strOk (cutS x none (some (-1))) = true := h2
        unfold PyData.strOk cutS at h2
        rw [s0, s1, ← Array.all_toList, List.all_eq_true] at h2
        have := h2 z (by
          rw [List.dropLast_eq_take] at hz
          simp only [List.drop_zero, Nat.sub_zero]
          rw [len]; simpa using hz)
        exact of_decide_eq_true this
      rw [hx] at hz
      rcases List.mem_append.mp hz with hz | hz
      · exact h3 z hz
      · have : z = c := by simpa using hz
        rw [this]
        exact (by decide +kernel : ∀ c ∈ ("!?" : Str).cps.toList, c < 0x110000) c h1
theorem lay_ddat {M : MachD} (h : MachOk M) {d : DoorD} (hd : d ∈ M.doors) : (ddat d).canLay0 = true ∧ (ddat d).depth ≤ 4 := lay_tup (k := 3) fun e he => by
  have k := h.door hd
  have l := h.dlooks hd
  simp only [List.mem_cons, List.not_mem_nil, or_false] at he
  rcases he with rfl | rfl | rfl | rfl | rfl
  · exact ⟨h.names k.2.1, Nat.zero_le _⟩
  · exact ⟨h.names k.2.2.1, Nat.zero_le _⟩
  · exact lay_ldats l.1
  · have := lay_strs l.2; exact ⟨this.1, by omega⟩
  · exact ⟨okSign_tx k.1, Nat.zero_le _⟩
theorem lay_mdat {M : MachD} (h : MachOk M) : (mdat M).canLay0 = true ∧ (mdat M).depth ≤ 6 := lay_tup (k := 5) fun e he => by
  simp only [List.mem_cons, List.not_mem_nil, or_false] at he
  rcases he with rfl | rfl | rfl
  · have := lay_strs fun x hx => okWatch_tx (h.watch x hx); exact ⟨this.1, by omega⟩
  · exact lay_rdats fun r hr => h.lq hr
  · exact lay_listM (k := 4) fun e he => by
      obtain ⟨d, hd, rfl⟩ := List.mem_map.mp he
      exact lay_ddat h hd
theorem shaped_mdat {M : MachD} (h : MachOk M) : SeqAt.shaped (mdat M) = true := Bool.and_eq_true_iff.mpr ⟨(lay_mdat h).1, decide_eq_true (by have := (lay_mdat h).2; omega)⟩
theorem areW_iff {W : List Str} : areW W = true ↔ W.length ≤ 7 ∧ (∀ x ∈ W, okWatch x = true) ∧ W.Nodup := by
  unfold areW
  rw [Bool.and_eq_true, Bool.and_eq_true, List.all_eq_true]
  exact ⟨fun h => ⟨of_decide_eq_true h.1, h.2.1, of_decide_eq_true h.2.2⟩, fun h => ⟨decide_eq_true h.1, h.2.1, decide_eq_true h.2.2⟩⟩
theorem areW_long {W : List Str} (h : areW W = true) (a : ("/" : Str) ∉ W) (b : W.length ≤ 6) : areW (longW W) = true := by
  obtain ⟨h1, h2, h3⟩ := areW_iff.mp h
  refine areW_iff.mpr ⟨by unfold longW; simp; omega, fun x hx => ?_, List.nodup_append.mpr ⟨h3, by simp, fun x hx y hy e => ?_⟩⟩
  · rcases List.mem_append.mp hx with k | k
    · exact h2 x k
    · rw [show x = "/" by simpa using k]; decide +kernel
  · rw [show y = "/" by simpa using hy] at e
    exact a (e ▸ hx)
theorem areW_long_no {W : List Str} (h : ("/" : Str) ∈ W ∨ 6 < W.length) : areW (longW W) = false := by
  refine Bool.eq_false_iff.mpr fun k => ?_
  obtain ⟨h1, h2, h3⟩ := areW_iff.mp k
  rcases h with h | h
  · exact (List.nodup_append.mp h3).2.2 _ h "/" (by simp) rfl
  · unfold longW at h1; simp at h1; omega
def spWithLong (K : PySem.W.Frag) (CM CD CB : Addr) : Sp := fun vs H Q E => ∃ (pm : Addr) (M : MachD), vs = [.ref pm] ∧ MachAt CM CD H pm M ∧ MachOk M ∧ (areW (longW M.watches) = true → ∀ q H', Same H H' → MachAt CM CD H' q (longM M) → Q (.ref q) H') ∧ (areW (longW M.watches) = false → ∀ H', Same H H' → E (.ref CB) none H')
theorem ok_with_long (T : Top K mg) : FnOk P w K mg base (L2.CX P w) 8 T.f_with_long T.d_with_long ["machine"] (spWithLong K T.C_Machine T.C_Door T.C_BadMachine) := by
  refine T.F_with_long.okX sc_with_long (fun vs H Q E h => ?_) (fun cdv A outer s H vs Q E hr h => ?_)
  · obtain ⟨pm, M, rfl, _⟩ := h; rfl
  · obtain ⟨pm, M, rfl, hm, ok, q1, q2⟩ := h
    refine ⟨_, (pss_cons (lc_vsS (vs := [2]) (ps_setLc (i := 1) (own := [("room", 2)]) (g := gName 2) (tt := tYes) rfl sc_with_long.nd rfl rfl (sw_true rfl rfl rfl (by decide +kernel)) (pi_listA (K := K) rfl (pe_meth0 (pv 0) T.cl_Machine T.m_Machine_rooms (ok_Machine_rooms T) (hr.mono (by decide)) T.b_Machine_rooms .nil pass0)) (blkOk_by (own := [("room", 2)]) (N := ["machine", "rooms", "room"]) (sc := defScope s_with_long) (by decide +kernel)) (fun _ _ _ _ _ => (pg_name (i := 2) sc_with_long.nd rfl (.inl rfl))) (fun _ _ _ _ _ => pts_nil) (fun _ _ _ _ _ => (pe_tupN (pa_cons (pv 2) (pa_cons (pe_meth (pv 0) T.cl_Machine T.m_Machine_stay (ok_Machine_stay T) (hr.mono (by decide)) T.b_Machine_stay .nil pass0 (pa_cons (pv 2) pa_nil)) pa_nil))))) rfl)
      (pss_one (ps_ret (pe_makeN T.mk_Machine (ok_Machine_init T) (hr.mono (by decide)) rfl T.g_Machine T.b_Machine_init .nil (passes_call (takes_of rfl rfl rfl rfl) (fun _ _ _ _ z => z)) (pa_cons (pe_op op_catN (pe_meth0 (pv 0) T.cl_Machine T.m_Machine_watches (ok_Machine_watches T) (hr.mono (by decide)) T.b_Machine_watches .nil pass0) (pe_lstN (pa_cons (pe_glob (v := .str "/") rfl T.g_LONG ⟨_, rfl⟩) pa_nil))) (pa_cons (pv 1) (pa_cons (pe_meth0 (pv 0) T.cl_Machine T.m_Machine_doors (ok_Machine_doors T) (hr.mono (by decide)) T.b_Machine_doors .nil pass0) pa_nil))))))), ?_⟩
    obtain ⟨dx, wn, rn, sl, dl, a, _⟩ := id hm
    have r64 := ok.r64
    have w7 := ok.w7
    have mno : ∀ {m : Str}, ¬ m = "watch_names" → ¬ m = "room_names" → ¬ m = "stay_looks" → ¬ m = "door_list" → (machF wn rn sl dl).lookup m = none := fun h1 h2 h3 h4 => mach_no h1 h2 h3 h4
    refine seq_step ?_
    refine lcg_src ?_
    refine ⟨_, rfl, pm, dx, _, rfl, a, mno (by decide +kernel) (by decide +kernel) (by decide +kernel) (by decide +kernel), pm, M, rfl, hm, fun nq H1 s1 f1 e1 => ?_⟩
    refine ⟨nq, rfl, ⟨_, .of e1⟩, ?_⟩
    refine lcMD (R := RqAt) RqAt.keep' (F := id) (zs := M.rooms) e1 (by simp) (by simp; omega) (fun i x z H2 Yes hx hz s2 hy => ?_) (fun rq H2 s2 f2 e2 => ?_)
    · rw [List.getElem?_map, List.getElem?_map, hz] at hx
      obtain rfl : x = .str z.1 := by simpa using hx.symm
      have s12 := s1.trans s2
      walk_at "rd"
      refine ⟨_, rfl, pm, dx, _, rfl, s12 _ _ a, mno (by decide +kernel) (by decide +kernel) (by decide +kernel) (by decide +kernel), ?_⟩
      walk_at "rd"
      refine ⟨pm, M, z, rfl, hm.keep s12, List.mem_of_getElem? hz, ok.rnd, fun l H3 s3 f3 e3 => ?_⟩
      walk_at "rd"
      exact fun t H4 s4 f4 e4 => hy t H4 (s3.trans s4) fun D acc fD eD => ⟨l, del_at (fun y => by rw [y, s3 _ _ eD] at f4; cases f4) e4, (e3.keep s4).del (fun y => by rw [y, eD] at f3; cases f3) ((s3.trans s4) _ _ eD)⟩
    · have e2 : RsAt H2 rq M.rooms := SeqD.seq RqAt.keep' (by simpa using e2)
      walk_at "rd"
      simp only [tMakeN]
      walk_at "rd"
      have s12 := s1.trans s2
      refine ⟨_, rfl, pm, dx, _, rfl, s12 _ _ a, mno (by decide +kernel) (by decide +kernel) (by decide +kernel) (by decide +kernel), pm, M, rfl, hm.keep s12, fun wq H3 s3 f3 e3 => ?_⟩
      walk_at "rd"
      intro sl1 H4 s4 f4 e4
      refine ⟨_, s4 _ _ e3, _, e4, small1000' (by rw [List.length_map]; simp; omega), fun w2 H5 s5 f5 e5 => ?_⟩
      have s15 := s12.trans (s3.trans (s4.trans s5))
      refine ⟨_, rfl, pm, dx, _, rfl, s15 _ _ a, mno (by decide +kernel) (by decide +kernel) (by decide +kernel) (by decide +kernel), pm, M, rfl, hm.keep s15, fun dq H6 dqs s6 f6 e6 l6 d6 => ?_⟩
      walk_at "rd"
      intro p dx' H7 s7 f7 e7
      have e5' : H5 w2 = some (.lst ((longW M.watches).map V.str)) := by rw [e5]; unfold longW; rw [List.map_append]; rfl
      have s17 := s15.trans (s6.trans s7)
      have tx : ∀ x ∈ longW M.watches, x.length ≤ 1000 := fun x hx => by
        rcases List.mem_append.mp hx with h | h
        · have := okWatch_len (ok.watch x h); omega
        · have : x = "/" := by simpa using h
          rw [this]; decide +kernel
      cases c : areW (longW M.watches) with
      | false =>
        refine .inr ⟨p, dx', w2, _, _, longW M.watches, rfl, e7, (s6.trans s7) _ _ e5', by unfold longW; simp; omega, tx, c, fun H8 s8 => q2 c H8 (s17.trans s8)⟩
      | true =>
        have d7 := d6 H s15 hm
        refine .inl ⟨p, dx', w2, rq, dq, longM M, rfl, e7, (s6.trans s7) _ _ e5', e2.keep (s3.trans (s4.trans (s5.trans (s6.trans s7)))), ⟨dqs, s7 _ _ e6, l6, fun i q x h1 h2 => (d7 i q x h1 h2).keep s17⟩, ok.long c, fun H8 off mach _ => ⟨rfl, ?_⟩⟩
        refine q1 c p H8 (fun b o e => off.2 b o (s17 _ _ e) fun y => ?_) mach
        have := (s15.trans s6) _ _ e
        rw [y, f7] at this; cases this
def spCutOff (K : PySem.W.Frag) (CM CD CN : Addr) : Sp := fun vs H Q E => ∃ (pm : Addr) (M : MachD) (r : Str), vs = [.ref pm, .str r] ∧ MachAt CM CD H pm M ∧ MachOk M ∧ r.length ≤ 1000 ∧ (r ∈ M.rooms.map (·.1) → ∀ q H', Same H H' → MachAt CM CD H' q (cutM r M) → Q (.ref q) H') ∧ (r ∉ M.rooms.map (·.1) → ∀ H', Same H H' → E (.ref CN) none H')
theorem ok_cut_off (T : Top K mg) : FnOk P w K mg base (L2.CX P w) 8 T.f_cut_off T.d_cut_off ["machine", "room"] (spCutOff K T.C_Machine T.C_Door T.C_NoMark) := by
  refine T.F_cut_off.okX sc_cut_off (fun vs H Q E h => ?_) (fun cdv A outer s H vs Q E hr h => ?_)
  · obtain ⟨pm, M, r, rfl, _⟩ := h; rfl
  · obtain ⟨pm, M, r, rfl, hm, ok, r1000, q1, q2⟩ := h
    refine ⟨_, (pss_cons (ps_if (pt_cmpR (op_notIn_seqA (K := K) rfl) (pv 1) (pe_meth0 (pv 0) T.cl_Machine T.m_Machine_rooms (ok_Machine_rooms T) (hr.mono (by decide)) T.b_Machine_rooms .nil pass0) (by rfl)) (pss_one (ps_raise rfl (takes_of rfl rfl rfl rfl) (pmk_own PySem.F.excBase_ValueError T.x_NoMark T.g_NoMark T.k_NoMark (raises_own T.b_NoMark T.t_NoMark) rfl))) pss_nil)
      (pss_cons (ps_set (i := 2) sc_cut_off.nd rfl (.inl rfl) (pe_lstN pa_nil))
      (pss_cons (ps_for (passes_of rfl) rfl (pi_listA (K := K) rfl (pe_meth0 (pv 0) T.cl_Machine T.m_Machine_doors (ok_Machine_doors T) (hr.mono (by decide)) T.b_Machine_doors .nil pass0)) (pg_name (i := 3) sc_cut_off.nd rfl (.inl rfl)) (pss_cons (ps_if (PW.pt (pw_or (pt_cmpR op_eq (pv 1) (pe_fldA (K := K) rfl (pv 3) rfl) (nomark _)) (pw_or1 (pt_cmpR op_eq (pv 1) (pe_fldA (K := K) rfl (pv 3) rfl) (nomark _))))) (pss_one (ps_set (i := 3) sc_cut_off.nd rfl (.inl rfl) (pe_makeN T.mk_Door (ok_Door_init T) (hr.mono (by decide)) rfl T.g_Door T.b_Door_init .nil pass0 (pa_cons (pe_fldA (K := K) rfl (pv 3) rfl) (pa_cons (pe_fldA (K := K) rfl (pv 3) rfl) (pa_cons (pe_meth0 (pv 3) T.cl_Door T.m_Door_asks (ok_Door_asks T) (hr.mono (by decide)) T.b_Door_asks .nil pass0) (pa_cons (pe_meth0 (pv 3) T.cl_Door T.m_Door_sets (ok_Door_sets T) (hr.mono (by decide)) T.b_Door_sets .nil pass0) (pa_cons pe_str pa_nil)))))))) pss_nil)
      (pss_one (ps_expr (pe_bm PySem.F.plainAttrs_list PySem.F.slot_list_append PySem.F.type_list_append mt_append (pv 2) (pa_cons (pv 3) pa_nil))))))
      (pss_one (ps_ret (pe_makeN T.mk_Machine (ok_Machine_init T) (hr.mono (by decide)) rfl T.g_Machine T.b_Machine_init .nil (passes_call (takes_of rfl rfl rfl rfl) (fun _ _ _ _ z => z)) (pa_cons (pe_meth0 (pv 0) T.cl_Machine T.m_Machine_watches (ok_Machine_watches T) (hr.mono (by decide)) T.b_Machine_watches .nil pass0) (pa_cons (lc_vs (vs := [4]) (pe_lc (own := [("name", 4)]) (g := gName 4) (tt := tYes) rfl sc_cut_off.nd (pi_listA (K := K) rfl (pe_meth0 (pv 0) T.cl_Machine T.m_Machine_rooms (ok_Machine_rooms T) (hr.mono (by decide)) T.b_Machine_rooms .nil pass0)) (blkOk_by (own := [("name", 4)]) (N := ["machine", "room", "doors", "door", "name"]) (sc := defScope s_cut_off) (by decide +kernel)) (fun _ _ _ _ _ => (pg_name (i := 4) sc_cut_off.nd rfl (.inl rfl))) (fun _ _ _ _ _ => pts_nil) (fun _ _ _ _ _ => (pe_tupN (pa_cons (pv 4) (pa_cons (pe_meth (pv 0) T.cl_Machine T.m_Machine_stay (ok_Machine_stay T) (hr.mono (by decide)) T.b_Machine_stay .nil pass0 (pa_cons (pv 4) pa_nil)) pa_nil))))) rfl) (pa_cons (pv 2) pa_nil))))))))), ?_⟩
    obtain ⟨dx, wn, rn, sl, dl, a, _⟩ := id hm
    have r64 := ok.r64
    have w7 := ok.w7
    have d200 := ok.d200
    have mno : ∀ {m : Str}, ¬ m = "watch_names" → ¬ m = "room_names" → ¬ m = "stay_looks" → ¬ m = "door_list" → (machF wn rn sl dl).lookup m = none := fun h1 h2 h3 h4 => mach_no h1 h2 h3 h4
    refine seq_step ?_
    walk_at "rd"
    refine ⟨_, rfl, pm, dx, _, rfl, a, mno (by decide +kernel) (by decide +kernel) (by decide +kernel) (by decide +kernel), pm, M, rfl, hm, fun nq H1 s1 f1 e1 => ?_⟩
    refine ⟨nq, _, rfl, .inl (.of e1), rfl, flat_of, ?_⟩
    rw [inV_str]
    by_cases c : r ∈ M.rooms.map (·.1)
    rotate_left
    · rw [decide_eq_false c]
      walk_at "rd"
      exact q2 c H1 s1
    have q1 := q1 c
    rw [decide_eq_true c]
    walk_at "rd"
    refine seq_step ?_
    walk_at "rd"
    intro bl H2 s2 f2 e2
    have s12 := s1.trans s2
    refine seq_step ?_
    refine for_li ?_
    refine ⟨_, rfl, pm, dx, _, rfl, s12 _ _ a, mno (by decide +kernel) (by decide +kernel) (by decide +kernel) (by decide +kernel), pm, M, rfl, hm.keep s12, fun dq H3 dqs s3 f3 e3 l3 d3 => ?_⟩
    have d3 := d3 H s12 hm
    have s23 := s2.trans s3
    have fbl : H bl = none := s1.free f2
    have bne : ∀ b o, H b = some o → b ≠ bl := fun b o e z => by rw [z, fbl] at e; cases e
    refine ⟨dq, rfl, forL_by (xs := dqs.map V.ref) (fun i σ' H' => (∃ v3, σ' = [some (.ref pm), some (.str r), some (.ref bl), v3, none]) ∧ Same H H' ∧ H' dq = some (.lst (dqs.map V.ref)) ∧ SeqD (DoorAt T.C_Door) H' bl ((M.doors.take i).map (cutD r))) ⟨⟨_, rfl⟩, s1.trans s23, e3, SeqD.nil (s3 _ _ e2)⟩ (fun i σ H' _ ⟨_, _, k, _⟩ => .of k) ?_ ?_⟩
    · rintro i x σ' H4 hi ⟨⟨v3, rfl⟩, s4, e4, sd⟩
      rw [List.getElem?_map] at hi
      obtain ⟨qd, h1, rfl⟩ := Option.map_eq_some_iff.mp hi
      have hil := (List.getElem?_eq_some_iff.mp h1).1
      have hz := List.getElem?_eq_getElem (l := M.doors) (i := i) (by omega)
      have dz := d3 i qd _ h1 hz
      have dk := ok.door (List.mem_of_getElem? hz)
      have tk : (M.doors.take (i + 1)).map (cutD r) = (M.doors.take i).map (cutD r) ++ [cutD r M.doors[i]] := by rw [List.take_add_one, hz, List.map_append]; rfl
      generalize M.doors[i] = z at *
      obtain ⟨ddx, dg, dn, da, db, dc⟩ := id dz
      have dno : ∀ {m : Str}, ¬ m = "start" → ¬ m = "end" → ¬ m = "sign" → ¬ m = "looks" → ¬ m = "backs" → (doorF z.st z.en z.sg dg dn).lookup m = none := fun h1 h2 h3 h4 h5 => door_no h1 h2 h3 h4 h5
      obtain ⟨bqs, w1, w2, w3⟩ := id sd
      have bl_d : dq ≠ bl := fun y => by rw [← y, f3] at e2; cases e2
      walk_at "rd"
      refine join_op (fun σ' H' => ∃ p, σ' = [some (.ref pm), some (.str r), some (.ref bl), some (.ref p), none] ∧ Same H4 H' ∧ DoorAt T.C_Door (delH bl H') p (cutD r z)) ?r1 (fun R' way => ?_)
      case r1 =>
        rintro σ' H5 ⟨p, rfl, s5, dp⟩
        walk_at "rd"
        obtain ⟨items, it1, it2, it3⟩ := (sd.keep doorKeep s5).app doorKeep dp
        refine ⟨_, rfl, .inl ⟨rfl, _, .of it1⟩, ?_⟩
        walk_at "rd"
        refine app_at it1 (by rw [it2, List.length_map, List.length_take]; omega) ?_
        walk_at "rd"
        refine ⟨⟨_, rfl⟩, same_updN fbl (s4.trans s5), by rw [upd_ne bl_d]; exact s5 _ _ e4, ?_⟩
        rw [tk]; exact it3
      have dt : ∀ {H' : Hp}, Same H H' → DoorAt T.C_Door (delH bl H') qd z := fun {H'} s => dz.keep fun b o e => del_at (bne b o e) (s _ _ e)
      walk_at "rd"
      refine ⟨_, rfl, _, rfl, qd, _, ddx, _, _, rfl, s4 _ _ da, T.cl_Door, T.n_Door_start, door_start, ?_⟩
      walk_at "rd"
      refine ite_d (fun c => ?_) (fun c => ?_)
      rotate_left
      refine ⟨_, rfl, qd, _, ddx, _, _, rfl, s4 _ _ da, T.cl_Door, T.n_Door_end, door_end, ?_⟩
      walk_at "rd"
      refine ite_d (fun c2 => ?_) (fun c2 => ?_)
      rotate_left
      · refine way _ _ ⟨qd, rfl, Same.refl _, ?_⟩
        have : cutD r z = z := by unfold cutD; exact if_neg fun h => h.elim (fun h => c (by rw [h])) (fun h => c2 (by rw [h]))
        rw [this]; exact dt s4
      all_goals
        have hc : r = z.st ∨ r = z.en := by first | exact .inl (by injection c) | exact .inr (by injection c2)
        have ecut : cutD r z = ⟨z.st, z.en, "cut!", z.looks, z.backs⟩ := by unfold cutD; exact if_pos hc
        walk_at "rd"
        simp only [tMakeN]
        walk_at "rd"
        refine ⟨_, rfl, qd, _, ddx, _, _, rfl, s4 _ _ da, T.cl_Door, T.n_Door_start, door_start, ?_⟩
        refine ⟨_, rfl, qd, _, ddx, _, _, rfl, s4 _ _ da, T.cl_Door, T.n_Door_end, door_end, ?_⟩
        refine ⟨_, rfl, qd, ddx, _, rfl, s4 _ _ da, dno (by decide +kernel) (by decide +kernel) (by decide +kernel) (by decide +kernel) (by decide +kernel), qd, z, rfl, dz.keep s4, fun ga H5 s5 f5 e5 => ?_⟩
        have s45 := s4.trans s5
        refine ⟨_, rfl, qd, ddx, _, rfl, s45 _ _ da, dno (by decide +kernel) (by decide +kernel) (by decide +kernel) (by decide +kernel) (by decide +kernel), qd, z, rfl, dz.keep s45, fun na H6 s6 f6 e6 => ?_⟩
        walk_at "rd"
        intro p dx' H7 s7 f7 e7
        obtain ⟨gs, ga1, ga2, ga3⟩ := id e5
        refine ⟨p, dx', ga, na, z.st, z.en, "cut!", _, _, rfl, e7, (s6.trans s7) _ _ ga1, s7 _ _ e6, fun g' n' H8 k8 fg fn e8 eg en => ⟨rfl, ?_⟩⟩
        have w17 := (s5.trans (s6.trans s7)) _ _ w1
        have s68 : Same H6 H8 := fun b o e => k8 b o (s7 _ _ e) fun y => by rw [y, f7] at e; cases e
        have s48 := s5.trans (s6.trans s68)
        refine way _ _ ⟨p, rfl, s48, ?_⟩
        rw [ecut]
        have lg : LsAt H8 g' z.looks := ⟨gs, eg, ga2, fun i q x h1 h2 => (ga3 i q x h1 h2).keep (s6.trans s68)⟩
        exact ⟨dx', g', n', del_at (fun y => by rw [y, (s5.trans s6) _ _ w1] at f7; cases f7) e8, lg.del (fun y => by rw [y, w17] at fg; cases fg) (s48 _ _ w1), del_at (fun y => by rw [y, w17] at fn; cases fn) en⟩
    · rintro σ' H4 ⟨⟨v3, rfl⟩, s4, e4, sd⟩
      rw [List.length_map, l3, List.take_length] at sd
      walk_at "rd"
      simp only [tMakeN]
      walk_at "rd"
      refine ⟨_, rfl, pm, dx, _, rfl, s4 _ _ a, mno (by decide +kernel) (by decide +kernel) (by decide +kernel) (by decide +kernel), pm, M, rfl, hm.keep s4, fun wq H5 s5 f5 e5 => ?_⟩
      have s45 := s4.trans s5
      refine lcg_src ?_
      refine ⟨_, rfl, pm, dx, _, rfl, s45 _ _ a, mno (by decide +kernel) (by decide +kernel) (by decide +kernel) (by decide +kernel), pm, M, rfl, hm.keep s45, fun nq' H6 s6 f6 e6 => ?_⟩
      have s46 := s45.trans s6
      refine ⟨nq', rfl, ⟨_, .of e6⟩, ?_⟩
      refine lcMD (R := RqAt) RqAt.keep' (F := id) (zs := M.rooms) e6 (by simp) (by simp; omega) (fun i x z H7 Yes hx hz s7 hy => ?_) (fun rq H7 s7 f7 e7 => ?_)
      · rw [List.getElem?_map, List.getElem?_map, hz] at hx
        obtain rfl : x = .str z.1 := by simpa using hx.symm
        have s47 := s46.trans s7
        walk_at "rd"
        refine ⟨_, rfl, pm, dx, _, rfl, s47 _ _ a, mno (by decide +kernel) (by decide +kernel) (by decide +kernel) (by decide +kernel), ?_⟩
        walk_at "rd"
        refine ⟨pm, M, z, rfl, hm.keep s47, List.mem_of_getElem? hz, ok.rnd, fun l H8 s8 f8 e8 => ?_⟩
        walk_at "rd"
        exact fun t H9 s9 f9 e9 => hy t H9 (s8.trans s9) fun D acc fD eD => ⟨l, del_at (fun y => by rw [y, s8 _ _ eD] at f9; cases f9) e9, (e8.keep s9).del (fun y => by rw [y, eD] at f8; cases f8) ((s8.trans s9) _ _ eD)⟩
      have e7 : RsAt H7 rq M.rooms := SeqD.seq RqAt.keep' (by simpa using e7)
      walk_at "rd"
      intro p dx' H8 s8 f8 e8
      have s48 := s5.trans (s6.trans (s7.trans s8))
      refine .inl ⟨p, dx', wq, rq, bl, cutM r M, rfl, e8, (s6.trans (s7.trans s8)) _ _ e5, e7.keep s8, DsAt.keep (sd.seq doorKeep) s48, ok.cut r, fun H9 off mach _ => ⟨rfl, ?_⟩⟩
      refine q1 p H9 (fun b o e => off.2 b o ((s4.trans s48) _ _ e) fun y => ?_) mach
      have := (s46.trans s7) _ _ e
      rw [y, f8] at this; cases this
def spLTold (K : PySem.W.Frag) (CM CD : Addr) : Sp := fun vs H Q _ => ∃ (pm : Addr) (M : MachD), vs = [.ref pm] ∧ MachAt CM CD H pm M ∧ MachOk M ∧ ∀ q H', Same H H' → TM H' q M → Q (.ref q) H'
theorem ok_l_told (T : Top K mg) : FnOk P w K mg base CX0 3 T.f_l_told T.d_l_told ["_law_machine_here"] (spLTold K T.C_Machine T.C_Door) := by
  refine T.F_l_told.ok sc_l_told (fun vs H Q E h => ?_) (fun cdv A outer s H vs Q E hr h => ?_)
  · obtain ⟨pm, M, rfl, _⟩ := h; rfl
  · obtain ⟨pm, M, rfl, hm, ok, q⟩ := h
    refine ⟨_, (pss_cons (lc_vsS (vs := [3]) (ps_setLc (i := 1) (own := [("_law_room", 3)]) (g := gName 3) (tt := tYes) rfl sc_l_told.nd rfl rfl (sw_true rfl rfl rfl (by decide +kernel)) (pi_listA (K := K) rfl (pe_meth0 (pv 0) T.cl_Machine T.m_Machine_rooms (ok_Machine_rooms T) (hr.mono (by decide)) T.b_Machine_rooms .nil pass0)) (blkOk_by (own := [("_law_room", 3)]) (N := ["_law_machine_here", "_law_rooms", "_law_doors", "_law_room", "_law_door_here"]) (sc := defScope s_l_told) (by decide +kernel)) (fun _ _ _ _ _ => (pg_name (i := 3) sc_l_told.nd rfl (.inl rfl))) (fun _ _ _ _ _ => pts_nil) (fun _ _ _ _ _ => (pe_tupN (pa_cons (pv 3) (pa_cons (pe_meth (pv 0) T.cl_Machine T.m_Machine_stay (ok_Machine_stay T) (hr.mono (by decide)) T.b_Machine_stay .nil pass0 (pa_cons (pv 3) pa_nil)) pa_nil))))) rfl)
      (pss_cons (lc_vsS (vs := [4]) (ps_setLc (i := 2) (own := [("_law_door_here", 4)]) (g := gName 4) (tt := tYes) rfl sc_l_told.nd rfl rfl (sw_true rfl rfl rfl (by decide +kernel)) (pi_listA (K := K) rfl (pe_meth0 (pv 0) T.cl_Machine T.m_Machine_doors (ok_Machine_doors T) (hr.mono (by decide)) T.b_Machine_doors .nil pass0)) (blkOk_by (own := [("_law_door_here", 4)]) (N := ["_law_machine_here", "_law_rooms", "_law_doors", "_law_room", "_law_door_here"]) (sc := defScope s_l_told) (by decide +kernel)) (fun _ _ _ _ _ => (pg_name (i := 4) sc_l_told.nd rfl (.inl rfl))) (fun _ _ _ _ _ => pts_nil) (fun _ _ _ _ _ => (pe_tupN (pa_cons (pe_fldA (K := K) rfl (pv 4) rfl) (pa_cons (pe_fldA (K := K) rfl (pv 4) rfl) (pa_cons (pe_meth0 (pv 4) T.cl_Door T.m_Door_asks (ok_Door_asks T) (hr.mono (by decide)) T.b_Door_asks .nil pass0) (pa_cons (pe_meth0 (pv 4) T.cl_Door T.m_Door_sets (ok_Door_sets T) (hr.mono (by decide)) T.b_Door_sets .nil pass0) (pa_cons (pe_fldA (K := K) rfl (pv 4) rfl) pa_nil)))))))) rfl)
      (pss_one (ps_ret (pe_tupN (pa_cons (pe_meth0 (pv 0) T.cl_Machine T.m_Machine_watches (ok_Machine_watches T) (hr.mono (by decide)) T.b_Machine_watches .nil pass0) (pa_cons (pv 1) (pa_cons (pv 2) pa_nil)))))))), ?_⟩
    obtain ⟨dx, wn, rn, sl, dl, a, _⟩ := id hm
    have r64 := ok.r64
    have w7 := ok.w7
    have d200 := ok.d200
    have mno : ∀ {m : Str}, ¬ m = "watch_names" → ¬ m = "room_names" → ¬ m = "stay_looks" → ¬ m = "door_list" → (machF wn rn sl dl).lookup m = none := fun h1 h2 h3 h4 => mach_no h1 h2 h3 h4
    refine seq_step ?_
    refine lcg_src ?_
    refine ⟨_, rfl, pm, dx, _, rfl, a, mno (by decide +kernel) (by decide +kernel) (by decide +kernel) (by decide +kernel), pm, M, rfl, hm, fun nq H1 s1 f1 e1 => ?_⟩
    refine ⟨nq, rfl, ⟨_, .of e1⟩, ?_⟩
    refine lcMD (R := RqAt) RqAt.keep' (F := id) (zs := M.rooms) e1 (by simp) (by simp; omega) (fun i x z H2 Yes hx hz s2 hy => ?_) (fun rq H2 s2 f2 e2 => ?_)
    · rw [List.getElem?_map, List.getElem?_map, hz] at hx
      obtain rfl : x = .str z.1 := by simpa using hx.symm
      have s12 := s1.trans s2
      walk_at "rd"
      refine ⟨_, rfl, pm, dx, _, rfl, s12 _ _ a, mno (by decide +kernel) (by decide +kernel) (by decide +kernel) (by decide +kernel), ?_⟩
      walk_at "rd"
      refine ⟨pm, M, z, rfl, hm.keep s12, List.mem_of_getElem? hz, ok.rnd, fun l H3 s3 f3 e3 => ?_⟩
      walk_at "rd"
      exact fun t H4 s4 f4 e4 => hy t H4 (s3.trans s4) fun D acc fD eD => ⟨l, del_at (fun y => by rw [y, s3 _ _ eD] at f4; cases f4) e4, (e3.keep s4).del (fun y => by rw [y, eD] at f3; cases f3) ((s3.trans s4) _ _ eD)⟩
    · have e2 : RsAt H2 rq M.rooms := SeqD.seq RqAt.keep' (by simpa using e2)
      have s12 := s1.trans s2
      walk_at "rd"
      refine seq_step ?_
      refine lcg_src ?_
      refine ⟨_, rfl, pm, dx, _, rfl, s12 _ _ a, mno (by decide +kernel) (by decide +kernel) (by decide +kernel) (by decide +kernel), pm, M, rfl, hm.keep s12, fun dq H3 dqs s3 f3 e3 l3 d3 => ?_⟩
      have d3 := d3 H s12 hm
      have s13 := s12.trans s3
      refine ⟨dq, rfl, ⟨_, .of e3⟩, ?_⟩
      refine lcMD (R := TDAt) TDAt.keep (F := id) (zs := M.doors) e3 (by simp [l3]) (by simp; omega) (fun i x z H4 Yes hx hz s4 hy => ?_) (fun tq H4 s4 f4 e4 => ?_)
      · rw [List.getElem?_map] at hx
        obtain ⟨qd, h1, rfl⟩ := Option.map_eq_some_iff.mp hx
        have dz := (d3 i qd z h1 hz).keep (s13.trans s4)
        obtain ⟨ddx, dg, dn, da, _⟩ := id dz
        have dno : ∀ {m : Str}, ¬ m = "start" → ¬ m = "end" → ¬ m = "sign" → ¬ m = "looks" → ¬ m = "backs" → (doorF z.st z.en z.sg dg dn).lookup m = none := fun h1 h2 h3 h4 h5 => door_no h1 h2 h3 h4 h5
        walk_at "rd"
        refine ⟨_, rfl, qd, _, ddx, _, _, rfl, da, T.cl_Door, T.n_Door_start, door_start, ?_⟩
        refine ⟨_, rfl, qd, _, ddx, _, _, rfl, da, T.cl_Door, T.n_Door_end, door_end, ?_⟩
        refine ⟨_, rfl, qd, ddx, _, rfl, da, dno (by decide +kernel) (by decide +kernel) (by decide +kernel) (by decide +kernel) (by decide +kernel), qd, z, rfl, dz, fun ga H5 s5 f5 e5 => ?_⟩
        refine ⟨_, rfl, qd, ddx, _, rfl, s5 _ _ da, dno (by decide +kernel) (by decide +kernel) (by decide +kernel) (by decide +kernel) (by decide +kernel), qd, z, rfl, dz.keep s5, fun na H6 s6 f6 e6 => ?_⟩
        refine ⟨_, rfl, qd, _, ddx, _, _, rfl, (s5.trans s6) _ _ da, T.cl_Door, T.n_Door_sign, door_sign, ?_⟩
        walk_at "rd"
        intro t H7 s7 f7 e7
        refine hy t H7 (s5.trans (s6.trans s7)) fun D acc fD eD => ⟨ga, na, del_at (fun y => by rw [y, (s5.trans s6) _ _ eD] at f7; cases f7) e7, (e5.keep (s6.trans s7)).del (fun y => by rw [y, eD] at f5; cases f5) ((s5.trans (s6.trans s7)) _ _ eD), del_at (fun y => by rw [y, s5 _ _ eD] at f6; cases f6) (s7 _ _ e6)⟩
      have e4 : SeqOf TDAt H4 tq M.doors := SeqD.seq TDAt.keep (by simpa using e4)
      have s14 := s13.trans s4
      walk_at "rd"
      refine ⟨_, rfl, pm, dx, _, rfl, s14 _ _ a, mno (by decide +kernel) (by decide +kernel) (by decide +kernel) (by decide +kernel), pm, M, rfl, hm.keep s14, fun wq H5 s5 f5 e5 => ?_⟩
      walk_at "rd"
      intro t H6 s6 f6 e6
      exact q t H6 (s14.trans (s5.trans s6)) ⟨wq, rq, tq, e6, s6 _ _ e5, e2.keep (s3.trans (s4.trans (s5.trans s6))), SeqOf.keep (fun _ _ => TDAt.keep _ _ _ _ (s5.trans s6)) (s5.trans s6) e4⟩
def spLPlain (K : PySem.W.Frag) : Sp := fun vs H Q _ => ∃ (ps : Addr) (S : Spec), vs = [.ref ps] ∧ SpecAt H ps S ∧ MadeOk S ∧ ∀ q H', Same H H' → TM H' q S.mach → Q (.ref q) H'
theorem ok_l_plain (T : Top K mg) : FnOk P w K mg base CX0 1 T.f_l_plain T.d_l_plain ["_law_spec"] (spLPlain K) := by
  refine T.F_l_plain.ok sc_l_plain (fun vs H Q E h => ?_) (fun cdv A outer s H vs Q E hr h => ?_)
  · obtain ⟨ps, S, rfl, _⟩ := h; rfl
  · obtain ⟨ps, S, rfl, hs, ok, q⟩ := h
    refine ⟨_, (pss_cons (ps_asg (pv 0) (pg_tupA (K := K) (n := 3) rfl (by rfl) (pgs_cons (pg_name (i := 1) sc_l_plain.nd rfl (.inl rfl)) (pgs_cons (pg_name (i := 2) sc_l_plain.nd rfl (.inl rfl)) (pgs_cons (pg_name (i := 3) sc_l_plain.nd rfl (.inl rfl)) pgs_nil)))))
      (pss_cons (ps_set (i := 4) sc_l_plain.nd rfl (.inl rfl) (pe_lstN pa_nil))
      (pss_cons (ps_for PassesOwn.never rfl (pi_listA (K := K) rfl (pv 3)) (pg_tupA (K := K) (n := 5) rfl (by rfl) (pgs_cons (pg_name (i := 5) sc_l_plain.nd rfl (.inl rfl)) (pgs_cons (pg_name (i := 6) sc_l_plain.nd rfl (.inl rfl)) (pgs_cons (pg_name (i := 7) sc_l_plain.nd rfl (.inl rfl)) (pgs_cons (pg_name (i := 8) sc_l_plain.nd rfl (.inl rfl)) (pgs_cons (pg_name (i := 9) sc_l_plain.nd rfl (.inl rfl)) pgs_nil)))))) (pss_one (ps_expr (pe_bm PySem.F.plainAttrs_list PySem.F.slot_list_append PySem.F.type_list_append mt_append (pv 4) (pa_cons (pe_tupN (pa_cons (pe_ix (ix_tupA (K := K) rfl) (pe_ix (ix_listA (K := K) rfl) (pv 2) (pv 5) (fun _ _ => rfl)) pe_int (fun _ _ => rfl)) (pa_cons (pe_ix (ix_tupA (K := K) rfl) (pe_ix (ix_listA (K := K) rfl) (pv 2) (pv 6) (fun _ _ => rfl)) pe_int (fun _ _ => rfl)) (pa_cons (pv 7) (pa_cons (pv 8) (pa_cons (pv 9) pa_nil)))))) pa_nil)))))
      (pss_one (ps_ret (pe_tupN (pa_cons (pv 1) (pa_cons (pv 2) (pa_cons (pv 4) pa_nil))))))))), ?_⟩
    obtain ⟨pw, pr, pd, es, hw, hr', hd⟩ := id hs
    obtain ⟨rqs, r1, r2, r3⟩ := id hr'
    obtain ⟨dqs, d1, d2, d3⟩ := id hd
    have r4 := ok.r4
    have d6 := ok.d6
    refine seq_step ?_
    walk_at "rd"
    refine gTup_of (sqt es) rfl ?_
    walk_at "rd"
    refine seq_step ?_
    walk_at "rd"
    intro bl H1 s1 f1 e1
    refine seq_step ?_
    refine for_li ?_
    walk_at "rd"
    have bne : ∀ b o, H b = some o → b ≠ bl := fun b o e z => by rw [← z, e] at f1; cases f1
    refine forL_by (xs := dqs.map V.ref) (fun i σ' H' => (∃ v5 v6 v7 v8 v9, σ' = [some (.ref ps), some (.ref pw), some (.ref pr), some (.ref pd), some (.ref bl), v5, v6, v7, v8, v9]) ∧ Same H H' ∧ SeqD TDAt H' bl ((S.doors.take i).map S.door)) ⟨⟨_, _, _, _, _, rfl⟩, s1, SeqD.nil e1⟩ (fun i σ H' _ ⟨_, k, _⟩ => .of (k _ _ d1)) ?_ ?_
    · rintro i x σ' H2 hi ⟨⟨v5, v6, v7, v8, v9, rfl⟩, s2, sd⟩
      rw [List.getElem?_map] at hi
      obtain ⟨qi, h1, rfl⟩ := Option.map_eq_some_iff.mp hi
      have hil := (List.getElem?_eq_some_iff.mp h1).1
      have hz := List.getElem?_eq_getElem (l := S.doors) (i := i) (by omega)
      have okz := ok.d _ (List.mem_of_getElem? hz)
      obtain ⟨g, n, e, hg, hn⟩ := d3 i qi _ h1 hz
      generalize S.doors[i] = z at *
      obtain ⟨rb, hb1, hb2⟩ := name_at okz.1
      obtain ⟨re, he1, he2⟩ := name_at okz.2
      obtain ⟨bqs, w1, w2, w3⟩ := id sd
      have hqb := List.getElem?_eq_getElem (l := rqs) (i := z.b) (by rw [r2]; exact okz.1)
      have hqe := List.getElem?_eq_getElem (l := rqs) (i := z.e) (by rw [r2]; exact okz.2)
      obtain ⟨gb, tb, _⟩ := r3 _ _ _ hqb hb1
      obtain ⟨ge, te', _⟩ := r3 _ _ _ hqe he1
      refine gTup_of (sqt (s2 _ _ e)) rfl ?_
      walk_at "rd"
      refine ⟨_, rfl, .inl ⟨rfl, _, .of w1⟩, ?_⟩
      walk_at "rd"
      refine ix_l (.of (s2 _ _ r1)) (by omega) (by rw [Int.toNat_natCast, List.getElem?_map, hqb]; rfl) ?_
      walk_at "rd"
      refine ix_t (sqt (s2 _ _ tb)) (by decide) rfl ?_
      walk_at "rd"
      refine ix_l (.of (s2 _ _ r1)) (by omega) (by rw [Int.toNat_natCast, List.getElem?_map, hqe]; rfl) ?_
      walk_at "rd"
      refine ix_t (sqt (s2 _ _ te')) (by decide) rfl ?_
      walk_at "rd"
      intro t H3 s3 f3 e3
      have s23 : Same H H3 := s2.trans s3
      have sdel : Same H (delH bl H3) := fun b o e => del_at (bne b o e) (s23 _ _ e)
      have dz : TDAt (delH bl H3) t (S.door z) := by
        refine ⟨g, n, del_at (fun y => by rw [y, w1] at f3; cases f3) ?_, hg.keep sdel, sdel _ _ hn⟩
        show H3 t = some (.tup [.str (S.name z.b), .str (S.name z.e), .ref g, .ref n, .str z.sg])
        rw [hb2, he2]; exact e3
      obtain ⟨items, it1, it2, it3⟩ := (sd.keep TDAt.keep s3).app TDAt.keep dz
      refine app_at it1 (by rw [it2, List.length_map, List.length_take]; omega) ?_
      walk_at "rd"
      refine ⟨⟨_, rfl⟩, same_updN f1 s23, ?_⟩
      rw [List.take_add_one, hz, List.map_append]
      exact it3
    · rintro σ' H2 ⟨⟨v5, v6, v7, v8, v9, rfl⟩, s2, sd⟩
      rw [List.length_map, d2, List.take_length] at sd
      walk_at "rd"
      intro t H3 s3 f3 e3
      exact q t H3 (s2.trans s3) ⟨pw, pr, bl, e3, (s2.trans s3) _ _ hw, hr'.keep (s2.trans s3), SeqD.seq TDAt.keep (sd.keep TDAt.keep s3)⟩
def spLMore (K : PySem.W.Frag) : Sp := fun vs H Q _ => ∃ (ps : Addr) (cell : Int) (S : Spec), vs = [.ref ps, .int cell] ∧ SpecAt H ps S ∧ SpecOk S ∧ ∀ (q : Addr) (H' : Hp) (xs : List Str), Same H H' → SpecAt H' q ⟨S.watches ++ xs, S.rooms, S.doors⟩ → (∀ x ∈ xs, okWatch x = true) → (S.watches ++ xs).length ≤ 7 → Q (.ref q) H'
theorem ok_l_more (T : Top K mg) : FnOk P w K mg base CX0 1 T.f_l_more T.d_l_more ["_law_spec", "_law_cell"] (spLMore K) := by
  refine T.F_l_more.ok sc_l_more (fun vs H Q E h => ?_) (fun cdv A outer s H vs Q E hr h => ?_)
  · obtain ⟨ps, cell, S, rfl, _⟩ := h; rfl
  · obtain ⟨ps, cell, S, rfl, hs, ok, q⟩ := h
    refine ⟨_, (pss_cons (ps_asg (pv 0) (pg_tupA (K := K) (n := 3) rfl (by rfl) (pgs_cons (pg_name (i := 2) sc_l_more.nd rfl (.inl rfl)) (pgs_cons (pg_name (i := 3) sc_l_more.nd rfl (.inl rfl)) (pgs_cons (pg_name (i := 4) sc_l_more.nd rfl (.inl rfl)) pgs_nil)))))
      (pss_cons (ps_if (pt_cmpR op_eq (pe_op op_modN (pv 1) pe_int) pe_int (nomark _)) (pss_one (ps_ret (pe_tupN (pa_cons (pe_op op_catN (pv 2) (pe_lstN (pa_cons pe_str pa_nil))) (pa_cons (pv 3) (pa_cons (pv 4) pa_nil)))))) pss_nil)
      (pss_cons (ps_if (pt_cmpR op_eq (pe_op op_modN (pv 1) pe_int) pe_int (nomark _)) (pss_one (ps_ret (pe_tupN (pa_cons (pe_op op_catN (pv 2) (pe_slice (sl_listA (K := K) rfl) (lc_vs (vs := [5]) (pe_lc (own := [("_law_watch", 5)]) (g := gName 5) (tt := tYes) rfl sc_l_more.nd (pi_listA (K := K) rfl (pe_lstN (pa_cons pe_str (pa_cons pe_str (pa_cons pe_str (pa_cons pe_str (pa_cons pe_str (pa_cons pe_str (pa_cons pe_str pa_nil))))))))) (blkOk_by (own := [("_law_watch", 5)]) (N := ["_law_spec", "_law_cell", "_law_watches", "_law_rooms", "_law_doors", "_law_watch"]) (sc := defScope s_l_more) (by decide +kernel)) (fun _ _ _ _ _ => (pg_name (i := 5) sc_l_more.nd rfl (.inl rfl))) (fun _ _ _ _ _ => pts_nil) (fun _ _ _ _ _ => (pe_op op_add_str (pv 5) pe_str))) rfl) (po_some (pe_callB call_len_seq (by rfl) T.m_len (by decide +kernel) (pa_cons (pv 2) pa_nil))) po_none)) (pa_cons (pv 3) (pa_cons (pv 4) pa_nil)))))) pss_nil)
      (pss_one (ps_ret (pv 0)))))), ?_⟩
    obtain ⟨pw, pr, pd, es, hw, hr', hd⟩ := id hs
    have w2 := ok.w2
    refine seq_step ?_
    walk_at "rd"
    refine gTup_of (sqt es) rfl ?_
    walk_at "rd"
    refine seq_step ?_
    walk_at "rd"
    refine ite_d (fun c => ?_) (fun c => ?_)
    · walk_at "rd"
      intro l1 H1 s1 f1 e1
      refine ⟨_, s1 _ _ hw, _, e1, small1000' (by rw [List.length_map]; simp; omega), fun l2 H2 s2 f2 e2 => ?_⟩
      walk_at "rd"
      intro t H3 s3 f3 e3
      have s13 := s1.trans (s2.trans s3)
      exact q t H3 [("/" : Str)] s13 ⟨l2, pr, pd, e3, (s3 _ _ e2).trans (by rw [List.map_append]; rfl), hr'.keep s13, SeqOf.keep (fun _ _ => LDoorAt.keep s13) s13 hd⟩ (fun x hx => by
        have : x = "/" := by simpa using hx
        rw [this]; decide +kernel) (by simp; omega)
    · walk_at "rd"
      refine seq_step ?_
      walk_at "rd"
      refine ite_d (fun c => ?_) (fun c => ?_)
      · walk_at "rd"
        refine lcg_src ?_
        walk_at "rd"
        intro l1 H1 s1 f1 e1
        refine ⟨⟨_, .of e1⟩, ?_⟩
        refine lcF (F := fun c : Str => V.str (c ++ ("z" : Str))) (zs := ["a", "b", "c", "d", "e", "f", "g"]) e1 rfl (by decide) (fun i x z H2 Yes hx hz s2 hy => ?_) (fun l2 H2 s2 f2 e2 => ?_)
        · have hm := List.mem_of_getElem? hz
          have hxz : x = V.str z := by
            have : (([("a" : Str), "b", "c", "d", "e", "f", "g"] : List Str).map V.str)[i]? = some x := hx
            rw [List.getElem?_map, hz] at this
            simpa using this.symm
          subst hxz
          walk_at "rd"
          have hl : z.length ≤ 1 := (by decide +kernel : ∀ z ∈ ([("a" : Str), "b", "c", "d", "e", "f", "g"] : List Str), z.length ≤ 1) z hm
          refine ⟨_, rfl, _, rfl, small1000' (by rw [show (Str.ofString "z").length = 1 by decide +kernel]; omega), hy H2 (Same.refl _)⟩
        · have s12 := s1.trans s2
          have hw2 := s12 _ _ hw
          walk_at "rd"
          refine ⟨_, .inl (.of hw2), _, .of e2, fun l3 H3 s3 f3 e3 => ?_⟩
          rw [List.length_map, cut_from (by simp; omega)] at e3
          refine ⟨_, s3 _ _ hw2, _, e3, small1000' (by rw [List.length_map, List.length_drop]; simp; omega), fun l4 H4 s4 f4 e4 => ?_⟩
          walk_at "rd"
          intro t H5 s5 f5 e5
          have s15 := s12.trans (s3.trans (s4.trans s5))
          refine q t H5 ((([("a" : Str), "b", "c", "d", "e", "f", "g"] : List Str).map fun c => c ++ ("z" : Str)).drop S.watches.length) s15 ⟨l4, pr, pd, e5, (s5 _ _ e4).trans ?_, hr'.keep s15, SeqOf.keep (fun _ _ => LDoorAt.keep s15) s15 hd⟩ (fun x hx => ?_) (by rw [List.length_append, List.length_drop]; simp; omega)
          · rw [List.map_append, List.map_drop, List.map_map]; rfl
          · exact (by decide +kernel : ∀ x ∈ ([("a" : Str), "b", "c", "d", "e", "f", "g"] : List Str).map fun c => c ++ ("z" : Str), okWatch x = true) x (List.mem_of_mem_drop hx)
      · walk_at "rd"
        exact q ps H [] (Same.refl _) (by rw [List.append_nil]; exact hs) (fun x hx => by cases hx) (by simp; omega)
def spLRefused (K : PySem.W.Frag) (CM CD : Addr) : Sp := fun vs H Q _ => ∃ (pm : Addr) (M : MachD) (r : Str) (wh : Int), vs = [.int wh, .ref pm, .str r] ∧ MachAt CM CD H pm M ∧ MachOk M ∧ ((wh = 0 ∧ areW (longW M.watches) = false ∧ ∀ H', Same H H' → Q (.str "machine") H') ∨ (wh = 1 ∧ r.length ≤ 1000 ∧ r ∉ M.rooms.map (·.1) ∧ ∀ H', Same H H' → Q (.str "mark") H'))
theorem ok_l_refused (T : Top K mg) : FnOk P w K mg base CX0 9 T.f_l_refused T.d_l_refused ["_law_which", "_law_machine_here", "_law_room"] (spLRefused K T.C_Machine T.C_Door) := by
  refine T.F_l_refused.ok sc_l_refused (fun vs H Q E h => ?_) (fun cdv A outer s H vs Q E hr h => ?_)
  · obtain ⟨pm, M, r, wh, rfl, _⟩ := h; rfl
  · obtain ⟨pm, M, r, wh, rfl, hm, ok, q⟩ := h
    refine ⟨_, (pss_cons (ps_set (i := 3) sc_l_refused.nd rfl (.inl rfl) pe_str)
      (pss_cons (ps_set (i := 4) sc_l_refused.nd rfl (.inl rfl) pe_bl)
      (pss_cons (ps_try_named (i := 5) rfl rfl sc_l_refused.nd rfl rfl takes0 (fun W pn xe tk _ => (pss_one (ps_if (pt_cmpR op_eq (pv 0) pe_int (nomark _)) (pss_one (ps_expr (pe_callS (ok_with_long T) (hr.mono (by decide)) rfl T.g_with_long T.F_with_long.kp T.b_with_long (fun σ => passAt tk σ) (pa_cons (pv 1) pa_nil)))) (pss_one (ps_expr (pe_callS (ok_cut_off T) (hr.mono (by decide)) rfl T.g_cut_off T.F_cut_off.kp T.b_cut_off (fun σ => passAt tk σ) (pa_cons (pv 1) (pa_cons (pv 2) pa_nil)))))))) (.cons ⟨rfl, by decide, .inl T.g_BadMachine⟩ (fun a oe cls d pn hz hf => (pss_cons (ps_set (i := 3) sc_l_refused.nd rfl (.inl rfl) pe_str)
      (pss_one (ps_set (i := 4) sc_l_refused.nd rfl (.inl rfl) (pe_and (pe_callB (call_isE2 hz hf) (by rfl) T.m_isinstance (by decide +kernel) (pa_cons (pv 5) (pa_cons (pe_glob (v := .ref T.C_WalkError) rfl T.g_WalkError rfl) pa_nil))) (pe_and (pe_callB (call_isE2 hz hf) (by rfl) T.m_isinstance (by decide +kernel) (pa_cons (pv 5) (pa_cons (pe_bltn (v := .ty "ValueError") (u := .type "ValueError") (by rfl) T.m_ValueError (by decide +kernel) rfl) pa_nil))) (pe_one (pe_not (pe_callB (call_isET hz hf) (by rfl) T.m_isinstance (by decide +kernel) (pa_cons (pv 5) (pa_cons (pe_tupN (pa_cons (pe_glob (v := .ref T.C_NoMark) rfl T.g_NoMark rfl) (pa_cons (pe_glob (v := .ref T.C_TooMany) rfl T.g_TooMany rfl) pa_nil))) pa_nil))))))))))) (.cons ⟨rfl, by decide, .inl T.g_NoMark⟩ (fun a oe cls d pn hz hf => (pss_cons (ps_set (i := 3) sc_l_refused.nd rfl (.inl rfl) pe_str)
      (pss_one (ps_set (i := 4) sc_l_refused.nd rfl (.inl rfl) (pe_and (pe_callB (call_isE2 hz hf) (by rfl) T.m_isinstance (by decide +kernel) (pa_cons (pv 5) (pa_cons (pe_glob (v := .ref T.C_WalkError) rfl T.g_WalkError rfl) pa_nil))) (pe_one (pe_not (pe_callB (call_isET hz hf) (by rfl) T.m_isinstance (by decide +kernel) (pa_cons (pv 5) (pa_cons (pe_tupN (pa_cons (pe_glob (v := .ref T.C_BadMachine) rfl T.g_BadMachine rfl) (pa_cons (pe_glob (v := .ref T.C_NoRoom) rfl T.g_NoRoom rfl) pa_nil))) pa_nil)))))))))) .nil)))
      (pss_cons (ps_if (pt_val (pv 4)) (pss_one (ps_ret (pv 3))) pss_nil)
      (pss_one (ps_ret pe_str)))))), ?_⟩
    have XB : ExcC K T.C_BadMachine := ⟨T.e1_BadMachine, T.e2_BadMachine, T.b_BadMachine, T.e4_BadMachine, T.e5_BadMachine, T.e6_, T.e7_, T.e8_BadMachine⟩
    have XN : ExcC K T.C_NoMark := ⟨T.e1_NoMark, T.e2_NoMark, T.b_NoMark, T.e4_NoMark, T.e5_NoMark, T.e6_, T.e7_, T.e8_NoMark⟩
    refine seq_step ?_
    walk_at "rd"
    refine seq_step ?_
    walk_at "rd"
    refine seq_step ?_
    walk_at "rd"
    rcases q with ⟨rfl, bad, q⟩ | ⟨rfl, r1000, nr, q⟩
    · walk_at "rd"
      refine ⟨pm, M, rfl, hm, ok, (fun c => by rw [bad] at c; cases c), fun _ H1 s1 => ?_⟩
      refine ⟨true, exm_two T.b_BadMachine T.e4_BadMachine T.t_BadMachine T.s_BadMachine_BadMachine, fun _ a ha => ?_, fun z => nomatch z⟩
      walk_at "rd"
      refine seq_step ?_
      walk_at "rd"
      refine ⟨_, rfl, XB, _, .ref T.C_WalkError, _, rfl, (fun _ e => e), T.k_BadMachine_WalkError, ?_⟩
      walk_at "rd"
      refine ⟨_, rfl, XB, _, .type "ValueError", _, rfl, (fun _ e => e), T.k_BadMachine_v, ?_⟩
      walk_at "rd"
      intro t H2 s2 f2 e2
      refine ⟨_, rfl, XB, _, e2, _, .cons (.own _) (.cons (.own _) .nil), false, kitAny_cons T.k_BadMachine_NoMark (fun _ => kitAny_cons T.k_BadMachine_TooMany (fun _ => kitAny_nil) (fun z => nomatch z)) (fun z => nomatch z), ?_⟩
      walk_at "rd"
      refine seq_step ?_
      walk_at "rd"
      exact q _ (s1.trans s2)
    · walk_at "rd"
      refine ⟨pm, M, r, rfl, hm, ok, r1000, (fun c => absurd c nr), fun _ H1 s1 => ?_⟩
      refine ⟨false, exm_two T.b_BadMachine T.e4_BadMachine T.t_BadMachine T.s_NoMark_BadMachine, (fun z => nomatch z), fun _ => ?_⟩
      refine ⟨true, exm_two T.b_NoMark T.e4_NoMark T.t_NoMark T.s_NoMark_NoMark, fun _ a ha => ?_, fun z => nomatch z⟩
      walk_at "rd"
      refine seq_step ?_
      walk_at "rd"
      refine ⟨_, rfl, XN, _, .ref T.C_WalkError, _, rfl, (fun _ e => e), T.k_NoMark_WalkError, ?_⟩
      walk_at "rd"
      intro t H2 s2 f2 e2
      refine ⟨_, rfl, XN, _, e2, _, .cons (.own _) (.cons (.own _) .nil), false, kitAny_cons T.k_NoMark_BadMachine (fun _ => kitAny_cons T.k_NoMark_NoRoom (fun _ => kitAny_nil) (fun z => nomatch z)) (fun z => nomatch z), ?_⟩
      walk_at "rd"
      refine seq_step ?_
      walk_at "rd"
      exact q _ (s1.trans s2)
def spLaw (K : PySem.W.Frag) : Sp := fun vs H Q _ => ∃ (a : Addr) (ns : List Int), vs = [.ref a] ∧ SqL K H a (ns.map V.int) ∧ ns.length ≤ 63 ∧ ∀ H', Q (.bl true) H'
theorem more_made {S : Spec} {xs : List Str} (ok : SpecOk S) (hx : ∀ x ∈ xs, okWatch x = true) (h7 : (S.watches ++ xs).length ≤ 7) (nd : (S.watches ++ xs).Nodup) : MadeOk ⟨S.watches ++ xs, S.rooms, S.doors⟩ :=
  ⟨ok.r4, ok.d6, fun d hd => ⟨(ok.d d hd).1, (ok.d d hd).2.1⟩, ok.mach.more (W := S.watches ++ xs) (fun x hx => List.mem_append_left _ hx) (areW_iff.mpr ⟨h7, fun x h => (List.mem_append.mp h).elim (fun h => ok.mach.watch x h) (hx x), nd⟩)⟩
theorem ok_law (T : Top K mg) : FnOk P w K mg base CX0 10 T.f_law T.d_law ["_law_script"] (spLaw K) := by
  refine T.F_law.ok sc_law (fun vs H Q E h => ?_) (fun cdv A outer s H vs Q E hr h => ?_)
  · obtain ⟨a, ns, rfl, _⟩ := h; rfl
  · obtain ⟨a, cs, rfl, hS, h63, q⟩ := h
    refine ⟨_, (pss_cons (ps_set (i := 1) sc_law.nd rfl (.inl rfl) (pe_call (ok_l_cell_at T) (hr.mono (by decide)) rfl T.g_l_cell_at T.F_l_cell_at.kp T.b_l_cell_at .nil pass0 (pa_cons (pv 0) (pa_cons pe_int pa_nil))))
      (pss_cons (ps_set (i := 2) sc_law.nd rfl (.inl rfl) (pe_call (ok_l_more T) (hr.mono (by decide)) rfl T.g_l_more T.F_l_more.kp T.b_l_more .nil pass0 (pa_cons (pe_call (ok_l_machine T) (hr.mono (by decide)) rfl T.g_l_machine T.F_l_machine.kp T.b_l_machine .nil pass0 (pa_cons (pv 0) pa_nil)) (pa_cons (pv 1) pa_nil))))
      (pss_cons (ps_asg (pv 2) (pg_tupA (K := K) (n := 3) rfl (by rfl) (pgs_cons (pg_name (i := 3) sc_law.nd rfl (.inl rfl)) (pgs_cons (pg_name (i := 4) sc_law.nd rfl (.inl rfl)) (pgs_cons (pg_name (i := 5) sc_law.nd rfl (.inl rfl)) pgs_nil)))))
      (pss_cons (ps_if (pt_cmpR op_ne (pe_lenSetN rfl (by rfl) T.m_len (by rfl) T.m_set (pv 3)) (pe_callB call_len_seq (by rfl) T.m_len (by decide +kernel) (pa_cons (pv 3) pa_nil)) (nomark _)) (pss_one (ps_ret pe_bl)) pss_nil)
      (pss_cons (ps_set (i := 6) sc_law.nd rfl (.inl rfl) (pe_call (ok_l_made T) (hr.mono (by decide)) rfl T.g_l_made T.F_l_made.kp T.b_l_made .nil pass0 (pa_cons (pv 2) pa_nil)))
      (pss_cons (ps_set (i := 7) sc_law.nd rfl (.inl rfl) (pe_call (ok_l_plain T) (hr.mono (by decide)) rfl T.g_l_plain T.F_l_plain.kp T.b_l_plain .nil pass0 (pa_cons (pv 2) pa_nil)))
      (pss_cons (ps_if (PW.pt (pw_or (pt_cmpR (op_in_seqA (K := K) rfl) pe_str (pv 3) (by rfl)) (pw_or1 (pt_cmpR op_gt (pe_callB call_len_seq (by rfl) T.m_len (by decide +kernel) (pa_cons (pv 3) pa_nil)) pe_int (nomark _))))) (pss_one (ps_if (pt_cmpR op_ne (pe_call (ok_l_refused T) (hr.mono (by decide)) rfl T.g_l_refused T.F_l_refused.kp T.b_l_refused .nil pass0 (pa_cons pe_int (pa_cons (pv 6) (pa_cons pe_str pa_nil)))) pe_str (nomark _)) (pss_one (ps_ret pe_bl)) pss_nil)) (pss_cons (ps_set (i := 8) sc_law.nd rfl (.inl rfl) (pe_call (ok_l_told T) (hr.mono (by decide)) rfl T.g_l_told T.F_l_told.kp T.b_l_told .nil pass0 (pa_cons (pe_call (ok_with_long T) (hr.mono (by decide)) rfl T.g_with_long T.F_with_long.kp T.b_with_long .nil passL (pa_cons (pv 6) pa_nil)) pa_nil)))
      (pss_one (ps_if (pt_cmpR (op_neD hr.units) (pv 8) (pe_tupN (pa_cons (pe_op op_catN (pv 3) (pe_lstN (pa_cons pe_str pa_nil))) (pa_cons (pe_ix (ix_tupA (K := K) rfl) (pv 7) pe_int (fun _ _ => rfl)) (pa_cons (pe_ix (ix_tupA (K := K) rfl) (pv 7) pe_int (fun _ _ => rfl)) pa_nil)))) (nomark _)) (pss_one (ps_ret pe_bl)) pss_nil))))
      (pss_cons (ps_set (i := 9) sc_law.nd rfl (.inl rfl) (pe_ix (ix_tupA (K := K) rfl) (pe_ix (ix_listA (K := K) rfl) (pv 4) (pe_op op_modN (pe_op op_fdivZ (pv 1) pe_int) (pe_callB call_len_seq (by rfl) T.m_len (by decide +kernel) (pa_cons (pv 4) pa_nil))) (fun _ _ => rfl)) pe_int (fun _ _ => rfl)))
      (pss_cons (ps_set (i := 10) sc_law.nd rfl (.inl rfl) (pe_lstN pa_nil))
      (pss_cons (ps_for PassesOwn.never rfl (pi_listA (K := K) rfl (pe_ix (ix_tupA (K := K) rfl) (pv 7) pe_int (fun _ _ => rfl))) (pg_tupA (K := K) (n := 5) rfl (by rfl) (pgs_cons (pg_name (i := 11) sc_law.nd rfl (.inl rfl)) (pgs_cons (pg_name (i := 12) sc_law.nd rfl (.inl rfl)) (pgs_cons (pg_name (i := 13) sc_law.nd rfl (.inl rfl)) (pgs_cons (pg_name (i := 14) sc_law.nd rfl (.inl rfl)) (pgs_cons (pg_name (i := 15) sc_law.nd rfl (.inl rfl)) pgs_nil)))))) (pss_cons (ps_if (PW.pt (pw_or (pt_cmpR op_eq (pv 11) (pv 9) (nomark _)) (pw_or1 (pt_cmpR op_eq (pv 12) (pv 9) (nomark _))))) (pss_one (ps_set (i := 15) sc_law.nd rfl (.inl rfl) pe_str)) pss_nil)
      (pss_one (ps_expr (pe_bm PySem.F.plainAttrs_list PySem.F.slot_list_append PySem.F.type_list_append mt_append (pv 10) (pa_cons (pe_tupN (pa_cons (pv 11) (pa_cons (pv 12) (pa_cons (pv 13) (pa_cons (pv 14) (pa_cons (pv 15) pa_nil)))))) pa_nil))))))
      (pss_cons (ps_if (pt_cmpR (op_neD hr.units) (pe_call (ok_l_told T) (hr.mono (by decide)) rfl T.g_l_told T.F_l_told.kp T.b_l_told .nil pass0 (pa_cons (pe_call (ok_cut_off T) (hr.mono (by decide)) rfl T.g_cut_off T.F_cut_off.kp T.b_cut_off .nil passL (pa_cons (pv 6) (pa_cons (pv 9) pa_nil))) pa_nil)) (pe_tupN (pa_cons (pv 3) (pa_cons (pe_ix (ix_tupA (K := K) rfl) (pv 7) pe_int (fun _ _ => rfl)) (pa_cons (pv 10) pa_nil)))) (nomark _)) (pss_one (ps_ret pe_bl)) pss_nil)
      (pss_cons (ps_if (pt_cmpR op_ne (pe_call (ok_l_refused T) (hr.mono (by decide)) rfl T.g_l_refused T.F_l_refused.kp T.b_l_refused .nil pass0 (pa_cons pe_int (pa_cons (pv 6) (pa_cons (pe_op op_add_str (pv 9) pe_str) pa_nil)))) pe_str (nomark _)) (pss_one (ps_ret pe_bl)) pss_nil)
      (pss_one (ps_ret (pe_cmpR (op_eqD hr.units) (pe_call (ok_l_told T) (hr.mono (by decide)) rfl T.g_l_told T.F_l_told.kp T.b_l_told .nil pass0 (pa_cons (pv 6) pa_nil)) (pv 7) (nomark _)))))))))))))))), ?_⟩
    refine seq_step ?_
    walk_at "rd"
    refine ⟨a, cs, 12, rfl, hS, by decide, ?_⟩
    generalize cs.getD (12 : Int).toNat 0 = cell
    walk_at "rd"
    refine seq_step ?_
    walk_at "rd"
    refine ⟨a, cs, rfl, hS, h63, fun ps0 H1 S0 s1 hs0 ok0 => ?_⟩
    refine ⟨ps0, cell, S0, rfl, hs0, ok0, fun ps H2 xs s2 hs hxs h7 => ?_⟩
    have more := more_made ok0 hxs h7
    have room0 : ∃ n, ∀ x ∈ S0.rooms.map (·.1), x.length = n := ok0.r.2.2.2
    have r1 := ok0.r1
    have r4 := ok0.r4
    obtain ⟨S, hSw⟩ : ∃ S : Spec, S = ⟨S0.watches ++ xs, S0.rooms, S0.doors⟩ := ⟨_, rfl⟩
    have er : S0.rooms = S.rooms := by rw [hSw]
    have ew : S0.watches ++ xs = S.watches := by rw [hSw]
    rw [← hSw] at more hs
    rw [er] at room0 r1 r4
    rw [ew] at h7 more
    walk_at "rd"
    refine seq_step ?_
    walk_at "rd"
    obtain ⟨pw, pr, pd, es, hw, hr', hd⟩ := id hs
    refine gTup_of (sqt es) rfl ?_
    walk_at "rd"
    refine seq_step ?_
    walk_at "rd"
    refine ⟨_, rfl, pw, S.watches, rfl, .of hw, by unfold scanBound; omega, fun c hc hdn => ?_⟩
    refine ⟨_, .inl (.of hw), rfl, ?_⟩
    rw [List.length_map]
    by_cases nd : S.watches.Nodup
    rotate_left
    · refine if_t ?_ (q H2)
      rw [decide_eq_false (fun e => nd (hdn.mp (by injection e with e; omega)))]; rfl
    refine if_f ?_ ?_
    · rw [hdn.mpr nd, decide_eq_true rfl]; rfl
    have made : MadeOk S := more nd
    have mok := made.mach
    have s12 := s1.trans s2
    refine seq_step ?_
    walk_at "rd"
    refine ⟨ps, S, rfl, hs, made, fun pm H3 s3 hm => ?_⟩
    walk_at "rd"
    refine seq_step ?_
    walk_at "rd"
    refine ⟨ps, S, rfl, SpecAt.keep s3 hs, made, fun pp H4 s4 hp => ?_⟩
    obtain ⟨ppw, ppr, ppd, ep, hp1, hp2, hp3⟩ := id hp
    walk_at "rd"
    have s34 := s3.trans s4
    refine join_op (fun σ' H' => (∃ v8, σ' = [some (.ref a), some (.int cell), some (.ref ps), some (.ref pw), some (.ref pr), some (.ref pd), some (.ref pm), some (.ref pp), v8, none, none, none, none, none, none, none]) ∧ Same H4 H') ?r1 (fun R' way => ?_)
    case r1 =>
      rintro σ' H5 ⟨⟨v8, rfl⟩, s5⟩
      have s45 := s34.trans s5
      obtain ⟨rqs, q1, q2, q3⟩ := id hr'
      obtain ⟨pdqs, pd1, pd2, pd3⟩ := id hp3
      have d6 := made.d6
      walk_at "rd"
      refine seq_step ?_
      walk_at "rd"
      refine ⟨_, .inl (.of (s45 _ _ q1)), ?_⟩
      rw [List.length_map, q2]
      refine ⟨by omega, ?_⟩
      have mr := fm_pos (c := cell.fdiv 8) (m := (S.rooms.length : Int)) (by omega)
      generalize (cell.fdiv 8).fmod (S.rooms.length : Int) = ri at *
      have hri : ri.toNat < S.rooms.length := by omega
      have hqr := List.getElem?_eq_getElem (l := rqs) (i := ri.toNat) (by omega)
      have hzr := List.getElem?_eq_getElem hri
      obtain ⟨g0, t0, _⟩ := q3 _ _ _ hqr hzr
      refine ix_l (.of (s45 _ _ q1)) mr.1 (by rw [List.getElem?_map, hqr]; rfl) ?_
      refine ix_t (sqt (s45 _ _ t0)) (by decide) rfl ?_
      have hmem : (S.rooms[ri.toNat]).1 ∈ S.mach.rooms.map (·.1) := List.mem_map_of_mem (List.mem_of_getElem? hzr)
      have hlen : (S.rooms[ri.toNat]).1.length ≤ 60 := (room_ok mok.watch (List.all_eq_true.mp mok.rok _ (List.mem_of_getElem? hzr))).1
      generalize (S.rooms[ri.toNat]).1 = r at *
      refine seq_step ?_
      walk_at "rd"
      intro cl H6 s6 f6 e6
      refine seq_step ?_
      refine for_li ?_
      walk_at "rd"
      refine ix_t (sqt ((s5.trans s6) _ _ ep)) (by decide) rfl ?_
      have bne : ∀ b o, H5 b = some o → b ≠ cl := fun b o e z => by rw [← z, e] at f6; cases f6
      refine ⟨ppd, rfl, forL_by (xs := pdqs.map V.ref) (fun i σ' H' => (∃ v11 v12 v13 v14 v15, σ' = [some (.ref a), some (.int cell), some (.ref ps), some (.ref pw), some (.ref pr), some (.ref pd), some (.ref pm), some (.ref pp), v8, some (.str r), some (.ref cl), v11, v12, v13, v14, v15]) ∧ Same H5 H' ∧ SeqD TDAt H' cl ((S.mach.doors.take i).map (cutD r))) ⟨⟨_, _, _, _, _, rfl⟩, s6, SeqD.nil e6⟩ (fun i σ H' _ ⟨_, k, _⟩ => .of ((s5.trans k) _ _ pd1)) ?_ ?_⟩
      · rintro i x σ' H7 hi ⟨⟨v11, v12, v13, v14, v15, rfl⟩, s7, sd⟩
        rw [List.getElem?_map] at hi
        obtain ⟨qi, h1, rfl⟩ := Option.map_eq_some_iff.mp hi
        have hil := (List.getElem?_eq_some_iff.mp h1).1
        have hz := List.getElem?_eq_getElem (l := S.mach.doors) (i := i) (by omega)
        obtain ⟨g, n, e, hg, hn⟩ := TDAt.keep _ _ _ _ s5 (pd3 i qi _ h1 hz)
        have tk : (S.mach.doors.take (i + 1)).map (cutD r) = (S.mach.doors.take i).map (cutD r) ++ [cutD r S.mach.doors[i]] := by rw [List.take_add_one, hz, List.map_append]; rfl
        generalize S.mach.doors[i] = z at *
        refine gTup_of (sqt (s7 _ _ e)) rfl ?_
        walk_at "rd"
        refine join_op (fun σ' H' => σ' = [some (.ref a), some (.int cell), some (.ref ps), some (.ref pw), some (.ref pr), some (.ref pd), some (.ref pm), some (.ref pp), v8, some (.str r), some (.ref cl), some (.str z.st), some (.str z.en), some (.ref g), some (.ref n), some (.str (cutD r z).sg)] ∧ H' = H7) ?r2 (fun R' way2 => ?_)
        case r2 =>
          rintro σ' H8 ⟨rfl, rfl⟩
          obtain ⟨bqs, w1, _⟩ := id sd
          walk_at "rd"
          refine ⟨_, rfl, .inl ⟨rfl, _, .of w1⟩, ?_⟩
          walk_at "rd"
          intro t H9 s9 f9 e9
          have s59 := s7.trans s9
          have sdel : Same H5 (delH cl H9) := fun b o e => del_at (bne b o e) (s59 _ _ e)
          have dz : TDAt (delH cl H9) t (cutD r z) := by
            refine ⟨g, n, del_at (fun y => by rw [y, w1] at f9; cases f9) ?_, ?_, ?_⟩
            · rw [cutD_st, cutD_en]; exact e9
            · rw [cutD_looks]; exact hg.keep sdel
            · rw [cutD_backs]; exact sdel _ _ hn
          obtain ⟨items, it1, it2, it3⟩ := (sd.keep TDAt.keep s9).app TDAt.keep dz
          have dl : S.mach.doors.length = S.doors.length := List.length_map ..
          refine app_at it1 (by rw [it2, List.length_map, List.length_take]; omega) ?_
          walk_at "rd"
          refine ⟨by first | rfl | exact ⟨_, rfl⟩, same_updN f6 s59, ?_⟩
          rw [tk]; exact it3
        have yes : r = z.st ∨ r = z.en → (cutD r z).sg = ("cut!" : Str) := fun h => by unfold cutD; rw [if_pos h]
        have no : ¬ r = z.st → ¬ r = z.en → (cutD r z).sg = z.sg := fun h k => by unfold cutD; rw [if_neg (fun y => y.elim h k)]
        refine seq_step ?_
        walk_at "rd"
        refine ite_d (fun c => ?_) (fun c => ?_)
        · refine way2 _ _ ⟨?_, rfl⟩
          rw [yes (.inl (by injection c with c; exact c.symm))]
        · walk_at "rd"
          refine ite_d (fun c2 => ?_) (fun c2 => ?_)
          · refine way2 _ _ ⟨?_, rfl⟩
            rw [yes (.inr (by injection c2 with c2; exact c2.symm))]
          · refine way2 _ _ ⟨?_, rfl⟩
            rw [no (fun h => c (by rw [h])) (fun h => c2 (by rw [h]))]
      · rintro σ' H7 ⟨⟨v11, v12, v13, v14, v15, rfl⟩, s7, sd⟩
        rw [List.length_map, pd2, List.take_length] at sd
        walk_at "rd"
        have s47 := s5.trans s7
        refine seq_step ?_
        walk_at "rd"
        refine ⟨pm, S.mach, r, rfl, hm.keep (s4.trans s47), mok, by omega, (fun _ q2 H8 s8 hq2 => ?_), (fun c => absurd hmem c)⟩
        refine ⟨q2, cutM r S.mach, rfl, hq2, mok.cut r, fun qt H9 s9 ht => ?_⟩
        have s49 := s47.trans (s8.trans s9)
        refine ix_t (sqt (s49 _ _ ep)) (by decide) rfl ?_
        intro t Ha sa fa ea
        have s4a := s49.trans sa
        have s7a := (s8.trans s9).trans sa
        have ht2 : TM Ha t (cutM r S.mach) := ⟨pw, ppr, cl, ea, ((s34.trans s4a) _ _ hw), hp2.keep s4a, SeqD.seq TDAt.keep (sd.keep TDAt.keep s7a)⟩
        refine ⟨_, _, dp_tm (ht.keep sa), dp_tm ht2, shaped_mdat (mok.cut r), shaped_mdat (mok.cut r), ?_⟩
        rw [SeqAt.eqv_refl _ (lay_mdat (mok.cut r)).1]
        walk_at "rd"
        refine seq_step ?_
        walk_at "rd"
        have xl : (r ++ ("x" : Str)).length = r.length + 1 := by
          show (r.cps ++ ("x" : Str).cps).size = _
          rw [Array.size_append]; rfl
        have notin : (r ++ ("x" : Str)) ∉ S.mach.rooms.map (·.1) := fun h => by
          obtain ⟨n, hn⟩ := room0
          have e1 := hn _ h
          have e2 := hn r hmem
          omega
        refine ⟨_, rfl, _, rfl, small1000' (by rw [show (Str.ofString "x").length = 1 by decide +kernel]; omega), pm, S.mach, r ++ ("x" : Str), 1, rfl, hm.keep (s4.trans s4a), mok, .inr ⟨rfl, by rw [xl]; omega, notin, fun Hb sb => ?_⟩⟩
        walk_at "rt"
        refine ⟨pm, S.mach, rfl, hm.keep (s4.trans (s4a.trans sb)), mok, fun q3 Hc sc h3 => ?_⟩
        refine ⟨_, _, dp_tm h3, dp_tm (hp.keep (s4a.trans (sb.trans sc))), shaped_mdat mok, shaped_mdat mok, ?_⟩
        rw [SeqAt.eqv_refl _ (lay_mdat mok).1]
        walk_at "rd"
        exact q _
    refine seq_step ?_
    walk_at "rd"
    refine ⟨pw, _, rfl, .inl (.of (s34 _ _ hw)), rfl, flat_of, ?_⟩
    rw [inV_str]
    by_cases c1 : ("/" : Str) ∈ S.watches
    · rw [decide_eq_true c1]
      walk_at "rd"
      refine ⟨pm, S.mach, "", 0, rfl, hm.keep s4, mok, .inl ⟨rfl, areW_long_no (.inl c1), fun H5 s5 => ?_⟩⟩
      walk_at "rt"
      exact way _ _ ⟨⟨_, rfl⟩, s5⟩
    · rw [decide_eq_false c1]
      walk_at "rd"
      refine ⟨_, .inl (.of (s34 _ _ hw)), ?_⟩
      rw [List.length_map]
      refine ite_d (fun c2 => ?_) (fun c2 => ?_)
      · walk_at "rd"
        refine ⟨pm, S.mach, "", 0, rfl, hm.keep s4, mok, .inl ⟨rfl, areW_long_no (.inr (show 6 < S.watches.length by omega)), fun H5 s5 => ?_⟩⟩
        walk_at "rt"
        exact way _ _ ⟨⟨_, rfl⟩, s5⟩
      · have al : areW (longW S.mach.watches) = true := areW_long mok.areW c1 (show S.watches.length ≤ 6 by omega)
        refine seq_step ?_
        walk_at "rd"
        refine ⟨pm, S.mach, rfl, hm.keep s4, mok, (fun _ q1 H5 s5 hq1 => ?_), (fun c => by rw [al] at c; cases c)⟩
        refine ⟨q1, longM S.mach, rfl, hq1, mok.long al, fun qt H6 s6 ht => ?_⟩
        have s46 := s5.trans s6
        walk_at "rd"
        intro l1 H7 s7 f7 e7
        refine ⟨_, (s34.trans (s46.trans s7)) _ _ hw, _, e7, small1000' (by rw [List.length_map]; simp; omega), fun l2 H8 s8 f8 e8 => ?_⟩
        walk_at "rd"
        have s48 := s46.trans (s7.trans s8)
        refine ix_t (sqt (s48 _ _ ep)) (by decide) rfl ?_
        refine ix_t (sqt (s48 _ _ ep)) (by decide) rfl ?_
        intro t H9 s9 f9 e9
        have s49 := s48.trans s9
        have ht2 : TM H9 t (longM S.mach) := ⟨l2, ppr, ppd, e9, (s9 _ _ e8).trans (by show _ = some (HO.lst ((S.watches ++ [("/" : Str)]).map V.str)); rw [List.map_append]; rfl), hp2.keep s49, SeqOf.keep (fun _ _ => TDAt.keep _ _ _ _ s49) s49 hp3⟩
        refine ⟨_, _, dp_tm (ht.keep (s7.trans (s8.trans s9))), dp_tm ht2, shaped_mdat (mok.long al), shaped_mdat (mok.long al), ?_⟩
        rw [SeqAt.eqv_refl _ (lay_mdat (mok.long al)).1]
        walk_at "rd"
        exact way _ _ ⟨⟨_, rfl⟩, s49⟩
end
/-! ### what the top has left -/
theorem all_mk {P : Program} {w : World} {K : PySem.W.Frag} {h : Heap} {mg : Str → Option Value} {fa : Addr} (X : K.In h) (G : h.Ns mainGlobals mg) (hfa : mg "law" = some (.ref fa))
    {CDoor : Addr}
    {CMachine : Addr}
    {tBELOW : Addr} {oBELOW : Obj} {nBELOW : Nat} {tkBELOW0 tkBELOW1 : Tok}
    {tWORDS : Addr} {oWORDS : Obj} {nWORDS : Nat} {tkWORDS0 tkWORDS1 tkWORDS2 tkWORDS3 tkWORDS4 : Tok}
    {f0 : Addr} {od0 an0 : Option Addr} {sl0 : Array (Option Value)} {oc0 kV0 dc0 pm0 cd0 ct0 : Value}
    {f1 : Addr} {od1 an1 : Option Addr} {sl1 : Array (Option Value)} {oc1 kV1 dc1 pm1 cd1 ct1 : Value}
    {f2 : Addr} {od2 an2 : Option Addr} {sl2 : Array (Option Value)} {oc2 kV2 dc2 pm2 cd2 ct2 : Value}
    {f3 : Addr} {od3 an3 : Option Addr} {sl3 : Array (Option Value)} {oc3 kV3 dc3 pm3 cd3 ct3 : Value}
    {f4 : Addr} {od4 an4 : Option Addr} {sl4 : Array (Option Value)} {oc4 kV4 dc4 pm4 cd4 ct4 : Value}
    {f5 : Addr} {od5 an5 : Option Addr} {sl5 : Array (Option Value)} {oc5 kV5 dc5 pm5 cd5 ct5 : Value}
    {f6 : Addr} {od6 an6 : Option Addr} {sl6 : Array (Option Value)} {oc6 kV6 dc6 pm6 cd6 ct6 : Value}
    {f7 : Addr} {od7 an7 : Option Addr} {sl7 : Array (Option Value)} {oc7 kV7 dc7 pm7 cd7 ct7 : Value}
    {f8 : Addr} {od8 an8 : Option Addr} {sl8 : Array (Option Value)} {oc8 kV8 dc8 pm8 cd8 ct8 : Value}
    {f9 : Addr} {od9 an9 : Option Addr} {sl9 : Array (Option Value)} {oc9 kV9 dc9 pm9 cd9 ct9 : Value}
    {t9 : Addr} {o9 : Obj} {n9 : Nat}
    {tk9 : Tok}
    {f10 : Addr} {od10 an10 : Option Addr} {sl10 : Array (Option Value)} {oc10 kV10 dc10 pm10 cd10 ct10 : Value}
    {f11 : Addr} {od11 an11 : Option Addr} {sl11 : Array (Option Value)} {oc11 kV11 dc11 pm11 cd11 ct11 : Value}
    {f12 : Addr} {od12 an12 : Option Addr} {sl12 : Array (Option Value)} {oc12 kV12 dc12 pm12 cd12 ct12 : Value}
    {f13 : Addr} {od13 an13 : Option Addr} {sl13 : Array (Option Value)} {oc13 kV13 dc13 pm13 cd13 ct13 : Value}
    {f14 : Addr} {od14 an14 : Option Addr} {sl14 : Array (Option Value)} {oc14 kV14 dc14 pm14 cd14 ct14 : Value}
    {f15 : Addr} {od15 an15 : Option Addr} {sl15 : Array (Option Value)} {oc15 kV15 dc15 pm15 cd15 ct15 : Value}
    {f16 : Addr} {od16 an16 : Option Addr} {sl16 : Array (Option Value)} {oc16 kV16 dc16 pm16 cd16 ct16 : Value}
    {f17 : Addr} {od17 an17 : Option Addr} {sl17 : Array (Option Value)} {oc17 kV17 dc17 pm17 cd17 ct17 : Value}
    {f18 : Addr} {od18 an18 : Option Addr} {sl18 : Array (Option Value)} {oc18 kV18 dc18 pm18 cd18 ct18 : Value}
    {f19 : Addr} {od19 an19 : Option Addr} {sl19 : Array (Option Value)} {oc19 kV19 dc19 pm19 cd19 ct19 : Value}
    {f20 : Addr} {od20 an20 : Option Addr} {sl20 : Array (Option Value)} {oc20 kV20 dc20 pm20 cd20 ct20 : Value}
    {f21 : Addr} {od21 an21 : Option Addr} {sl21 : Array (Option Value)} {oc21 kV21 dc21 pm21 cd21 ct21 : Value}
    {f22 : Addr} {od22 an22 : Option Addr} {sl22 : Array (Option Value)} {oc22 kV22 dc22 pm22 cd22 ct22 : Value}
    {f23 : Addr} {od23 an23 : Option Addr} {sl23 : Array (Option Value)} {oc23 kV23 dc23 pm23 cd23 ct23 : Value}
    {f24 : Addr} {od24 an24 : Option Addr} {sl24 : Array (Option Value)} {oc24 kV24 dc24 pm24 cd24 ct24 : Value}
    {f25 : Addr} {od25 an25 : Option Addr} {sl25 : Array (Option Value)} {oc25 kV25 dc25 pm25 cd25 ct25 : Value}
    {f26 : Addr} {od26 an26 : Option Addr} {sl26 : Array (Option Value)} {oc26 kV26 dc26 pm26 cd26 ct26 : Value}
    {f27 : Addr} {od27 an27 : Option Addr} {sl27 : Array (Option Value)} {oc27 kV27 dc27 pm27 cd27 ct27 : Value}
    {f28 : Addr} {od28 an28 : Option Addr} {sl28 : Array (Option Value)} {oc28 kV28 dc28 pm28 cd28 ct28 : Value}
    {f29 : Addr} {od29 an29 : Option Addr} {sl29 : Array (Option Value)} {oc29 kV29 dc29 pm29 cd29 ct29 : Value}
    {f30 : Addr} {od30 an30 : Option Addr} {sl30 : Array (Option Value)} {oc30 kV30 dc30 pm30 cd30 ct30 : Value}
    {f31 : Addr} {od31 an31 : Option Addr} {sl31 : Array (Option Value)} {oc31 kV31 dc31 pm31 cd31 ct31 : Value}
    {f32 : Addr} {od32 an32 : Option Addr} {sl32 : Array (Option Value)} {oc32 kV32 dc32 pm32 cd32 ct32 : Value}
    {f33 : Addr} {od33 an33 : Option Addr} {sl33 : Array (Option Value)} {oc33 kV33 dc33 pm33 cd33 ct33 : Value}
    {f34 : Addr} {od34 an34 : Option Addr} {sl34 : Array (Option Value)} {oc34 kV34 dc34 pm34 cd34 ct34 : Value}
    {f35 : Addr} {od35 an35 : Option Addr} {sl35 : Array (Option Value)} {oc35 kV35 dc35 pm35 cd35 ct35 : Value}
    {f36 : Addr} {od36 an36 : Option Addr} {sl36 : Array (Option Value)} {oc36 kV36 dc36 pm36 cd36 ct36 : Value}
    {CWalkError : Addr}
    {CBadMachine : Addr}
    {CTooMany : Addr}
    {CNoMark : Addr}
    {CNoRoom : Addr}
    {uLETTERS : Tok}
    {uLONG : Tok}
    {uMOST_DOORS : Tok}
    {uMOST_ROOMS : Tok}
    {uMOST_WATCHES : Tok}
    (gDoor : PySem.W.nsIn K mainGlobals "Door" = some (some (.ref CDoor)))
    (pgDoor : PySem.W.plainGet K CDoor Str.empty = true)
    (hdDoor : PySem.W.hasDictIn K CDoor = true)
    (poDoor : PySem.W.plainOver K CDoor = true)
    (saDoor : PySem.W.findIn K (.ref CDoor) "__setattr__" = some (some (.builtin "object.__setattr__")))
    (mkDoor : PySem.W.makesIn K CDoor = true)
    (kcDoor : PySem.W.keepIn K (.ref CDoor) = true)
    (hcDoor : PySem.W.findIn K (.ref CDoor) "__class__" = some (some (.builtin "object.__class__")))
    (hnDoor : PySem.W.specialIn K (.builtin "object.__class__") "__get__" = some (some (.builtin "getset_descriptor.__get__")))
    (htDoor : PySem.W.takesIn K (.builtin "object.__class__") = some true)
    (hmDoor : PySem.W.mroIn K CDoor (.type "object") = some true)
    (nDoor_backs : PySem.W.findIn K (.ref CDoor) "backs" = some none)
    (nDoor_end : PySem.W.findIn K (.ref CDoor) "end" = some none)
    (nDoor_looks : PySem.W.findIn K (.ref CDoor) "looks" = some none)
    (nDoor_sign : PySem.W.findIn K (.ref CDoor) "sign" = some none)
    (nDoor_start : PySem.W.findIn K (.ref CDoor) "start" = some none)
    (gMachine : PySem.W.nsIn K mainGlobals "Machine" = some (some (.ref CMachine)))
    (pgMachine : PySem.W.plainGet K CMachine Str.empty = true)
    (hdMachine : PySem.W.hasDictIn K CMachine = true)
    (poMachine : PySem.W.plainOver K CMachine = true)
    (saMachine : PySem.W.findIn K (.ref CMachine) "__setattr__" = some (some (.builtin "object.__setattr__")))
    (mkMachine : PySem.W.makesIn K CMachine = true)
    (kcMachine : PySem.W.keepIn K (.ref CMachine) = true)
    (hcMachine : PySem.W.findIn K (.ref CMachine) "__class__" = some (some (.builtin "object.__class__")))
    (hnMachine : PySem.W.specialIn K (.builtin "object.__class__") "__get__" = some (some (.builtin "getset_descriptor.__get__")))
    (htMachine : PySem.W.takesIn K (.builtin "object.__class__") = some true)
    (hmMachine : PySem.W.mroIn K CMachine (.type "object") = some true)
    (nMachine_door_list : PySem.W.findIn K (.ref CMachine) "door_list" = some none)
    (nMachine_room_names : PySem.W.findIn K (.ref CMachine) "room_names" = some none)
    (nMachine_stay_looks : PySem.W.findIn K (.ref CMachine) "stay_looks" = some none)
    (nMachine_watch_names : PySem.W.findIn K (.ref CMachine) "watch_names" = some none)
    (gBELOW : PySem.W.nsIn K mainGlobals "BELOW" = some (some (.ref tBELOW)))
    (lBELOW : K.lookup tBELOW = some oBELOW)
    (cBELOW : oBELOW.cls = .type "tuple")
    (dBELOW : oBELOW.data = .seq ([Value.str "<" tkBELOW0, Value.str "<=" tkBELOW1] : List Value).toArray nBELOW)
    (gWORDS : PySem.W.nsIn K mainGlobals "WORDS" = some (some (.ref tWORDS)))
    (lWORDS : K.lookup tWORDS = some oWORDS)
    (cWORDS : oWORDS.cls = .type "tuple")
    (dWORDS : oWORDS.data = .seq ([Value.str "<" tkWORDS0, Value.str "<=" tkWORDS1, Value.str ">" tkWORDS2, Value.str ">=" tkWORDS3, Value.str "=" tkWORDS4] : List Value).toArray nWORDS)
    (a0 : PySem.W.nsIn K mainGlobals "is_whole" = some (some (.ref f0)))
    (l0 : K.lookup f0 = some ⟨oc0, od0, .func (PySem.W.fnOf "is_whole" "is_whole" (defArgs s_is_whole) (defBody s_is_whole) (defScope s_is_whole) .none kV0 dc0 pm0 an0 cd0 ct0), sl0⟩)
    (c0 : PySem.W.codeIn K cd0 "is_whole" = true)
    (k0 : PySem.W.keepIn K (.ref f0) = true)
    (a1 : PySem.W.nsIn K mainGlobals "of_signs" = some (some (.ref f1)))
    (l1 : K.lookup f1 = some ⟨oc1, od1, .func (PySem.W.fnOf "of_signs" "of_signs" (defArgs s_of_signs) (defBody s_of_signs) (defScope s_of_signs) .none kV1 dc1 pm1 an1 cd1 ct1), sl1⟩)
    (c1 : PySem.W.codeIn K cd1 "of_signs" = true)
    (k1 : PySem.W.keepIn K (.ref f1) = true)
    (a2 : PySem.W.nsIn K mainGlobals "is_name" = some (some (.ref f2)))
    (l2 : K.lookup f2 = some ⟨oc2, od2, .func (PySem.W.fnOf "is_name" "is_name" (defArgs s_is_name) (defBody s_is_name) (defScope s_is_name) .none kV2 dc2 pm2 an2 cd2 ct2), sl2⟩)
    (c2 : PySem.W.codeIn K cd2 "is_name" = true)
    (k2 : PySem.W.keepIn K (.ref f2) = true)
    (a3 : PySem.W.nsIn K mainGlobals "is_watch_name" = some (some (.ref f3)))
    (l3 : K.lookup f3 = some ⟨oc3, od3, .func (PySem.W.fnOf "is_watch_name" "is_watch_name" (defArgs s_is_watch_name) (defBody s_is_watch_name) (defScope s_is_watch_name) .none kV3 dc3 pm3 an3 cd3 ct3), sl3⟩)
    (c3 : PySem.W.codeIn K cd3 "is_watch_name" = true)
    (k3 : PySem.W.keepIn K (.ref f3) = true)
    (a4 : PySem.W.nsIn K mainGlobals "is_sign" = some (some (.ref f4)))
    (l4 : K.lookup f4 = some ⟨oc4, od4, .func (PySem.W.fnOf "is_sign" "is_sign" (defArgs s_is_sign) (defBody s_is_sign) (defScope s_is_sign) .none kV4 dc4 pm4 an4 cd4 ct4), sl4⟩)
    (c4 : PySem.W.codeIn K cd4 "is_sign" = true)
    (k4 : PySem.W.keepIn K (.ref f4) = true)
    (a5 : PySem.W.nsIn K mainGlobals "is_look" = some (some (.ref f5)))
    (l5 : K.lookup f5 = some ⟨oc5, od5, .func (PySem.W.fnOf "is_look" "is_look" (defArgs s_is_look) (defBody s_is_look) (defScope s_is_look) .none kV5 dc5 pm5 an5 cd5 ct5), sl5⟩)
    (c5 : PySem.W.codeIn K cd5 "is_look" = true)
    (k5 : PySem.W.keepIn K (.ref f5) = true)
    (a6 : PySem.W.nsIn K mainGlobals "is_guard" = some (some (.ref f6)))
    (l6 : K.lookup f6 = some ⟨oc6, od6, .func (PySem.W.fnOf "is_guard" "is_guard" (defArgs s_is_guard) (defBody s_is_guard) (defScope s_is_guard) .none kV6 dc6 pm6 an6 cd6 ct6), sl6⟩)
    (c6 : PySem.W.codeIn K cd6 "is_guard" = true)
    (k6 : PySem.W.keepIn K (.ref f6) = true)
    (a7 : PySem.W.nsIn K mainGlobals "unlike" = some (some (.ref f7)))
    (l7 : K.lookup f7 = some ⟨oc7, od7, .func (PySem.W.fnOf "unlike" "unlike" (defArgs s_unlike) (defBody s_unlike) (defScope s_unlike) .none kV7 dc7 pm7 an7 cd7 ct7), sl7⟩)
    (c7 : PySem.W.codeIn K cd7 "unlike" = true)
    (k7 : PySem.W.keepIn K (.ref f7) = true)
    (a8 : PySem.W.nsIn K mainGlobals "own" = some (some (.ref f8)))
    (l8 : K.lookup f8 = some ⟨oc8, od8, .func (PySem.W.fnOf "own" "own" (defArgs s_own) (defBody s_own) (defScope s_own) .none kV8 dc8 pm8 an8 cd8 ct8), sl8⟩)
    (c8 : PySem.W.codeIn K cd8 "own" = true)
    (k8 : PySem.W.keepIn K (.ref f8) = true)
    (a9 : PySem.W.findIn K (.ref CDoor) "__init__" = some (some (.ref f9)))
    (i9 : PySem.W.isFn K (.ref f9) = true)
    (l9 : K.lookup f9 = some ⟨oc9, od9, .func (PySem.W.fnOf "__init__" "Door.__init__" (defArgs s_Door_init) (defBody s_Door_init) (defScope s_Door_init) (.ref t9) kV9 dc9 pm9 an9 cd9 ct9), sl9⟩)
    (c9 : PySem.W.codeIn K cd9 "Door.__init__" = true)
    (k9 : PySem.W.keepIn K (.ref f9) = true)
    (lt9 : K.lookup t9 = some o9)
    (ld9 : o9.data = .seq ([Value.str "" tk9] : List Value).toArray n9)
    (a10 : PySem.W.findIn K (.ref CDoor) "asks" = some (some (.ref f10)))
    (i10 : PySem.W.isFn K (.ref f10) = true)
    (l10 : K.lookup f10 = some ⟨oc10, od10, .func (PySem.W.fnOf "asks" "Door.asks" (defArgs s_Door_asks) (defBody s_Door_asks) (defScope s_Door_asks) .none kV10 dc10 pm10 an10 cd10 ct10), sl10⟩)
    (c10 : PySem.W.codeIn K cd10 "Door.asks" = true)
    (k10 : PySem.W.keepIn K (.ref f10) = true)
    (a11 : PySem.W.findIn K (.ref CDoor) "sets" = some (some (.ref f11)))
    (i11 : PySem.W.isFn K (.ref f11) = true)
    (l11 : K.lookup f11 = some ⟨oc11, od11, .func (PySem.W.fnOf "sets" "Door.sets" (defArgs s_Door_sets) (defBody s_Door_sets) (defScope s_Door_sets) .none kV11 dc11 pm11 an11 cd11 ct11), sl11⟩)
    (c11 : PySem.W.codeIn K cd11 "Door.sets" = true)
    (k11 : PySem.W.keepIn K (.ref f11) = true)
    (a12 : PySem.W.nsIn K mainGlobals "are_watches" = some (some (.ref f12)))
    (l12 : K.lookup f12 = some ⟨oc12, od12, .func (PySem.W.fnOf "are_watches" "are_watches" (defArgs s_are_watches) (defBody s_are_watches) (defScope s_are_watches) .none kV12 dc12 pm12 an12 cd12 ct12), sl12⟩)
    (c12 : PySem.W.codeIn K cd12 "are_watches" = true)
    (k12 : PySem.W.keepIn K (.ref f12) = true)
    (a13 : PySem.W.nsIn K mainGlobals "is_room" = some (some (.ref f13)))
    (l13 : K.lookup f13 = some ⟨oc13, od13, .func (PySem.W.fnOf "is_room" "is_room" (defArgs s_is_room) (defBody s_is_room) (defScope s_is_room) .none kV13 dc13 pm13 an13 cd13 ct13), sl13⟩)
    (c13 : PySem.W.codeIn K cd13 "is_room" = true)
    (k13 : PySem.W.keepIn K (.ref f13) = true)
    (a14 : PySem.W.nsIn K mainGlobals "are_rooms" = some (some (.ref f14)))
    (l14 : K.lookup f14 = some ⟨oc14, od14, .func (PySem.W.fnOf "are_rooms" "are_rooms" (defArgs s_are_rooms) (defBody s_are_rooms) (defScope s_are_rooms) .none kV14 dc14 pm14 an14 cd14 ct14), sl14⟩)
    (c14 : PySem.W.codeIn K cd14 "are_rooms" = true)
    (k14 : PySem.W.keepIn K (.ref f14) = true)
    (a15 : PySem.W.nsIn K mainGlobals "is_door" = some (some (.ref f15)))
    (l15 : K.lookup f15 = some ⟨oc15, od15, .func (PySem.W.fnOf "is_door" "is_door" (defArgs s_is_door) (defBody s_is_door) (defScope s_is_door) .none kV15 dc15 pm15 an15 cd15 ct15), sl15⟩)
    (c15 : PySem.W.codeIn K cd15 "is_door" = true)
    (k15 : PySem.W.keepIn K (.ref f15) = true)
    (a16 : PySem.W.findIn K (.ref CMachine) "__init__" = some (some (.ref f16)))
    (i16 : PySem.W.isFn K (.ref f16) = true)
    (l16 : K.lookup f16 = some ⟨oc16, od16, .func (PySem.W.fnOf "__init__" "Machine.__init__" (defArgs s_Machine_init) (defBody s_Machine_init) (defScope s_Machine_init) .none kV16 dc16 pm16 an16 cd16 ct16), sl16⟩)
    (c16 : PySem.W.codeIn K cd16 "Machine.__init__" = true)
    (k16 : PySem.W.keepIn K (.ref f16) = true)
    (a17 : PySem.W.findIn K (.ref CMachine) "watches" = some (some (.ref f17)))
    (i17 : PySem.W.isFn K (.ref f17) = true)
    (l17 : K.lookup f17 = some ⟨oc17, od17, .func (PySem.W.fnOf "watches" "Machine.watches" (defArgs s_Machine_watches) (defBody s_Machine_watches) (defScope s_Machine_watches) .none kV17 dc17 pm17 an17 cd17 ct17), sl17⟩)
    (c17 : PySem.W.codeIn K cd17 "Machine.watches" = true)
    (k17 : PySem.W.keepIn K (.ref f17) = true)
    (a18 : PySem.W.findIn K (.ref CMachine) "rooms" = some (some (.ref f18)))
    (i18 : PySem.W.isFn K (.ref f18) = true)
    (l18 : K.lookup f18 = some ⟨oc18, od18, .func (PySem.W.fnOf "rooms" "Machine.rooms" (defArgs s_Machine_rooms) (defBody s_Machine_rooms) (defScope s_Machine_rooms) .none kV18 dc18 pm18 an18 cd18 ct18), sl18⟩)
    (c18 : PySem.W.codeIn K cd18 "Machine.rooms" = true)
    (k18 : PySem.W.keepIn K (.ref f18) = true)
    (a19 : PySem.W.findIn K (.ref CMachine) "doors" = some (some (.ref f19)))
    (i19 : PySem.W.isFn K (.ref f19) = true)
    (l19 : K.lookup f19 = some ⟨oc19, od19, .func (PySem.W.fnOf "doors" "Machine.doors" (defArgs s_Machine_doors) (defBody s_Machine_doors) (defScope s_Machine_doors) .none kV19 dc19 pm19 an19 cd19 ct19), sl19⟩)
    (c19 : PySem.W.codeIn K cd19 "Machine.doors" = true)
    (k19 : PySem.W.keepIn K (.ref f19) = true)
    (a20 : PySem.W.findIn K (.ref CMachine) "stay" = some (some (.ref f20)))
    (i20 : PySem.W.isFn K (.ref f20) = true)
    (l20 : K.lookup f20 = some ⟨oc20, od20, .func (PySem.W.fnOf "stay" "Machine.stay" (defArgs s_Machine_stay) (defBody s_Machine_stay) (defScope s_Machine_stay) .none kV20 dc20 pm20 an20 cd20 ct20), sl20⟩)
    (c20 : PySem.W.codeIn K cd20 "Machine.stay" = true)
    (k20 : PySem.W.keepIn K (.ref f20) = true)
    (a21 : PySem.W.nsIn K mainGlobals "with_long" = some (some (.ref f21)))
    (l21 : K.lookup f21 = some ⟨oc21, od21, .func (PySem.W.fnOf "with_long" "with_long" (defArgs s_with_long) (defBody s_with_long) (defScope s_with_long) .none kV21 dc21 pm21 an21 cd21 ct21), sl21⟩)
    (c21 : PySem.W.codeIn K cd21 "with_long" = true)
    (k21 : PySem.W.keepIn K (.ref f21) = true)
    (a22 : PySem.W.nsIn K mainGlobals "cut_off" = some (some (.ref f22)))
    (l22 : K.lookup f22 = some ⟨oc22, od22, .func (PySem.W.fnOf "cut_off" "cut_off" (defArgs s_cut_off) (defBody s_cut_off) (defScope s_cut_off) .none kV22 dc22 pm22 an22 cd22 ct22), sl22⟩)
    (c22 : PySem.W.codeIn K cd22 "cut_off" = true)
    (k22 : PySem.W.keepIn K (.ref f22) = true)
    (a23 : PySem.W.nsIn K mainGlobals "_law_cell_at" = some (some (.ref f23)))
    (l23 : K.lookup f23 = some ⟨oc23, od23, .func (PySem.W.fnOf "_law_cell_at" "_law_cell_at" (defArgs s_l_cell_at) (defBody s_l_cell_at) (defScope s_l_cell_at) .none kV23 dc23 pm23 an23 cd23 ct23), sl23⟩)
    (c23 : PySem.W.codeIn K cd23 "_law_cell_at" = true)
    (k23 : PySem.W.keepIn K (.ref f23) = true)
    (a24 : PySem.W.nsIn K mainGlobals "_law_stream" = some (some (.ref f24)))
    (l24 : K.lookup f24 = some ⟨oc24, od24, .func (PySem.W.fnOf "_law_stream" "_law_stream" (defArgs s_l_stream) (defBody s_l_stream) (defScope s_l_stream) .none kV24 dc24 pm24 an24 cd24 ct24), sl24⟩)
    (c24 : PySem.W.codeIn K cd24 "_law_stream" = true)
    (k24 : PySem.W.keepIn K (.ref f24) = true)
    (a25 : PySem.W.nsIn K mainGlobals "_law_names" = some (some (.ref f25)))
    (l25 : K.lookup f25 = some ⟨oc25, od25, .func (PySem.W.fnOf "_law_names" "_law_names" (defArgs s_l_names) (defBody s_l_names) (defScope s_l_names) .none kV25 dc25 pm25 an25 cd25 ct25), sl25⟩)
    (c25 : PySem.W.codeIn K cd25 "_law_names" = true)
    (k25 : PySem.W.keepIn K (.ref f25) = true)
    (a26 : PySem.W.nsIn K mainGlobals "_law_number" = some (some (.ref f26)))
    (l26 : K.lookup f26 = some ⟨oc26, od26, .func (PySem.W.fnOf "_law_number" "_law_number" (defArgs s_l_number) (defBody s_l_number) (defScope s_l_number) .none kV26 dc26 pm26 an26 cd26 ct26), sl26⟩)
    (c26 : PySem.W.codeIn K cd26 "_law_number" = true)
    (k26 : PySem.W.keepIn K (.ref f26) = true)
    (a27 : PySem.W.nsIn K mainGlobals "_law_guard" = some (some (.ref f27)))
    (l27 : K.lookup f27 = some ⟨oc27, od27, .func (PySem.W.fnOf "_law_guard" "_law_guard" (defArgs s_l_guard) (defBody s_l_guard) (defScope s_l_guard) .none kV27 dc27 pm27 an27 cd27 ct27), sl27⟩)
    (c27 : PySem.W.codeIn K cd27 "_law_guard" = true)
    (k27 : PySem.W.keepIn K (.ref f27) = true)
    (a28 : PySem.W.nsIn K mainGlobals "_law_stay" = some (some (.ref f28)))
    (l28 : K.lookup f28 = some ⟨oc28, od28, .func (PySem.W.fnOf "_law_stay" "_law_stay" (defArgs s_l_stay) (defBody s_l_stay) (defScope s_l_stay) .none kV28 dc28 pm28 an28 cd28 ct28), sl28⟩)
    (c28 : PySem.W.codeIn K cd28 "_law_stay" = true)
    (k28 : PySem.W.keepIn K (.ref f28) = true)
    (a29 : PySem.W.nsIn K mainGlobals "_law_door" = some (some (.ref f29)))
    (l29 : K.lookup f29 = some ⟨oc29, od29, .func (PySem.W.fnOf "_law_door" "_law_door" (defArgs s_l_door) (defBody s_l_door) (defScope s_l_door) .none kV29 dc29 pm29 an29 cd29 ct29), sl29⟩)
    (c29 : PySem.W.codeIn K cd29 "_law_door" = true)
    (k29 : PySem.W.keepIn K (.ref f29) = true)
    (a30 : PySem.W.nsIn K mainGlobals "_law_machine" = some (some (.ref f30)))
    (l30 : K.lookup f30 = some ⟨oc30, od30, .func (PySem.W.fnOf "_law_machine" "_law_machine" (defArgs s_l_machine) (defBody s_l_machine) (defScope s_l_machine) .none kV30 dc30 pm30 an30 cd30 ct30), sl30⟩)
    (c30 : PySem.W.codeIn K cd30 "_law_machine" = true)
    (k30 : PySem.W.keepIn K (.ref f30) = true)
    (a31 : PySem.W.nsIn K mainGlobals "_law_made" = some (some (.ref f31)))
    (l31 : K.lookup f31 = some ⟨oc31, od31, .func (PySem.W.fnOf "_law_made" "_law_made" (defArgs s_l_made) (defBody s_l_made) (defScope s_l_made) .none kV31 dc31 pm31 an31 cd31 ct31), sl31⟩)
    (c31 : PySem.W.codeIn K cd31 "_law_made" = true)
    (k31 : PySem.W.keepIn K (.ref f31) = true)
    (a32 : PySem.W.nsIn K mainGlobals "_law_told" = some (some (.ref f32)))
    (l32 : K.lookup f32 = some ⟨oc32, od32, .func (PySem.W.fnOf "_law_told" "_law_told" (defArgs s_l_told) (defBody s_l_told) (defScope s_l_told) .none kV32 dc32 pm32 an32 cd32 ct32), sl32⟩)
    (c32 : PySem.W.codeIn K cd32 "_law_told" = true)
    (k32 : PySem.W.keepIn K (.ref f32) = true)
    (a33 : PySem.W.nsIn K mainGlobals "_law_plain" = some (some (.ref f33)))
    (l33 : K.lookup f33 = some ⟨oc33, od33, .func (PySem.W.fnOf "_law_plain" "_law_plain" (defArgs s_l_plain) (defBody s_l_plain) (defScope s_l_plain) .none kV33 dc33 pm33 an33 cd33 ct33), sl33⟩)
    (c33 : PySem.W.codeIn K cd33 "_law_plain" = true)
    (k33 : PySem.W.keepIn K (.ref f33) = true)
    (a34 : PySem.W.nsIn K mainGlobals "_law_refused" = some (some (.ref f34)))
    (l34 : K.lookup f34 = some ⟨oc34, od34, .func (PySem.W.fnOf "_law_refused" "_law_refused" (defArgs s_l_refused) (defBody s_l_refused) (defScope s_l_refused) .none kV34 dc34 pm34 an34 cd34 ct34), sl34⟩)
    (c34 : PySem.W.codeIn K cd34 "_law_refused" = true)
    (k34 : PySem.W.keepIn K (.ref f34) = true)
    (a35 : PySem.W.nsIn K mainGlobals "_law_more" = some (some (.ref f35)))
    (l35 : K.lookup f35 = some ⟨oc35, od35, .func (PySem.W.fnOf "_law_more" "_law_more" (defArgs s_l_more) (defBody s_l_more) (defScope s_l_more) .none kV35 dc35 pm35 an35 cd35 ct35), sl35⟩)
    (c35 : PySem.W.codeIn K cd35 "_law_more" = true)
    (k35 : PySem.W.keepIn K (.ref f35) = true)
    (a36 : PySem.W.nsIn K mainGlobals "law" = some (some (.ref f36)))
    (l36 : K.lookup f36 = some ⟨oc36, od36, .func (PySem.W.fnOf "law" "law" (defArgs s_law) (defBody s_law) (defScope s_law) .none kV36 dc36 pm36 an36 cd36 ct36), sl36⟩)
    (c36 : PySem.W.codeIn K cd36 "law" = true)
    (k36 : PySem.W.keepIn K (.ref f36) = true)
    (gWalkError : PySem.W.nsIn K mainGlobals "WalkError" = some (some (.ref CWalkError)))
    (kWalkError : PySem.W.keepIn K (.ref CWalkError) = true)
    (bWalkError : PySem.W.subIn K (.ref CWalkError) (.type "BaseException") = some true)
    (tWalkError : PySem.W.typeIn K (.ref CWalkError) = some (.type "type"))
    (iWalkError : PySem.W.isClsIn K CWalkError = true)
    (gBadMachine : PySem.W.nsIn K mainGlobals "BadMachine" = some (some (.ref CBadMachine)))
    (xBadMachine : PySem.W.excIn K CBadMachine [.type "ValueError", .type "Exception", .type "BaseException", .type "object"] "ValueError.__new__" = true)
    (kBadMachine : PySem.W.keepIn K (.ref CBadMachine) = true)
    (bBadMachine : PySem.W.subIn K (.ref CBadMachine) (.type "BaseException") = some true)
    (tBadMachine : PySem.W.typeIn K (.ref CBadMachine) = some (.type "type"))
    (iBadMachine : PySem.W.isClsIn K CBadMachine = true)
    (gTooMany : PySem.W.nsIn K mainGlobals "TooMany" = some (some (.ref CTooMany)))
    (xTooMany : PySem.W.excIn K CTooMany [.type "ValueError", .type "Exception", .type "BaseException", .type "object"] "ValueError.__new__" = true)
    (kTooMany : PySem.W.keepIn K (.ref CTooMany) = true)
    (bTooMany : PySem.W.subIn K (.ref CTooMany) (.type "BaseException") = some true)
    (tTooMany : PySem.W.typeIn K (.ref CTooMany) = some (.type "type"))
    (iTooMany : PySem.W.isClsIn K CTooMany = true)
    (gNoMark : PySem.W.nsIn K mainGlobals "NoMark" = some (some (.ref CNoMark)))
    (xNoMark : PySem.W.excIn K CNoMark [.type "ValueError", .type "Exception", .type "BaseException", .type "object"] "ValueError.__new__" = true)
    (kNoMark : PySem.W.keepIn K (.ref CNoMark) = true)
    (bNoMark : PySem.W.subIn K (.ref CNoMark) (.type "BaseException") = some true)
    (tNoMark : PySem.W.typeIn K (.ref CNoMark) = some (.type "type"))
    (iNoMark : PySem.W.isClsIn K CNoMark = true)
    (gNoRoom : PySem.W.nsIn K mainGlobals "NoRoom" = some (some (.ref CNoRoom)))
    (kNoRoom : PySem.W.keepIn K (.ref CNoRoom) = true)
    (bNoRoom : PySem.W.subIn K (.ref CNoRoom) (.type "BaseException") = some true)
    (tNoRoom : PySem.W.typeIn K (.ref CNoRoom) = some (.type "type"))
    (iNoRoom : PySem.W.isClsIn K CNoRoom = true)
    (gLETTERS : PySem.W.nsIn K mainGlobals "LETTERS" = some (some (.str "abcdefghijklmnopqrstuvwxyz" uLETTERS)))
    (gLONG : PySem.W.nsIn K mainGlobals "LONG" = some (some (.str "/" uLONG)))
    (gMOST_DOORS : PySem.W.nsIn K mainGlobals "MOST_DOORS" = some (some (.int 200 uMOST_DOORS)))
    (gMOST_ROOMS : PySem.W.nsIn K mainGlobals "MOST_ROOMS" = some (some (.int 64 uMOST_ROOMS)))
    (gMOST_WATCHES : PySem.W.nsIn K mainGlobals "MOST_WATCHES" = some (some (.int 7 uMOST_WATCHES)))
    (zValueError : PySem.W.nsIn K mainGlobals "ValueError" = some none)
    (zall : PySem.W.nsIn K mainGlobals "all" = some none)
    (zbool : PySem.W.nsIn K mainGlobals "bool" = some none)
    (zint : PySem.W.nsIn K mainGlobals "int" = some none)
    (zisinstance : PySem.W.nsIn K mainGlobals "isinstance" = some none)
    (zlen : PySem.W.nsIn K mainGlobals "len" = some none)
    (zlist : PySem.W.nsIn K mainGlobals "list" = some none)
    (zrange : PySem.W.nsIn K mainGlobals "range" = some none)
    (zset : PySem.W.nsIn K mainGlobals "set" = some none)
    (zstr : PySem.W.nsIn K mainGlobals "str" = some none)
    (ztuple : PySem.W.nsIn K mainGlobals "tuple" = some none)
    (he1_BadMachine : PySem.W.findIn K (.ref CBadMachine) "__getattribute__" = some (some (.builtin "BaseException.__getattribute__")))
    (he2_BadMachine : PySem.W.findIn K (.ref CBadMachine) "__getattr__" = some none)
    (he4_BadMachine : PySem.W.hasDictIn K CBadMachine = true)
    (he5_BadMachine : PySem.W.findIn K (.ref CBadMachine) "__class__" = some (some (.builtin "object.__class__")))
    (he8_BadMachine : PySem.W.mroIn K CBadMachine (.type "object") = some true)
    (he1_NoMark : PySem.W.findIn K (.ref CNoMark) "__getattribute__" = some (some (.builtin "BaseException.__getattribute__")))
    (he2_NoMark : PySem.W.findIn K (.ref CNoMark) "__getattr__" = some none)
    (he4_NoMark : PySem.W.hasDictIn K CNoMark = true)
    (he5_NoMark : PySem.W.findIn K (.ref CNoMark) "__class__" = some (some (.builtin "object.__class__")))
    (he8_NoMark : PySem.W.mroIn K CNoMark (.type "object") = some true)
    (hs_BadMachine_BadMachine : PySem.W.subIn K (.ref CBadMachine) (.ref CBadMachine) = some true)
    (hs_NoMark_BadMachine : PySem.W.subIn K (.ref CNoMark) (.ref CBadMachine) = some false)
    (hs_NoMark_NoMark : PySem.W.subIn K (.ref CNoMark) (.ref CNoMark) = some true)
    (he6_ : PySem.W.specialIn K (.builtin "object.__class__") "__get__" = some (some (.builtin "getset_descriptor.__get__")))
    (he7_ : PySem.W.takesIn K (.builtin "object.__class__") = some true)
    (hk_BadMachine_NoMark : PySem.W.kitOne K (.ref CBadMachine) (.ref CNoMark) = some false)
    (hk_BadMachine_TooMany : PySem.W.kitOne K (.ref CBadMachine) (.ref CTooMany) = some false)
    (hk_BadMachine_WalkError : PySem.W.kitOne K (.ref CBadMachine) (.ref CWalkError) = some true)
    (hk_NoMark_BadMachine : PySem.W.kitOne K (.ref CNoMark) (.ref CBadMachine) = some false)
    (hk_NoMark_NoRoom : PySem.W.kitOne K (.ref CNoMark) (.ref CNoRoom) = some false)
    (hk_NoMark_WalkError : PySem.W.kitOne K (.ref CNoMark) (.ref CWalkError) = some true)
    (hk_BadMachine_v : PySem.W.kitOne K (.ref CBadMachine) (.type "ValueError") = some true) :
    ∃ fd : FuncData, (∀ (s : Shared) (v : Value), BindsTo s fd ⟨[v], []⟩ [("_law_script", v)]) ∧ ∀ base : Heap, K.In base → base.Ns mainGlobals mg → FnOk P w K mg base CX0 10 fa fd ["_law_script"] (spLaw K) := by
  have e := hfa.symm.trans (PySem.W.mg_of X G a36)
  cases e
  have F9 := funD_mk (st := s_Door_init) (dvs := [.str ""]) l9 c9 k9 lt9 ld9 (.cons ⟨_, rfl⟩ .nil) (by simp)
  obtain ⟨dz9, vz9, bz9⟩ := F9.binds1 (ps := ["self", "start", "end", "guard", "noughts", "sign"]) 6 1 (by simp) rfl fun _ _ _ _ _ _ _ us its h1 h2 => match us, h1, its, h2 with | [_, _, _, _, _, _], _, [_], _ => ⟨_, rfl, rfl⟩
  cases vz9
  obtain ⟨dd9, vd9, bd9⟩ := F9.binds1 (ps := ["self", "start", "end", "guard", "noughts", "sign"]) 5 0 (by simp) rfl fun _ _ _ _ _ _ _ us its h1 h2 => match us, h1, its, h2 with | [_, _, _, _, _], _, [_], _ => ⟨_, rfl, rfl⟩
  let T : Top K mg := {
      C_Door := CDoor,
      g_Door := PySem.W.mg_of X G gDoor,
      cl_Door := ⟨pgDoor, hdDoor, poDoor, saDoor⟩,
      ty_Door := ⟨hcDoor, hnDoor, htDoor, hmDoor⟩,
      n_Door_backs := nDoor_backs,
      n_Door_end := nDoor_end,
      n_Door_looks := nDoor_looks,
      n_Door_sign := nDoor_sign,
      n_Door_start := nDoor_start,
      C_Machine := CMachine,
      g_Machine := PySem.W.mg_of X G gMachine,
      cl_Machine := ⟨pgMachine, hdMachine, poMachine, saMachine⟩,
      ty_Machine := ⟨hcMachine, hnMachine, htMachine, hmMachine⟩,
      n_Machine_door_list := nMachine_door_list,
      n_Machine_room_names := nMachine_room_names,
      n_Machine_stay_looks := nMachine_stay_looks,
      n_Machine_watch_names := nMachine_watch_names,
      t_BELOW := tBELOW,
      g_BELOW := PySem.W.mg_of X G gBELOW,
      q_BELOW := fun H => .inr ⟨oBELOW, _, nBELOW, lBELOW, cBELOW, dBELOW, small1000' (by simp), (.cons ⟨_, rfl⟩ (.cons ⟨_, rfl⟩ .nil))⟩,
      t_WORDS := tWORDS,
      g_WORDS := PySem.W.mg_of X G gWORDS,
      q_WORDS := fun H => .inr ⟨oWORDS, _, nWORDS, lWORDS, cWORDS, dWORDS, small1000' (by simp), (.cons ⟨_, rfl⟩ (.cons ⟨_, rfl⟩ (.cons ⟨_, rfl⟩ (.cons ⟨_, rfl⟩ (.cons ⟨_, rfl⟩ .nil)))))⟩,
      f_is_whole := f0,
      d_is_whole := _,
      F_is_whole := fun_mk (st := s_is_whole) l0 c0 k0,
      g_is_whole := PySem.W.mg_of X G a0,
      b_is_whole := (fun_mk (st := s_is_whole) l0 c0 k0).binds (ps := ["thing"]) fun _ _ _ _ _ _ us hl => match us, hl with | [_], _ => rfl,
      f_of_signs := f1,
      d_of_signs := _,
      F_of_signs := fun_mk (st := s_of_signs) l1 c1 k1,
      g_of_signs := PySem.W.mg_of X G a1,
      b_of_signs := (fun_mk (st := s_of_signs) l1 c1 k1).binds (ps := ["thing", "signs", "most"]) fun _ _ _ _ _ _ us hl => match us, hl with | [_, _, _], _ => rfl,
      f_is_name := f2,
      d_is_name := _,
      F_is_name := fun_mk (st := s_is_name) l2 c2 k2,
      g_is_name := PySem.W.mg_of X G a2,
      b_is_name := (fun_mk (st := s_is_name) l2 c2 k2).binds (ps := ["thing"]) fun _ _ _ _ _ _ us hl => match us, hl with | [_], _ => rfl,
      f_is_watch_name := f3,
      d_is_watch_name := _,
      F_is_watch_name := fun_mk (st := s_is_watch_name) l3 c3 k3,
      g_is_watch_name := PySem.W.mg_of X G a3,
      b_is_watch_name := (fun_mk (st := s_is_watch_name) l3 c3 k3).binds (ps := ["thing"]) fun _ _ _ _ _ _ us hl => match us, hl with | [_], _ => rfl,
      f_is_sign := f4,
      d_is_sign := _,
      F_is_sign := fun_mk (st := s_is_sign) l4 c4 k4,
      g_is_sign := PySem.W.mg_of X G a4,
      b_is_sign := (fun_mk (st := s_is_sign) l4 c4 k4).binds (ps := ["thing"]) fun _ _ _ _ _ _ us hl => match us, hl with | [_], _ => rfl,
      f_is_look := f5,
      d_is_look := _,
      F_is_look := fun_mk (st := s_is_look) l5 c5 k5,
      g_is_look := PySem.W.mg_of X G a5,
      b_is_look := (fun_mk (st := s_is_look) l5 c5 k5).binds (ps := ["thing", "words", "watches"]) fun _ _ _ _ _ _ us hl => match us, hl with | [_, _, _], _ => rfl,
      f_is_guard := f6,
      d_is_guard := _,
      F_is_guard := fun_mk (st := s_is_guard) l6 c6 k6,
      g_is_guard := PySem.W.mg_of X G a6,
      b_is_guard := (fun_mk (st := s_is_guard) l6 c6 k6).binds (ps := ["thing", "words", "watches"]) fun _ _ _ _ _ _ us hl => match us, hl with | [_, _, _], _ => rfl,
      f_unlike := f7,
      d_unlike := _,
      F_unlike := fun_mk (st := s_unlike) l7 c7 k7,
      g_unlike := PySem.W.mg_of X G a7,
      b_unlike := (fun_mk (st := s_unlike) l7 c7 k7).binds (ps := ["things"]) fun _ _ _ _ _ _ us hl => match us, hl with | [_], _ => rfl,
      f_own := f8,
      d_own := _,
      F_own := fun_mk (st := s_own) l8 c8 k8,
      g_own := PySem.W.mg_of X G a8,
      b_own := (fun_mk (st := s_own) l8 c8 k8).binds (ps := ["thing"]) fun _ _ _ _ _ _ us hl => match us, hl with | [_], _ => rfl,
      f_Door_init := f9,
      d_Door_init := _,
      F_Door_init := F9,
      mk_Door := ⟨mkDoor, a9, i9, kcDoor⟩,
      b_Door_init := bz9,
      dv_Door_init := dd9,
      v_Door_init := vd9,
      bd_Door_init := bd9,
      f_Door_asks := f10,
      d_Door_asks := _,
      F_Door_asks := fun_mk (st := s_Door_asks) l10 c10 k10,
      m_Door_asks := ⟨a10, i10, k10⟩,
      b_Door_asks := (fun_mk (st := s_Door_asks) l10 c10 k10).binds (ps := ["self"]) fun _ _ _ _ _ _ us hl => match us, hl with | [_], _ => rfl,
      f_Door_sets := f11,
      d_Door_sets := _,
      F_Door_sets := fun_mk (st := s_Door_sets) l11 c11 k11,
      m_Door_sets := ⟨a11, i11, k11⟩,
      b_Door_sets := (fun_mk (st := s_Door_sets) l11 c11 k11).binds (ps := ["self"]) fun _ _ _ _ _ _ us hl => match us, hl with | [_], _ => rfl,
      f_are_watches := f12,
      d_are_watches := _,
      F_are_watches := fun_mk (st := s_are_watches) l12 c12 k12,
      g_are_watches := PySem.W.mg_of X G a12,
      b_are_watches := (fun_mk (st := s_are_watches) l12 c12 k12).binds (ps := ["thing"]) fun _ _ _ _ _ _ us hl => match us, hl with | [_], _ => rfl,
      f_is_room := f13,
      d_is_room := _,
      F_is_room := fun_mk (st := s_is_room) l13 c13 k13,
      g_is_room := PySem.W.mg_of X G a13,
      b_is_room := (fun_mk (st := s_is_room) l13 c13 k13).binds (ps := ["thing", "watches"]) fun _ _ _ _ _ _ us hl => match us, hl with | [_, _], _ => rfl,
      f_are_rooms := f14,
      d_are_rooms := _,
      F_are_rooms := fun_mk (st := s_are_rooms) l14 c14 k14,
      g_are_rooms := PySem.W.mg_of X G a14,
      b_are_rooms := (fun_mk (st := s_are_rooms) l14 c14 k14).binds (ps := ["thing", "watches"]) fun _ _ _ _ _ _ us hl => match us, hl with | [_, _], _ => rfl,
      f_is_door := f15,
      d_is_door := _,
      F_is_door := fun_mk (st := s_is_door) l15 c15 k15,
      g_is_door := PySem.W.mg_of X G a15,
      b_is_door := (fun_mk (st := s_is_door) l15 c15 k15).binds (ps := ["thing", "watches", "names"]) fun _ _ _ _ _ _ us hl => match us, hl with | [_, _, _], _ => rfl,
      f_Machine_init := f16,
      d_Machine_init := _,
      F_Machine_init := fun_mk (st := s_Machine_init) l16 c16 k16,
      mk_Machine := ⟨mkMachine, a16, i16, kcMachine⟩,
      b_Machine_init := (fun_mk (st := s_Machine_init) l16 c16 k16).binds (ps := ["self", "watches", "rooms", "doors"]) fun _ _ _ _ _ _ us hl => match us, hl with | [_, _, _, _], _ => rfl,
      f_Machine_watches := f17,
      d_Machine_watches := _,
      F_Machine_watches := fun_mk (st := s_Machine_watches) l17 c17 k17,
      m_Machine_watches := ⟨a17, i17, k17⟩,
      b_Machine_watches := (fun_mk (st := s_Machine_watches) l17 c17 k17).binds (ps := ["self"]) fun _ _ _ _ _ _ us hl => match us, hl with | [_], _ => rfl,
      f_Machine_rooms := f18,
      d_Machine_rooms := _,
      F_Machine_rooms := fun_mk (st := s_Machine_rooms) l18 c18 k18,
      m_Machine_rooms := ⟨a18, i18, k18⟩,
      b_Machine_rooms := (fun_mk (st := s_Machine_rooms) l18 c18 k18).binds (ps := ["self"]) fun _ _ _ _ _ _ us hl => match us, hl with | [_], _ => rfl,
      f_Machine_doors := f19,
      d_Machine_doors := _,
      F_Machine_doors := fun_mk (st := s_Machine_doors) l19 c19 k19,
      m_Machine_doors := ⟨a19, i19, k19⟩,
      b_Machine_doors := (fun_mk (st := s_Machine_doors) l19 c19 k19).binds (ps := ["self"]) fun _ _ _ _ _ _ us hl => match us, hl with | [_], _ => rfl,
      f_Machine_stay := f20,
      d_Machine_stay := _,
      F_Machine_stay := fun_mk (st := s_Machine_stay) l20 c20 k20,
      m_Machine_stay := ⟨a20, i20, k20⟩,
      b_Machine_stay := (fun_mk (st := s_Machine_stay) l20 c20 k20).binds (ps := ["self", "room"]) fun _ _ _ _ _ _ us hl => match us, hl with | [_, _], _ => rfl,
      f_with_long := f21,
      d_with_long := _,
      F_with_long := fun_mk (st := s_with_long) l21 c21 k21,
      g_with_long := PySem.W.mg_of X G a21,
      b_with_long := (fun_mk (st := s_with_long) l21 c21 k21).binds (ps := ["machine"]) fun _ _ _ _ _ _ us hl => match us, hl with | [_], _ => rfl,
      f_cut_off := f22,
      d_cut_off := _,
      F_cut_off := fun_mk (st := s_cut_off) l22 c22 k22,
      g_cut_off := PySem.W.mg_of X G a22,
      b_cut_off := (fun_mk (st := s_cut_off) l22 c22 k22).binds (ps := ["machine", "room"]) fun _ _ _ _ _ _ us hl => match us, hl with | [_, _], _ => rfl,
      f_l_cell_at := f23,
      d_l_cell_at := _,
      F_l_cell_at := fun_mk (st := s_l_cell_at) l23 c23 k23,
      g_l_cell_at := PySem.W.mg_of X G a23,
      b_l_cell_at := (fun_mk (st := s_l_cell_at) l23 c23 k23).binds (ps := ["_law_script", "_law_k"]) fun _ _ _ _ _ _ us hl => match us, hl with | [_, _], _ => rfl,
      f_l_stream := f24,
      d_l_stream := _,
      F_l_stream := fun_mk (st := s_l_stream) l24 c24 k24,
      g_l_stream := PySem.W.mg_of X G a24,
      b_l_stream := (fun_mk (st := s_l_stream) l24 c24 k24).binds (ps := ["_law_cell", "_law_many"]) fun _ _ _ _ _ _ us hl => match us, hl with | [_, _], _ => rfl,
      f_l_names := f25,
      d_l_names := _,
      F_l_names := fun_mk (st := s_l_names) l25 c25 k25,
      g_l_names := PySem.W.mg_of X G a25,
      b_l_names := (fun_mk (st := s_l_names) l25 c25 k25).binds (ps := ["_law_cell", "_law_many"]) fun _ _ _ _ _ _ us hl => match us, hl with | [_, _], _ => rfl,
      f_l_number := f26,
      d_l_number := _,
      F_l_number := fun_mk (st := s_l_number) l26 c26 k26,
      g_l_number := PySem.W.mg_of X G a26,
      b_l_number := (fun_mk (st := s_l_number) l26 c26 k26).binds (ps := ["_law_x", "_law_unit"]) fun _ _ _ _ _ _ us hl => match us, hl with | [_, _], _ => rfl,
      f_l_guard := f27,
      d_l_guard := _,
      F_l_guard := fun_mk (st := s_l_guard) l27 c27 k27,
      g_l_guard := PySem.W.mg_of X G a27,
      b_l_guard := (fun_mk (st := s_l_guard) l27 c27 k27).binds (ps := ["_law_xs", "_law_unit", "_law_watches"]) fun _ _ _ _ _ _ us hl => match us, hl with | [_, _, _], _ => rfl,
      f_l_stay := f28,
      d_l_stay := _,
      F_l_stay := fun_mk (st := s_l_stay) l28 c28 k28,
      g_l_stay := PySem.W.mg_of X G a28,
      b_l_stay := (fun_mk (st := s_l_stay) l28 c28 k28).binds (ps := ["_law_xs", "_law_unit", "_law_watches"]) fun _ _ _ _ _ _ us hl => match us, hl with | [_, _, _], _ => rfl,
      f_l_door := f29,
      d_l_door := _,
      F_l_door := fun_mk (st := s_l_door) l29 c29 k29,
      g_l_door := PySem.W.mg_of X G a29,
      b_l_door := (fun_mk (st := s_l_door) l29 c29 k29).binds (ps := ["_law_cell", "_law_unit", "_law_watches", "_law_many"]) fun _ _ _ _ _ _ us hl => match us, hl with | [_, _, _, _], _ => rfl,
      f_l_machine := f30,
      d_l_machine := _,
      F_l_machine := fun_mk (st := s_l_machine) l30 c30 k30,
      g_l_machine := PySem.W.mg_of X G a30,
      b_l_machine := (fun_mk (st := s_l_machine) l30 c30 k30).binds (ps := ["_law_script"]) fun _ _ _ _ _ _ us hl => match us, hl with | [_], _ => rfl,
      f_l_made := f31,
      d_l_made := _,
      F_l_made := fun_mk (st := s_l_made) l31 c31 k31,
      g_l_made := PySem.W.mg_of X G a31,
      b_l_made := (fun_mk (st := s_l_made) l31 c31 k31).binds (ps := ["_law_spec"]) fun _ _ _ _ _ _ us hl => match us, hl with | [_], _ => rfl,
      f_l_told := f32,
      d_l_told := _,
      F_l_told := fun_mk (st := s_l_told) l32 c32 k32,
      g_l_told := PySem.W.mg_of X G a32,
      b_l_told := (fun_mk (st := s_l_told) l32 c32 k32).binds (ps := ["_law_machine_here"]) fun _ _ _ _ _ _ us hl => match us, hl with | [_], _ => rfl,
      f_l_plain := f33,
      d_l_plain := _,
      F_l_plain := fun_mk (st := s_l_plain) l33 c33 k33,
      g_l_plain := PySem.W.mg_of X G a33,
      b_l_plain := (fun_mk (st := s_l_plain) l33 c33 k33).binds (ps := ["_law_spec"]) fun _ _ _ _ _ _ us hl => match us, hl with | [_], _ => rfl,
      f_l_refused := f34,
      d_l_refused := _,
      F_l_refused := fun_mk (st := s_l_refused) l34 c34 k34,
      g_l_refused := PySem.W.mg_of X G a34,
      b_l_refused := (fun_mk (st := s_l_refused) l34 c34 k34).binds (ps := ["_law_which", "_law_machine_here", "_law_room"]) fun _ _ _ _ _ _ us hl => match us, hl with | [_, _, _], _ => rfl,
      f_l_more := f35,
      d_l_more := _,
      F_l_more := fun_mk (st := s_l_more) l35 c35 k35,
      g_l_more := PySem.W.mg_of X G a35,
      b_l_more := (fun_mk (st := s_l_more) l35 c35 k35).binds (ps := ["_law_spec", "_law_cell"]) fun _ _ _ _ _ _ us hl => match us, hl with | [_, _], _ => rfl,
      f_law := fa,
      d_law := _,
      F_law := fun_mk (st := s_law) l36 c36 k36,
      g_law := PySem.W.mg_of X G a36,
      b_law := (fun_mk (st := s_law) l36 c36 k36).binds (ps := ["_law_script"]) fun _ _ _ _ _ _ us hl => match us, hl with | [_], _ => rfl,
      C_WalkError := CWalkError,
      g_WalkError := PySem.W.mg_of X G gWalkError,
      k_WalkError := kWalkError,
      b_WalkError := bWalkError,
      t_WalkError := tWalkError,
      i_WalkError := iWalkError,
      C_BadMachine := CBadMachine,
      g_BadMachine := PySem.W.mg_of X G gBadMachine,
      x_BadMachine := xBadMachine,
      k_BadMachine := kBadMachine,
      b_BadMachine := bBadMachine,
      t_BadMachine := tBadMachine,
      i_BadMachine := iBadMachine,
      C_TooMany := CTooMany,
      g_TooMany := PySem.W.mg_of X G gTooMany,
      x_TooMany := xTooMany,
      k_TooMany := kTooMany,
      b_TooMany := bTooMany,
      t_TooMany := tTooMany,
      i_TooMany := iTooMany,
      C_NoMark := CNoMark,
      g_NoMark := PySem.W.mg_of X G gNoMark,
      x_NoMark := xNoMark,
      k_NoMark := kNoMark,
      b_NoMark := bNoMark,
      t_NoMark := tNoMark,
      i_NoMark := iNoMark,
      C_NoRoom := CNoRoom,
      g_NoRoom := PySem.W.mg_of X G gNoRoom,
      k_NoRoom := kNoRoom,
      b_NoRoom := bNoRoom,
      t_NoRoom := tNoRoom,
      i_NoRoom := iNoRoom,
      t_LETTERS := uLETTERS,
      g_LETTERS := PySem.W.mg_of X G gLETTERS,
      t_LONG := uLONG,
      g_LONG := PySem.W.mg_of X G gLONG,
      t_MOST_DOORS := uMOST_DOORS,
      g_MOST_DOORS := PySem.W.mg_of X G gMOST_DOORS,
      t_MOST_ROOMS := uMOST_ROOMS,
      g_MOST_ROOMS := PySem.W.mg_of X G gMOST_ROOMS,
      t_MOST_WATCHES := uMOST_WATCHES,
      g_MOST_WATCHES := PySem.W.mg_of X G gMOST_WATCHES,
      m_ValueError := PySem.W.mg_none_of X G zValueError,
      m_all := PySem.W.mg_none_of X G zall,
      m_bool := PySem.W.mg_none_of X G zbool,
      m_int := PySem.W.mg_none_of X G zint,
      m_isinstance := PySem.W.mg_none_of X G zisinstance,
      m_len := PySem.W.mg_none_of X G zlen,
      m_list := PySem.W.mg_none_of X G zlist,
      m_range := PySem.W.mg_none_of X G zrange,
      m_set := PySem.W.mg_none_of X G zset,
      m_str := PySem.W.mg_none_of X G zstr,
      m_tuple := PySem.W.mg_none_of X G ztuple,
      e1_BadMachine := he1_BadMachine,
      e2_BadMachine := he2_BadMachine,
      e4_BadMachine := he4_BadMachine,
      e5_BadMachine := he5_BadMachine,
      e8_BadMachine := he8_BadMachine,
      e1_NoMark := he1_NoMark,
      e2_NoMark := he2_NoMark,
      e4_NoMark := he4_NoMark,
      e5_NoMark := he5_NoMark,
      e8_NoMark := he8_NoMark,
      s_BadMachine_BadMachine := hs_BadMachine_BadMachine,
      s_NoMark_BadMachine := hs_NoMark_BadMachine,
      s_NoMark_NoMark := hs_NoMark_NoMark,
      e6_ := he6_,
      e7_ := he7_,
      k_BadMachine_NoMark := hk_BadMachine_NoMark,
      k_BadMachine_TooMany := hk_BadMachine_TooMany,
      k_BadMachine_WalkError := hk_BadMachine_WalkError,
      k_NoMark_BadMachine := hk_NoMark_BadMachine,
      k_NoMark_NoRoom := hk_NoMark_NoRoom,
      k_NoMark_WalkError := hk_NoMark_WalkError,
      k_BadMachine_v := hk_BadMachine_v }
  exact ⟨_, fun s v => .of_eq rfl, fun base _ _ => ok_law T⟩
end ZW
open PySem PySem.W PyProof.Rows
set_option maxRecDepth 100000 in
set_option maxHeartbeats 0 in
theorem PySem.Challenge.cw_zonewalk_k71_long_watches_holds : PySem.Challenge.rw_zonewalk_k71_long_watches.Holds := by
  w_on; o_law; k_head; (case hw => w_witness2)
  k_fill
  refine L2.walk_of (l := PySem.Challenge.rw_zonewalk_k71_long_watches) (n := 63) (k := 10) (x := "_law_script") (CX := fun _ => L2.CX0) (sp := fun w => ZW.spLaw _) rfl (by decide) rfl ⟨rfl, by decide, by decide⟩ (fun w h Y => PySem.W.kIn_of Y) ?F (fun _ _ a ns hl _ hS => ⟨a, ns, rfl, hS, hl, fun _ => rfl⟩) (fun _ _ _ _ _ h => h)
  case F =>
    intro w mg fa h KX G hmg
    refine' ZW.all_mk KX G hmg ?gDoor ?pgDoor ?hdDoor ?poDoor ?saDoor ?mkDoor ?kcDoor ?hcDoor ?hnDoor ?htDoor ?hmDoor ?nDoor_backs ?nDoor_end ?nDoor_looks ?nDoor_sign ?nDoor_start ?gMachine ?pgMachine ?hdMachine ?poMachine ?saMachine ?mkMachine ?kcMachine ?hcMachine ?hnMachine ?htMachine ?hmMachine ?nMachine_door_list ?nMachine_room_names ?nMachine_stay_looks ?nMachine_watch_names ?gBELOW ?lBELOW ?cBELOW ?dBELOW ?gWORDS ?lWORDS ?cWORDS ?dWORDS ?a0 ?l0 ?c0 ?k0 ?a1 ?l1 ?c1 ?k1 ?a2 ?l2 ?c2 ?k2 ?a3 ?l3 ?c3 ?k3 ?a4 ?l4 ?c4 ?k4 ?a5 ?l5 ?c5 ?k5 ?a6 ?l6 ?c6 ?k6 ?a7 ?l7 ?c7 ?k7 ?a8 ?l8 ?c8 ?k8 ?a9 ?i9 ?l9 ?c9 ?k9 ?lt9 ?ld9 ?a10 ?i10 ?l10 ?c10 ?k10 ?a11 ?i11 ?l11 ?c11 ?k11 ?a12 ?l12 ?c12 ?k12 ?a13 ?l13 ?c13 ?k13 ?a14 ?l14 ?c14 ?k14 ?a15 ?l15 ?c15 ?k15 ?a16 ?i16 ?l16 ?c16 ?k16 ?a17 ?i17 ?l17 ?c17 ?k17 ?a18 ?i18 ?l18 ?c18 ?k18 ?a19 ?i19 ?l19 ?c19 ?k19 ?a20 ?i20 ?l20 ?c20 ?k20 ?a21 ?l21 ?c21 ?k21 ?a22 ?l22 ?c22 ?k22 ?a23 ?l23 ?c23 ?k23 ?a24 ?l24 ?c24 ?k24 ?a25 ?l25 ?c25 ?k25 ?a26 ?l26 ?c26 ?k26 ?a27 ?l27 ?c27 ?k27 ?a28 ?l28 ?c28 ?k28 ?a29 ?l29 ?c29 ?k29 ?a30 ?l30 ?c30 ?k30 ?a31 ?l31 ?c31 ?k31 ?a32 ?l32 ?c32 ?k32 ?a33 ?l33 ?c33 ?k33 ?a34 ?l34 ?c34 ?k34 ?a35 ?l35 ?c35 ?k35 ?a36 ?l36 ?c36 ?k36 ?gWalkError ?kWalkError ?bWalkError ?tWalkError ?iWalkError ?gBadMachine ?xBadMachine ?kBadMachine ?bBadMachine ?tBadMachine ?iBadMachine ?gTooMany ?xTooMany ?kTooMany ?bTooMany ?tTooMany ?iTooMany ?gNoMark ?xNoMark ?kNoMark ?bNoMark ?tNoMark ?iNoMark ?gNoRoom ?kNoRoom ?bNoRoom ?tNoRoom ?iNoRoom ?gLETTERS ?gLONG ?gMOST_DOORS ?gMOST_ROOMS ?gMOST_WATCHES ?zValueError ?zall ?zbool ?zint ?zisinstance ?zlen ?zlist ?zrange ?zset ?zstr ?ztuple ?he1_BadMachine ?he2_BadMachine ?he4_BadMachine ?he5_BadMachine ?he8_BadMachine ?he1_NoMark ?he2_NoMark ?he4_NoMark ?he5_NoMark ?he8_NoMark ?hs_BadMachine_BadMachine ?hs_NoMark_BadMachine ?hs_NoMark_NoMark ?he6_ ?he7_ ?hk_BadMachine_NoMark ?hk_BadMachine_TooMany ?hk_BadMachine_WalkError ?hk_NoMark_BadMachine ?hk_NoMark_NoRoom ?hk_NoMark_WalkError ?hk_BadMachine_v
    (case gDoor => first | k_is | k_exc | rfl)
    (case pgDoor => first | k_is | k_exc | rfl)
    (case hdDoor => first | k_is | k_exc | rfl)
    (case poDoor => first | k_is | k_exc | rfl)
    (case saDoor => first | k_is | k_exc | rfl)
    (case mkDoor => first | k_is | k_exc | rfl)
    (case kcDoor => first | k_is | k_exc | rfl)
    (case hcDoor => first | k_is | k_exc | rfl)
    (case hnDoor => first | k_is | k_exc | rfl)
    (case htDoor => first | k_is | k_exc | rfl)
    (case hmDoor => first | k_is | k_exc | rfl)
    (case nDoor_backs => first | k_is | k_exc | rfl)
    (case nDoor_end => first | k_is | k_exc | rfl)
    (case nDoor_looks => first | k_is | k_exc | rfl)
    (case nDoor_sign => first | k_is | k_exc | rfl)
    (case nDoor_start => first | k_is | k_exc | rfl)
    (case gMachine => first | k_is | k_exc | rfl)
    (case pgMachine => first | k_is | k_exc | rfl)
    (case hdMachine => first | k_is | k_exc | rfl)
    (case poMachine => first | k_is | k_exc | rfl)
    (case saMachine => first | k_is | k_exc | rfl)
    (case mkMachine => first | k_is | k_exc | rfl)
    (case kcMachine => first | k_is | k_exc | rfl)
    (case hcMachine => first | k_is | k_exc | rfl)
    (case hnMachine => first | k_is | k_exc | rfl)
    (case htMachine => first | k_is | k_exc | rfl)
    (case hmMachine => first | k_is | k_exc | rfl)
    (case nMachine_door_list => first | k_is | k_exc | rfl)
    (case nMachine_room_names => first | k_is | k_exc | rfl)
    (case nMachine_stay_looks => first | k_is | k_exc | rfl)
    (case nMachine_watch_names => first | k_is | k_exc | rfl)
    (case gBELOW => first | k_is | k_exc | rfl)
    (case lBELOW => first | k_is | k_exc | rfl)
    (case cBELOW => first | k_is | k_exc | rfl)
    (case dBELOW => first | k_is | k_exc | rfl)
    (case gWORDS => first | k_is | k_exc | rfl)
    (case lWORDS => first | k_is | k_exc | rfl)
    (case cWORDS => first | k_is | k_exc | rfl)
    (case dWORDS => first | k_is | k_exc | rfl)
    (case a0 => first | k_is | k_exc | rfl)
    (case l0 => first | k_is | k_exc | rfl)
    (case c0 => first | k_is | k_exc | rfl)
    (case k0 => first | k_is | k_exc | rfl)
    (case a1 => first | k_is | k_exc | rfl)
    (case l1 => first | k_is | k_exc | rfl)
    (case c1 => first | k_is | k_exc | rfl)
    (case k1 => first | k_is | k_exc | rfl)
    (case a2 => first | k_is | k_exc | rfl)
    (case l2 => first | k_is | k_exc | rfl)
    (case c2 => first | k_is | k_exc | rfl)
    (case k2 => first | k_is | k_exc | rfl)
    (case a3 => first | k_is | k_exc | rfl)
    (case l3 => first | k_is | k_exc | rfl)
    (case c3 => first | k_is | k_exc | rfl)
    (case k3 => first | k_is | k_exc | rfl)
    (case a4 => first | k_is | k_exc | rfl)
    (case l4 => first | k_is | k_exc | rfl)
    (case c4 => first | k_is | k_exc | rfl)
    (case k4 => first | k_is | k_exc | rfl)
    (case a5 => first | k_is | k_exc | rfl)
    (case l5 => first | k_is | k_exc | rfl)
    (case c5 => first | k_is | k_exc | rfl)
    (case k5 => first | k_is | k_exc | rfl)
    (case a6 => first | k_is | k_exc | rfl)
    (case l6 => first | k_is | k_exc | rfl)
    (case c6 => first | k_is | k_exc | rfl)
    (case k6 => first | k_is | k_exc | rfl)
    (case a7 => first | k_is | k_exc | rfl)
    (case l7 => first | k_is | k_exc | rfl)
    (case c7 => first | k_is | k_exc | rfl)
    (case k7 => first | k_is | k_exc | rfl)
    (case a8 => first | k_is | k_exc | rfl)
    (case l8 => first | k_is | k_exc | rfl)
    (case c8 => first | k_is | k_exc | rfl)
    (case k8 => first | k_is | k_exc | rfl)
    (case a9 => first | k_is | k_exc | rfl)
    (case i9 => first | k_is | k_exc | rfl)
    (case l9 => first | k_is | k_exc | rfl)
    (case c9 => first | k_is | k_exc | rfl)
    (case k9 => first | k_is | k_exc | rfl)
    (case lt9 => first | k_is | k_exc | rfl)
    (case ld9 => first | k_is | k_exc | rfl)
    (case a10 => first | k_is | k_exc | rfl)
    (case i10 => first | k_is | k_exc | rfl)
    (case l10 => first | k_is | k_exc | rfl)
    (case c10 => first | k_is | k_exc | rfl)
    (case k10 => first | k_is | k_exc | rfl)
    (case a11 => first | k_is | k_exc | rfl)
    (case i11 => first | k_is | k_exc | rfl)
    (case l11 => first | k_is | k_exc | rfl)
    (case c11 => first | k_is | k_exc | rfl)
    (case k11 => first | k_is | k_exc | rfl)
    (case a12 => first | k_is | k_exc | rfl)
    (case l12 => first | k_is | k_exc | rfl)
    (case c12 => first | k_is | k_exc | rfl)
    (case k12 => first | k_is | k_exc | rfl)
    (case a13 => first | k_is | k_exc | rfl)
    (case l13 => first | k_is | k_exc | rfl)
    (case c13 => first | k_is | k_exc | rfl)
    (case k13 => first | k_is | k_exc | rfl)
    (case a14 => first | k_is | k_exc | rfl)
    (case l14 => first | k_is | k_exc | rfl)
    (case c14 => first | k_is | k_exc | rfl)
    (case k14 => first | k_is | k_exc | rfl)
    (case a15 => first | k_is | k_exc | rfl)
    (case l15 => first | k_is | k_exc | rfl)
    (case c15 => first | k_is | k_exc | rfl)
    (case k15 => first | k_is | k_exc | rfl)
    (case a16 => first | k_is | k_exc | rfl)
    (case i16 => first | k_is | k_exc | rfl)
    (case l16 => first | k_is | k_exc | rfl)
    (case c16 => first | k_is | k_exc | rfl)
    (case k16 => first | k_is | k_exc | rfl)
    (case a17 => first | k_is | k_exc | rfl)
    (case i17 => first | k_is | k_exc | rfl)
    (case l17 => first | k_is | k_exc | rfl)
    (case c17 => first | k_is | k_exc | rfl)
    (case k17 => first | k_is | k_exc | rfl)
    (case a18 => first | k_is | k_exc | rfl)
    (case i18 => first | k_is | k_exc | rfl)
    (case l18 => first | k_is | k_exc | rfl)
    (case c18 => first | k_is | k_exc | rfl)
    (case k18 => first | k_is | k_exc | rfl)
    (case a19 => first | k_is | k_exc | rfl)
    (case i19 => first | k_is | k_exc | rfl)
    (case l19 => first | k_is | k_exc | rfl)
    (case c19 => first | k_is | k_exc | rfl)
    (case k19 => first | k_is | k_exc | rfl)
    (case a20 => first | k_is | k_exc | rfl)
    (case i20 => first | k_is | k_exc | rfl)
    (case l20 => first | k_is | k_exc | rfl)
    (case c20 => first | k_is | k_exc | rfl)
    (case k20 => first | k_is | k_exc | rfl)
    (case a21 => first | k_is | k_exc | rfl)
    (case l21 => first | k_is | k_exc | rfl)
    (case c21 => first | k_is | k_exc | rfl)
    (case k21 => first | k_is | k_exc | rfl)
    (case a22 => first | k_is | k_exc | rfl)
    (case l22 => first | k_is | k_exc | rfl)
    (case c22 => first | k_is | k_exc | rfl)
    (case k22 => first | k_is | k_exc | rfl)
    (case a23 => first | k_is | k_exc | rfl)
    (case l23 => first | k_is | k_exc | rfl)
    (case c23 => first | k_is | k_exc | rfl)
    (case k23 => first | k_is | k_exc | rfl)
    (case a24 => first | k_is | k_exc | rfl)
    (case l24 => first | k_is | k_exc | rfl)
    (case c24 => first | k_is | k_exc | rfl)
    (case k24 => first | k_is | k_exc | rfl)
    (case a25 => first | k_is | k_exc | rfl)
    (case l25 => first | k_is | k_exc | rfl)
    (case c25 => first | k_is | k_exc | rfl)
    (case k25 => first | k_is | k_exc | rfl)
    (case a26 => first | k_is | k_exc | rfl)
    (case l26 => first | k_is | k_exc | rfl)
    (case c26 => first | k_is | k_exc | rfl)
    (case k26 => first | k_is | k_exc | rfl)
    (case a27 => first | k_is | k_exc | rfl)
    (case l27 => first | k_is | k_exc | rfl)
    (case c27 => first | k_is | k_exc | rfl)
    (case k27 => first | k_is | k_exc | rfl)
    (case a28 => first | k_is | k_exc | rfl)
    (case l28 => first | k_is | k_exc | rfl)
    (case c28 => first | k_is | k_exc | rfl)
    (case k28 => first | k_is | k_exc | rfl)
    (case a29 => first | k_is | k_exc | rfl)
    (case l29 => first | k_is | k_exc | rfl)
    (case c29 => first | k_is | k_exc | rfl)
    (case k29 => first | k_is | k_exc | rfl)
    (case a30 => first | k_is | k_exc | rfl)
    (case l30 => first | k_is | k_exc | rfl)
    (case c30 => first | k_is | k_exc | rfl)
    (case k30 => first | k_is | k_exc | rfl)
    (case a31 => first | k_is | k_exc | rfl)
    (case l31 => first | k_is | k_exc | rfl)
    (case c31 => first | k_is | k_exc | rfl)
    (case k31 => first | k_is | k_exc | rfl)
    (case a32 => first | k_is | k_exc | rfl)
    (case l32 => first | k_is | k_exc | rfl)
    (case c32 => first | k_is | k_exc | rfl)
    (case k32 => first | k_is | k_exc | rfl)
    (case a33 => first | k_is | k_exc | rfl)
    (case l33 => first | k_is | k_exc | rfl)
    (case c33 => first | k_is | k_exc | rfl)
    (case k33 => first | k_is | k_exc | rfl)
    (case a34 => first | k_is | k_exc | rfl)
    (case l34 => first | k_is | k_exc | rfl)
    (case c34 => first | k_is | k_exc | rfl)
    (case k34 => first | k_is | k_exc | rfl)
    (case a35 => first | k_is | k_exc | rfl)
    (case l35 => first | k_is | k_exc | rfl)
    (case c35 => first | k_is | k_exc | rfl)
    (case k35 => first | k_is | k_exc | rfl)
    (case a36 => first | k_is | k_exc | rfl)
    (case l36 => first | k_is | k_exc | rfl)
    (case c36 => first | k_is | k_exc | rfl)
    (case k36 => first | k_is | k_exc | rfl)
    (case gWalkError => first | k_is | k_exc | rfl)
    (case kWalkError => first | k_is | k_exc | rfl)
    (case bWalkError => first | k_is | k_exc | rfl)
    (case tWalkError => first | k_is | k_exc | rfl)
    (case iWalkError => first | k_is | k_exc | rfl)
    (case gBadMachine => first | k_is | k_exc | rfl)
    (case xBadMachine => first | k_is | k_exc | rfl)
    (case kBadMachine => first | k_is | k_exc | rfl)
    (case bBadMachine => first | k_is | k_exc | rfl)
    (case tBadMachine => first | k_is | k_exc | rfl)
    (case iBadMachine => first | k_is | k_exc | rfl)
    (case gTooMany => first | k_is | k_exc | rfl)
    (case xTooMany => first | k_is | k_exc | rfl)
    (case kTooMany => first | k_is | k_exc | rfl)
    (case bTooMany => first | k_is | k_exc | rfl)
    (case tTooMany => first | k_is | k_exc | rfl)
    (case iTooMany => first | k_is | k_exc | rfl)
    (case gNoMark => first | k_is | k_exc | rfl)
    (case xNoMark => first | k_is | k_exc | rfl)
    (case kNoMark => first | k_is | k_exc | rfl)
    (case bNoMark => first | k_is | k_exc | rfl)
    (case tNoMark => first | k_is | k_exc | rfl)
    (case iNoMark => first | k_is | k_exc | rfl)
    (case gNoRoom => first | k_is | k_exc | rfl)
    (case kNoRoom => first | k_is | k_exc | rfl)
    (case bNoRoom => first | k_is | k_exc | rfl)
    (case tNoRoom => first | k_is | k_exc | rfl)
    (case iNoRoom => first | k_is | k_exc | rfl)
    (case gLETTERS => first | k_is | k_exc | rfl)
    (case gLONG => first | k_is | k_exc | rfl)
    (case gMOST_DOORS => first | k_is | k_exc | rfl)
    (case gMOST_ROOMS => first | k_is | k_exc | rfl)
    (case gMOST_WATCHES => first | k_is | k_exc | rfl)
    (case zValueError => first | k_is | k_exc | rfl)
    (case zall => first | k_is | k_exc | rfl)
    (case zbool => first | k_is | k_exc | rfl)
    (case zint => first | k_is | k_exc | rfl)
    (case zisinstance => first | k_is | k_exc | rfl)
    (case zlen => first | k_is | k_exc | rfl)
    (case zlist => first | k_is | k_exc | rfl)
    (case zrange => first | k_is | k_exc | rfl)
    (case zset => first | k_is | k_exc | rfl)
    (case zstr => first | k_is | k_exc | rfl)
    (case ztuple => first | k_is | k_exc | rfl)
    (case he1_BadMachine => first | k_is | k_exc | rfl)
    (case he2_BadMachine => first | k_is | k_exc | rfl)
    (case he4_BadMachine => first | k_is | k_exc | rfl)
    (case he5_BadMachine => first | k_is | k_exc | rfl)
    (case he8_BadMachine => first | k_is | k_exc | rfl)
    (case he1_NoMark => first | k_is | k_exc | rfl)
    (case he2_NoMark => first | k_is | k_exc | rfl)
    (case he4_NoMark => first | k_is | k_exc | rfl)
    (case he5_NoMark => first | k_is | k_exc | rfl)
    (case he8_NoMark => first | k_is | k_exc | rfl)
    (case hs_BadMachine_BadMachine => first | k_is | k_exc | rfl)
    (case hs_NoMark_BadMachine => first | k_is | k_exc | rfl)
    (case hs_NoMark_NoMark => first | k_is | k_exc | rfl)
    (case he6_ => first | k_is | k_exc | rfl)
    (case he7_ => first | k_is | k_exc | rfl)
    (case hk_BadMachine_NoMark => first | k_is | k_exc | rfl)
    (case hk_BadMachine_TooMany => first | k_is | k_exc | rfl)
    (case hk_BadMachine_WalkError => first | k_is | k_exc | rfl)
    (case hk_NoMark_BadMachine => first | k_is | k_exc | rfl)
    (case hk_NoMark_NoRoom => first | k_is | k_exc | rfl)
    (case hk_NoMark_WalkError => first | k_is | k_exc | rfl)
    (case hk_BadMachine_v => first | k_is | k_exc | rfl)
