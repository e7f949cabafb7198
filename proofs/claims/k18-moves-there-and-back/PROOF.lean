import PyProof.Rows.All
import Wide.All
import OpenK.AllK
import Wide.FinOn
import HandS.ForMost
import HandS.ForExc
import HandS.Wide
import HandS.WideBits
import HandS.IsInst
import HandS.TupLe
import KE.BitLaws
import HandS.Defaults
import HandS.ExcIs
import HandS.Conv
import HandS.Zip
import HandS.More
import PyProof.DictUpdate
import PySem.Challenge.RW_zonewalk_k18_moves_there_and_back
set_option Elab.async false
set_option linter.all false
set_option maxRecDepth 100000
set_option maxHeartbeats 4000000

namespace ZW
theorem fmod_gcd (a b : Int) : Int.gcd b (a.fmod b) = Int.gcd a b := by
  rw [Int.fmod_def, Int.gcd_comm a b]
  exact Int.gcd_sub_mul_left_right b a (a.fdiv b)
theorem fmod_lt (a b : Int) (hb : b ≠ 0) : (a.fmod b).natAbs < b.natAbs := by
  rcases Int.lt_or_lt_of_ne hb with h | h
  · have h1 := Int.fmod_def a b
    have e : a.fmod b = -((-a).fmod (-b)) := by simp
    rw [e, Int.fmod_eq_emod_of_nonneg _ (by omega)]
    have := Int.emod_lt_of_pos (-a) (b := -b) (by omega)
    have := Int.emod_nonneg (-a) (b := -b) (by omega)
    omega
  · rw [Int.fmod_eq_emod_of_nonneg a (by omega)]
    have := Int.emod_lt_of_pos a h
    have := Int.emod_nonneg a hb
    omega
theorem gcd_pos_right {a b : Int} (hb : b ≠ 0) : (0 : Int) < Int.gcd a b := by
  have := Int.gcd_pos_of_ne_zero_right a hb
  omega
/-- both divided by their gcd -/
structure Low (a b t u : Int) : Prop where
  pos : 0 < b → 0 < u
  top : t * Int.gcd a b = a
  bot : u * Int.gcd a b = b
  eq : t * b = a * u
  one : Int.gcd t u = 1
theorem low_of {a b : Int} (hb : b ≠ 0) : Low a b (a.fdiv (Int.gcd a b)) (b.fdiv (Int.gcd a b)) := by
  have g := gcd_pos_right (a := a) hb
  have d1 : (Int.gcd a b : Int) ∣ a := Int.gcd_dvd_left ..
  have d2 : (Int.gcd a b : Int) ∣ b := Int.gcd_dvd_right ..
  rw [Int.fdiv_eq_ediv_of_nonneg _ (by omega), Int.fdiv_eq_ediv_of_nonneg _ (by omega)]
  have e1 := Int.ediv_mul_cancel d1
  have e2 := Int.ediv_mul_cancel d2
  generalize hx : a / (Int.gcd a b : Int) = x at *
  generalize hy : b / (Int.gcd a b : Int) = y at *
  generalize hg : (Int.gcd a b : Int) = G at *
  refine ⟨fun h => ?_, ?_, ?_, ?_, ?_⟩
  · rcases Int.lt_or_le 0 y with z | z
    · exact z
    · have := Int.mul_nonpos_of_nonpos_of_nonneg z (Int.le_of_lt g)
      omega
  · rw [hg]; exact e1
  · rw [hg]; exact e2
  · rw [← e2, ← e1]; rw [Int.mul_comm y G, ← Int.mul_assoc]
  · have q : Int.gcd (x * G) (y * G) = Int.gcd x y * G.natAbs := Int.gcd_mul_right ..
    rw [e1, e2] at q
    have hG : G.natAbs = Int.gcd a b := by omega
    rw [hG] at q
    have gp : 0 < Int.gcd a b := by omega
    exact Nat.eq_of_mul_eq_mul_right gp (by rw [Nat.one_mul]; exact q.symm)
theorem quo_le {t G a : Int} (h : t * G = a) (hG : 0 < G) : t.natAbs ≤ a.natAbs := by
  rw [← h, Int.natAbs_mul]
  exact Nat.le_mul_of_pos_right _ (by omega)
/-- the fraction t / u, in lowest terms, that stands so to a and b -/
structure Red (a b t u : Int) : Prop where
  pos : 0 < u
  eq : t * b = a * u
  one : Int.gcd t u = 1
  tle : t.natAbs ≤ a.natAbs
  ule : u.natAbs ≤ b.natAbs
theorem Low.red {a b t u : Int} (l : Low a b t u) (h : 0 < b) : Red a b t u := ⟨l.pos h, l.eq, l.one, quo_le l.top (gcd_pos_right (by omega)), quo_le l.bot (gcd_pos_right (by omega))⟩
theorem red_neg {a b : Int} (hb : b < 0) : Red a b (a.fdiv (0 - (Int.gcd a b : Int))) (b.fdiv (0 - (Int.gcd a b : Int))) := by
  have l := low_of (a := a) (b := b) (by omega)
  have g := gcd_pos_right (a := a) (b := b) (by omega)
  have k : ∀ x t : Int, t * (Int.gcd a b : Int) = x → x.fdiv (0 - (Int.gcd a b : Int)) = - t := by
    intro x t e
    rw [Int.zero_sub, show x = (-(Int.gcd a b : Int)) * (-t) by rw [Int.neg_mul_neg, Int.mul_comm, e], Int.mul_fdiv_cancel_left _ (by omega)]
  rw [k _ _ l.top, k _ _ l.bot]
  have hu : b.fdiv (Int.gcd a b) < 0 := by
    rcases Int.lt_or_le (b.fdiv (Int.gcd a b)) 0 with z | z
    · exact z
    · have := Int.mul_nonneg z (Int.le_of_lt g); rw [l.bot] at this; omega
  refine ⟨by omega, by rw [Int.neg_mul, Int.mul_neg, l.eq], by rw [Int.gcd_neg, Int.neg_gcd]; exact l.one, by rw [Int.natAbs_neg]; exact quo_le l.top g, by rw [Int.natAbs_neg]; exact quo_le l.bot g⟩
theorem dvd_cop {u t v : Int} (h : u ∣ t * v) (c : Int.gcd t u = 1) : u ∣ v := by
  have h1 : u.natAbs ∣ t.natAbs * v.natAbs := by rw [← Int.natAbs_mul]; exact Int.natAbs_dvd_natAbs.mpr h
  have h2 : Nat.Coprime u.natAbs t.natAbs := by rw [Nat.coprime_comm]; exact c
  exact Int.natAbs_dvd_natAbs.mp (h2.dvd_of_dvd_mul_left h1)
theorem cop_uniq {t u t' u' : Int} (hu : 0 < u) (hu' : 0 < u') (c : Int.gcd t u = 1) (c' : Int.gcd t' u' = 1) (e : t * u' = t' * u) : t = t' ∧ u = u' := by
  have d1 : u ∣ u' := by
    have : u ∣ t * u' := ⟨t', by rw [e, Int.mul_comm]⟩
    exact dvd_cop this c
  have d2 : u' ∣ u := by
    have : u' ∣ t' * u := ⟨t, by rw [← e, Int.mul_comm]⟩
    exact dvd_cop this c'
  have eu : u = u' := by
    have h1 := Int.le_of_dvd hu' d1
    have h2 := Int.le_of_dvd hu d2
    omega
  subst eu
  exact ⟨Int.eq_of_mul_eq_mul_right (by omega) e, rfl⟩
theorem Red.uniq {a b t u t' u' : Int} (hb : b ≠ 0) (h : Red a b t u) (k : Red a b t' u') : t = t' ∧ u = u' := by
  refine cop_uniq h.pos k.pos h.one k.one ?_
  have : t * u' * b = t' * u * b := by
    rw [Int.mul_right_comm, h.eq, Int.mul_right_comm t', k.eq]; ac_rfl
  exact Int.eq_of_mul_eq_mul_right hb this
/-- fractions that stand so to the same two numbers, told by cross products -/
theorem red_cross {a b a' b' t u t' u' : Int} (hb : b ≠ 0) (hb' : b' ≠ 0) (x : a * b' = a' * b) (h : Red a b t u) (k : Red a' b' t' u') : t = t' ∧ u = u' := by
  refine cop_uniq h.pos k.pos h.one k.one ?_
  have e : t * u' * (b * b') = t' * u * (b * b') := by
    rw [show t * u' * (b * b') = (t * b) * (u' * b') by ac_rfl, show t' * u * (b * b') = (t' * b') * (u * b) by ac_rfl, h.eq, k.eq,
      show a * u * (u' * b') = (a * b') * (u * u') by ac_rfl, show a' * u' * (u * b) = (a' * b) * (u * u') by ac_rfl, x]
  exact Int.eq_of_mul_eq_mul_right (Int.mul_ne_zero hb hb') e
theorem gcd_le_size {a b : Int} (hb : b ≠ 0) : (Int.gcd a b) ≤ b.natAbs := by
  have := Int.gcd_dvd_right (a := a) (b := b)
  exact Nat.le_of_dvd (by omega) (by simpa using Int.natAbs_dvd_natAbs.mpr this)
theorem log_lt {i : Int} {n m : Nat} (h : i.natAbs < 2 ^ n) (h0 : 0 < n) (hm : n ≤ m) : i.natAbs.log2 < m := by
  by_cases e : i.natAbs = 0
  · rw [e]; simp; omega
  · exact Nat.lt_of_lt_of_le ((Nat.log2_lt e).mpr h) hm
open PySem PySem.Spec PyProof.Rows L2
theorem upd_keep {H : Hp} {p : Addr} {o : HO} (h : H p = none) : Same H (upd H p o) := fun b x e => by
  rw [upd_ne (ne_of_none e h)]
  exact e
theorem Same.to {H H' : Hp} (s : Same H H') {a : Addr} {o : HO} (h : H a = some o) : H' a = some o := s a o h
theorem seq_step {t u : TS} {D : Ends} {σ : L2.St} {H : Hp} (h : t { D with nx := u D } σ H) : tSeq t u D σ H := h
theorem ite_d {c : Prop} [Decidable c] {A B : Prop} (h1 : c → A) (h2 : ¬ c → B) : if decide c = true then A else B := by
  by_cases h : c
  · rw [if_pos (decide_eq_true h)]; exact h1 h
  · rw [if_neg (by rw [decide_eq_false h]; exact Bool.false_ne_true)]; exact h2 h
theorem shl1 {i : Int} {n : Nat} (h : i.natAbs < 2 ^ n) (hn : n ≤ 100000) : CShl i 1 := shl_ok (j := 1) h (by omega)
theorem one_ne : ((1 : Int) = 0) = False := by simp
theorem pow_lit (i : Int) : i ^ (1 : Nat) = i := Int.pow_one i
theorem cxK {CX : CXT} {P : Program} {w : World} {K : PySem.W.Frag} {mg : Str → Option Value} {base : Heap} {N : List Str} {qual : Str} {scope : Scope} {f : Addr} {cd : Value} {A : Around} {outer : List Env} {s : Shared} {H : Hp} {E : XK} :
    (cxOf CX P w K mg base N qual scope f cd A outer s H E).K = K := rfl
theorem ix_l {K : PySem.W.Frag} {H : Hp} {p : Addr} {xs : List V} {i : Int} {v : V} {Q : VK} (h : SqL K H p xs) (hi : 0 ≤ i) (hv : xs[i.toNat]? = some v) (q : Q v H) : rIxL K (.ref p) (.int i) H Q :=
  ⟨p, xs, i, v, rfl, rfl, h, at_of (j := i.toNat) (by omega) hv, q⟩
theorem ix_t {K : PySem.W.Frag} {H : Hp} {p : Addr} {xs : List V} {i : Int} {v : V} {Q : VK} (h : SqT K H p xs) (hi : 0 ≤ i) (hv : xs[i.toNat]? = some v) (q : Q v H) : rIxT K (.ref p) (.int i) H Q :=
  ⟨p, xs, i, v, rfl, rfl, h, at_of (j := i.toNat) (by omega) hv, q⟩
theorem sqL_upd {K : PySem.W.Frag} {H : Hp} {p : Addr} {xs : List V} : SqL K (upd H p (.lst xs)) p xs := SqL.of upd_same
theorem fm2 (c : Int) : c.fmod 2 = 0 ∨ c.fmod 2 = 1 := by
  rw [Int.fmod_eq_emod_of_nonneg _ (by omega)]; omega
theorem fm_pos {c m : Int} (h : 0 < m) : 0 ≤ c.fmod m ∧ c.fmod m < m := by
  rw [Int.fmod_eq_emod_of_nonneg _ (by omega)]
  exact ⟨Int.emod_nonneg _ (by omega), Int.emod_lt_of_pos _ h⟩
/-- a number of at most n bits -/
def Sz (n : Nat) (i : Int) : Prop := i.natAbs < 2 ^ n
theorem Sz.mono {i : Int} {a c : Nat} (ha : Sz a i) (h : a ≤ c) : Sz c i := Nat.lt_of_lt_of_le ha (Nat.pow_le_pow_right (by decide) h)
theorem Sz.mulW {i j : Int} {a b : Nat} (ha : Sz a i) (hb : Sz b j) (h : a + b ≤ 999998) : CMulW i j :=
  wide_mul (a := a + 1) (b := b + 1) (Sz.mono ha (by omega)) (Sz.mono hb (by omega)) (by omega) (by omega) (by omega)
theorem Sz.mul {i j : Int} {a b c : Nat} (ha : Sz a i) (hb : Sz b j) (h : a + b ≤ c) : Sz c (i * j) := Sz.mono (wide_lt ha hb) h
theorem Sz.add {i j : Int} {a b c : Nat} (ha : Sz a i) (hb : Sz b j) (h1 : a + 1 ≤ c) (h2 : b + 1 ≤ c) : Sz c (i + j) := by
  have x : Sz (c - 1) i := ha.mono (by omega)
  have y : Sz (c - 1) j := hb.mono (by omega)
  have e : (2 : Nat) ^ c = 2 ^ (c - 1) * 2 := by rw [← Nat.pow_succ]; congr 1; omega
  unfold Sz at x y ⊢
  omega
theorem Sz.sub {i j : Int} {a b c : Nat} (ha : Sz a i) (hb : Sz b j) (h1 : a + 1 ≤ c) (h2 : b + 1 ≤ c) : Sz c (i - j) := by
  have x : Sz (c - 1) i := ha.mono (by omega)
  have y : Sz (c - 1) j := hb.mono (by omega)
  have e : (2 : Nat) ^ c = 2 ^ (c - 1) * 2 := by rw [← Nat.pow_succ]; congr 1; omega
  unfold Sz at x y ⊢
  omega
theorem Sz.le {i j : Int} {a : Nat} (h : i.natAbs ≤ j.natAbs) (hj : Sz a j) : Sz a i := Nat.lt_of_le_of_lt h hj
theorem Sz.nn {i j : Int} {a : Nat} (h0 : 0 ≤ i) (h : i ≤ j) (hj : Sz a j) : Sz a i := Sz.le (by omega) hj
theorem Sz.rg {i j : Int} {a : Nat} (h0 : -j ≤ i) (h : i ≤ j) (hj : Sz a j) : Sz a i := Sz.le (by omega) hj
/-- a divisor that the rule takes -/
def DivOk (j : Int) : Prop := j ≠ 0 ∧ j.natAbs.log2 < 9000
theorem DivOk.of {j : Int} {n : Nat} (h : j ≠ 0) (hs : Sz n j) (hn : n ≤ 8000) : DivOk j := ⟨h, log_lt (n := 8000) (hs.mono hn) (by omega) (by omega)⟩
theorem sz_line {n : Nat} (h : n ≤ 1000) : (n ≤ sizeLine) = True := eq_true (Nat.le_of_lt (small1000 h))
section
variable {X : Cx}
theorem op_fdivZ : OpR X (binaryOp .FloorDiv) (rI (fun _ j => DivOk j) fun i j => .int (i.fdiv j)) := opI fun _ _ _ _ _ _ _ hc q =>
  floordiv_int hc.1 q (.inl (PyProof.noPylong_of_log2 hc.2))
end
theorem gTup_of {K : PySem.W.Frag} {a : Addr} {xs : List V} {n : Nat} {t : TGs} {σ : L2.St} {H : Hp} {Q : L2.St → Hp → Prop} (h : SqT K H a xs) (hn : xs.length = n) (q : t xs σ H Q) : gTup K n t (.ref a) σ H Q := ⟨a, xs, rfl, h, hn, q⟩
theorem sqt {K : PySem.W.Frag} {H : Hp} {a : Addr} {xs : List V} (h : H a = some (.tup xs)) : SqT K H a xs := SqT.of h
theorem Low.top_le {a b t u : Int} (l : Low a b t u) (hb : b ≠ 0) : t.natAbs ≤ a.natAbs := quo_le l.top (gcd_pos_right hb)
theorem Low.bot_le {a b t u : Int} (l : Low a b t u) (hb : b ≠ 0) : u.natAbs ≤ b.natAbs := quo_le l.bot (gcd_pos_right hb)
theorem ite_and {a : Bool} {c : Prop} [Decidable c] {A R : Prop} (h1 : a = true → c → A) (h2 : ¬ (a = true ∧ c) → R) : if a = true then (if decide c = true then A else R) else R := by
  by_cases ha : a = true
  · rw [if_pos ha]; exact ite_d (h1 ha) fun z => h2 fun q => z q.2
  · rw [if_neg ha]; exact h2 fun q => ha q.1
section
variable {X : Cx} {e : Expr} {es : List Expr} {t t' : TE} {ta : TA} {pos : Pos}
theorem pe_imp (h : PE X e t) (k : ∀ σ H Q, t' σ H Q → t σ H Q) : PE X e t' := ⟨fun pins s σ H Q I q => h.run pins s σ H Q I (k σ H Q q)⟩
def tWk (ta : TA) : TA := fun σ H Q => ∃ Q0 : List V → Hp → Prop, ta σ H Q0 ∧ ∀ xs H1, Q0 xs H1 → Q xs H1
theorem pa_wk (h : PA X es ta) : PA X es (tWk ta) := ⟨fun pos pins s σ H _ I ⟨Q0, a, k⟩ => thn (h.run pos pins s σ H Q0 I a) fun _ _ ⟨xs, H1, I1, r, q⟩ => ⟨xs, H1, I1, r, k _ _ q⟩⟩
/-- a new tuple, a new list: nothing but what is tracked is told of the heap behind -/
def tTupN (ta : TA) : TE := fun σ H Q => ta σ H fun xs H1 => xs.length ≤ sizeLine ∧ ∀ p H2, Same H1 H2 → H1 p = none → H2 p = some (.tup xs) → Q (.ref p) H2
def tLstN (ta : TA) : TE := fun σ H Q => ta σ H fun xs H1 => xs.length ≤ sizeLine ∧ ∀ p H2, Same H1 H2 → H1 p = none → H2 p = some (.lst xs) → Q (.ref p) H2
theorem pe_tupN {x1} (h : PA X es ta) : PE X (.Tuple es x1 pos) (tTupN ta) :=
  pe_imp (pe_tup (pa_wk h)) fun _ _ _ q => ⟨_, q, fun _ _ ⟨z, k⟩ => ⟨z, fun p hp => k p _ (upd_keep hp) hp upd_same⟩⟩
theorem pe_lstN (h : PA X es ta) : PE X (.List es pos) (tLstN ta) :=
  pe_imp (pe_lst (pa_wk h)) fun _ _ _ q => ⟨_, q, fun _ _ ⟨z, k⟩ => ⟨z, fun p hp => k p _ (upd_keep hp) hp upd_same⟩⟩
def rSlN (K : PySem.W.Frag) : V → Option Int → Option Int → Hp → VK → Prop := fun x lo hi H Q => ∃ a xs, x = .ref a ∧ SqL K H a xs ∧ ∀ p H2, Same H H2 → H p = none → H2 p = some (.lst (cutV xs lo hi)) → Q (.ref p) H2
theorem sl_listN : SlR X (rSlN X.K) := fun pins s σ H x v vl vu lo hi sl Q I rx hs p1 p2 ⟨a, xs, e, h, q⟩ =>
  sl_list pins s σ H x v vl vu lo hi sl Q I rx hs p1 p2 ⟨a, xs, e, h, fun p hp => q p _ (upd_keep hp) hp upd_same⟩
theorem op_imp {f : Value → Value → Sem Value} {r r' : R2} (h : OpR X f r) (k : ∀ x y H Q, r' x y H Q → r x y H Q) : OpR X f r' := fun pins s σ H x y v u Q I rx ry q => h pins s σ H x y v u Q I rx ry (k x y H Q q)
def rCatN : R2 := fun x y H Q => ∃ l b xs zs, x = .ref l ∧ y = .ref b ∧ H l = some (.lst xs) ∧ H b = some (.lst zs) ∧ xs.length + zs.length ≤ sizeLine ∧ ∀ p H2, Same H H2 → H p = none → H2 p = some (.lst (xs ++ zs)) → Q (.ref p) H2
theorem op_catN : OpR X (binaryOp .Add) rCatN := op_imp op_cat fun _ _ _ _ ⟨l, b, xs, zs, e1, e2, h1, h2, z, q⟩ => ⟨l, b, xs, zs, e1, e2, h1, h2, z, fun p hp => q p _ (upd_keep hp) hp upd_same⟩
def rRepN : R2 := fun x y H Q => ∃ l k xs, x = .ref l ∧ y = .int k ∧ H l = some (.lst xs) ∧ -(2 ^ 63) ≤ k ∧ k < 2 ^ 63 ∧ xs.length * k.toNat ≤ sizeLine ∧ ∀ p H2, Same H H2 → H p = none → H2 p = some (.lst (List.replicate k.toNat xs).flatten) → Q (.ref p) H2
theorem op_repN : OpR X (binaryOp .Mult) rRepN := op_imp op_rep fun _ _ _ _ ⟨l, k, xs, e1, e2, h, a, b, z, q⟩ => ⟨l, k, xs, e1, e2, h, a, b, z, fun p hp => q p _ (upd_keep hp) hp upd_same⟩
theorem small1000' {n : Nat} (h : n ≤ 1000) : n ≤ sizeLine := Nat.le_of_lt (small1000 h)
theorem call_imp {f : Value} {r r' : List V → Hp → VK → Prop} (h : CallR X f r) (k : ∀ x H Q, r' x H Q → r x H Q) : CallR X f r' := fun pins s σ H xs us Q I r q => h pins s σ H xs us Q I r (k xs H Q q)
def rListN (K : PySem.W.Frag) : List V → Hp → VK → Prop := fun xs H Q => ∃ p ys, xs = [.ref p] ∧ (SqL K H p ys ∨ SqT K H p ys) ∧ ∀ l H2, Same H H2 → H l = none → H2 l = some (.lst ys) → Q (.ref l) H2
theorem call_listN : CallR X (.type "list") (rListN X.K) := call_imp call_list_of fun _ _ _ ⟨p, ys, e, h, q⟩ => ⟨p, ys, e, h, fun l hl => q l _ (upd_keep hl) hl upd_same⟩
def rIntB : List V → Hp → VK → Prop := fun xs H Q => ∃ k, xs = [.bl k] ∧ Q (.int (if k then 1 else 0)) H
theorem call_intB : CallR X (.type "int") rIntB := call_imp call_int1 fun _ _ _ h => .inr h
end
theorem nat_and_mod (x y : Nat) : (x &&& y) % 2 = (x % 2) * (y % 2) := by
  have h := Nat.and_mod_two_pow (a := x) (b := y) (n := 1)
  have h1 : x % 2 = 0 ∨ x % 2 = 1 := by omega
  have h2 : y % 2 = 0 ∨ y % 2 = 1 := by omega
  rw [Nat.pow_one] at h
  rcases h1 with e | e <;> rcases h2 with f | f <;> rw [h, e, f] <;> rfl
theorem nat_or_mod (x y : Nat) : (x ||| y) % 2 = if x % 2 = 0 ∧ y % 2 = 0 then 0 else 1 := by
  have h := Nat.or_mod_two_pow (a := x) (b := y) (n := 1)
  have h1 : x % 2 = 0 ∨ x % 2 = 1 := by omega
  have h2 : y % 2 = 0 ∨ y % 2 = 1 := by omega
  rw [Nat.pow_one] at h
  rcases h1 with e | e <;> rcases h2 with f | f <;> rw [h, e, f] <;> rfl
theorem and_bit (a b : Int) : Builtin.bitAnd a b % 2 = (if a % 2 = 1 ∧ b % 2 = 1 then 1 else 0) := by
  have key : ∀ x y : Nat, x % 2 = 0 ∨ x % 2 = 1 := by omega
  have nn : ∀ x, Builtin.bitNot x = - x - 1 := by intro x; unfold Builtin.bitNot; omega
  by_cases ha : 0 ≤ a <;> by_cases hb : 0 ≤ b
  · rw [bitAnd_pp ha hb]
    have h := nat_and_mod a.toNat b.toNat
    have h1 : a.toNat % 2 = 0 ∨ a.toNat % 2 = 1 := by omega
    have h2 : b.toNat % 2 = 0 ∨ b.toNat % 2 = 1 := by omega
    rcases h1 with e | e <;> rcases h2 with f | f <;> rw [e, f] at h <;> split <;> omega
  · rw [bitAnd_pn ha hb, nn]
    have h := nat_and_mod a.toNat (-b-1).toNat
    have h1 : a.toNat % 2 = 0 ∨ a.toNat % 2 = 1 := by omega
    have h2 : (-b-1).toNat % 2 = 0 ∨ (-b-1).toNat % 2 = 1 := by omega
    rcases h1 with e | e <;> rcases h2 with f | f <;> rw [e, f] at h <;> split <;> omega
  · rw [bitAnd_np ha hb, nn]
    have h := nat_and_mod b.toNat (-a-1).toNat
    have h1 : b.toNat % 2 = 0 ∨ b.toNat % 2 = 1 := by omega
    have h2 : (-a-1).toNat % 2 = 0 ∨ (-a-1).toNat % 2 = 1 := by omega
    rcases h1 with e | e <;> rcases h2 with f | f <;> rw [e, f] at h <;> split <;> omega
  · rw [bitAnd_nn ha hb, nn, nn, nn]
    have h := nat_or_mod (-a-1).toNat (-b-1).toNat
    have h1 : (-a-1).toNat % 2 = 0 ∨ (-a-1).toNat % 2 = 1 := by omega
    have h2 : (-b-1).toNat % 2 = 0 ∨ (-b-1).toNat % 2 = 1 := by omega
    rcases h1 with e | e <;> rcases h2 with f | f <;> rw [e, f] at h <;> split at h <;> split <;> omega

theorem bit_sum (a b : Int) : Builtin.bitOr ((a / 2 + b / 2) * 2) (Builtin.bitAnd (Builtin.bitAnd a b) 1) = 2 * (a / 2 + b / 2) + (if a % 2 = 1 ∧ b % 2 = 1 then 1 else 0) := by
  rw [bitAnd_m1, and_bit, bitOr_and]
  split
  · rw [bitAnd_m1]; omega
  · rw [bitAnd_zero]; omega
theorem isi {K : PySem.W.Frag} {H : Hp} {x : V} {a b : String} {r : Bool} {Q : VK} (h : TyX K H x (.type a)) (k : kitB a b = some r) (q : Q (.bl r) H) : rIsi K [x, .ty b] H Q := ⟨x, .ty b, _, _, r, rfl, .ty b, h, kit_ty k, q⟩
theorem if_t {b : Bool} {A B : Prop} (h : b = true) (q : A) : if b = true then A else B := by rw [if_pos h]; exact q
theorem if_f {b : Bool} {A B : Prop} (h : b = false) (q : B) : if b = true then A else B := by rw [h, if_neg Bool.false_ne_true]; exact q
/-- a bound, as a value -/
def oV : Option Int → V
  | none => .non
  | some i => .int i
theorem oV_none : oV none = .non := rfl
theorem oV_some (i : Int) : oV (some i) = .int i := rfl
theorem funD_mk {K : PySem.W.Frag} {x qual : Str} {st : Stmt} {f t : Addr} {oc kV doc pm cdv ct : Value} {od an : Option Addr} {osl : Array (Option Value)} {o : Obj} {n : Nat} {its : List Value} {dvs : List V}
    (l : K.lookup f = some ⟨oc, od, .func (PySem.W.fnOf x qual (defArgs st) (defBody st) (defScope st) (.ref t) kV doc pm an cdv ct), osl⟩) (c : PySem.W.codeIn K cdv qual = true) (k : PySem.W.keepIn K (.ref f) = true)
    (lt : K.lookup t = some o) (ld : o.data = .seq its.toArray n) (hv : Vals dvs its) (hd : dvs ≠ []) : FunD K x qual (defArgs st) (defBody st) (defScope st) dvs [] f (PySem.W.fnOf x qual (defArgs st) (defBody st) (defScope st) (.ref t) kV doc pm an cdv ct) :=
  ⟨⟨oc, od, .ref t, kV, doc, pm, an, cdv, ct, osl, rfl, l, c, .inr ⟨hd, t, o, its, n, rfl, lt, ld, hv⟩, .inl rfl⟩, k⟩
section
variable {X : Cx} {D a : Addr} {cls : Value} {d : Option Addr} {oe : Obj} {pn : List (Addr × Obj)}
/-- isinstance of the caught error: its class is told in the reading -/
theorem call_isE2 (hz : Zc cls d oe) (hf : ∃ vs, oe.data = .fields vs) : CallR (X.suite a ((a, oe) :: pn)) (.builtin "isinstance") (fun xs H Q => ∃ D, cls = .ref D ∧ d = none ∧ ExcC X.K D ∧ rIsE X.K D a xs H Q) := by
  intro pins s σ H xs us Q I r ⟨D, h1, h2, C, h⟩
  subst h1; subst h2
  exact call_isE C hz hf pins s σ H xs us Q I r h
end
theorem cut_int {ns : List Int} {lo hi : Option Int} {i : Nat} {x : V} (h : (cutV (ns.map V.int) lo hi)[i]? = some x) : ∃ z, x = .int z := by
  have m := List.mem_of_mem_drop (List.mem_of_mem_take (List.mem_of_getElem? h))
  obtain ⟨z, _, e⟩ := List.mem_map.mp m
  exact ⟨z, e.symm⟩
def kinds : List String := ["int", "bool", "NoneType", "str", "list", "tuple", "dict"]
/-- whether a thing is a whole number -/
def spWhole (K : PySem.W.Frag) : Sp := fun vs H Q _ => ∃ (x : V) (t : String), vs = [x] ∧ TyX K H x (.type t) ∧ t ∈ kinds ∧ Q (.bl (decide (t = "int"))) H
/-- two numbers in lowest terms, as a new tuple -/
def LowT (a b : Int) (H : Hp) (Q : VK) : Prop := ∀ (t u : Int) (p : Addr) (H' : Hp), Low a b t u → Same H H' → H' p = some (.tup [.int t, .int u]) → Q (.ref p) H'
/-- two numbers in lowest terms with a bottom above 0, as a new tuple -/
def RedT (a b : Int) (H : Hp) (Q : VK) : Prop := ∀ (t u : Int) (p : Addr) (H' : Hp), Red a b t u → Same H H' → H' p = some (.tup [.int t, .int u]) → Q (.ref p) H'
theorem ncast (n : Nat) : ((no_index (OfNat.ofNat n) : Nat) : Int) = OfNat.ofNat n := rfl
theorem exm_two {K : PySem.W.Frag} {C : Addr} {cls : Value} {b : Bool} (h1 : PySem.W.subIn K (.ref C) (.type "BaseException") = some true) (h2 : PySem.W.hasDictIn K C = true) (h3 : PySem.W.typeIn K (.ref C) = some (.type "type")) (h4 : PySem.W.subIn K cls (.ref C) = some b) : PySem.W.exmOne K cls (.ref C) = some b := PySem.W.exm_ref h1 h2 h3 h4
/-- isinstance(e, c) of a caught error -/
theorem isE {K : PySem.W.Frag} {D a : Addr} {c : V} {cv : Value} {b : Bool} {H : Hp} {Q : VK} (X : ExcC K D) (hc : ∀ u, RelV c u → u = cv) (k : PySem.W.kitOne K (.ref D) cv = some b) (q : Q (.bl b) H) : ∃ D', Value.ref D = Value.ref D' ∧ (Option.none : Option Addr) = Option.none ∧ ExcC K D' ∧ rIsE K D' a [.ref a, c] H Q :=
  ⟨D, rfl, rfl, X, c, cv, b, rfl, hc, k, q⟩
theorem tyx_same {K : PySem.W.Frag} {H H2 : Hp} (s : Same H H2) {x : V} {t : Value} (h : TyX K H x t) : TyX K H2 x t := by
  cases h with
  | base b =>
    refine .base ?_
    cases b with
    | non => exact .non
    | bl y => exact .bl y
    | int i => exact .int i
    | str y => exact .str y
    | flt y => exact .flt y
    | lst e => exact .lst (s _ _ e)
    | frz e => exact .frz (s _ _ e)
    | tup e => exact .tup (s _ _ e)
    | dK e => exact .dK (s _ _ e)
    | dT e => exact .dT (s _ _ e)
    | ins e cl a b c d => exact .ins (s _ _ e) cl a b c d
  | byt b => exact .byt b
  | set e => exact .set (s _ _ e)
  | kList e c => exact .kList e c
  | kTuple e c => exact .kTuple e c
  | kDict e c => exact .kDict e c
  | fTuple e => exact .fTuple (s _ _ e)
  | fDict e => exact .fDict (s _ _ e)
/-- what stands behind a statement is shown once, for all its ways -/
theorem join_if {t R : TS} {D : Ends} {σ : L2.St} {H : Hp} (P : L2.St → Hp → Prop) (h2 : ∀ σ' H', P σ' H' → R D σ' H') (h1 : (∀ σ' H', P σ' H' → R D σ' H') → tSeq t R D σ H) : tSeq t R D σ H := h1 h2
theorem red_zero {b t u : Int} (R : Red 0 b t u) : Red 0 1 t u := by
  have h1 := R.tle
  have h2 : t = 0 := by simp at h1; exact h1
  subst h2
  have h3 := R.one
  rw [Int.gcd_zero_left] at h3
  exact ⟨R.pos, by simp, R.one, h1, by omega⟩
theorem shaped_ii (a b : Int) : SeqAt.shaped (.tuple [.int a, .int b]) = true := rfl
section
variable {X : Cx} {K : PySem.W.Frag}
theorem call_isiA (h : X.K = K) : CallR X (.builtin "isinstance") (rIsi K) := by subst h; exact call_isi
theorem ix_listA (h : X.K = K) : IxR X (rIxL K) := by subst h; exact ix_list
theorem ix_tupA (h : X.K = K) : IxR X (rIxT K) := by subst h; exact ix_tup
theorem sl_listA (h : X.K = K) : SlR X (rSlN K) := by subst h; exact sl_listN
theorem call_listA (h : X.K = K) : CallR X (.type "list") (rListN K) := by subst h; exact call_listN
theorem pi_listA {tg l : Expr} {tl : TE} (h : X.K = K) (hl : PE X l tl) : PI X tg l (iList K tl) := by subst h; exact pi_list hl
end
theorem lc_vs {X : Cx} {e : Expr} {wi : TI} {g : TG} {tt : TT} {te : TE} {own : List (Str × Nat)} {vs : List Nat} (h : PE X e (tLc wi g tt te (own.map (·.2)))) (hv : own.map (·.2) = vs) : PE X e (tLc wi g tt te vs) := hv ▸ h
theorem lc_vsS {X : Cx} {e : Stmt} {wi : TI} {g k : TG} {tt : TT} {te : TE} {own : List (Str × Nat)} {vs : List Nat} (h : PS X e (tAsg (tLc wi g tt te (own.map (·.2))) k)) (hv : own.map (·.2) = vs) : PS X e (tAsg (tLc wi g tt te vs) k) := hv ▸ h
theorem same_updN {H H2 : Hp} {D : Addr} {o : HO} (hD : H D = none) (s : Same H H2) : Same H (upd H2 D o) := fun b x e => by
  rw [upd_ne (ne_of_none e hD)]
  exact s b x e
theorem sql_keep {K : PySem.W.Frag} {H H' : Hp} {a : Addr} {xs : List V} (h : SqL K H a xs) (k : ∀ b o, H b = some o → H' b = some o) : SqL K H' a xs := Same.seq (show Same H H' from k) h
theorem dpall_of {K : PySem.W.Frag} {H : Hp} : ∀ {vs : List V} {ds : List PyData}, vs.length = ds.length → (∀ (k : Nat) (v : V) (d : PyData), vs[k]? = some v → ds[k]? = some d → Dp K H v d) → DpAll K H vs ds
  | [], [], _, _ => .nil
  | [], _ :: _, h, _ => by cases h
  | _ :: _, [], h, _ => by cases h
  | v :: vs, d :: ds, h, k => .cons (k 0 v d rfl rfl) (dpall_of (Nat.succ.inj h) fun j v' d' h1 h2 => k (j + 1) v' d' h1 h2)
theorem shaped_list {ds : List PyData} (h : ∀ d ∈ ds, d.canLay0 = true ∧ d.depth ≤ 60) : SeqAt.shaped (.list ds) = true := by
  have key : ∀ ds : List PyData, (∀ d ∈ ds, d.canLay0 = true ∧ d.depth ≤ 60) → PyData.canLayAll0 ds = true ∧ PyData.depthAll ds ≤ 60 := by
    intro ds
    induction ds with
    | nil => intro _; exact ⟨rfl, Nat.zero_le _⟩
    | cons d ds ih =>
      intro h
      have h1 := h d (List.mem_cons_self ..)
      have h2 := ih fun x hx => h x (List.mem_cons_of_mem _ hx)
      refine ⟨by show (d.canLay0 && PyData.canLayAll0 ds) = true; rw [h1.1, h2.1]; rfl, ?_⟩
      show max d.depth (PyData.depthAll ds) ≤ 60
      omega
  have z := key ds h
  refine Bool.and_eq_true_iff.mpr ⟨z.1, decide_eq_true ?_⟩
  show PyData.depthAll ds + 1 ≤ 64
  omega
/-- whether a fraction is let by a bound -/
def letsO : Option Int → Int → Int → Bool
  | none, _, _ => true
  | some b, t, u => decide (t < b / 2 * u ∨ (t = b / 2 * u ∧ b % 2 = 1))
def narO : Option Int → Option Int → Option Int
  | none, y => y
  | some a, none => some a
  | some a, some b => some (if b < a then b else a)
/-- a fraction's tuple -/
def FracAt (n : Nat) (H : Hp) (v : V) : Prop := ∃ (q : Addr) (t u : Int), v = .ref q ∧ H q = some (.tup [.int t, .int u]) ∧ 0 < u ∧ Sz n t ∧ Sz n u
theorem FracAt.keep {n : Nat} {H H' : Hp} {v : V} (s : Same H H') (h : FracAt n H v) : FracAt n H' v := by
  obtain ⟨q, t, u, e, e2, r⟩ := h
  exact ⟨q, t, u, e, s _ _ e2, r⟩
theorem join_bl {b : Bool} {P : Prop} (h1 : b = true → P) (h2 : b = false → P) : P := by cases b; exact h2 rfl; exact h1 rfl
/-- a for over a list, behind its iterable's reading -/
def ForL (K : PySem.W.Frag) (a : Addr) (g : TG) (tb : TS) (D : Ends) (σ : L2.St) (H : Hp) : Prop := ∃ W : Nat → Nat → L2.St → Hp → Prop, (∃ m, W 0 m σ H) ∧ ∀ i m σ H, W i m σ H →
  ((Itl K a).stop i H ∧ D.nx σ H) ∨ ((Itl K a).go i H ∧ ∃ N : L2.St → Hp → Prop, (∀ σ' H', N σ' H' → ∃ m', m' < m ∧ W (i + 1) m' σ' H') ∧ ∀ x H', (Itl K a).yld i H x H' → g x σ H' fun σ2 H2 => tb { D with nx := N, ct := N, bk := D.nx } σ2 H2)
theorem for_li {K : PySem.W.Frag} {te : TE} {g : TG} {tb : TS} {D : Ends} {σ : L2.St} {H : Hp} (h : te σ H fun x H1 => ∃ a, x = .ref a ∧ (∃ xs, SqL K H1 a xs) ∧ ForL K a g tb D σ H1) : tFor (iList K te) g tb D σ H := h
theorem forL_by {K : PySem.W.Frag} {a : Addr} {xs : List V} {g : TG} {tb : TS} {D : Ends} {σ : L2.St} {H : Hp} (Pv : Nat → L2.St → Hp → Prop) (h0 : Pv 0 σ H) (hl : ∀ i σ H, i ≤ xs.length → Pv i σ H → SqL K H a xs)
    (hs : ∀ i x σ H, xs[i]? = some x → Pv i σ H → g x σ H fun σ2 H2 => tb { D with nx := Pv (i + 1), ct := Pv (i + 1), bk := D.nx } σ2 H2) (hd : ∀ σ H, Pv xs.length σ H → D.nx σ H) : (∃ ys, SqL K H a ys) ∧ ForL K a g tb D σ H :=
  ⟨⟨xs, hl 0 σ H (Nat.zero_le _) h0⟩, for_list (K := K) (a := a) (xs := xs) Pv h0 hl hs hd⟩
/-- what is asked whether it is a fraction, and the answer -/
inductive FrIn (K : PySem.W.Frag) (H : Hp) : V → Bool → Prop where
  | other {x : V} {t : String} (h : TyX K H x (.type t)) (k : t ∈ kinds) (n : t ≠ "tuple") : FrIn K H x false
  | len {p : Addr} {xs : List V} (h : H p = some (.tup xs)) (n : xs.length ≠ 2) : FrIn K H (.ref p) false
  | odd {p : Addr} {v0 v1 : V} {t0 t1 : String} (h : H p = some (.tup [v0, v1])) (h0 : TyX K H v0 (.type t0)) (h1 : TyX K H v1 (.type t1)) (k0 : t0 ∈ kinds) (k1 : t1 ∈ kinds) (n : t0 ≠ "int" ∨ t1 ≠ "int") : FrIn K H (.ref p) false
  | num {p : Addr} {a b : Int} (h : H p = some (.tup [.int a, .int b])) : FrIn K H (.ref p) (decide (1 ≤ b ∧ Int.gcd a b = 1))
theorem FrIn.keep {K : PySem.W.Frag} {H H' : Hp} {x : V} {b : Bool} (s : Same H H') (h : FrIn K H x b) : FrIn K H' x b := by
  cases h with
  | other h k n => exact .other (tyx_same s h) k n
  | len h n => exact .len (s _ _ h) n
  | odd h h0 h1 k0 k1 n => exact .odd (s _ _ h) (tyx_same s h0) (tyx_same s h1) k0 k1 n
  | num h => exact .num (s _ _ h)
def tDictN : TE := fun _ H Q => ∀ p H2, Same H H2 → H p = none → H2 p = some (.dK []) → Q (.ref p) H2
theorem pe_dnewN {X : Cx} {pos : Pos} : PE X (.Dict [] [] pos) tDictN := pe_imp pe_dnewK fun _ _ _ q p hp => q p _ (upd_keep hp) hp upd_same
theorem fr_no {K : PySem.W.Frag} {H : Hp} {p : Addr} {a b : Int} (h : H p = some (.tup [.int a, .int b])) (n : ¬ (1 ≤ b ∧ Int.gcd a b = 1)) : FrIn K H (.ref p) false := by
  have z := FrIn.num (K := K) h
  rw [decide_eq_false n] at z
  exact z
def addO : Option Int → Option Int → Option Int
  | some a, some b => some (2 * (a / 2 + b / 2) + (if a % 2 = 1 ∧ b % 2 = 1 then 1 else 0))
  | _, _ => none
/-- a for over a range, behind its bound's reading -/
def ForR (n : Nat) (g : TG) (tb : TS) (D : Ends) (σ : L2.St) (H : Hp) : Prop := ∃ W : Nat → Nat → L2.St → Hp → Prop, (∃ m, W 0 m σ H) ∧ ∀ i m σ H, W i m σ H →
  ((Itr 0 n).stop i H ∧ D.nx σ H) ∨ ((Itr 0 n).go i H ∧ ∃ N : L2.St → Hp → Prop, (∀ σ' H', N σ' H' → ∃ m', m' < m ∧ W (i + 1) m' σ' H') ∧ ∀ x H', (Itr 0 n).yld i H x H' → g x σ H' fun σ2 H2 => tb { D with nx := N, ct := N, bk := D.nx } σ2 H2)
theorem for_rg {ta : TA} {g : TG} {tb : TS} {D : Ends} {σ : L2.St} {H : Hp} (h : ta σ H fun vs H1 => ∃ j : Int, vs = [.int j] ∧ -(2 ^ 62) ≤ j ∧ j < 2 ^ 62 ∧ ForR j.toNat g tb D σ H1) : tFor (iRng1 ta) g tb D σ H := h
theorem forR_by {n : Nat} {g : TG} {tb : TS} {D : Ends} {σ : L2.St} {H : Hp} (Pv : Nat → L2.St → Hp → Prop) (h0 : Pv 0 σ H)
    (hs : ∀ i σ H, i < n → Pv i σ H → g (.int (0 + i)) σ H fun σ2 H2 => tb { D with nx := Pv (i + 1), ct := Pv (i + 1), bk := D.nx } σ2 H2) (hd : ∀ σ H, Pv n σ H → D.nx σ H) : ForR n g tb D σ H := for_range (lo := 0) (n := n) Pv h0 hs hd
theorem rg_ok {n : Nat} (h : n ≤ 100000) : -(2 ^ 62) ≤ ((n : Nat) : Int) ∧ ((n : Nat) : Int) < 2 ^ 62 := by constructor <;> omega
theorem cut_from {xs : List V} {k : Nat} (h : k ≤ xs.length) : cutV xs (some (k : Int)) none = xs.drop k := by
  unfold cutV
  rw [HT.sIx_none, HT.sIx_nat, Nat.min_eq_left h]
  exact List.take_of_length_le (by rw [List.length_drop]; exact Nat.le_refl _)
/-- xs.append(v) -/
theorem app_at {H : Hp} {l : Addr} {xs : List V} {v : V} {Q : VK} (h : H l = some (.lst xs)) (hl : xs.length ≤ 1000) (q : Q .non (upd H l (.lst (xs ++ [v])))) : rAppend (.ref l) [v] H Q := ⟨l, xs, v, rfl, rfl, h, small1000 hl, q⟩
/-- the same, what stands behind kept closed -/
theorem join_op {t R : TS} {D : Ends} {σ : L2.St} {H : Hp} (P : L2.St → Hp → Prop) (h2 : ∀ σ' H', P σ' H' → R D σ' H') (h1 : ∀ R' : TS, (∀ σ' H', P σ' H' → R' D σ' H') → tSeq t R' D σ H) : tSeq t R D σ H := h1 R h2
theorem ex_int {i : Int} {P : Int → Prop} (h : P i) : ∃ j, V.int i = V.int j ∧ P j := ⟨i, rfl, h⟩
theorem pi_tupA {X : Cx} {K : PySem.W.Frag} {tg l : Expr} {tl : TE} (h : X.K = K) (hl : PE X l tl) : PI X tg l (iTup K tl) := by subst h; exact pi_tup hl
/-- a for over a tuple, behind its iterable's reading -/
def ForT (K : PySem.W.Frag) (a : Addr) (g : TG) (tb : TS) (D : Ends) (σ : L2.St) (H : Hp) : Prop := ∃ W : Nat → Nat → L2.St → Hp → Prop, (∃ m, W 0 m σ H) ∧ ∀ i m σ H, W i m σ H →
  ((Itt K a).stop i H ∧ D.nx σ H) ∨ ((Itt K a).go i H ∧ ∃ N : L2.St → Hp → Prop, (∀ σ' H', N σ' H' → ∃ m', m' < m ∧ W (i + 1) m' σ' H') ∧ ∀ x H', (Itt K a).yld i H x H' → g x σ H' fun σ2 H2 => tb { D with nx := N, ct := N, bk := D.nx } σ2 H2)
theorem for_tp {K : PySem.W.Frag} {te : TE} {g : TG} {tb : TS} {D : Ends} {σ : L2.St} {H : Hp} (h : te σ H fun x H1 => ∃ a, x = .ref a ∧ (∃ xs, SqT K H1 a xs) ∧ ForT K a g tb D σ H1) : tFor (iTup K te) g tb D σ H := h
theorem forT_by {K : PySem.W.Frag} {a : Addr} {xs : List V} {g : TG} {tb : TS} {D : Ends} {σ : L2.St} {H : Hp} (Pv : Nat → L2.St → Hp → Prop) (h0 : Pv 0 σ H) (hl : ∀ i σ H, i ≤ xs.length → Pv i σ H → SqT K H a xs)
    (hs : ∀ i x σ H, xs[i]? = some x → Pv i σ H → g x σ H fun σ2 H2 => tb { D with nx := Pv (i + 1), ct := Pv (i + 1), bk := D.nx } σ2 H2) (hd : ∀ σ H, Pv xs.length σ H → D.nx σ H) : (∃ ys, SqT K H a ys) ∧ ForT K a g tb D σ H :=
  ⟨⟨xs, hl 0 σ H (Nat.zero_le _) h0⟩, for_tup (K := K) (a := a) (xs := xs) Pv h0 hl hs hd⟩
end ZW

namespace ZW
open PySem PySem.Spec PyProof.Rows L2
theorem dvl_2 : DivOk 2 = True := eq_true ⟨by decide, by decide +kernel⟩
theorem dvl_3 : DivOk 3 = True := eq_true ⟨by decide, by decide +kernel⟩
theorem dvl_4 : DivOk 4 = True := eq_true ⟨by decide, by decide +kernel⟩
theorem dvl_5 : DivOk 5 = True := eq_true ⟨by decide, by decide +kernel⟩
theorem dvl_6 : DivOk 6 = True := eq_true ⟨by decide, by decide +kernel⟩
theorem dvl_7 : DivOk 7 = True := eq_true ⟨by decide, by decide +kernel⟩
theorem dvl_10 : DivOk 10 = True := eq_true ⟨by decide, by decide +kernel⟩
theorem dvl_11 : DivOk 11 = True := eq_true ⟨by decide, by decide +kernel⟩
theorem dvl_12 : DivOk 12 = True := eq_true ⟨by decide, by decide +kernel⟩
theorem dvl_13 : DivOk 13 = True := eq_true ⟨by decide, by decide +kernel⟩
theorem dvl_17 : DivOk 17 = True := eq_true ⟨by decide, by decide +kernel⟩
theorem dvl_30 : DivOk 30 = True := eq_true ⟨by decide, by decide +kernel⟩
theorem dvl_50 : DivOk 50 = True := eq_true ⟨by decide, by decide +kernel⟩
theorem dvl_1000000000000000000000000000000 : DivOk 1000000000000000000000000000000 = True := eq_true ⟨by decide, by decide +kernel⟩
theorem dvl_1000000000000000000000000000000000000000000000 : DivOk 1000000000000000000000000000000000000000000000 = True := eq_true ⟨by decide, by decide +kernel⟩
theorem pwl_10_9 : CPow 10 9 = True := eq_true ⟨by decide, by decide, by decide +kernel⟩
theorem pwl_10_12 : CPow 10 12 = True := eq_true ⟨by decide, by decide, by decide +kernel⟩
theorem pwl_10_18 : CPow 10 18 = True := eq_true ⟨by decide, by decide, by decide +kernel⟩
theorem pwl_10_20 : CPow 10 20 = True := eq_true ⟨by decide, by decide, by decide +kernel⟩
theorem pwl_10_30 : CPow 10 30 = True := eq_true ⟨by decide, by decide, by decide +kernel⟩
theorem pwl_10_45 : CPow 10 45 = True := eq_true ⟨by decide, by decide, by decide +kernel⟩
end ZW
local macro_rules | `(tactic| walk_at "rd") => `(tactic| ((try simp only [L2.start, List.map_cons, List.map_nil, List.length_cons, List.length_nil, Nat.reduceAdd, Nat.zero_add, Nat.reduceSub, Nat.sub_self, List.replicate, List.cons_append, List.nil_append, List.append_nil]); try simp only [L2.tIfS, L2.tTest, L2.tB, L2.tOp, L2.tUn, L2.tVar, L2.tC, L2.tRet, L2.tRetN, L2.tNext, L2.tAsg, L2.tPar, L2.gName, L2.tCons, L2.tNil, L2.tCall, L2.tCB, L2.tAnd, L2.tOr, L2.tNot, L2.tAndV, L2.tOrV, L2.tNotV, L2.tIf, L2.rI0, L2.rI, L2.rU, L2.rAdd, L2.rSub, L2.rEq, L2.rNe, L2.scal, L2.tTup, L2.tLst, ZW.tTupN, ZW.tLstN, L2.tSl, L2.tPart, L2.tNoPart, ZW.rSlN, ZW.rCatN, ZW.rRepN, ZW.rListN, ZW.rIntB,  L2.tDrop, L2.tIsN, L2.tNotN, L2.tCmp, L2.t2I,
  List.map_cons, List.map_nil, List.length_cons, List.length_nil, List.append_nil, List.nil_append, List.cons_append, List.getElem?_cons_zero, List.getElem?_cons_succ, List.set_cons_zero, List.set_cons_succ, Nat.reduceSub, Nat.reduceAdd, Nat.sub_self, Nat.zero_add, List.getElem?_nil, List.append_eq,
  Option.some.injEq, L2.V.int.injEq, L2.V.bl.injEq, L2.V.ref.injEq, reduceCtorEq, exists_eq_left', exists_eq_left, exists_eq, true_and, and_true, exists_and_left, exists_eq_right, exists_eq_right', decide_true, decide_false, Bool.not_true, Bool.not_false, if_true, if_false, ite_true, ite_false, Bool.false_eq_true, List.cons.injEq, ite_self, and_self, and_assoc, L2.gCons, L2.gNil, Int.reduceToNat, Int.reduceMul, Int.reduceSub, Int.reduceAdd, Int.reduceNe, Int.reduceLE, Int.reduceLT, Int.reduceNeg, Int.reduceEq, ZW.dvl_2, ZW.dvl_3, ZW.dvl_4, ZW.dvl_5, ZW.dvl_6, ZW.dvl_7, ZW.dvl_10, ZW.dvl_11, ZW.dvl_12, ZW.dvl_13, ZW.dvl_17, ZW.dvl_30, ZW.dvl_50, ZW.dvl_1000000000000000000000000000000, ZW.dvl_1000000000000000000000000000000000000000000000, ZW.pwl_10_9, ZW.pwl_10_12, ZW.pwl_10_18, ZW.pwl_10_20, ZW.pwl_10_30, ZW.pwl_10_45, ZW.sz_line, Nat.reduceLT, Nat.reduceLeDiff, Nat.reduceLeDiff, ne_eq, not_false_eq_true, Int.reducePow, Int.pow_one,  forall_const, implies_true, ZW.cxK, ZW.ncast, L2.tCallS, L2.tYes, L2.gSub, Int.zero_add, ZW.tDictN, L2.wipe, L2.tDGet, L2.tDIn, L2.tDNotIn, L2.sDPut]))
local macro_rules | `(tactic| walk_at "ix") => `(tactic| (walk_at "rd"; first | refine ZW.ix_l (L2.SqL.of (by assumption)) (by decide) rfl ?_ | refine ZW.ix_t (L2.SqT.of (by assumption)) (by decide) rfl ?_))
local macro_rules | `(tactic| walk_at "sq") => `(tactic| (walk_at "rd"; refine ZW.seq_step ?_; walk_at "rd"))
local macro_rules | `(tactic| walk_at "isT") => `(tactic| (walk_at "rd"; refine ZW.isi (r := true) (by first | exact .base (.int _) | exact .base (.bl _) | exact .base .non | exact .base (.str _) | exact .base (.tup (by assumption)) | exact .base (.lst (by assumption)) | exact .base (.dK (by assumption))) (by decide +kernel) ?_; walk_at "rd"))
local macro_rules | `(tactic| walk_at "isF") => `(tactic| (walk_at "rd"; refine ZW.isi (r := false) (by first | exact .base (.int _) | exact .base (.bl _) | exact .base .non | exact .base (.str _) | exact .base (.tup (by assumption)) | exact .base (.lst (by assumption)) | exact .base (.dK (by assumption))) (by decide +kernel) ?_; walk_at "rd"))

namespace ZW
open PySem PySem.Spec PyProof.Rows L2
def topS (i : Nat) : Stmt := PySem.Challenge.pw_zonewalk_k18_moves_there_and_back.main.body.getD i (.Pass ⟨0, 0, 0, 0⟩)
abbrev s_at_most : Stmt := topS 1
theorem sc_at_most : FnScope ["number"] ["number"] (defScope s_at_most) := ⟨rfl, rfl, rfl, by decide +kernel, rfl, by decide +kernel, by decide +kernel⟩
abbrev s_below : Stmt := topS 2
theorem sc_below : FnScope ["number"] ["number"] (defScope s_below) := ⟨rfl, rfl, rfl, by decide +kernel, rfl, by decide +kernel, by decide +kernel⟩
abbrev s_number_of : Stmt := topS 3
theorem sc_number_of : FnScope ["bound"] ["bound"] (defScope s_number_of) := ⟨rfl, rfl, rfl, by decide +kernel, rfl, by decide +kernel, by decide +kernel⟩
abbrev s_is_open : Stmt := topS 4
theorem sc_is_open : FnScope ["bound"] ["bound"] (defScope s_is_open) := ⟨rfl, rfl, rfl, by decide +kernel, rfl, by decide +kernel, by decide +kernel⟩
abbrev s_added : Stmt := topS 5
theorem sc_added : FnScope ["one", "other"] ["one", "other"] (defScope s_added) := ⟨rfl, rfl, rfl, by decide +kernel, rfl, by decide +kernel, by decide +kernel⟩
abbrev s_narrower : Stmt := topS 6
theorem sc_narrower : FnScope ["one", "other"] ["one", "other"] (defScope s_narrower) := ⟨rfl, rfl, rfl, by decide +kernel, rfl, by decide +kernel, by decide +kernel⟩
abbrev s_lets : Stmt := topS 7
theorem sc_lets : FnScope ["bound", "value", "top", "bottom", "most"] ["bound", "value"] (defScope s_lets) := ⟨rfl, rfl, rfl, by decide +kernel, rfl, by decide +kernel, by decide +kernel⟩
abbrev s_is_whole : Stmt := topS 12
theorem sc_is_whole : FnScope ["thing"] ["thing"] (defScope s_is_whole) := ⟨rfl, rfl, rfl, by decide +kernel, rfl, by decide +kernel, by decide +kernel⟩
abbrev s_divisor : Stmt := topS 13
theorem sc_divisor : FnScope ["one", "other"] ["one", "other"] (defScope s_divisor) := ⟨rfl, rfl, rfl, by decide +kernel, rfl, by decide +kernel, by decide +kernel⟩
abbrev s_fraction : Stmt := topS 14
theorem sc_fraction : FnScope ["top", "bottom", "share"] ["top", "bottom"] (defScope s_fraction) := ⟨rfl, rfl, rfl, by decide +kernel, rfl, by decide +kernel, by decide +kernel⟩
abbrev s_plus : Stmt := topS 15
theorem sc_plus : FnScope ["one", "other"] ["one", "other"] (defScope s_plus) := ⟨rfl, rfl, rfl, by decide +kernel, rfl, by decide +kernel, by decide +kernel⟩
abbrev s_minus : Stmt := topS 16
theorem sc_minus : FnScope ["one", "other"] ["one", "other"] (defScope s_minus) := ⟨rfl, rfl, rfl, by decide +kernel, rfl, by decide +kernel, by decide +kernel⟩
abbrev s_half : Stmt := topS 17
theorem sc_half : FnScope ["one"] ["one"] (defScope s_half) := ⟨rfl, rfl, rfl, by decide +kernel, rfl, by decide +kernel, by decide +kernel⟩
abbrev s_under : Stmt := topS 18
theorem sc_under : FnScope ["one", "other"] ["one", "other"] (defScope s_under) := ⟨rfl, rfl, rfl, by decide +kernel, rfl, by decide +kernel, by decide +kernel⟩
abbrev s_through : Stmt := topS 21
theorem sc_through : FnScope ["rows", "k", "way", "row", "j"] ["rows", "k"] (defScope s_through) := ⟨rfl, rfl, rfl, by decide +kernel, rfl, by decide +kernel, by decide +kernel⟩
abbrev s_narrowest : Stmt := topS 22
theorem sc_narrowest : FnScope ["zone", "rows", "i", "k", "row"] ["zone"] (defScope s_narrowest) := ⟨rfl, rfl, rfl, by decide +kernel, rfl, by decide +kernel, by decide +kernel⟩
abbrev s_lies_in : Stmt := topS 23
theorem sc_lies_in : FnScope ["zone", "values", "places", "i", "j"] ["zone", "values"] (defScope s_lies_in) := ⟨rfl, rfl, rfl, by decide +kernel, rfl, by decide +kernel, by decide +kernel⟩
abbrev s_copied : Stmt := topS 25
theorem sc_copied : FnScope ["zone", "row"] ["zone"] (defScope s_copied) := ⟨rfl, rfl, rfl, by decide +kernel, rfl, by decide +kernel, by decide +kernel⟩
abbrev s_waited : Stmt := topS 26
theorem sc_waited : FnScope ["zone", "rows", "row"] ["zone"] (defScope s_waited) := ⟨rfl, rfl, rfl, by decide +kernel, rfl, by decide +kernel, by decide +kernel⟩
abbrev s_put_back : Stmt := topS 27
theorem sc_put_back : FnScope ["zone", "places", "rows", "place", "row"] ["zone", "places"] (defScope s_put_back) := ⟨rfl, rfl, rfl, by decide +kernel, rfl, by decide +kernel, by decide +kernel⟩
abbrev s_freed : Stmt := topS 28
theorem sc_freed : FnScope ["zone", "place", "rows", "j"] ["zone", "place"] (defScope s_freed) := ⟨rfl, rfl, rfl, by decide +kernel, rfl, by decide +kernel, by decide +kernel⟩
abbrev s_greater : Stmt := topS 30
theorem sc_greater : FnScope ["one", "other"] ["one", "other"] (defScope s_greater) := ⟨rfl, rfl, rfl, by decide +kernel, rfl, by decide +kernel, by decide +kernel⟩
abbrev s_lowest : Stmt := topS 31
theorem sc_lowest : FnScope ["zone", "values", "k", "found", "j", "value"] ["zone", "values", "k"] (defScope s_lowest) := ⟨rfl, rfl, rfl, by decide +kernel, rfl, by decide +kernel, by decide +kernel⟩
abbrev s_highest : Stmt := topS 32
theorem sc_highest : FnScope ["zone", "values", "k", "found", "j", "value", "most"] ["zone", "values", "k"] (defScope s_highest) := ⟨rfl, rfl, rfl, by decide +kernel, rfl, by decide +kernel, by decide +kernel⟩
abbrev s_filled : Stmt := topS 33
theorem sc_filled : FnScope ["zone", "known", "values", "k", "low", "high"] ["zone", "known"] (defScope s_filled) := ⟨rfl, rfl, rfl, by decide +kernel, rfl, by decide +kernel, by decide +kernel⟩
abbrev s_scaled : Stmt := topS 34
theorem sc_scaled : FnScope ["bound", "times"] ["bound", "times"] (defScope s_scaled) := ⟨rfl, rfl, rfl, by decide +kernel, rfl, by decide +kernel, by decide +kernel⟩
abbrev s_near_values : Stmt := topS 35
theorem sc_near_values : FnScope ["zone", "i", "j", "near", "times", "least", "rows", "row", "value", "bound"] ["zone", "i", "j", "near"] (defScope s_near_values) := ⟨rfl, rfl, rfl, by decide +kernel, rfl, by decide +kernel, by decide +kernel⟩
abbrev s_l_cell_at : Stmt := topS 37
theorem sc_l_cell_at : FnScope ["_law_script", "_law_k"] ["_law_script", "_law_k"] (defScope s_l_cell_at) := ⟨rfl, rfl, rfl, by decide +kernel, rfl, by decide +kernel, by decide +kernel⟩
abbrev s_l_stream : Stmt := topS 38
theorem sc_l_stream : FnScope ["_law_cell", "_law_many", "_law_found", "_law_rest", "_law_k", "_law_number"] ["_law_cell", "_law_many"] (defScope s_l_stream) := ⟨rfl, rfl, rfl, by decide +kernel, rfl, by decide +kernel, by decide +kernel⟩
abbrev s_l_lowest : Stmt := topS 39
theorem sc_l_lowest : FnScope ["_law_top", "_law_bottom", "_law_one", "_law_other"] ["_law_top", "_law_bottom"] (defScope s_l_lowest) := ⟨rfl, rfl, rfl, by decide +kernel, rfl, by decide +kernel, by decide +kernel⟩
abbrev s_l_values : Stmt := topS 40
theorem sc_l_values : FnScope ["_law_xs", "_law_many", "_law_unit", "_law_found", "_law_k", "_law_bottom"] ["_law_xs", "_law_many", "_law_unit"] (defScope s_l_values) := ⟨rfl, rfl, rfl, by decide +kernel, rfl, by decide +kernel, by decide +kernel⟩
abbrev s_l_minus : Stmt := topS 41
theorem sc_l_minus : FnScope ["_law_one", "_law_other"] ["_law_one", "_law_other"] (defScope s_l_minus) := ⟨rfl, rfl, rfl, by decide +kernel, rfl, by decide +kernel, by decide +kernel⟩
abbrev s_l_plus : Stmt := topS 42
theorem sc_l_plus : FnScope ["_law_one", "_law_other"] ["_law_one", "_law_other"] (defScope s_l_plus) := ⟨rfl, rfl, rfl, by decide +kernel, rfl, by decide +kernel, by decide +kernel⟩
abbrev s_l_bound : Stmt := topS 43
theorem sc_l_bound : FnScope ["_law_value", "_law_x", "_law_top", "_law_bottom", "_law_way", "_law_more"] ["_law_value", "_law_x"] (defScope s_l_bound) := ⟨rfl, rfl, rfl, by decide +kernel, rfl, by decide +kernel, by decide +kernel⟩
abbrev s_l_around : Stmt := topS 44
theorem sc_l_around : FnScope ["_law_values_here", "_law_xs", "_law_places", "_law_rows", "_law_i", "_law_row", "_law_j"] ["_law_values_here", "_law_xs"] (defScope s_l_around) := ⟨rfl, rfl, rfl, by decide +kernel, rfl, by decide +kernel, by decide +kernel⟩
abbrev s_l_lets : Stmt := topS 45
theorem sc_l_lets : FnScope ["_law_bound_here", "_law_value", "_law_most"] ["_law_bound_here", "_law_value"] (defScope s_l_lets) := ⟨rfl, rfl, rfl, by decide +kernel, rfl, by decide +kernel, by decide +kernel⟩
abbrev s_l_meet : Stmt := topS 46
theorem sc_l_meet : FnScope ["_law_lows", "_law_highs", "_law_low", "_law_sharp", "_law_high", "_law_open_too", "_law_cross"] ["_law_lows", "_law_highs"] (defScope s_l_meet) := ⟨rfl, rfl, rfl, by decide +kernel, rfl, by decide +kernel, by decide +kernel⟩
abbrev s_l_some_value : Stmt := topS 47
theorem sc_l_some_value : FnScope ["_law_zone", "_law_values_here", "_law_p", "_law_most", "_law_places", "_law_lows", "_law_highs", "_law_i", "_law_j"] ["_law_zone", "_law_values_here", "_law_p", "_law_most"] (defScope s_l_some_value) := ⟨rfl, rfl, rfl, by decide +kernel, rfl, by decide +kernel, by decide +kernel⟩
abbrev s_l_some_wait : Stmt := topS 48
theorem sc_l_some_wait : FnScope ["_law_zone", "_law_values_here", "_law_lows", "_law_highs", "_law_i", "_law_j"] ["_law_zone", "_law_values_here"] (defScope s_l_some_wait) := ⟨rfl, rfl, rfl, by decide +kernel, rfl, by decide +kernel, by decide +kernel⟩
abbrev s_l_near : Stmt := topS 49
theorem sc_l_near : FnScope ["_law_zone", "_law_cell", "_law_found", "_law_k", "_law_i", "_law_j"] ["_law_zone", "_law_cell"] (defScope s_l_near) := ⟨rfl, rfl, rfl, by decide +kernel, rfl, by decide +kernel, by decide +kernel⟩
abbrev s_l_is_narrow : Stmt := topS 50
theorem sc_l_is_narrow : FnScope ["_law_found", "_law_zone", "_law_handed"] ["_law_found", "_law_zone", "_law_handed"] (defScope s_l_is_narrow) := ⟨rfl, rfl, rfl, by decide +kernel, rfl, by decide +kernel, by decide +kernel⟩
abbrev s_l_changed : Stmt := topS 51
theorem sc_l_changed : FnScope ["_law_values_here", "_law_p", "_law_value"] ["_law_values_here", "_law_p", "_law_value"] (defScope s_l_changed) := ⟨rfl, rfl, rfl, by decide +kernel, rfl, by decide +kernel, by decide +kernel⟩
abbrev s_law : Stmt := topS 52
theorem sc_law : FnScope ["_law_script", "_law_first", "_law_many", "_law_unit", "_law_values_here", "_law_zone", "_law_handed", "_law_cell", "_law_p", "_law_wait", "_law_told", "_law_one", "_law_after", "_law_other", "_law_both", "_law_row", "_law_value", "_law_found"] ["_law_script"] (defScope s_law) := ⟨rfl, rfl, rfl, by decide +kernel, rfl, by decide +kernel, by decide +kernel⟩
structure Top (K : PySem.W.Frag) (mg : Str → Option Value) where
  f_at_most : Addr
  d_at_most : FuncData
  F_at_most : Fun K "at_most" "at_most" s_at_most f_at_most d_at_most
  g_at_most : mg "at_most" = some (.ref f_at_most)
  b_at_most : Binds K d_at_most ["number"] []
  f_below : Addr
  d_below : FuncData
  F_below : Fun K "below" "below" s_below f_below d_below
  g_below : mg "below" = some (.ref f_below)
  b_below : Binds K d_below ["number"] []
  f_number_of : Addr
  d_number_of : FuncData
  F_number_of : Fun K "number_of" "number_of" s_number_of f_number_of d_number_of
  g_number_of : mg "number_of" = some (.ref f_number_of)
  b_number_of : Binds K d_number_of ["bound"] []
  f_is_open : Addr
  d_is_open : FuncData
  F_is_open : Fun K "is_open" "is_open" s_is_open f_is_open d_is_open
  g_is_open : mg "is_open" = some (.ref f_is_open)
  b_is_open : Binds K d_is_open ["bound"] []
  f_added : Addr
  d_added : FuncData
  F_added : Fun K "added" "added" s_added f_added d_added
  g_added : mg "added" = some (.ref f_added)
  b_added : Binds K d_added ["one", "other"] []
  f_narrower : Addr
  d_narrower : FuncData
  F_narrower : Fun K "narrower" "narrower" s_narrower f_narrower d_narrower
  g_narrower : mg "narrower" = some (.ref f_narrower)
  b_narrower : Binds K d_narrower ["one", "other"] []
  f_lets : Addr
  d_lets : FuncData
  F_lets : Fun K "lets" "lets" s_lets f_lets d_lets
  g_lets : mg "lets" = some (.ref f_lets)
  b_lets : Binds K d_lets ["bound", "value"] []
  f_is_whole : Addr
  d_is_whole : FuncData
  F_is_whole : Fun K "is_whole" "is_whole" s_is_whole f_is_whole d_is_whole
  g_is_whole : mg "is_whole" = some (.ref f_is_whole)
  b_is_whole : Binds K d_is_whole ["thing"] []
  f_divisor : Addr
  d_divisor : FuncData
  F_divisor : Fun K "divisor" "divisor" s_divisor f_divisor d_divisor
  g_divisor : mg "divisor" = some (.ref f_divisor)
  b_divisor : Binds K d_divisor ["one", "other"] []
  f_fraction : Addr
  d_fraction : FuncData
  F_fraction : FunD K "fraction" "fraction" (defArgs s_fraction) (defBody s_fraction) (defScope s_fraction) [.int 1] [] f_fraction d_fraction
  g_fraction : mg "fraction" = some (.ref f_fraction)
  b_fraction : Binds K d_fraction ["top", "bottom"] []
  dv_fraction : List Value
  v_fraction : Vals [.int 1] dv_fraction
  bd_fraction : Binds K d_fraction ["top", "bottom"] dv_fraction
  f_plus : Addr
  d_plus : FuncData
  F_plus : Fun K "plus" "plus" s_plus f_plus d_plus
  g_plus : mg "plus" = some (.ref f_plus)
  b_plus : Binds K d_plus ["one", "other"] []
  f_minus : Addr
  d_minus : FuncData
  F_minus : Fun K "minus" "minus" s_minus f_minus d_minus
  g_minus : mg "minus" = some (.ref f_minus)
  b_minus : Binds K d_minus ["one", "other"] []
  f_half : Addr
  d_half : FuncData
  F_half : Fun K "half" "half" s_half f_half d_half
  g_half : mg "half" = some (.ref f_half)
  b_half : Binds K d_half ["one"] []
  f_under : Addr
  d_under : FuncData
  F_under : Fun K "under" "under" s_under f_under d_under
  g_under : mg "under" = some (.ref f_under)
  b_under : Binds K d_under ["one", "other"] []
  f_through : Addr
  d_through : FuncData
  F_through : Fun K "through" "through" s_through f_through d_through
  g_through : mg "through" = some (.ref f_through)
  b_through : Binds K d_through ["rows", "k"] []
  f_narrowest : Addr
  d_narrowest : FuncData
  F_narrowest : Fun K "narrowest" "narrowest" s_narrowest f_narrowest d_narrowest
  g_narrowest : mg "narrowest" = some (.ref f_narrowest)
  b_narrowest : Binds K d_narrowest ["zone"] []
  f_lies_in : Addr
  d_lies_in : FuncData
  F_lies_in : Fun K "lies_in" "lies_in" s_lies_in f_lies_in d_lies_in
  g_lies_in : mg "lies_in" = some (.ref f_lies_in)
  b_lies_in : Binds K d_lies_in ["zone", "values"] []
  f_copied : Addr
  d_copied : FuncData
  F_copied : Fun K "copied" "copied" s_copied f_copied d_copied
  g_copied : mg "copied" = some (.ref f_copied)
  b_copied : Binds K d_copied ["zone"] []
  f_waited : Addr
  d_waited : FuncData
  F_waited : Fun K "waited" "waited" s_waited f_waited d_waited
  g_waited : mg "waited" = some (.ref f_waited)
  b_waited : Binds K d_waited ["zone"] []
  f_put_back : Addr
  d_put_back : FuncData
  F_put_back : Fun K "put_back" "put_back" s_put_back f_put_back d_put_back
  g_put_back : mg "put_back" = some (.ref f_put_back)
  b_put_back : Binds K d_put_back ["zone", "places"] []
  f_freed : Addr
  d_freed : FuncData
  F_freed : Fun K "freed" "freed" s_freed f_freed d_freed
  g_freed : mg "freed" = some (.ref f_freed)
  b_freed : Binds K d_freed ["zone", "place"] []
  f_greater : Addr
  d_greater : FuncData
  F_greater : Fun K "greater" "greater" s_greater f_greater d_greater
  g_greater : mg "greater" = some (.ref f_greater)
  b_greater : Binds K d_greater ["one", "other"] []
  f_lowest : Addr
  d_lowest : FuncData
  F_lowest : Fun K "lowest" "lowest" s_lowest f_lowest d_lowest
  g_lowest : mg "lowest" = some (.ref f_lowest)
  b_lowest : Binds K d_lowest ["zone", "values", "k"] []
  f_highest : Addr
  d_highest : FuncData
  F_highest : Fun K "highest" "highest" s_highest f_highest d_highest
  g_highest : mg "highest" = some (.ref f_highest)
  b_highest : Binds K d_highest ["zone", "values", "k"] []
  f_filled : Addr
  d_filled : FuncData
  F_filled : Fun K "filled" "filled" s_filled f_filled d_filled
  g_filled : mg "filled" = some (.ref f_filled)
  b_filled : Binds K d_filled ["zone", "known"] []
  f_scaled : Addr
  d_scaled : FuncData
  F_scaled : Fun K "scaled" "scaled" s_scaled f_scaled d_scaled
  g_scaled : mg "scaled" = some (.ref f_scaled)
  b_scaled : Binds K d_scaled ["bound", "times"] []
  f_near_values : Addr
  d_near_values : FuncData
  F_near_values : Fun K "near_values" "near_values" s_near_values f_near_values d_near_values
  g_near_values : mg "near_values" = some (.ref f_near_values)
  b_near_values : Binds K d_near_values ["zone", "i", "j", "near"] []
  f_l_cell_at : Addr
  d_l_cell_at : FuncData
  F_l_cell_at : Fun K "_law_cell_at" "_law_cell_at" s_l_cell_at f_l_cell_at d_l_cell_at
  g_l_cell_at : mg "_law_cell_at" = some (.ref f_l_cell_at)
  b_l_cell_at : Binds K d_l_cell_at ["_law_script", "_law_k"] []
  f_l_stream : Addr
  d_l_stream : FuncData
  F_l_stream : Fun K "_law_stream" "_law_stream" s_l_stream f_l_stream d_l_stream
  g_l_stream : mg "_law_stream" = some (.ref f_l_stream)
  b_l_stream : Binds K d_l_stream ["_law_cell", "_law_many"] []
  f_l_lowest : Addr
  d_l_lowest : FuncData
  F_l_lowest : Fun K "_law_lowest" "_law_lowest" s_l_lowest f_l_lowest d_l_lowest
  g_l_lowest : mg "_law_lowest" = some (.ref f_l_lowest)
  b_l_lowest : Binds K d_l_lowest ["_law_top", "_law_bottom"] []
  f_l_values : Addr
  d_l_values : FuncData
  F_l_values : Fun K "_law_values" "_law_values" s_l_values f_l_values d_l_values
  g_l_values : mg "_law_values" = some (.ref f_l_values)
  b_l_values : Binds K d_l_values ["_law_xs", "_law_many", "_law_unit"] []
  f_l_minus : Addr
  d_l_minus : FuncData
  F_l_minus : Fun K "_law_minus" "_law_minus" s_l_minus f_l_minus d_l_minus
  g_l_minus : mg "_law_minus" = some (.ref f_l_minus)
  b_l_minus : Binds K d_l_minus ["_law_one", "_law_other"] []
  f_l_plus : Addr
  d_l_plus : FuncData
  F_l_plus : Fun K "_law_plus" "_law_plus" s_l_plus f_l_plus d_l_plus
  g_l_plus : mg "_law_plus" = some (.ref f_l_plus)
  b_l_plus : Binds K d_l_plus ["_law_one", "_law_other"] []
  f_l_bound : Addr
  d_l_bound : FuncData
  F_l_bound : Fun K "_law_bound" "_law_bound" s_l_bound f_l_bound d_l_bound
  g_l_bound : mg "_law_bound" = some (.ref f_l_bound)
  b_l_bound : Binds K d_l_bound ["_law_value", "_law_x"] []
  f_l_around : Addr
  d_l_around : FuncData
  F_l_around : Fun K "_law_around" "_law_around" s_l_around f_l_around d_l_around
  g_l_around : mg "_law_around" = some (.ref f_l_around)
  b_l_around : Binds K d_l_around ["_law_values_here", "_law_xs"] []
  f_l_lets : Addr
  d_l_lets : FuncData
  F_l_lets : Fun K "_law_lets" "_law_lets" s_l_lets f_l_lets d_l_lets
  g_l_lets : mg "_law_lets" = some (.ref f_l_lets)
  b_l_lets : Binds K d_l_lets ["_law_bound_here", "_law_value"] []
  f_l_meet : Addr
  d_l_meet : FuncData
  F_l_meet : Fun K "_law_meet" "_law_meet" s_l_meet f_l_meet d_l_meet
  g_l_meet : mg "_law_meet" = some (.ref f_l_meet)
  b_l_meet : Binds K d_l_meet ["_law_lows", "_law_highs"] []
  f_l_some_value : Addr
  d_l_some_value : FuncData
  F_l_some_value : Fun K "_law_some_value" "_law_some_value" s_l_some_value f_l_some_value d_l_some_value
  g_l_some_value : mg "_law_some_value" = some (.ref f_l_some_value)
  b_l_some_value : Binds K d_l_some_value ["_law_zone", "_law_values_here", "_law_p", "_law_most"] []
  f_l_some_wait : Addr
  d_l_some_wait : FuncData
  F_l_some_wait : Fun K "_law_some_wait" "_law_some_wait" s_l_some_wait f_l_some_wait d_l_some_wait
  g_l_some_wait : mg "_law_some_wait" = some (.ref f_l_some_wait)
  b_l_some_wait : Binds K d_l_some_wait ["_law_zone", "_law_values_here"] []
  f_l_near : Addr
  d_l_near : FuncData
  F_l_near : Fun K "_law_near" "_law_near" s_l_near f_l_near d_l_near
  g_l_near : mg "_law_near" = some (.ref f_l_near)
  b_l_near : Binds K d_l_near ["_law_zone", "_law_cell"] []
  f_l_is_narrow : Addr
  d_l_is_narrow : FuncData
  F_l_is_narrow : Fun K "_law_is_narrow" "_law_is_narrow" s_l_is_narrow f_l_is_narrow d_l_is_narrow
  g_l_is_narrow : mg "_law_is_narrow" = some (.ref f_l_is_narrow)
  b_l_is_narrow : Binds K d_l_is_narrow ["_law_found", "_law_zone", "_law_handed"] []
  f_l_changed : Addr
  d_l_changed : FuncData
  F_l_changed : Fun K "_law_changed" "_law_changed" s_l_changed f_l_changed d_l_changed
  g_l_changed : mg "_law_changed" = some (.ref f_l_changed)
  b_l_changed : Binds K d_l_changed ["_law_values_here", "_law_p", "_law_value"] []
  f_law : Addr
  d_law : FuncData
  F_law : Fun K "law" "law" s_law f_law d_law
  g_law : mg "law" = some (.ref f_law)
  b_law : Binds K d_law ["_law_script"] []
  C_NoNumber : Addr
  g_NoNumber : mg "NoNumber" = some (.ref C_NoNumber)
  x_NoNumber : PySem.W.excIn K C_NoNumber [.type "ValueError", .type "Exception", .type "BaseException", .type "object"] "ValueError.__new__" = true
  k_NoNumber : PySem.W.keepIn K (.ref C_NoNumber) = true
  b_NoNumber : PySem.W.subIn K (.ref C_NoNumber) (.type "BaseException") = some true
  t_NoNumber : PySem.W.typeIn K (.ref C_NoNumber) = some (.type "type")
  i_NoNumber : PySem.W.isClsIn K C_NoNumber = true
  t_NOUGHT : Tok
  g_NOUGHT : mg "NOUGHT" = some (.int 1 t_NOUGHT)
  m_abs : mg "abs" = none
  m_all : mg "all" = none
  m_bool : mg "bool" = none
  m_int : mg "int" = none
  m_isinstance : mg "isinstance" = none
  m_len : mg "len" = none
  m_list : mg "list" = none
  m_min : mg "min" = none
  m_range : mg "range" = none
/-! ### zones: lists of lists of bounds -/
abbrev Mx := Nat → Nat → Option Int
def up2 (M : Mx) (i j : Nat) (v : Option Int) : Mx := fun a b => if a = i ∧ b = j then v else M a b
def zrow (n : Nat) (f : Nat → Option Int) : List V := (List.range n).map fun j => oV (f j)
theorem zrow_len (n : Nat) (f : Nat → Option Int) : (zrow n f).length = n := by simp [zrow]
theorem zrow_get {n j : Nat} (f : Nat → Option Int) (h : j < n) : (zrow n f)[j]? = some (oV (f j)) := by simp [zrow, h]
theorem zrow_set {n i j : Nat} (M : Mx) (v : Option Int) : (zrow n (M i)).set j (oV v) = zrow n (up2 M i j v i) := by
  apply List.ext_getElem?
  intro k
  by_cases hk : k < n
  · rw [zrow_get _ hk, List.getElem?_set]
    by_cases e : j = k
    · subst e; simp [zrow_len, hk, up2]
    · rw [if_neg e, zrow_get _ hk]
      have : ¬ k = j := fun z => e z.symm
      simp [up2, this]
  · rw [List.getElem?_eq_none (by simp [zrow]; omega), List.getElem?_eq_none (by simp [zrow]; omega)]
theorem zrow_other {n i a j : Nat} (M : Mx) (v : Option Int) (h : a ≠ i) : zrow n (up2 M i j v a) = zrow n (M a) := by
  unfold zrow up2
  apply List.map_congr_left
  intro b _
  rw [if_neg (fun z => h z.1)]
/-- the zone M of n places stands at p, its rows at as -/
structure ZAt (H : Hp) (p : Addr) (as : List Addr) (n : Nat) (M : Mx) : Prop where
  top : H p = some (.lst (as.map V.ref))
  len : as.length = n
  row : ∀ (i : Nat) (a : Addr), as[i]? = some a → H a = some (.lst (zrow n (M i)))
  nd : as.Nodup
theorem ZAt.np {H : Hp} {p : Addr} {as : List Addr} {n : Nat} {M : Mx} (z : ZAt H p as n M) : p ∉ as := by
  intro hp
  obtain ⟨i, hi, e⟩ := List.mem_iff_getElem.mp hp
  have r := z.row i p (by rw [List.getElem?_eq_getElem hi, e])
  have t := z.top
  rw [r] at t
  have e2 : zrow n (M i) = as.map V.ref := by
    have := Option.some.inj t
    injection this
  have h0 : (zrow n (M i))[i]? = (as.map V.ref)[i]? := by rw [e2]
  rw [zrow_get _ (by rw [← z.len]; exact hi), List.getElem?_map, List.getElem?_eq_getElem hi] at h0
  have h1 := Option.some.inj h0
  cases hM : M i i with
  | none => rw [hM] at h1; cases h1
  | some v => rw [hM] at h1; cases h1
theorem ZAt.get {H : Hp} {p : Addr} {as : List Addr} {n : Nat} {M : Mx} (z : ZAt H p as n M) {i : Nat} (h : i < n) : ∃ a, as[i]? = some a ∧ (as.map V.ref)[i]? = some (.ref a) ∧ H a = some (.lst (zrow n (M i))) := by
  have hl : i < as.length := by rw [z.len]; exact h
  refine ⟨as[i], List.getElem?_eq_getElem hl, ?_, z.row i _ (List.getElem?_eq_getElem hl)⟩
  rw [List.getElem?_map, List.getElem?_eq_getElem hl]; rfl
theorem ZAt.set {H : Hp} {p a : Addr} {as : List Addr} {n i j : Nat} {M : Mx} (z : ZAt H p as n M) (v : Option Int) (ha : as[i]? = some a) : ZAt (upd H a (.lst ((zrow n (M i)).set j (oV v)))) p as n (up2 M i j v) := by
  refine ⟨?_, z.len, fun i' a' h' => ?_, z.nd⟩
  · rw [upd_ne (fun e => z.np (by rw [e]; exact List.mem_of_getElem? ha))]; exact z.top
  · by_cases e : i' = i
    · subst e
      obtain rfl : a = a' := Option.some.inj (ha.symm.trans h')
      rw [upd_same, zrow_set]
    · have na : a' ≠ a := fun q => e (nd_ix z.nd h' (by rw [q]; exact ha))
      rw [upd_ne na, z.row i' a' h', zrow_other _ _ e]
theorem ZAt.keep {H H' : Hp} {p : Addr} {as : List Addr} {n : Nat} {M : Mx} (z : ZAt H p as n M) (s : Same H H') : ZAt H' p as n M := ⟨s _ _ z.top, z.len, fun i a h => s _ _ (z.row i a h), z.nd⟩
def iter (f : Nat → Mx → Mx) : Nat → Mx → Mx
  | 0, M => M
  | i + 1, M => f i (iter f i M)
def cell1 (k i j : Nat) (M : Mx) : Mx := up2 M i j (narO (M i j) (addO (M i k) (M k j)))
def rowst (n k i : Nat) (M : Mx) : Mx := if M i k = none then M else iter (cell1 k i) n M
def thr (n k : Nat) (M : Mx) : Mx := iter (rowst n k) n M
def diag1 (i : Nat) (M : Mx) : Mx := up2 (up2 M i i (narO (M i i) (some 1))) 0 i (narO (up2 M i i (narO (M i i) (some 1)) 0 i) (some 1))
def nrw (n : Nat) (M : Mx) : Mx := iter (thr n) n (iter diag1 n M)
/-- all bounds of at most s bits -/
def SzM (s : Nat) (M : Mx) : Prop := ∀ i j v, M i j = some v → Sz s v
theorem SzM.mono {s t : Nat} {M : Mx} (h : SzM s M) (l : s ≤ t) : SzM t M := fun i j v e => (h i j v e).mono l
theorem addO_sz {s : Nat} {x y : Option Int} (hx : ∀ v, x = some v → Sz s v) (hy : ∀ v, y = some v → Sz s v) {v : Int} (h : addO x y = some v) : Sz (s + 2) v := by
  cases x with
  | none => cases h
  | some a =>
    cases y with
    | none => cases h
    | some b =>
      have e := Option.some.inj h
      have h1 := hx a rfl
      have h2 := hy b rfl
      have p : (2 : Nat) ^ (s + 2) = 2 ^ s * 4 := by rw [Nat.pow_add]
      have p0 : 0 < (2 : Nat) ^ s := Nat.pow_pos (by decide)
      unfold Sz at *
      rw [p, ← e]
      split <;> omega
theorem narO_sz {s : Nat} {x y : Option Int} (hx : ∀ v, x = some v → Sz s v) (hy : ∀ v, y = some v → Sz s v) {v : Int} (h : narO x y = some v) : Sz s v := by
  cases x with
  | none => exact hy v h
  | some a =>
    cases y with
    | none => exact hx v h
    | some b =>
      have e := Option.some.inj h
      rw [← e]
      split
      · exact hy b rfl
      · exact hx a rfl
theorem up2_sz {s : Nat} {M : Mx} {i j : Nat} {w : Option Int} (h : SzM s M) (hw : ∀ v, w = some v → Sz s v) : SzM s (up2 M i j w) := fun a b v e => by
  unfold up2 at e
  split at e
  · exact hw v e
  · exact h a b v e
theorem cell1_sz {s : Nat} {M : Mx} {k i j : Nat} (h : SzM s M) : SzM (s + 2) (cell1 k i j M) :=
  up2_sz (h.mono (by omega)) fun v e => narO_sz (fun v e => (h i j v e).mono (by omega)) (fun v e => addO_sz (fun v e => h i k v e) (fun v e => h k j v e) e) e
theorem iter_sz {f : Nat → Mx → Mx} {c s : Nat} {M : Mx} (hf : ∀ i s M, SzM s M → SzM (s + c) (f i M)) (h : SzM s M) : ∀ m, SzM (s + c * m) (iter f m M)
  | 0 => h
  | m + 1 => (hf m _ _ (iter_sz hf h m)).mono (by rw [Nat.mul_succ]; omega)
theorem rowst_sz {n k i s : Nat} {M : Mx} (h : SzM s M) : SzM (s + 2 * n) (rowst n k i M) := by
  unfold rowst
  split
  · exact h.mono (by omega)
  · exact iter_sz (fun _ _ _ h => cell1_sz h) h n
theorem thr_sz {n k s : Nat} {M : Mx} (h : SzM s M) : SzM (s + 2 * n * n) (thr n k M) := iter_sz (fun _ _ _ h => rowst_sz h) h n
theorem diag1_sz {i s : Nat} {M : Mx} (hs : 1 ≤ s) (h : SzM s M) : SzM s (diag1 i M) := by
  have one : Sz s 1 := by
    have : (2 : Nat) ^ 1 ≤ 2 ^ s := Nat.pow_le_pow_right (by decide) hs
    unfold Sz; omega
  have a : SzM s (up2 M i i (narO (M i i) (some 1))) := up2_sz h fun v e => narO_sz (fun v e => h i i v e) (fun v e => by cases e; exact one) e
  exact up2_sz a fun v e => narO_sz (fun v e => a 0 i v e) (fun v e => by cases e; exact one) e
theorem diags_sz {s : Nat} {M : Mx} (hs : 1 ≤ s) (h : SzM s M) : ∀ m, SzM s (iter diag1 m M)
  | 0 => h
  | m + 1 => diag1_sz hs (diags_sz hs h m)
theorem half_sz {s : Nat} {a b : Int} (h1 : Sz s a) (h2 : Sz s b) (h : s ≤ 9990) : Sz 10000 (a / 2 + b / 2) := by
  have p : (2 : Nat) ^ (s + 2) = 2 ^ s * 4 := by rw [Nat.pow_add]
  have p0 : 0 < (2 : Nat) ^ s := Nat.pow_pos (by decide)
  have g : Sz (s + 2) (a / 2 + b / 2) := by
    unfold Sz at *
    rw [p]; omega
  exact g.mono (by omega)
theorem set_at {K : PySem.W.Frag} {H : Hp} {r : Addr} {n j : Nat} {f : Nat → Option Int} {x : Option Int} {Q : Hp → Prop} (h : H r = some (.lst (zrow n f))) (hj : j < n) (q : Q (upd H r (.lst ((zrow n f).set j (oV x))))) : rSetL (.ref r) (.int j) (oV x) H Q := by
  refine ⟨r, _, j, j, rfl, rfl, h, ?_, q⟩
  rw [zrow_len]
  unfold ixN
  rw [if_pos (by omega), if_pos (by omega), Int.toNat_natCast]
theorem ix_row {K : PySem.W.Frag} {H : Hp} {r : Addr} {n j : Nat} {f : Nat → Option Int} {Q : VK} (h : H r = some (.lst (zrow n f))) (hj : j < n) (q : Q (oV (f j)) H) : rIxL K (.ref r) (.int j) H Q :=
  ix_l (.of h) (by omega) (by rw [Int.toNat_natCast]; exact zrow_get _ hj) q
theorem ix_top {K : PySem.W.Frag} {H : Hp} {p : Addr} {as : List Addr} {n i : Nat} {M : Mx} {Q : VK} (z : ZAt H p as n M) (hi : i < n) (q : ∀ a, as[i]? = some a → H a = some (.lst (zrow n (M i))) → Q (.ref a) H) : rIxL K (.ref p) (.int i) H Q := by
  obtain ⟨a, h1, h2, h3⟩ := z.get hi
  exact ix_l (.of z.top) (by omega) (by rw [Int.toNat_natCast]; exact h2) (q a h1 h3)
/-- [list(row) for row in zone]: fresh rows -/
theorem lc_copy {K : PySem.W.Frag} {H : Hp} {p : Addr} {as : List Addr} {n : Nat} {M : Mx} {s c : Nat} {σ : L2.St} {Q : VK} (z : ZAt H p as n M) (hn : n ≤ 60) (hσ : σ[s]? = some (some (.ref p))) (hc : c < σ.length)
    (q : ∀ D as' H', Same H H' → ZAt H' D as' n M → H D = none → (∀ a ∈ as', H a = none) → Q (.ref D) H') :
    tLc (iList K (tVar s)) (gName c) tYes (tCB (rListN K) (tCons (tVar c) tNil)) [c] σ H Q := by
  refine ⟨.ref p, hσ, p, rfl, ⟨_, .of z.top⟩, fun D hD => ?_⟩
  refine lc_list (K := K) (a := p) (xs := as.map V.ref) (fun i H' => ∃ as' : List Addr, Same H H' ∧ H' D = some (.lst (as'.map V.ref)) ∧ as'.length = i ∧ as'.Nodup ∧ (∀ a ∈ as', H a = none ∧ a ≠ D) ∧ ∀ (j : Nat) (a : Addr), as'[j]? = some a → H' a = some (.lst (zrow n (M j))))
    ⟨[], upd_keep hD, upd_same, rfl, List.nodup_nil, (fun a h => by cases h), (fun j a h => by cases h)⟩ (fun i H' _ ⟨_, sm, _⟩ => .of (sm _ _ z.top)) ?_ ?_
  · rintro i x H' hi ⟨as', sm, eD, hl, nd, hf, hr⟩
    have hin : i < n := by
      have := (List.getElem?_eq_some_iff.mp hi).1
      rw [List.length_map, z.len] at this; exact this
    obtain ⟨r, er, er2, hr1⟩ := z.get hin
    obtain rfl : x = .ref r := Option.some.inj (hi.symm.trans er2)
    refine ⟨?_, .ref r, ?_, r, _, rfl, .inl (.of (sm _ _ hr1)), fun l H2 s2 fl e2 => ?_⟩
    · show ((σ.set c none).set c (some (.ref r))).set c none = σ.set c none
      rw [List.set_set, List.set_set]
    · show ((σ.set c none).set c (some (.ref r)))[c]? = some (some (.ref r))
      rw [List.getElem?_set_self (by rw [List.length_set]; exact hc)]
    have nD : l ≠ D := fun e => by rw [e, eD] at fl; cases fl
    have nl : l ∉ as' := fun hm => by
      obtain ⟨j, hj, e⟩ := List.mem_iff_getElem.mp hm
      have := hr j l (by rw [List.getElem?_eq_getElem hj, e])
      rw [fl] at this; cases this
    refine ⟨as'.map V.ref, s2 _ _ eD, by rw [List.length_map, hl]; exact small1000 (by omega), as' ++ [l], same_updN hD (sm.trans s2), ?_, by simp [hl], ?_, ?_, ?_⟩
    · rw [upd_same, List.map_append]; rfl
    · rw [List.nodup_append]
      refine ⟨nd, by simp, fun a ha b hb e => ?_⟩
      have : b = l := by simpa using hb
      exact nl (by rw [← this, ← e]; exact ha)
    · intro a ha
      rcases List.mem_append.mp ha with h | h
      · exact hf a h
      · have : a = l := by simpa using h
        subst this
        exact ⟨sm.free fl, nD⟩
    · intro j a hj
      by_cases c1 : j < as'.length
      · rw [List.getElem?_append_left c1] at hj
        rw [upd_ne (hf a (List.mem_of_getElem? hj)).2]
        exact s2 _ _ (hr j a hj)
      · have hlt := (List.getElem?_eq_some_iff.mp hj).1
        rw [List.length_append, List.length_singleton] at hlt
        obtain rfl : j = as'.length := by omega
        rw [List.getElem?_append_right (Nat.le_refl _), Nat.sub_self] at hj
        have : l = a := by simpa using hj
        subst this
        rw [upd_ne nD, hl]
        exact e2
  · rintro H' ⟨as', sm, eD, hl, nd, hf, hr⟩
    rw [List.length_map, z.len] at hl
    exact q D as' H' sm ⟨eD, hl, hr, nd⟩ hD fun a ha => (hf a ha).1
/-- a bound that is there stays -/
def Has (M : Mx) (i j : Nat) : Prop := ∃ d, M i j = some d
theorem has_up2 {M : Mx} {i j a b : Nat} {x : Option Int} (h : Has M a b) : Has (up2 M i j (narO (M i j) x)) a b := by
  unfold Has up2
  by_cases c : a = i ∧ b = j
  · obtain ⟨rfl, rfl⟩ := c
    obtain ⟨d, e⟩ := h
    rw [if_pos ⟨rfl, rfl⟩, e]
    cases x with
    | none => exact ⟨d, rfl⟩
    | some y => exact ⟨_, rfl⟩
  · rw [if_neg c]; exact h
theorem has_new {M : Mx} {i j : Nat} {y : Int} : Has (up2 M i j (narO (M i j) (some y))) i j := by
  unfold Has up2
  rw [if_pos ⟨rfl, rfl⟩]
  cases M i j with
  | none => exact ⟨y, rfl⟩
  | some v => exact ⟨_, rfl⟩
theorem has_iter {f : Nat → Mx → Mx} {a b : Nat} (hf : ∀ i M, Has M a b → Has (f i M) a b) {M : Mx} (h : Has M a b) : ∀ m, Has (iter f m M) a b
  | 0 => h
  | m + 1 => hf m _ (has_iter hf h m)
theorem has_rowst {n k i a b : Nat} {M : Mx} (h : Has M a b) : Has (rowst n k i M) a b := by
  unfold rowst
  split
  · exact h
  · exact has_iter (fun _ _ h => has_up2 h) h n
theorem has_thr {n k a b : Nat} {M : Mx} (h : Has M a b) : Has (thr n k M) a b := has_iter (fun _ _ h => has_rowst h) h n
theorem has_diag {i a b : Nat} {M : Mx} (h : Has M a b) : Has (diag1 i M) a b := has_up2 (has_up2 h)
theorem has_diags {M : Mx} : ∀ m i, i < m → Has (iter diag1 m M) i i
  | m + 1, i, h => by
    by_cases c : i = m
    · subst c; exact has_up2 has_new
    · exact has_diag (has_diags m i (by omega))
theorem has_nrw {n i : Nat} {M : Mx} (h : i < n) : Has (nrw n M) i i := has_iter (fun _ _ h => has_thr h) (has_diags n i h) n
theorem nrw_sz {n s m : Nat} {M : Mx} (hs : 1 ≤ s) (h : SzM s M) : SzM (s + 2 * n * n * m) (iter (thr n) m (iter diag1 n M)) := iter_sz (fun _ _ _ h => thr_sz h) (diags_sz hs h n) m
theorem ZAt.upd_fresh {H0 H : Hp} {a : Addr} {o : HO} {as : List Addr} (s : Same H0 H) (f : ∀ a ∈ as, H0 a = none) (ha : a ∈ as) : Same H0 (upd H a o) := same_updN (f a ha) s
theorem zrow_snoc (j : Nat) (f : Nat → Option Int) (x : Option Int) : zrow j f ++ [oV x] = zrow (j + 1) (fun b => if b = j then x else f b) := by
  unfold zrow
  rw [List.range_succ, List.map_append]
  congr 1
  · apply List.map_congr_left
    intro b hb
    show oV (f b) = oV (if b = j then x else f b)
    rw [if_neg (by have := List.mem_range.mp hb; omega)]
  · simp
theorem zrow_congr {n : Nat} {f g : Nat → Option Int} (h : ∀ j, j < n → f j = g j) : zrow n f = zrow n g := List.map_congr_left fun j hj => by rw [h j (List.mem_range.mp hj)]
/-- a row is put behind the rows so far -/
structure Grow (H0 H : Hp) (l : Addr) (as : List Addr) (i n : Nat) (M : Mx) : Prop where
  top : H l = some (.lst (as.map V.ref))
  len : as.length = i
  nd : as.Nodup
  fr : ∀ a ∈ as, H0 a = none ∧ a ≠ l
  row : ∀ (j : Nat) (a : Addr), as[j]? = some a → H a = some (.lst (zrow n (M j)))
theorem Grow.snoc {H0 H : Hp} {l r : Addr} {as : List Addr} {i n : Nat} {M : Mx} {f : Nat → Option Int} (g : Grow H0 H l as i n M) (hr : H r = some (.lst (zrow n f))) (fr : H0 r = none) (nr : r ∉ as) (nl : r ≠ l) :
    Grow H0 (upd H l (.lst (as.map V.ref ++ [.ref r]))) l (as ++ [r]) (i + 1) n (fun a b => if a = i then f b else M a b) := by
  refine ⟨by rw [upd_same, List.map_append]; rfl, by simp [g.len], ?_, ?_, ?_⟩
  · rw [List.nodup_append]
    refine ⟨g.nd, by simp, fun a ha b hb e => ?_⟩
    have : b = r := by simpa using hb
    exact nr (by rw [← this, ← e]; exact ha)
  · intro a ha
    rcases List.mem_append.mp ha with h | h
    · exact g.fr a h
    · have : a = r := by simpa using h
      rw [this]; exact ⟨fr, nl⟩
  · intro j a hj
    have len := g.len
    by_cases c1 : j < as.length
    · rw [List.getElem?_append_left c1] at hj
      rw [upd_ne (g.fr a (List.mem_of_getElem? hj)).2, g.row j a hj]
      have : ¬ j = i := by omega
      simp [this]
    · have hlt := (List.getElem?_eq_some_iff.mp hj).1
      rw [List.length_append, List.length_singleton] at hlt
      obtain rfl : j = as.length := by omega
      rw [List.getElem?_append_right (Nat.le_refl _), Nat.sub_self] at hj
      have : r = a := by simpa using hj
      subst this
      rw [upd_ne nl, hr, len]
      simp
theorem Grow.keep {H0 H H' : Hp} {l : Addr} {as : List Addr} {i n : Nat} {M : Mx} (g : Grow H0 H l as i n M) (s : ∀ b o, H b = some o → (b = l ∨ b ∈ as) → H' b = some o) : Grow H0 H' l as i n M :=
  ⟨s _ _ g.top (.inl rfl), g.len, g.nd, g.fr, fun j a h => s _ _ (g.row j a h) (.inr (List.mem_of_getElem? h))⟩
theorem Grow.done {H0 H : Hp} {l : Addr} {as : List Addr} {n : Nat} {M : Mx} (g : Grow H0 H l as n n M) : ZAt H l as n M := ⟨g.top, g.len, g.row, g.nd⟩
def natV (xs : List Nat) : List V := xs.map fun x : Nat => V.int (x : Int)
theorem natV_len (xs : List Nat) : (natV xs).length = xs.length := by simp [natV]
theorem natV_get {xs : List Nat} {i : Nat} (h : i < xs.length) : (natV xs)[i]? = some (.int (xs[i] : Nat)) := by simp [natV, h]
theorem perm_erase {α : Type} : ∀ {l : List α} {k : Nat} (h : k < l.length), List.Perm (l[k] :: l.eraseIdx k) l
  | x :: l, 0, _ => .refl _
  | x :: l, k + 1, h => (List.Perm.swap x _ _).trans (.cons x (perm_erase (l := l) (k := k) (by simpa using h)))
theorem erase_map {α β : Type} (f : α → β) : ∀ (l : List α) (k : Nat), (l.map f).eraseIdx k = (l.eraseIdx k).map f
  | [], _ => rfl
  | _ :: _, 0 => rfl
  | x :: l, k + 1 => by show f x :: (l.map f).eraseIdx k = f x :: (l.eraseIdx k).map f; rw [erase_map f l k]
def oD : Option Int → PyData
  | none => .none
  | some i => .int i
theorem dp_oV {K : PySem.W.Frag} {H : Hp} : ∀ x : Option Int, Dp K H (oV x) (oD x)
  | none => .non
  | some i => .int i
def rdata (n : Nat) (f : Nat → Option Int) : PyData := .list ((List.range n).map fun j => oD (f j))
def zdata (n : Nat) (M : Mx) : PyData := .list ((List.range n).map fun i => rdata n (M i))
theorem dp_row {K : PySem.W.Frag} {H : Hp} {r : Addr} {n : Nat} {f : Nat → Option Int} (h : H r = some (.lst (zrow n f))) : Dp K H (.ref r) (rdata n f) := by
  refine .lst (.of h) (dpall_of (by simp [zrow]) fun k v d h1 h2 => ?_)
  have hk : k < n := by
    have := (List.getElem?_eq_some_iff.mp h1).1
    rwa [zrow_len] at this
  rw [zrow_get _ hk] at h1
  rw [List.getElem?_map, List.getElem?_range hk] at h2
  cases h1; cases h2
  exact dp_oV _
theorem ZAt.dp {K : PySem.W.Frag} {H : Hp} {p : Addr} {as : List Addr} {n : Nat} {M : Mx} (z : ZAt H p as n M) : Dp K H (.ref p) (zdata n M) := by
  refine .lst (.of z.top) (dpall_of (by simp [z.len]) fun k v d h1 h2 => ?_)
  have hk : k < n := by
    have := (List.getElem?_eq_some_iff.mp h1).1
    rwa [List.length_map, z.len] at this
  obtain ⟨a, _, e2, e3⟩ := z.get hk
  rw [e2] at h1
  rw [List.getElem?_map, List.getElem?_range hk] at h2
  cases h1; cases h2
  exact dp_row e3
theorem lay_list {ds : List PyData} {k : Nat} (h : ∀ d ∈ ds, d.canLay0 = true ∧ d.depth ≤ k) : (PyData.list ds).canLay0 = true ∧ (PyData.list ds).depth ≤ k + 1 := by
  have key : ∀ ds : List PyData, (∀ d ∈ ds, d.canLay0 = true ∧ d.depth ≤ k) → PyData.canLayAll0 ds = true ∧ PyData.depthAll ds ≤ k := by
    intro ds
    induction ds with
    | nil => intro _; exact ⟨rfl, Nat.zero_le _⟩
    | cons d ds ih =>
      intro h
      have h1 := h d (List.mem_cons_self ..)
      have h2 := ih fun x hx => h x (List.mem_cons_of_mem _ hx)
      refine ⟨by show (d.canLay0 && PyData.canLayAll0 ds) = true; rw [h1.1, h2.1]; rfl, ?_⟩
      show max d.depth (PyData.depthAll ds) ≤ k
      omega
  have z := key ds h
  exact ⟨z.1, by show PyData.depthAll ds + 1 ≤ k + 1; omega⟩
theorem lay_oD (x : Option Int) : (oD x).canLay0 = true ∧ (oD x).depth ≤ 0 := by cases x <;> exact ⟨rfl, Nat.le_refl _⟩
theorem lay_row (n : Nat) (f : Nat → Option Int) : (rdata n f).canLay0 = true ∧ (rdata n f).depth ≤ 1 := lay_list fun d h => by
  obtain ⟨j, _, rfl⟩ := List.mem_map.mp h
  exact lay_oD _
theorem lay_zone (n : Nat) (M : Mx) : (zdata n M).canLay0 = true ∧ (zdata n M).depth ≤ 2 := lay_list fun d h => by
  obtain ⟨j, _, rfl⟩ := List.mem_map.mp h
  exact lay_row _ _
theorem shaped_zone (n : Nat) (M : Mx) : SeqAt.shaped (zdata n M) = true := Bool.and_eq_true_iff.mpr ⟨(lay_zone n M).1, decide_eq_true (by have := (lay_zone n M).2; omega)⟩
theorem cube_le {n : Nat} (h : n ≤ 8) : 2 * n * n * n ≤ 1024 := Nat.mul_le_mul (Nat.mul_le_mul (Nat.mul_le_mul_left 2 h) h) h
/-! ### the narrowest form, as mathematics -/
/-- the first bound is no wider than the second -/
def leO : Option Int → Option Int → Prop
  | _, none => True
  | none, some _ => False
  | some a, some b => a ≤ b
theorem leO_refl : ∀ x, leO x x
  | none => trivial
  | some a => Int.le_refl a
theorem leO_trans : ∀ {x y z}, leO x y → leO y z → leO x z
  | _, _, none, _, _ => by cases ‹Option Int› <;> trivial
  | some a, some b, some c, h, k => Int.le_trans h k
  | none, some b, some c, h, _ => h.elim
  | _, none, some c, _, k => k.elim
theorem narO_le1 : ∀ x y, leO (narO x y) x
  | none, _ => by cases ‹Option Int› <;> trivial
  | some a, none => Int.le_refl a
  | some a, some b => by show (if b < a then b else a) ≤ a; split <;> omega
theorem narO_le2 : ∀ x y, leO (narO x y) y
  | none, y => leO_refl y
  | some a, none => trivial
  | some a, some b => by show (if b < a then b else a) ≤ b; split <;> omega
theorem le_narO : ∀ {x y z}, leO z x → leO z y → leO z (narO x y)
  | none, _, _, _, k => k
  | some a, none, _, h, _ => h
  | some a, some b, none, h, _ => h.elim
  | some a, some b, some c, h, k => by show c ≤ (if b < a then b else a); split <;> assumption
theorem leO_anti : ∀ {x y}, leO x y → leO y x → x = y
  | none, none, _, _ => rfl
  | some a, none, _, k => k.elim
  | none, some b, h, _ => h.elim
  | some a, some b, h, k => by rw [Int.le_antisymm h k]
theorem narO_of_le {x y : Option Int} (h : leO x y) : narO x y = x := leO_anti (narO_le1 x y) (le_narO (leO_refl x) h)
theorem addO_none (x : Option Int) : addO x none = none := by cases x <;> rfl
theorem none_addO (x : Option Int) : addO none x = none := rfl
theorem addO_comm : ∀ x y, addO x y = addO y x
  | none, y => by rw [addO_none]; rfl
  | some a, none => rfl
  | some a, some b => by show some _ = some _; rw [Int.add_comm (a / 2)]; congr 2; simp only [and_comm]
theorem addO_mono : ∀ {x x' y y'}, leO x x' → leO y y' → leO (addO x y) (addO x' y')
  | x, none, y, y', _, _ => by rw [none_addO]; cases addO x y <;> trivial
  | x, some b, y, none, _, _ => by cases addO x y <;> trivial
  | none, some b, _, some d, h, _ => h.elim
  | some a, some b, none, some d, _, k => k.elim
  | some a, some b, some c, some d, h, k => by
    have h : a ≤ b := h
    have k : c ≤ d := k
    show 2 * (a / 2 + c / 2) + (if a % 2 = 1 ∧ c % 2 = 1 then 1 else 0) ≤ 2 * (b / 2 + d / 2) + (if b % 2 = 1 ∧ d % 2 = 1 then 1 else 0)
    split <;> split <;> omega
theorem addO_assoc : ∀ x y z, addO (addO x y) z = addO x (addO y z)
  | none, y, z => rfl
  | some a, none, z => rfl
  | some a, some b, none => by rw [addO_none, addO_none]; rfl
  | some a, some b, some c => by
    show some _ = some _
    congr 1
    generalize hx : (2 * (a / 2 + b / 2) + if a % 2 = 1 ∧ b % 2 = 1 then 1 else 0) = x
    generalize hy : (2 * (b / 2 + c / 2) + if b % 2 = 1 ∧ c % 2 = 1 then 1 else 0) = y
    have x1 : x / 2 = a / 2 + b / 2 := by rw [← hx]; split <;> omega
    have x2 : x % 2 = 1 ↔ (a % 2 = 1 ∧ b % 2 = 1) := by rw [← hx]; split <;> (constructor <;> intro h) <;> omega
    have y1 : y / 2 = b / 2 + c / 2 := by rw [← hy]; split <;> omega
    have y2 : y % 2 = 1 ↔ (b % 2 = 1 ∧ c % 2 = 1) := by rw [← hy]; split <;> (constructor <;> intro h) <;> omega
    simp only [x2, y2, x1, y1, and_assoc]
    omega
theorem addO_one (x : Option Int) : addO x (some 1) = x := by
  cases x with
  | none => rfl
  | some a =>
    show some _ = some _
    congr 1
    split <;> omega
theorem one_addO (x : Option Int) : addO (some 1) x = x := by rw [addO_comm, addO_one]
/-- the diagonal's place is not below at most 0 -/
def Pos (M : Mx) (k : Nat) : Prop := leO (some 1) (M k k)
theorem pos_add {M : Mx} {k : Nat} (h : Pos M k) (x : Option Int) : leO x (addO x (M k k)) := by
  have := addO_mono (leO_refl x) h
  rwa [addO_one] at this
theorem pos_add' {M : Mx} {k : Nat} (h : Pos M k) (x : Option Int) : leO x (addO (M k k) x) := by rw [addO_comm]; exact pos_add h x
def fw (k : Nat) (M : Mx) : Mx := fun a b => narO (M a b) (addO (M a k) (M k b))
theorem fw_col {M : Mx} {k : Nat} (h : Pos M k) (a : Nat) : fw k M a k = M a k := narO_of_le (pos_add h _)
theorem fw_row {M : Mx} {k : Nat} (h : Pos M k) (b : Nat) : fw k M k b = M k b := narO_of_le (pos_add' h _)
theorem inner_eq {M : Mx} {n k m : Nat} (h : Pos M k) {M' : Mx} (e : ∀ a b, M' a b = if a < m ∧ b < n then fw k M a b else M a b) : ∀ l, l ≤ n → ∀ a b, iter (cell1 k m) l M' a b = if a = m ∧ b < l then fw k M m b else M' a b
  | 0, _, a, b => by rw [if_neg (by omega)]; rfl
  | l + 1, hl, a, b => by
    have ih := inner_eq h e l (by omega)
    have hk : ∀ b, M' k b = M k b := fun b => by
      rw [e]; split
      · exact fw_row h b
      · rfl
    have ik : M' m k = M m k := by rw [e, if_neg (by omega)]
    have c1 : iter (cell1 k m) l M' m l = M m l := by rw [ih, if_neg (by omega), e, if_neg (by omega)]
    have c2 : iter (cell1 k m) l M' m k = M m k := by
      rw [ih]; split
      · exact fw_col h m
      · exact ik
    have c3 : iter (cell1 k m) l M' k l = M k l := by
      rw [ih]; split
      · omega
      · exact hk l
    show up2 (iter (cell1 k m) l M') m l (narO (iter (cell1 k m) l M' m l) (addO (iter (cell1 k m) l M' m k) (iter (cell1 k m) l M' k l))) a b = _
    rw [c1, c2, c3]
    unfold up2
    by_cases c : a = m ∧ b = l
    · obtain ⟨rfl, rfl⟩ := c
      rw [if_pos ⟨rfl, rfl⟩, if_pos ⟨rfl, by omega⟩]; rfl
    · rw [if_neg c, ih]
      by_cases d : a = m ∧ b < l
      · rw [if_pos d, if_pos ⟨d.1, by omega⟩]
      · rw [if_neg d, if_neg (by omega)]
theorem rows_eq {M : Mx} {n k : Nat} (h : Pos M k) : ∀ m, ∀ a b, iter (rowst n k) m M a b = if a < m ∧ b < n then fw k M a b else M a b
  | 0, a, b => by rw [if_neg (by omega)]; rfl
  | m + 1, a, b => by
    have ih := rows_eq (n := n) h m
    have ik : iter (rowst n k) m M m k = M m k := by rw [ih, if_neg (by omega)]
    show (if iter (rowst n k) m M m k = none then iter (rowst n k) m M else iter (cell1 k m) n (iter (rowst n k) m M)) a b = _
    rw [ik]
    split
    · rename_i hz
      rw [ih]
      by_cases c : a = m
      · subst c
        rw [if_neg (by omega)]
        split
        · unfold fw; rw [hz, none_addO]; cases M a b <;> rfl
        · rfl
      · by_cases d : a < m ∧ b < n
        · rw [if_pos d, if_pos ⟨by omega, d.2⟩]
        · rw [if_neg d, if_neg (by omega)]
    · rw [inner_eq h ih n (Nat.le_refl _), ih]
      by_cases c : a = m ∧ b < n
      · obtain ⟨rfl, hb⟩ := c
        rw [if_pos ⟨rfl, hb⟩, if_pos ⟨by omega, hb⟩]
      · rw [if_neg c]
        by_cases d : a < m ∧ b < n
        · rw [if_pos d, if_pos ⟨by omega, d.2⟩]
        · rw [if_neg d, if_neg (by omega)]
theorem thr_eq {M : Mx} {n k : Nat} (h : Pos M k) {a b : Nat} (ha : a < n) (hb : b < n) : thr n k M a b = fw k M a b := by
  unfold thr; rw [rows_eq h n, if_pos ⟨ha, hb⟩]
/-- each place's bound only becomes narrower -/
def LeM (N M : Mx) : Prop := ∀ a b, leO (N a b) (M a b)
theorem LeM.refl (M : Mx) : LeM M M := fun _ _ => leO_refl _
theorem LeM.trans {A B C : Mx} (h : LeM A B) (k : LeM B C) : LeM A C := fun a b => leO_trans (h a b) (k a b)
theorem up2_le (M : Mx) (i j : Nat) (x : Option Int) : LeM (up2 M i j (narO (M i j) x)) M := fun a b => by
  unfold up2
  split
  · rename_i h; obtain ⟨rfl, rfl⟩ := h; exact narO_le1 _ _
  · exact leO_refl _
theorem iter_le {f : Nat → Mx → Mx} (hf : ∀ i M, LeM (f i M) M) (M : Mx) : ∀ m, LeM (iter f m M) M
  | 0 => .refl M
  | m + 1 => (hf m _).trans (iter_le hf M m)
theorem rowst_le (n k i : Nat) (M : Mx) : LeM (rowst n k i M) M := by
  unfold rowst
  split
  · exact .refl M
  · exact iter_le (fun j M => up2_le M i j _) M n
theorem thr_le (n k : Nat) (M : Mx) : LeM (thr n k M) M := iter_le (rowst_le n k) M n
theorem diag1_le (i : Nat) (M : Mx) : LeM (diag1 i M) M := (up2_le _ _ _ _).trans (up2_le _ _ _ _)
theorem nrw_le0 (n : Nat) (M : Mx) : LeM (nrw n M) (iter diag1 n M) := iter_le (thr_le n) _ n
theorem nrw_le (n : Nat) (M : Mx) : LeM (nrw n M) M := (nrw_le0 n M).trans (iter_le diag1_le M n)
theorem iter_le2 {f : Nat → Mx → Mx} (hf : ∀ i M, LeM (f i M) M) (M : Mx) {m : Nat} : ∀ d, LeM (iter f (m + d) M) (iter f m M)
  | 0 => .refl _
  | d + 1 => (hf _ _).trans (iter_le2 hf M d)
/-- through the first K places each bound is as narrow as the way makes it -/
def Tri (n K : Nat) (M : Mx) : Prop := ∀ k, k < K → ∀ i j, i < n → j < n → leO (M i j) (addO (M i k) (M k j))
theorem tri_step {n K : Nat} {M : Mx} (hK : K < n) (t : Tri n K M) (h : Pos M K) : Tri n (K + 1) (thr n K M) := by
  intro k hk i j hi hj
  have hkn : k < n := by omega
  rw [thr_eq h hi hj, thr_eq h hi hkn, thr_eq h hkn hj]
  by_cases c : k = K
  · subst c
    rw [fw_col h, fw_row h]
    exact narO_le2 _ _
  have t := t k (by omega)
  have key : ∀ x y, (leO (M i k) x ∨ leO (addO (M i K) (M K k)) x) → (leO (M k j) y ∨ leO (addO (M k K) (M K j)) y) → leO (fw K M i j) (addO x y) := by
    intro x y hx hy
    rcases hx with hx | hx <;> rcases hy with hy | hy
    · exact leO_trans (narO_le1 _ _) (leO_trans (t i j hi hj) (addO_mono hx hy))
    · refine leO_trans (narO_le2 _ _) (leO_trans ?_ (addO_mono hx hy))
      rw [← addO_assoc]
      exact addO_mono (t i K hi hK) (leO_refl _)
    · refine leO_trans (narO_le2 _ _) (leO_trans ?_ (addO_mono hx hy))
      rw [addO_assoc]
      exact addO_mono (leO_refl _) (t K j hK hj)
    · refine leO_trans (narO_le2 _ _) (leO_trans ?_ (addO_mono hx hy))
      rw [addO_assoc, ← addO_assoc (M K k)]
      have g : leO (some 1) (addO (M K k) (M k K)) := leO_trans h (t K K hK hK)
      have := addO_mono (leO_refl (M i K)) (addO_mono g (leO_refl (M K j)))
      rwa [one_addO] at this
  have nar_or : ∀ x y, leO x (narO x y) ∨ leO y (narO x y) := by
    intro x y
    cases x with
    | none => exact .inr (leO_refl _)
    | some a =>
      cases y with
      | none => exact .inl (leO_refl _)
      | some b =>
        show a ≤ (if b < a then b else a) ∨ b ≤ (if b < a then b else a)
        split
        · exact .inr (Int.le_refl _)
        · exact .inl (Int.le_refl _)
  exact key _ _ (nar_or _ _) (nar_or _ _)
theorem nrw_tri {n : Nat} {M : Mx} (h : ∀ i, i < n → Pos (nrw n M) i) : Tri n n (nrw n M) := by
  have key : ∀ K, K ≤ n → Tri n K (iter (thr n) K (iter diag1 n M)) := by
    intro K
    induction K with
    | zero => intro _ k hk; omega
    | succ K ih =>
      intro hK
      refine tri_step (by omega) (ih (by omega)) ?_
      have l : LeM (nrw n M) (iter (thr n) K (iter diag1 n M)) := by
        have := iter_le2 (thr_le n) (iter diag1 n M) (m := K) (n - K)
        rw [show K + (n - K) = n by omega] at this
        exact this
      exact leO_trans (h K (by omega)) (l K K)
  exact key n (Nat.le_refl _)
/-- a way's bound -/
def pathO (M : Mx) : Nat → List Nat → Option Int
  | _, [] => some 1
  | a, b :: l => addO (M a b) (pathO M b l)
def lastOf : Nat → List Nat → Nat
  | a, [] => a
  | _, b :: l => lastOf b l
theorem path_le {n : Nat} {N : Mx} (t : Tri n n N) : ∀ (l : List Nat) (a c : Nat), a < n → c < n → (∀ x ∈ l, x < n) → leO (N c (lastOf a l)) (addO (N c a) (pathO N a l))
  | [], a, c, ha, hc, _ => by show leO (N c a) (addO (N c a) (some 1)); rw [addO_one]; exact leO_refl _
  | b :: l, a, c, ha, hc, h => by
    have hb : b < n := h b (List.mem_cons_self ..)
    have ih := path_le t l b c hb hc fun x hx => h x (List.mem_cons_of_mem _ hx)
    show leO (N c (lastOf b l)) (addO (N c a) (addO (N a b) (pathO N b l)))
    rw [← addO_assoc]
    exact leO_trans ih (addO_mono (t a ha c b hc hb) (leO_refl _))
theorem path_mono {N M : Mx} (h : LeM N M) : ∀ (l : List Nat) (a : Nat), leO (pathO N a l) (pathO M a l)
  | [], _ => leO_refl _
  | b :: l, a => addO_mono (h a b) (path_mono h l b)
/-- a ring that comes to below at most 0 leaves no zone -/
theorem ring_empty {n a : Nat} {M : Mx} {l : List Nat} (ha : a < n) (hl : ∀ x ∈ l, x < n) {s : Int} (hs : addO (M (lastOf a l) a) (pathO M a l) = some s) (h1 : s < 1) : ¬ ∀ i, i < n → Pos (nrw n M) i := by
  intro h
  have t := nrw_tri h
  have hz : lastOf a l < n := by
    have : ∀ (l : List Nat) (a : Nat), a < n → (∀ x ∈ l, x < n) → lastOf a l < n := by
      intro l
      induction l with
      | nil => intro a ha _; exact ha
      | cons b l ih => intro a _ h; exact ih b (h b (List.mem_cons_self ..)) fun x hx => h x (List.mem_cons_of_mem _ hx)
    exact this l a ha hl
  have p := path_le t l a (lastOf a l) ha hz hl
  have q := addO_mono (nrw_le n M (lastOf a l) a) (path_mono (nrw_le n M) l a)
  rw [hs] at q
  have r := leO_trans (h _ hz) (leO_trans p q)
  have r : (1 : Int) ≤ s := r
  omega
theorem diags_row0 {M : Mx} : ∀ m i, i < m → leO (iter diag1 m M 0 i) (some 1)
  | m + 1, i, h => by
    by_cases c : i = m
    · subst c
      show leO (up2 _ 0 i (narO _ (some 1)) 0 i) (some 1)
      unfold up2
      rw [if_pos ⟨rfl, rfl⟩]
      exact narO_le2 _ _
    · exact leO_trans (diag1_le m _ 0 i) (diags_row0 m i (by omega))
/-- a watch below 0 leaves no zone -/
theorem below_empty {n i : Nat} {M : Mx} (hi : i < n) {s : Int} (hs : M i 0 = some s) (h1 : s < 1) : ¬ ∀ i, i < n → Pos (nrw n M) i := by
  intro h
  have t := nrw_tri h 0 (by omega) i i hi hi
  have a : leO (nrw n M i 0) (some s) := by have := nrw_le n M i 0; rwa [hs] at this
  have b : leO (nrw n M 0 i) (some 1) := leO_trans (nrw_le0 n M 0 i) (diags_row0 n i hi)
  have c := addO_mono a b
  rw [addO_one] at c
  have r := leO_trans (h _ hi) (leO_trans t c)
  have r : (1 : Int) ≤ s := r
  omega
theorem lastOf_snoc : ∀ (l : List Nat) (a c : Nat), lastOf a (l ++ [c]) = c
  | [], _, _ => rfl
  | b :: l, _, c => lastOf_snoc l b c
theorem path_snoc (M : Mx) : ∀ (l : List Nat) (a c : Nat), pathO M a (l ++ [c]) = addO (pathO M a l) (M (lastOf a l) c)
  | [], a, c => by show addO (M a c) (some 1) = addO (some 1) (M a c); rw [addO_one, one_addO]
  | b :: l, a, c => by
    show addO (M a b) (pathO M b (l ++ [c])) = addO (addO (M a b) (pathO M b l)) (M (lastOf b l) c)
    rw [path_snoc M l b c, addO_assoc]
theorem path_up2 {M : Mx} {y c : Nat} {v : Option Int} : ∀ (l : List Nat) (a : Nat), y ∉ (a :: l).dropLast → pathO (up2 M y c v) a l = pathO M a l
  | [], _, _ => rfl
  | b :: l, a, h => by
    have h : y ∉ a :: (b :: l).dropLast := h
    have h1 : a ≠ y := fun e => h (by rw [e]; exact List.mem_cons_self ..)
    show addO (up2 M y c v a b) (pathO (up2 M y c v) b l) = _
    rw [path_up2 l b (fun z => h (List.mem_cons_of_mem _ z))]
    unfold up2
    rw [if_neg (fun z => h1 z.1)]
    rfl
theorem lastOf_mem : ∀ (l : List Nat) (a : Nat), lastOf a l ∈ a :: l
  | [], a => List.mem_cons_self ..
  | b :: l, a => List.mem_cons_of_mem _ (lastOf_mem l b)
theorem lastOf_get : ∀ (l : List Nat) (a k x : Nat), (a :: l)[k]? = some x → lastOf a (l.take k) = x
  | l, a, 0, x, h => by rw [List.take_zero]; exact Option.some.inj h
  | [], a, k + 1, x, h => by cases h
  | b :: l, a, k + 1, x, h => lastOf_get l b k x h
theorem nodup_last {l : List Nat} {a : Nat} (nd : (a :: l).Nodup) : lastOf a l ∉ (a :: l).dropLast := by
  induction l generalizing a with
  | nil => simp [lastOf]
  | cons b l ih =>
    have nd2 := (List.nodup_cons.mp nd)
    show lastOf b l ∉ a :: (b :: l).dropLast
    intro h
    rcases List.mem_cons.mp h with e | h
    · exact nd2.1 (by rw [← e]; exact lastOf_mem l b)
    · exact ih nd2.2 h
theorem get_last : ∀ (l : List Nat) (a : Nat), (a :: l)[l.length]? = some (lastOf a l)
  | [], _ => rfl
  | b :: l, _ => get_last l b
theorem natV_last (l : List Nat) (a : Nat) : atI (natV (a :: l)) (-1) = some (.int (lastOf a l : Nat)) := by
  unfold atI
  have e : ixN (natV (a :: l)).length (-1) = some l.length := by
    rw [natV_len]
    unfold ixN
    rw [if_neg (by omega), if_pos (by rw [List.length_cons]; omega)]
    congr 1
    rw [List.length_cons]; omega
  rw [e]
  show (natV (a :: l))[l.length]? = _
  unfold natV
  rw [List.getElem?_map, get_last]; rfl
theorem not_pos {n : Nat} {M : Mx} (h : ¬ ∀ i, i < n → Pos (nrw n M) i) : ∃ i d, i < n ∧ nrw n M i i = some d ∧ d < 1 := by
  apply Classical.byContradiction
  intro c
  apply h
  intro i hi
  obtain ⟨d, e⟩ := has_nrw (M := M) hi
  show leO (some 1) (nrw n M i i)
  rw [e]
  apply Classical.byContradiction
  intro c2
  have c2 : ¬ (1 : Int) ≤ d := c2
  exact c ⟨i, d, hi, e, by omega⟩
theorem diags_diag {M : Mx} : ∀ m i, i < m → leO (iter diag1 m M i i) (some 1)
  | m + 1, i, h => by
    by_cases c : i = m
    · subst c
      have h1 : leO (up2 (iter diag1 i M) i i (narO (iter diag1 i M i i) (some 1)) i i) (some 1) := by
        unfold up2
        rw [if_pos ⟨rfl, rfl⟩]
        exact narO_le2 _ _
      exact leO_trans (up2_le _ _ _ _ i i) h1
    · exact leO_trans (diag1_le m _ i i) (diags_diag m i (by omega))
theorem nrw_diag {n i : Nat} {M : Mx} (hi : i < n) (h : Pos (nrw n M) i) : nrw n M i i = some 1 := leO_anti (leO_trans (nrw_le0 n M i i) (diags_diag n i hi)) h
theorem nrw_row0 {n i : Nat} {M : Mx} (hi : i < n) : leO (nrw n M 0 i) (some 1) := leO_trans (nrw_le0 n M 0 i) (diags_row0 n i hi)
theorem up2_id (M : Mx) (i j : Nat) : up2 M i j (M i j) = M := by
  funext a b
  unfold up2
  split
  · rename_i h; rw [h.1, h.2]
  · rfl
theorem iter_id {f : Nat → Mx → Mx} {M : Mx} : ∀ m, (∀ i, i < m → f i M = M) → iter f m M = M
  | 0, _ => rfl
  | m + 1, h => by
    show f m (iter f m M) = M
    rw [iter_id m fun i hi => h i (by omega)]
    exact h m (by omega)
/-- a narrow zone is its own narrowest form -/
theorem nrw_idem {n : Nat} {N : Mx} (h1 : ∀ i, i < n → N i i = some 1) (h0 : ∀ i, i < n → leO (N 0 i) (some 1)) (t : Tri n n N) : nrw n N = N := by
  have d : iter diag1 n N = N := iter_id n fun i hi => by
    unfold diag1
    have e : narO (N i i) (some 1) = N i i := by rw [h1 i hi]; rfl
    rw [e, up2_id, narO_of_le (h0 i hi), up2_id]
  unfold nrw
  rw [d]
  refine iter_id n fun k hk => ?_
  funext a b
  have p : Pos N k := by show leO (some 1) (N k k); rw [h1 k hk]; exact leO_refl _
  unfold thr
  rw [rows_eq p n]
  split
  · rename_i c
    exact narO_of_le (t k hk a b c.1 c.2)
  · rfl
/-! ### values: lists of fractions -/
/-- the values xs stand at p -/
def VAt (H : Hp) (p : Addr) (xs : List (Int × Int)) : Prop := ∃ qs : List Addr, H p = some (.lst (qs.map V.ref)) ∧ qs.length = xs.length ∧ ∀ (i : Nat) (q : Addr) (x : Int × Int), qs[i]? = some q → xs[i]? = some x → H q = some (.tup [.int x.1, .int x.2])
theorem VAt.keep {H H' : Hp} {p : Addr} {xs : List (Int × Int)} (v : VAt H p xs) (s : Same H H') : VAt H' p xs := by
  obtain ⟨qs, a, b, c⟩ := v
  exact ⟨qs, s _ _ a, b, fun i q x h1 h2 => s _ _ (c i q x h1 h2)⟩
theorem VAt.get {H : Hp} {p : Addr} {xs : List (Int × Int)} {K : PySem.W.Frag} {Q : VK} (v : VAt H p xs) {i : Nat} {x : Int × Int} (h : xs[i]? = some x) (q : ∀ a, H a = some (.tup [.int x.1, .int x.2]) → Q (.ref a) H) : rIxL K (.ref p) (.int i) H Q := by
  obtain ⟨qs, e1, e2, e3⟩ := v
  have hi : i < qs.length := by rw [e2]; exact (List.getElem?_eq_some_iff.mp h).1
  have hq := List.getElem?_eq_getElem hi
  exact ix_l (v := .ref qs[i]) (.of e1) (by omega) (by rw [Int.toNat_natCast, List.getElem?_map, hq]; rfl) (q _ (e3 i _ x hq h))
/-- good values: from 0 on, bottoms from 1 on, small -/
def GoodV (s : Nat) (xs : List (Int × Int)) : Prop := ∀ x ∈ xs, 0 ≤ x.1 ∧ 0 < x.2 ∧ Sz s x.1 ∧ Sz s x.2
def dif (a b : Int × Int) : Int × Int := (a.1 * b.2 - b.1 * a.2, a.2 * b.2)
/-- whether a fraction is let by hangs on what it stands for alone -/
theorem letsO_ratio {b : Option Int} {t u t' u' : Int} (hu : 0 < u) (hu' : 0 < u') (e : t * u' = t' * u) : letsO b t u = letsO b t' u' := by
  cases b with
  | none => rfl
  | some b =>
    show decide _ = decide _
    refine decide_eq_decide.mpr ?_
    have key : ∀ t u t' u' : Int, 0 < u → 0 < u' → t * u' = t' * u → (t < b / 2 * u → t' < b / 2 * u') ∧ (t = b / 2 * u → t' = b / 2 * u') := by
      intro t u t' u' hu hu' e
      refine ⟨fun h => ?_, fun h => ?_⟩
      · have h1 := Int.mul_lt_mul_of_pos_right h hu'
        rw [e, Int.mul_right_comm] at h1
        exact Int.lt_of_mul_lt_mul_right h1 (by omega)
      · rw [h] at e
        rw [Int.mul_right_comm] at e
        exact (Int.eq_of_mul_eq_mul_right (by omega) e).symm
    have k1 := key t u t' u' hu hu' e
    have k2 := key t' u' t u hu' hu e.symm
    constructor
    · rintro (h | h)
      · exact .inl (k1.1 h)
      · exact .inr ⟨k1.2 h.1, h.2⟩
    · rintro (h | h)
      · exact .inl (k2.1 h)
      · exact .inr ⟨k2.2 h.1, h.2⟩
theorem lets_iff {b t u : Int} : letsO (some b) t u = true ↔ (t < b / 2 * u ∨ (t = b / 2 * u ∧ b % 2 = 1)) := decide_eq_true_iff
/-- a narrower bound lets less by -/
theorem lets_mono {x y : Option Int} {t u : Int} (hu : 0 < u) (h : leO x y) (k : letsO x t u = true) : letsO y t u = true := by
  cases y with
  | none => rfl
  | some b =>
    cases x with
    | none => exact h.elim
    | some a =>
      have h : a ≤ b := h
      rw [lets_iff] at k ⊢
      by_cases c : a / 2 = b / 2
      · rw [← c]
        rcases k with k | k
        · exact .inl k
        · exact .inr ⟨k.1, by omega⟩
      · have l : a / 2 + 1 ≤ b / 2 := by omega
        have m := Int.mul_le_mul_of_nonneg_right l (Int.le_of_lt hu)
        rw [Int.add_mul, Int.one_mul] at m
        rcases k with k | k <;> (left; omega)
/-- sums are let by the sum -/
theorem lets_add {x y : Option Int} {t u t' u' : Int} (hu : 0 < u) (hu' : 0 < u') (h : letsO x t u = true) (k : letsO y t' u' = true) : letsO (addO x y) (t * u' + t' * u) (u * u') = true := by
  cases x with
  | none => rfl
  | some a =>
    cases y with
    | none => rfl
    | some b =>
      rw [lets_iff] at h k
      show letsO (some _) _ _ = true
      rw [lets_iff]
      obtain ⟨c, hc⟩ : ∃ c, (2 * (a / 2 + b / 2) + if a % 2 = 1 ∧ b % 2 = 1 then 1 else 0) = c := ⟨_, rfl⟩
      rw [hc]
      have c1 : c / 2 = a / 2 + b / 2 := by rw [← hc]; split <;> omega
      have c2 : a % 2 = 1 → b % 2 = 1 → c % 2 = 1 := by intro h1 h2; rw [← hc, if_pos ⟨h1, h2⟩]; omega
      rw [c1]
      have e : (a / 2 + b / 2) * (u * u') = a / 2 * u * u' + b / 2 * u' * u := by rw [Int.add_mul]; congr 1 <;> ac_rfl
      rw [e]
      rcases h with h | h <;> rcases k with k | k
      · have h1 := Int.mul_lt_mul_of_pos_right h hu'
        have k1 := Int.mul_lt_mul_of_pos_right k hu
        left; omega
      · have h1 := Int.mul_lt_mul_of_pos_right h hu'
        rw [k.1]
        left; omega
      · have k1 := Int.mul_lt_mul_of_pos_right k hu
        rw [h.1]
        left; omega
      · right
        exact ⟨by rw [h.1, k.1], c2 h.2 k.2⟩
/-- the values v (a fraction for each place) lie in M -/
def Lies (n : Nat) (M : Mx) (v : Nat → Int × Int) : Prop := ∀ i j, i < n → j < n → letsO (M i j) (dif (v i) (v j)).1 (dif (v i) (v j)).2 = true
structure Vals0 (n : Nat) (v : Nat → Int × Int) : Prop where
  zero : v 0 = (0, 1)
  pos : ∀ i, i < n → 0 < (v i).2
  nn : ∀ i, i < n → 0 ≤ (v i).1
theorem dif_pos {a b : Int × Int} (ha : 0 < a.2) (hb : 0 < b.2) : 0 < (dif a b).2 := Int.mul_pos ha hb
theorem lies_cell {n k i j : Nat} {M : Mx} {v : Nat → Int × Int} (h0 : Vals0 n v) (hk : k < n) (hi : i < n) (hj : j < n) (h : Lies n M v) : Lies n (cell1 k i j M) v := by
  intro a b ha hb
  unfold cell1 up2
  split
  · rename_i c
    obtain ⟨rfl, rfl⟩ := c
    have p1 := h0.pos a ha
    have p2 := h0.pos b hb
    have p3 := h0.pos k hk
    have s : letsO (addO (M a k) (M k b)) (dif (v a) (v b)).1 (dif (v a) (v b)).2 = true := by
      have := lets_add (dif_pos p1 p3) (dif_pos p3 p2) (h a k ha hk) (h k b hk hb)
      rw [letsO_ratio (dif_pos p1 p2) (Int.mul_pos (dif_pos p1 p3) (dif_pos p3 p2)) (t' := (dif (v a) (v k)).1 * (dif (v k) (v b)).2 + (dif (v k) (v b)).1 * (dif (v a) (v k)).2)]
      · exact this
      · generalize v a = x at *
        generalize v b = y at *
        generalize v k = z at *
        obtain ⟨x1, x2⟩ := x
        obtain ⟨y1, y2⟩ := y
        obtain ⟨z1, z2⟩ := z
        simp only [dif]
        grind
    have h1 := h a b ha hb
    cases hM : M a b with
    | none => exact s
    | some d =>
      cases hA : addO (M a k) (M k b) with
      | none => rw [hM] at h1; exact h1
      | some e =>
        rw [hM] at h1
        rw [hA] at s
        show letsO (some (if e < d then e else d)) _ _ = true
        split
        · exact s
        · exact h1
  · exact h a b ha hb
theorem lies_iter {n : Nat} {v : Nat → Int × Int} {f : Nat → Mx → Mx} {M : Mx} : ∀ m, (∀ i M, i < m → Lies n M v → Lies n (f i M) v) → Lies n M v → Lies n (iter f m M) v
  | 0, _, h => h
  | m + 1, hf, h => hf m _ (by omega) (lies_iter m (fun i M hi => hf i M (by omega)) h)
theorem lies_thr {n k : Nat} {M : Mx} {v : Nat → Int × Int} (h0 : Vals0 n v) (hk : k < n) (h : Lies n M v) : Lies n (thr n k M) v :=
  lies_iter n (fun i M hi h => by
    unfold rowst
    split
    · exact h
    · exact lies_iter n (fun j M hj h => lies_cell h0 hk hi hj h) h) h
theorem lies_up {n i j : Nat} {M : Mx} {v : Nat → Int × Int} (h : Lies n M v) (h1 : i < n → j < n → letsO (some 1) (dif (v i) (v j)).1 (dif (v i) (v j)).2 = true) : Lies n (up2 M i j (narO (M i j) (some 1))) v := by
  intro a b ha hb
  unfold up2
  split
  · rename_i c
    obtain ⟨rfl, rfl⟩ := c
    have h2 := h a b ha hb
    cases hM : M a b with
    | none => exact h1 ha hb
    | some d =>
      rw [hM] at h2
      show letsO (some (if 1 < d then 1 else d)) _ _ = true
      split
      · exact h1 ha hb
      · exact h2
  · exact h a b ha hb
theorem lies_diag {n i : Nat} {M : Mx} {v : Nat → Int × Int} (h0 : Vals0 n v) (hi : i < n) (h : Lies n M v) : Lies n (diag1 i M) v := by
  refine lies_up (lies_up h fun _ _ => ?_) fun hz _ => ?_
  · rw [lets_iff]
    right
    simp only [dif]
    exact ⟨by rw [show (1 : Int) / 2 = 0 from rfl]; omega, by decide⟩
  · rw [lets_iff]
    simp only [dif, h0.zero]
    have p := h0.nn i hi
    have : (1 : Int) / 2 = 0 := rfl
    rw [this]
    omega
theorem lies_nrw {n : Nat} {M : Mx} {v : Nat → Int × Int} (h0 : Vals0 n v) (h : Lies n M v) : Lies n (nrw n M) v :=
  lies_iter n (fun k M hk h => lies_thr h0 hk h) (lies_iter n (fun i M hi h => lies_diag h0 hi h) h)
theorem lies_of_le {n : Nat} {N M : Mx} {v : Nat → Int × Int} (h0 : Vals0 n v) (l : LeM N M) (h : Lies n N v) : Lies n M v := fun i j hi hj => lets_mono (dif_pos (h0.pos i hi) (h0.pos j hj)) (l i j) (h i j hi hj)
theorem nrw_lies {n : Nat} {M : Mx} {v : Nat → Int × Int} (h0 : Vals0 n v) : Lies n (nrw n M) v ↔ Lies n M v := ⟨lies_of_le h0 (nrw_le n M), lies_nrw h0⟩
/-- where values lie, the diagonal isn't below at most 0 -/
theorem lies_pos {n i : Nat} {M : Mx} {v : Nat → Int × Int} (h0 : Vals0 n v) (hi : i < n) (h : Lies n M v) : Pos M i := by
  have h1 := h i i hi hi
  cases hM : M i i with
  | none => show leO (some 1) (M i i); rw [hM]; trivial
  | some d =>
    show leO (some 1) (M i i)
    rw [hM] at h1 ⊢
    rw [lets_iff] at h1
    show 1 ≤ d
    have e : (dif (v i) (v i)).1 = 0 := by simp only [dif]; omega
    have p := dif_pos (h0.pos i hi) (h0.pos i hi)
    rw [e] at h1
    generalize (dif (v i) (v i)).2 = D at *
    rcases Int.lt_or_le (d / 2) 0 with c | c
    · have := Int.mul_neg_of_neg_of_pos c p
      rcases h1 with h1 | h1 <;> omega
    · rcases Int.lt_or_le 0 (d / 2) with c2 | c2
      · omega
      · have z : d / 2 = 0 := by omega
        rw [z, Int.zero_mul] at h1
        rcases h1 with h1 | h1 <;> omega
/-- the places: nought, then the values -/
def plc (xs : List (Int × Int)) : Nat → Int × Int := fun i => ((0, 1) :: xs).getD i (0, 1)
theorem plc_get {xs : List (Int × Int)} {i : Nat} (h : i < xs.length + 1) : ((0, 1) :: xs)[i]? = some (plc xs i) := by
  have h2 : i < ((0, 1) :: xs).length := h
  show _ = some (((0, 1) :: xs).getD i (0, 1))
  rw [List.getD_eq_getElem?_getD, List.getElem?_eq_getElem h2]; rfl
theorem plc_good {s : Nat} {xs : List (Int × Int)} (g : GoodV s xs) (hs : 1 ≤ s) (i : Nat) : 0 ≤ (plc xs i).1 ∧ 0 < (plc xs i).2 ∧ Sz s (plc xs i).1 ∧ Sz s (plc xs i).2 := by
  have one : Sz s 1 := by
    have : (2 : Nat) ^ 1 ≤ 2 ^ s := Nat.pow_le_pow_right (by decide) hs
    unfold Sz; omega
  have base : (0 : Int) ≤ ((0, 1) : Int × Int).1 ∧ 0 < ((0, 1) : Int × Int).2 ∧ Sz s ((0, 1) : Int × Int).1 ∧ Sz s ((0, 1) : Int × Int).2 := ⟨by decide, by decide, by unfold Sz; exact Nat.pow_pos (by decide), one⟩
  unfold plc
  cases h : ((0, 1) :: xs)[i]? with
  | none => rw [List.getD_eq_getElem?_getD, h]; exact base
  | some x =>
    rw [List.getD_eq_getElem?_getD, h]
    rcases List.mem_cons.mp (List.mem_of_getElem? h) with e | m
    · rw [e]; exact base
    · exact g x m
theorem plc_vals {s : Nat} {xs : List (Int × Int)} (g : GoodV s xs) (hs : 1 ≤ s) (n : Nat) : Vals0 n (plc xs) := ⟨rfl, fun i _ => (plc_good g hs i).2.1, fun i _ => (plc_good g hs i).1⟩
/-- at most the number from above, and more -/
theorem ceil_ok {t u k : Int} (hu : 0 < u) (hk : 0 ≤ k) : letsO (some (2 * (0 - (0 - t).fdiv u + k) + 1)) t u = true := by
  rw [lets_iff]
  rw [Int.fdiv_eq_ediv_of_nonneg _ (by omega)]
  have e : (2 * (0 - (0 - t) / u + k) + 1) / 2 = 0 - (0 - t) / u + k := by omega
  have e2 : (2 * (0 - (0 - t) / u + k) + 1) % 2 = 1 := by omega
  rw [e, e2]
  have h1 := Int.ediv_mul_le (0 - t) (b := u) (by omega)
  have h2 : 0 ≤ k * u := Int.mul_nonneg hk (by omega)
  rw [Int.add_mul, Int.sub_mul, Int.zero_mul]
  generalize (0 - t) / u * u = A at *
  omega
/-- below the number above, and more -/
theorem floor_ok {t u k : Int} (hu : 0 < u) (hk : 0 ≤ k) : letsO (some (2 * (t.fdiv u + 1 + k))) t u = true := by
  rw [lets_iff]
  rw [Int.fdiv_eq_ediv_of_nonneg _ (by omega)]
  have e : (2 * (t / u + 1 + k)) / 2 = t / u + 1 + k := by omega
  rw [e]
  have h1 := Int.lt_ediv_add_one_mul_self t hu
  have h2 : 0 ≤ k * u := Int.mul_nonneg hk (by omega)
  rw [Int.add_mul]
  generalize (t / u + 1) * u = A at *
  omega
theorem fdiv_sz {s : Nat} {t u : Int} (hu : 0 < u) (h : Sz s t) : Sz (s + 1) (t.fdiv u) := by
  rw [Int.fdiv_eq_ediv_of_nonneg _ (by omega)]
  have p : (2 : Nat) ^ (s + 1) = 2 ^ s * 2 := Nat.pow_succ ..
  unfold Sz at *
  rw [p]
  rcases Int.lt_or_le t 0 with c | c
  · have h1 : t ≤ t / u := by
      have := Int.ediv_le_ediv (c := u) (by omega) (Int.le_refl t)
      rcases Int.lt_or_le (t / u) t with z | z
      · have z1 : t / u + 1 ≤ t := by omega
        have z2 := Int.mul_le_mul_of_nonneg_right z1 (Int.le_of_lt hu)
        have z3 := Int.lt_ediv_add_one_mul_self t hu
        have z4 : t * u ≤ t * 1 := Int.mul_le_mul_of_nonpos_left (by omega) (by omega)
        omega
      · exact z
    have h2 : t / u < 0 := Int.ediv_neg_of_neg_of_pos c hu
    omega
  · have h1 := Int.ediv_nonneg c (Int.le_of_lt hu)
    have h2 := Int.ediv_le_self (a := t) u c
    omega
theorem half1 {b : Int} (h : Sz 9000 b) : Sz 10000 (b / 2) := Sz.le (j := b) (by omega) (h.mono (by omega))
theorem VAt.upd_ne {H : Hp} {o l : Addr} {xs : List (Int × Int)} {items items' : List V} (v : VAt H o xs) (hl : H l = some (.lst items)) (n : o ≠ l) : VAt (upd H l (.lst items')) o xs := by
  obtain ⟨qs, a, b, c⟩ := v
  refine ⟨qs, by rw [L2.upd_ne n]; exact a, b, fun i q x h1 h2 => ?_⟩
  have h3 := c i q x h1 h2
  rw [L2.upd_ne (ne_of h3 hl (by intro z; cases z))]
  exact h3
theorem VAt.set {H : Hp} {o q : Addr} {xs : List (Int × Int)} {i : Nat} {x : Int × Int} (v : VAt H o xs) (hq : H q = some (.tup [.int x.1, .int x.2])) : ∃ items, H o = some (.lst items) ∧ items.length = xs.length ∧ VAt (upd H o (.lst (items.set i (.ref q)))) o (xs.set i x) := by
  obtain ⟨qs, a, b, c⟩ := v
  refine ⟨_, a, by rw [List.length_map]; exact b, qs.set i q, by rw [upd_same, List.map_set], by simp [b], fun k q' x' h1 h2 => ?_⟩
  have nq : ∀ r y, H r = some (.tup y) → (upd H o (.lst ((qs.map V.ref).set i (.ref q)))) r = some (.tup y) := fun r y h => by
    rw [L2.upd_ne (ne_of h a (by intro z; cases z))]; exact h
  rw [List.getElem?_set] at h1 h2
  by_cases e : i = k
  · rw [if_pos e] at h1 h2
    split at h1
    · split at h2
      · cases h1; cases h2; exact nq _ _ hq
      · cases h2
    · cases h1
  · rw [if_neg e] at h1 h2
    exact nq _ _ (c k q' x' h1 h2)
theorem GoodV.set {s : Nat} {xs : List (Int × Int)} {i : Nat} {x : Int × Int} (g : GoodV s xs) (h : 0 ≤ x.1 ∧ 0 < x.2 ∧ Sz s x.1 ∧ Sz s x.2) : GoodV s (xs.set i x) := fun y hy => by
  rcases List.mem_or_eq_of_mem_set hy with h1 | h1
  · exact g y h1
  · rw [h1]; exact h
/-- all are in lowest terms -/
def RedV (xs : List (Int × Int)) : Prop := ∀ x ∈ xs, Int.gcd x.1 x.2 = 1
theorem RedV.set {xs : List (Int × Int)} {i : Nat} {x : Int × Int} (g : RedV xs) (h : Int.gcd x.1 x.2 = 1) : RedV (xs.set i x) := fun y hy => by
  rcases List.mem_or_eq_of_mem_set hy with h1 | h1
  · exact g y h1
  · rw [h1]; exact h
theorem GoodV.mono {s t : Nat} {xs : List (Int × Int)} (g : GoodV s xs) (h : s ≤ t) : GoodV t xs := fun x hx => ⟨(g x hx).1, (g x hx).2.1, (g x hx).2.2.1.mono h, (g x hx).2.2.2.mono h⟩
/-- list(values) -/
theorem list_vals {K : PySem.W.Frag} {H : Hp} {o : Addr} {xs : List (Int × Int)} {Q : VK} (v : VAt H o xs) (q : ∀ l H2, Same H H2 → H l = none → VAt H2 l xs → Q (.ref l) H2) : rListN K [.ref o] H Q := by
  obtain ⟨qs, a, b, c⟩ := v
  exact ⟨o, _, rfl, .inl (.of a), fun l H2 s f e => q l H2 s f ⟨qs, e, b, fun i q x h1 h2 => s _ _ (c i q x h1 h2)⟩⟩
/-! ### rows made anew -/
theorem zrow_rep (k : Nat) (x : Option Int) : (List.replicate k [oV x]).flatten = zrow k (fun _ => x) := by
  rw [List.flatten_replicate_singleton]
  unfold zrow
  rw [List.map_const', List.length_range]
theorem zrow_app (a b : Nat) (f : Nat → Option Int) : zrow a f ++ zrow b (fun j => f (a + j)) = zrow (a + b) f := by
  unfold zrow
  rw [List.range_add, List.map_append, List.map_map]
  rfl
theorem Grow.to {H0 H : Hp} {l : Addr} {as : List Addr} {i n : Nat} {M N : Mx} (g : Grow H0 H l as i n M) (h : ∀ a b, a < i → b < n → M a b = N a b) : Grow H0 H l as i n N :=
  ⟨g.top, g.len, g.nd, g.fr, fun j a hj => by
    have hl := (List.getElem?_eq_some_iff.mp hj).1
    have := g.len
    rw [g.row j a hj, zrow_congr fun b hb => h j b (by omega) hb]⟩
/-- [row for k in range(n)]: fresh rows -/
theorem lc_rowsR {H : Hp} {n c : Nat} {σ : L2.St} {M : Mx} {ta : TA} {te : TE} {Q : VK} (hn : n ≤ 60) (hc : c < σ.length)
    (ha : ∀ Q1 : List V → Hp → Prop, Q1 [.int n] H → ta σ H Q1)
    (ht : ∀ i H1 (Q1 : VK), i < n → (∀ r H2, Same H1 H2 → H1 r = none → H2 r = some (.lst (zrow n (M i))) → Q1 (.ref r) H2) → te ((σ.set c none).set c (some (.int (0 + (i : Int))))) H1 Q1)
    (q : ∀ D as' H', Same H H' → ZAt H' D as' n M → H D = none → (∀ a ∈ as', H a = none) → Q (.ref D) H') :
    tLc (iRng1 ta) (gName c) tYes te [c] σ H Q := by
  refine ha _ ⟨(n : Int), rfl, (rg_ok (by omega)).1, (rg_ok (by omega)).2, fun D hD => ?_⟩
  refine lc_range (lo := 0) (n := n) (fun i H' => ∃ as' : List Addr, Same H H' ∧ H' D = some (.lst (as'.map V.ref)) ∧ as'.length = i ∧ as'.Nodup ∧ (∀ a ∈ as', H a = none ∧ a ≠ D) ∧ ∀ (j : Nat) (a : Addr), as'[j]? = some a → H' a = some (.lst (zrow n (M j))))
    ⟨[], upd_keep hD, upd_same, rfl, List.nodup_nil, (fun a h => by cases h), (fun j a h => by cases h)⟩ ?_ ?_
  · rintro i H' hi ⟨as', sm, eD, hl, nd, hf, hr⟩
    refine ⟨?_, ?_⟩
    · show ((σ.set c none).set c (some (.int (0 + (i : Int))))).set c none = σ.set c none
      rw [List.set_set, List.set_set]
    refine ht i H' _ hi fun l H2 s2 fl e2 => ?_
    have nD : l ≠ D := fun e => by rw [e, eD] at fl; cases fl
    have nl : l ∉ as' := fun hm => by
      obtain ⟨j, hj, e⟩ := List.mem_iff_getElem.mp hm
      have := hr j l (by rw [List.getElem?_eq_getElem hj, e])
      rw [fl] at this; cases this
    refine ⟨as'.map V.ref, s2 _ _ eD, by rw [List.length_map, hl]; exact small1000 (by omega), as' ++ [l], same_updN hD (sm.trans s2), ?_, by simp [hl], ?_, ?_, ?_⟩
    · rw [upd_same, List.map_append]; rfl
    · rw [List.nodup_append]
      refine ⟨nd, by simp, fun a ha b hb e => ?_⟩
      have : b = l := by simpa using hb
      exact nl (by rw [← this, ← e]; exact ha)
    · intro a ha
      rcases List.mem_append.mp ha with h | h
      · exact hf a h
      · have : a = l := by simpa using h
        subst this
        exact ⟨sm.free fl, nD⟩
    · intro j a hj
      by_cases c1 : j < as'.length
      · rw [List.getElem?_append_left c1] at hj
        rw [upd_ne (hf a (List.mem_of_getElem? hj)).2]
        exact s2 _ _ (hr j a hj)
      · have hlt := (List.getElem?_eq_some_iff.mp hj).1
        rw [List.length_append, List.length_singleton] at hlt
        obtain rfl : j = as'.length := by omega
        rw [List.getElem?_append_right (Nat.le_refl _), Nat.sub_self] at hj
        have : l = a := by simpa using hj
        subst this
        rw [upd_ne nD, hl]
        exact e2
  · rintro H' ⟨as', sm, eD, hl, nd, hf, hr⟩
    exact q D as' H' sm ⟨eD, hl, hr, nd⟩ hD fun a ha => (hf a ha).1
/-- a for over a range from a place on -/
def ForR2 (lo : Int) (n : Nat) (g : TG) (tb : TS) (D : Ends) (σ : L2.St) (H : Hp) : Prop := ∃ W : Nat → Nat → L2.St → Hp → Prop, (∃ m, W 0 m σ H) ∧ ∀ i m σ H, W i m σ H →
  ((Itr lo n).stop i H ∧ D.nx σ H) ∨ ((Itr lo n).go i H ∧ ∃ N : L2.St → Hp → Prop, (∀ σ' H', N σ' H' → ∃ m', m' < m ∧ W (i + 1) m' σ' H') ∧ ∀ x H', (Itr lo n).yld i H x H' → g x σ H' fun σ2 H2 => tb { D with nx := N, ct := N, bk := D.nx } σ2 H2)
theorem for_rg2 {ta : TA} {g : TG} {tb : TS} {D : Ends} {σ : L2.St} {H : Hp} (h : ta σ H fun vs H1 => ∃ i j : Int, vs = [.int i, .int j] ∧ (-(2 ^ 62) ≤ i ∧ i < 2 ^ 62 ∧ -(2 ^ 62) ≤ j ∧ j < 2 ^ 62) ∧ ForR2 i (j - i).toNat g tb D σ H1) : tFor (iRng2 ta) g tb D σ H := h
theorem forR2_by {lo : Int} {n : Nat} {g : TG} {tb : TS} {D : Ends} {σ : L2.St} {H : Hp} (Pv : Nat → L2.St → Hp → Prop) (h0 : Pv 0 σ H)
    (hs : ∀ i σ H, i < n → Pv i σ H → g (.int (lo + i)) σ H fun σ2 H2 => tb { D with nx := Pv (i + 1), ct := Pv (i + 1), bk := D.nx } σ2 H2) (hd : ∀ σ H, Pv n σ H → D.nx σ H) : ForR2 lo n g tb D σ H := for_range (lo := lo) (n := n) Pv h0 hs hd
/-- the zone of all stands -/
def evM : Mx := fun i j => if i = 0 ∨ i = j then some 1 else none
def oneM : Mx := fun _ _ => some 1
/-! ### values as data, and the zones of all and of the noughts alone -/
def vdata (xs : List (Int × Int)) : PyData := .list (xs.map fun x => .tuple [.int x.1, .int x.2])
theorem VAt.dp {K : PySem.W.Frag} {H : Hp} {p : Addr} {xs : List (Int × Int)} (v : VAt H p xs) : Dp K H (.ref p) (vdata xs) := by
  obtain ⟨qs, a, b, c⟩ := v
  refine .lst (.of a) (dpall_of (by simp [b]) fun k v d h1 h2 => ?_)
  rw [List.getElem?_map] at h1 h2
  obtain ⟨q, hq, rfl⟩ := Option.map_eq_some_iff.mp h1
  obtain ⟨x, hx, rfl⟩ := Option.map_eq_some_iff.mp h2
  exact .tup (.of (c k q x hq hx)) (.cons (.int _) (.cons (.int _) .nil))
theorem lay_vals (xs : List (Int × Int)) : (vdata xs).canLay0 = true ∧ (vdata xs).depth ≤ 2 := lay_list fun d h => by
  obtain ⟨x, _, rfl⟩ := List.mem_map.mp h
  exact ⟨rfl, Nat.le_refl _⟩
theorem shaped_vals (xs : List (Int × Int)) : SeqAt.shaped (vdata xs) = true := Bool.and_eq_true_iff.mpr ⟨(lay_vals xs).1, decide_eq_true (by have := (lay_vals xs).2; omega)⟩
theorem eqv_vals {xs ys : List (Int × Int)} (h : xs.length = ys.length) : PyData.eqv (vdata xs) (vdata ys) = decide (xs = ys) := by
  have key : ∀ xs ys : List (Int × Int), xs.length = ys.length → PyData.eqvAll (xs.map fun x => .tuple [.int x.1, .int x.2]) (ys.map fun x => .tuple [.int x.1, .int x.2]) = decide (xs = ys) := by
    intro xs
    induction xs with
    | nil =>
      intro ys h
      cases ys with
      | nil => rfl
      | cons y ys => cases h
    | cons x xs ih =>
      intro ys h
      cases ys with
      | nil => cases h
      | cons y ys =>
        obtain ⟨a, b⟩ := x
        obtain ⟨c, d⟩ := y
        have := ih ys (by simpa using h)
        simp only [List.map_cons]
        rw [PyData.eqvAll, this]
        simp [PyData.eqv, PyData.eqvAll, and_assoc]
        rw [Bool.eq_iff_iff]
        simp [and_assoc]
  rw [show PyData.eqv (vdata xs) (vdata ys) = PyData.eqvAll (xs.map fun x => .tuple [.int x.1, .int x.2]) (ys.map fun x => .tuple [.int x.1, .int x.2]) by unfold vdata; rw [PyData.eqv]]
  exact key xs ys h
theorem lies_ev {n : Nat} {v : Nat → Int × Int} (h0 : Vals0 n v) : Lies n evM v := fun i j hi hj => by
  unfold evM
  split
  · rename_i c
    rw [lets_iff]
    rcases c with rfl | rfl
    · simp only [dif, h0.zero]
      have p := h0.nn j hj
      have : (1 : Int) / 2 = 0 := rfl
      rw [this]
      omega
    · right
      simp only [dif]
      exact ⟨by rw [show (1 : Int) / 2 = 0 from rfl]; omega, by decide⟩
  · rfl
theorem lies_one {n : Nat} {v : Nat → Int × Int} (h0 : Vals0 n v) : Lies n oneM v ↔ ∀ i, i < n → (v i).1 = 0 := by
  constructor
  · intro h i hi
    have h1 := h i 0 hi (by omega)
    have h1 : letsO (some 1) _ _ = true := h1
    rw [lets_iff] at h1
    simp only [dif, h0.zero] at h1
    have p := h0.nn i hi
    have : (1 : Int) / 2 = 0 := rfl
    rw [this] at h1
    omega
  · intro h i j hi hj
    show letsO (some 1) _ _ = true
    rw [lets_iff]
    right
    simp only [dif, h i hi, h j hj]
    exact ⟨by rw [show (1 : Int) / 2 = 0 from rfl]; omega, by decide⟩
theorem noughts {s : Nat} {xs : List (Int × Int)} (g : GoodV s xs) (r : RedV xs) : (∀ i, i < xs.length + 1 → (plc xs i).1 = 0) ↔ xs = List.replicate xs.length (0, 1) := by
  constructor
  · intro h
    rw [List.eq_replicate_iff]
    refine ⟨rfl, fun b hb => ?_⟩
    obtain ⟨i, hi, e⟩ := List.mem_iff_getElem.mp hb
    have h1 := h (i + 1) (by omega)
    have h2 := plc_get (xs := xs) (i := i + 1) (by omega)
    rw [List.getElem?_cons_succ, List.getElem?_eq_getElem hi, e] at h2
    have h2 := Option.some.inj h2
    rw [← h2] at h1
    have h3 := r b hb
    have h4 := (g b hb).2.1
    obtain ⟨t, u⟩ := b
    have h1 : t = 0 := h1
    subst h1
    have h3 : Int.gcd 0 u = 1 := h3
    rw [Int.gcd_zero_left] at h3
    have h4 : 0 < u := h4
    rw [show u = 1 by omega]
  · intro h i hi
    have h2 := List.mem_of_getElem? (plc_get (xs := xs) hi)
    rcases List.mem_cons.mp h2 with e | e
    · rw [e]
    · rw [List.eq_of_mem_replicate (h.subst (motive := fun l => plc xs i ∈ l) e)]
theorem lies_noughts {s n : Nat} {xs : List (Int × Int)} (g : GoodV s xs) (hs : 1 ≤ s) (r : RedV xs) (hn : xs.length + 1 = n) : Lies n oneM (plc xs) ↔ xs = List.replicate xs.length (0, 1) := by
  subst hn
  exact (lies_one (plc_vals g hs _)).trans (noughts g r)
/-- a zone and values, in one list -/
def pdata (n : Nat) (M : Mx) (xs : List (Int × Int)) : PyData := .list [zdata n M, vdata xs]
theorem dp_pair {K : PySem.W.Frag} {H : Hp} {p a b : Addr} {n : Nat} {M : Mx} {xs : List (Int × Int)} {as : List Addr} (h : H p = some (.lst [.ref a, .ref b])) (z : ZAt H a as n M) (v : VAt H b xs) : Dp K H (.ref p) (pdata n M xs) := .lst (.of h) (.cons z.dp (.cons v.dp .nil))
theorem lay_pair (n : Nat) (M : Mx) (xs : List (Int × Int)) : (pdata n M xs).canLay0 = true ∧ (pdata n M xs).depth ≤ 3 := lay_list fun d h => by
  rcases List.mem_cons.mp h with h | h
  · rw [h]; exact lay_zone _ _
  · rw [List.mem_singleton.mp h]; exact lay_vals _
theorem shaped_pair (n : Nat) (M : Mx) (xs : List (Int × Int)) : SeqAt.shaped (pdata n M xs) = true := Bool.and_eq_true_iff.mpr ⟨(lay_pair n M xs).1, decide_eq_true (by have := (lay_pair n M xs).2; omega)⟩
/-! ### zones made wider beyond the greatest numbers asked -/
theorem cell1_mono {k i j : Nat} {M T : Mx} (h : LeM M T) : LeM (cell1 k i j M) (cell1 k i j T) := fun a b => by
  unfold cell1 up2
  split
  · exact le_narO (leO_trans (narO_le1 _ _) (h i j)) (leO_trans (narO_le2 _ _) (addO_mono (h i k) (h k j)))
  · exact h a b
theorem iter_mono {f : Nat → Mx → Mx} (hf : ∀ i M T, LeM M T → LeM (f i M) (f i T)) {M T : Mx} (h : LeM M T) : ∀ m, LeM (iter f m M) (iter f m T)
  | 0 => h
  | m + 1 => hf m _ _ (iter_mono hf h m)
theorem rowst_mono {n k i : Nat} {M T : Mx} (h : LeM M T) : LeM (rowst n k i M) (rowst n k i T) := by
  by_cases c : T i k = none
  · rw [show rowst n k i T = T by unfold rowst; rw [if_pos c]]
    exact (rowst_le n k i M).trans h
  · have c2 : M i k ≠ none := fun e => by
      have := h i k
      rw [e] at this
      cases hT : T i k with
      | none => exact c hT
      | some v => rw [hT] at this; exact this.elim
    unfold rowst
    rw [if_neg c, if_neg c2]
    exact iter_mono (f := cell1 k i) (fun _ _ _ h => cell1_mono h) h n
theorem diag1_mono {i : Nat} {M T : Mx} (h : LeM M T) : LeM (diag1 i M) (diag1 i T) := by
  have one : ∀ (x y : Nat) {M T : Mx}, LeM M T → LeM (up2 M x y (narO (M x y) (some 1))) (up2 T x y (narO (T x y) (some 1))) := fun x y M T h a b => by
    unfold up2
    split
    · exact le_narO (leO_trans (narO_le1 _ _) (h x y)) (narO_le2 _ _)
    · exact h a b
  exact one 0 i (one i i h)
theorem nrw_mono {n : Nat} {M T : Mx} (h : LeM M T) : LeM (nrw n M) (nrw n T) :=
  iter_mono (f := thr n) (fun k _ _ h => iter_mono (f := rowst n k) (fun _ _ _ h => rowst_mono h) h n) (iter_mono (f := diag1) (fun _ _ _ h => diag1_mono h) h n) n
/-! ### values as rational numbers -/
def rq (x : Int × Int) : Rat := (x.1 : Rat) / (x.2 : Rat)
/-- whether a number is let by a bound -/
def letsR : Option Int → Rat → Prop
  | none, _ => True
  | some b, q => q < ((b / 2 : Int) : Rat) ∨ (q = ((b / 2 : Int) : Rat) ∧ b % 2 = 1)
theorem castpos {u : Int} (h : 0 < u) : (0 : Rat) < (u : Rat) := Rat.intCast_pos.mpr h
theorem rq_lt {t u : Int} (m : Int) (h : 0 < u) : rq (t, u) < (m : Rat) ↔ t < m * u := by
  unfold rq
  rw [Rat.div_lt_iff (castpos h), ← Rat.intCast_mul, Rat.intCast_lt_intCast]
theorem rq_eq {t u : Int} (m : Int) (h : 0 < u) : rq (t, u) = (m : Rat) ↔ t = m * u := by
  unfold rq
  have h := castpos h
  rw [← Rat.intCast_inj (a := t), Rat.intCast_mul]
  show (t : Rat) / (u : Rat) = _ ↔ _
  generalize (t : Rat) = x at *
  generalize (u : Rat) = y at *
  constructor <;> intro k <;> grind
theorem lets_rat {b : Option Int} {t u : Int} (h : 0 < u) : letsO b t u = true ↔ letsR b (rq (t, u)) := by
  cases b with
  | none => exact ⟨fun _ => trivial, fun _ => rfl⟩
  | some b =>
    show decide _ = true ↔ _
    rw [decide_eq_true_iff]
    show _ ↔ (rq (t, u) < _ ∨ (rq (t, u) = _ ∧ _))
    rw [rq_lt _ h, rq_eq _ h]
theorem rq_dif {x y : Int × Int} (hx : 0 < x.2) (hy : 0 < y.2) : rq (dif x y) = rq x - rq y := by
  unfold rq dif
  have h1 := castpos hx
  have h2 := castpos hy
  simp only [Rat.intCast_sub, Rat.intCast_mul]
  generalize (x.1 : Rat) = a at *
  generalize (x.2 : Rat) = b at *
  generalize (y.1 : Rat) = c at *
  generalize (y.2 : Rat) = d at *
  grind
theorem rq_sum {x y : Int × Int} (hx : 0 < x.2) (hy : 0 < y.2) : rq (x.1 * y.2 + y.1 * x.2, x.2 * y.2) = rq x + rq y := by
  unfold rq
  have h1 := castpos hx
  have h2 := castpos hy
  simp only [Rat.intCast_add, Rat.intCast_mul]
  generalize (x.1 : Rat) = a at *
  generalize (x.2 : Rat) = b at *
  generalize (y.1 : Rat) = c at *
  generalize (y.2 : Rat) = d at *
  grind
theorem rq_half {a b : Int} (hb : 0 < b) : rq (a, 2 * b) = rq (a, b) / 2 := by
  unfold rq
  have h1 := castpos hb
  simp only [Rat.intCast_mul]
  rw [show ((2 : Int) : Rat) = 2 from rfl]
  generalize (a : Rat) = a at *
  generalize (b : Rat) = b at *
  grind
theorem rq_red {a b t u : Int} (hb : 0 < b) (h : Red a b t u) : rq (t, u) = rq (a, b) := by
  unfold rq
  have h1 := castpos hb
  have h2 := castpos h.pos
  have e : (t : Rat) * (b : Rat) = (a : Rat) * (u : Rat) := by rw [← Rat.intCast_mul, ← Rat.intCast_mul, h.eq]
  show (t : Rat) / (u : Rat) = (a : Rat) / (b : Rat)
  generalize (t : Rat) = t at *
  generalize (u : Rat) = u at *
  generalize (a : Rat) = a at *
  generalize (b : Rat) = b at *
  grind
theorem rq_cross {x y : Int × Int} (hx : 0 < x.2) (hy : 0 < y.2) : rq x < rq y ↔ x.1 * y.2 < y.1 * x.2 := by
  unfold rq
  have h1 := castpos hx
  have h2 := castpos hy
  rw [← Rat.intCast_lt_intCast, Rat.intCast_mul, Rat.intCast_mul, Rat.div_lt_iff h1, show (y.1 : Rat) / (y.2 : Rat) * (x.2 : Rat) = (y.1 : Rat) * (x.2 : Rat) / (y.2 : Rat) by grind, Rat.lt_div_iff h2]
theorem rq_nn {x : Int × Int} (hx : 0 < x.2) : 0 ≤ rq x ↔ 0 ≤ x.1 := by
  have h := rq_lt (t := x.1) (u := x.2) 0 hx
  rw [Int.zero_mul] at h
  have h : rq x < 0 ↔ x.1 < 0 := h
  constructor
  · intro k
    rcases Int.lt_or_le x.1 0 with c | c
    · have := h.mpr c; grind
    · exact c
  · intro k
    refine Classical.byContradiction fun c => ?_
    have := h.mp (by grind)
    omega
theorem letsR_mono {x y : Option Int} {q : Rat} (h : leO x y) (k : letsR x q) : letsR y q := by
  cases y with
  | none => trivial
  | some b =>
    cases x with
    | none => exact h.elim
    | some a =>
      have h : a ≤ b := h
      by_cases c : a / 2 = b / 2
      · rcases k with k | ⟨k, o⟩
        · exact .inl (c ▸ k)
        · exact .inr ⟨c ▸ k, by omega⟩
      · have l : ((a / 2 : Int) : Rat) < ((b / 2 : Int) : Rat) := Rat.intCast_lt_intCast.mpr (by omega)
        rcases k with k | ⟨k, o⟩
        · exact .inl (by grind)
        · exact .inl (by grind)
/-- a sum let by a sum of bounds -/
theorem letsR_add {a b : Int} {q : Rat} (k : letsR (addO (some a) (some b)) q) : q < ((a / 2 : Int) : Rat) + ((b / 2 : Int) : Rat) ∨ (q = ((a / 2 : Int) : Rat) + ((b / 2 : Int) : Rat) ∧ a % 2 = 1 ∧ b % 2 = 1) := by
  have k : letsR (some (2 * (a / 2 + b / 2) + (if a % 2 = 1 ∧ b % 2 = 1 then 1 else 0))) q := k
  rw [← Rat.intCast_add]
  by_cases c : a % 2 = 1 ∧ b % 2 = 1
  · rw [if_pos c] at k
    rcases k with k | ⟨k, _⟩
    · rw [show (2 * (a / 2 + b / 2) + 1) / 2 = a / 2 + b / 2 by omega] at k
      exact .inl k
    · rw [show (2 * (a / 2 + b / 2) + 1) / 2 = a / 2 + b / 2 by omega] at k
      exact .inr ⟨k, c⟩
  · rw [if_neg c] at k
    rcases k with k | ⟨_, o⟩
    · rw [show (2 * (a / 2 + b / 2) + 0) / 2 = a / 2 + b / 2 by omega] at k
      exact .inl k
    · omega
/-- values of some places, that keep all bounds between these -/
def Part (n : Nat) (N : Mx) (f : Nat → Option Rat) : Prop := ∀ i j x y, i < n → j < n → f i = some x → f j = some y → letsR (N i j) (x - y)
structure Nar (n : Nat) (N : Mx) : Prop where
  tri : Tri n n N
  one : ∀ i, i < n → N i i = some 1
  row : ∀ i, i < n → leO (N 0 i) (some 1)
/-- the lowest that place k may be -/
structure IsLow (n : Nat) (N : Mx) (f : Nat → Option Rat) (k : Nat) (low : Rat) : Prop where
  nn : 0 ≤ low
  all : ∀ j x b, j < n → f j = some x → N j k = some b → x - ((b / 2 : Int) : Rat) ≤ low
  one : low = 0 ∨ ∃ j x b, j < n ∧ f j = some x ∧ N j k = some b ∧ low = x - ((b / 2 : Int) : Rat)
def IsHigh (n : Nat) (N : Mx) (f : Nat → Option Rat) (k : Nat) : Option Rat → Prop
  | none => ∀ j x, j < n → f j = some x → N k j = none
  | some high => (∀ j x b, j < n → f j = some x → N k j = some b → high ≤ x + ((b / 2 : Int) : Rat)) ∧ ∃ j x b, j < n ∧ f j = some x ∧ N k j = some b ∧ high = x + ((b / 2 : Int) : Rat)
def midR (low : Rat) : Option Rat → Rat
  | none => low + 1
  | some high => (low + high) / 2
def setR (f : Nat → Option Rat) (k : Nat) (z : Rat) : Nat → Option Rat := fun j => if j = k then some z else f j
section
variable {n k : Nat} {N : Mx} {f : Nat → Option Rat}
theorem pair_lo_hi (R : Nar n N) (hk : k < n) (p : Part n N f) {j l : Nat} {x y : Rat} {b c : Int} (hj : j < n) (hl : l < n) (fx : f j = some x) (fy : f l = some y) (hb : N j k = some b) (hc : N k l = some c) :
    x - ((b / 2 : Int) : Rat) < y + ((c / 2 : Int) : Rat) ∨ (x - ((b / 2 : Int) : Rat) = y + ((c / 2 : Int) : Rat) ∧ b % 2 = 1 ∧ c % 2 = 1) := by
  have t := R.tri k hk j l hj hl
  rw [hb, hc] at t
  rcases letsR_add (letsR_mono t (p j l x y hj hl fx fy)) with h | ⟨h, o⟩
  · left; grind
  · right; exact ⟨by grind, o⟩
theorem low_att (R : Nar n N) (hk : k < n) (f0 : f 0 = some 0) {low : Rat} (L : IsLow n N f k low) : ∃ j x b, j < n ∧ f j = some x ∧ N j k = some b ∧ low = x - ((b / 2 : Int) : Rat) := by
  rcases L.one with h | h
  · have r := R.row k hk
    cases hN : N 0 k with
    | none => rw [hN] at r; exact r.elim
    | some b =>
      rw [hN] at r
      have r : b ≤ 1 := r
      have h1 := L.all 0 0 b (by omega) f0 hN
      have h2 : ((b / 2 : Int) : Rat) ≤ ((0 : Int) : Rat) := Rat.intCast_le_intCast.mpr (by omega)
      have h2 : ((b / 2 : Int) : Rat) ≤ 0 := h2
      exact ⟨0, 0, b, by omega, f0, hN, by grind⟩
  · exact h
theorem fill_step (R : Nar n N) (hk : k < n) (f0 : f 0 = some 0) (p : Part n N f) {low : Rat} {high : Option Rat} (L : IsLow n N f k low) (G : IsHigh n N f k high) :
    0 ≤ midR low high ∧ ∀ j x, j < n → f j = some x → letsR (N j k) (x - midR low high) ∧ letsR (N k j) (midR low high - x) := by
  have l0 := L.nn
  obtain ⟨j0, x0, b0, hj0, fx0, e0, el⟩ := low_att R hk f0 L
  cases high with
  | none =>
    refine ⟨by show 0 ≤ low + 1; grind, fun j x hj fx => ⟨?_, by rw [G j x hj fx]; trivial⟩⟩
    cases hN : N j k with
    | none => trivial
    | some b =>
      have := L.all j x b hj fx hN
      left
      show x - (low + 1) < _
      grind
  | some high =>
    obtain ⟨ga, j1, x1, b1, hj1, fx1, e1, eh⟩ := G
    have key := pair_lo_hi R hk p hj0 hj1 fx0 fx1 e0 e1
    rw [← el, ← eh] at key
    have le : low ≤ high := by rcases key with h | h <;> grind
    refine ⟨by show 0 ≤ (low + high) / 2; grind, fun j x hj fx => ⟨?_, ?_⟩⟩
    · cases hN : N j k with
      | none => trivial
      | some b =>
        have h1 := L.all j x b hj fx hN
        have h2 := pair_lo_hi R hk p hj hj1 fx fx1 hN e1
        rw [← eh] at h2
        show x - (low + high) / 2 < _ ∨ (x - (low + high) / 2 = _ ∧ _)
        rcases h2 with h2 | ⟨h2, o, _⟩
        · left; grind
        · right; exact ⟨by grind, o⟩
    · cases hN : N k j with
      | none => trivial
      | some b =>
        have h1 := ga j x b hj fx hN
        have h2 := pair_lo_hi R hk p hj0 hj fx0 fx e0 hN
        rw [← el] at h2
        show (low + high) / 2 - x < _ ∨ ((low + high) / 2 - x = _ ∧ _)
        rcases h2 with h2 | ⟨h2, _, o⟩
        · left; grind
        · right; exact ⟨by grind, o⟩
theorem part_set (R : Nar n N) (hk : k < n) (p : Part n N f) {z : Rat} (h : ∀ j x, j < n → f j = some x → letsR (N j k) (x - z) ∧ letsR (N k j) (z - x)) : Part n N (setR f k z) := by
  intro i j x y hi hj hx hy
  unfold setR at hx hy
  by_cases ci : i = k
  · rw [if_pos ci] at hx
    cases hx
    by_cases cj : j = k
    · rw [if_pos cj] at hy
      cases hy
      rw [ci, cj, R.one k hk]
      right
      exact ⟨by show z - z = ((0 : Int) : Rat); grind, rfl⟩
    · rw [if_neg cj] at hy
      rw [ci]
      exact (h j y hj hy).2
  · rw [if_neg ci] at hx
    by_cases cj : j = k
    · rw [if_pos cj] at hy
      cases hy
      rw [cj]
      exact (h i x hi hx).1
    · rw [if_neg cj] at hy
      exact p i j x y hi hj hx hy
end
theorem rq0 : rq (0, 1) = 0 := by
  unfold rq
  show ((0 : Int) : Rat) / ((1 : Int) : Rat) = 0
  rw [Rat.intCast_zero, Rat.intCast_one]
  grind
theorem rq1 : rq (1, 1) = 1 := by
  unfold rq
  show ((1 : Int) : Rat) / ((1 : Int) : Rat) = 1
  rw [Rat.intCast_one]
  grind
theorem rqn (n : Int) : rq (n, 1) = (n : Rat) := by
  unfold rq
  show (n : Rat) / ((1 : Int) : Rat) = n
  rw [Rat.intCast_one]
  grind
/-! ### narrow zones made narrower in one place, and scaled -/
theorem Nar.of_nrw {n : Nat} {M : Mx} (h : ∀ i, i < n → Pos (nrw n M) i) : Nar n (nrw n M) := ⟨nrw_tri h, fun i hi => nrw_diag hi (h i hi), fun i hi => nrw_row0 hi⟩
theorem Nar.idem {n : Nat} {N : Mx} (R : Nar n N) : nrw n N = N := nrw_idem R.one R.row R.tri
theorem ZAt.to {H : Hp} {p : Addr} {as : List Addr} {n : Nat} {M N : Mx} (z : ZAt H p as n M) (h : ∀ a b, a < n → b < n → M a b = N a b) : ZAt H p as n N :=
  ⟨z.top, z.len, fun i a e => by
    have hi := (List.getElem?_eq_some_iff.mp e).1
    rw [z.len] at hi
    rw [z.row i a e, zrow_congr fun b hb => h i b hi hb], z.nd⟩
/-- the bounds of the first n places alone -/
def cutM (n : Nat) (N : Mx) : Mx := fun i j => if i < n ∧ j < n then N i j else none
theorem cut_at {n i j : Nat} {N : Mx} (hi : i < n) (hj : j < n) : cutM n N i j = N i j := if_pos ⟨hi, hj⟩
theorem Nar.cut {n : Nat} {N : Mx} (R : Nar n N) : Nar n (cutM n N) :=
  ⟨fun k hk i j hi hj => by rw [cut_at hi hj, cut_at hi hk, cut_at hk hj]; exact R.tri k hk i j hi hj, fun i hi => by rw [cut_at hi hi]; exact R.one i hi, fun i hi => by rw [cut_at (by omega) hi]; exact R.row i hi⟩
theorem ZAt.cut {H : Hp} {p : Addr} {as : List Addr} {n : Nat} {N : Mx} (z : ZAt H p as n N) : ZAt H p as n (cutM n N) := z.to fun _ _ ha hb => (cut_at ha hb).symm
theorem lies_cut {n : Nat} {N : Mx} {v : Nat → Int × Int} : Lies n (cutM n N) v ↔ Lies n N v :=
  ⟨fun h i j hi hj => by have := h i j hi hj; rwa [cut_at hi hj] at this, fun h i j hi hj => by rw [cut_at hi hj]; exact h i j hi hj⟩
theorem cut_cut (n : Nat) (N : Mx) : cutM n (cutM n N) = cutM n N := by
  funext i j
  unfold cutM
  split <;> rfl
/-- the bounds grow by little -/
theorem nrw_sz2 {n s : Nat} {M : Mx} (h : ∀ i, i < n → Pos (nrw n M) i) (hs : 1 ≤ s) (sM : SzM s M) : SzM (s + 2 * n) (cutM n (nrw n M)) := by
  have key : ∀ K, K ≤ n → ∀ a b v, a < n → b < n → iter (thr n) K (iter diag1 n M) a b = some v → Sz (s + 2 * K) v := by
    intro K
    induction K with
    | zero => intro _ a b v _ _ e; exact diags_sz hs sM n a b v e
    | succ K ih =>
      intro hK a b v ha hb e
      have l : LeM (nrw n M) (iter (thr n) K (iter diag1 n M)) := by
        have := iter_le2 (thr_le n) (iter diag1 n M) (m := K) (n - K)
        rw [show K + (n - K) = n by omega] at this
        exact this
      have p : Pos (iter (thr n) K (iter diag1 n M)) K := leO_trans (h K (by omega)) (l K K)
      have ih := ih (by omega)
      have e : thr n K (iter (thr n) K (iter diag1 n M)) a b = some v := e
      rw [thr_eq p ha hb] at e
      refine narO_sz (s := s + 2 * (K + 1)) (fun w ew => (ih a b w ha hb ew).mono (by omega)) (fun w ew => ?_) e
      exact addO_sz (s := s + 2 * K) (fun x ex => ih a K x ha (by omega) ex) (fun x ex => ih K b x (by omega) hb ex) ew
  intro i j v e
  unfold cutM at e
  split at e
  · rename_i c
    exact key n (Nat.le_refl _) i j v c.1 c.2 e
  · cases e
/-- the closure of a narrow zone with a bound made narrower -/
def tightM (N : Mx) (j i : Nat) (c : Int) : Mx := fun a b => narO (N a b) (addO (addO (N a j) (some c)) (N i b))
theorem nar_le {x y z : Option Int} (h : leO x z ∨ leO y z) : leO (narO x y) z := by
  rcases h with h | h
  · exact leO_trans (narO_le1 x y) h
  · exact leO_trans (narO_le2 x y) h
theorem narO_cases (x y : Option Int) : narO x y = x ∨ narO x y = y := by
  cases x with
  | none => exact .inr rfl
  | some a =>
    cases y with
    | none => exact .inl rfl
    | some b =>
      show some (if b < a then b else a) = _ ∨ some (if b < a then b else a) = _
      split
      · exact .inr rfl
      · exact .inl rfl
section
variable {n i j : Nat} {N : Mx} {c : Int}
theorem tight_nar (R : Nar n N) (hi : i < n) (hj : j < n) (h : leO (some 1) (addO (N i j) (some c))) : Nar n (tightM N j i c) := by
  refine ⟨fun k hk a b ha hb => ?_, fun a ha => ?_, fun b hb => leO_trans (narO_le1 _ _) (R.row b hb)⟩
  · show leO (narO (N a b) (addO (addO (N a j) (some c)) (N i b))) (addO (narO (N a k) (addO (addO (N a j) (some c)) (N i k))) (narO (N k b) (addO (addO (N k j) (some c)) (N i b))))
    rcases narO_cases (N a k) (addO (addO (N a j) (some c)) (N i k)) with e1 | e1 <;> rcases narO_cases (N k b) (addO (addO (N k j) (some c)) (N i b)) with e2 | e2 <;> rw [e1, e2] <;> refine nar_le ?_
    · exact .inl (R.tri k hk a b ha hb)
    · right
      have h1 := addO_mono (addO_mono (R.tri k hk a j ha hj) (leO_refl (some c))) (leO_refl (N i b))
      simp only [addO_assoc] at h1 ⊢
      exact h1
    · right
      have h1 := addO_mono (leO_refl (addO (N a j) (some c))) (R.tri k hk i b hi hb)
      simp only [addO_assoc] at h1 ⊢
      exact h1
    · right
      have h1 := leO_trans h (addO_mono (R.tri k hk i j hi hj) (leO_refl (some c)))
      have h2 := addO_mono (leO_refl (addO (N a j) (some c))) (addO_mono h1 (leO_refl (N i b)))
      rw [one_addO] at h2
      simp only [addO_assoc] at h2 ⊢
      exact h2
  · show narO (N a a) _ = some 1
    rw [R.one a ha]
    refine narO_of_le ?_
    have h1 := leO_trans h (addO_mono (R.tri a ha i j hi hj) (leO_refl (some c)))
    rw [addO_comm (addO (N a j) (some c)), ← addO_assoc]
    exact h1
theorem tight_le (R : Nar n N) (hi : i < n) (hj : j < n) : LeM (tightM N j i c) (up2 N j i (narO (N j i) (some c))) := fun a b => by
  unfold up2
  split
  · rename_i e
    obtain ⟨rfl, rfl⟩ := e
    show leO (narO (N a b) (addO (addO (N a a) (some c)) (N b b))) _
    rw [R.one a hj, R.one b hi, one_addO, addO_one]
    exact leO_refl _
  · exact narO_le1 _ _
theorem tight_pos (R : Nar n N) (hi : i < n) (hj : j < n) (h : leO (some 1) (addO (N i j) (some c))) : ∀ k, k < n → Pos (nrw n (up2 N j i (narO (N j i) (some c)))) k := fun k hk => by
  have T := tight_nar R hi hj h
  have l := nrw_mono (n := n) (tight_le (c := c) R hi hj) k k
  rw [T.idem, T.one k hk] at l
  exact l
end
/-- a bound of so many times a number -/
def scB (t b : Int) : Int := 2 * (t * (b / 2)) + b % 2
def scO (t : Int) : Option Int → Option Int
  | none => none
  | some b => some (scB t b)
theorem scO_add (t : Int) : ∀ x y, addO (scO t x) (scO t y) = scO t (addO x y)
  | none, _ => rfl
  | some a, none => rfl
  | some a, some b => by
    show some _ = some _
    congr 1
    have d : ∀ x : Int, scB t x / 2 = t * (x / 2) := fun x => by unfold scB; omega
    have m : ∀ x : Int, scB t x % 2 = x % 2 := fun x => by unfold scB; omega
    rw [d, d, m, m]
    generalize hz : (if a % 2 = 1 ∧ b % 2 = 1 then (1 : Int) else 0) = z
    have hz2 : z = 0 ∨ z = 1 := by rw [← hz]; split <;> simp
    unfold scB
    rw [show (2 * (a / 2 + b / 2) + z) / 2 = a / 2 + b / 2 by omega, show (2 * (a / 2 + b / 2) + z) % 2 = z by omega, Int.mul_add t, Int.mul_add 2]
theorem scO_mono {t : Int} (ht : 1 ≤ t) : ∀ {x y}, leO x y → leO (scO t x) (scO t y)
  | x, none, _ => by cases x <;> trivial
  | none, some _, h => h.elim
  | some a, some b, h => by
    have h : a ≤ b := h
    show scB t a ≤ scB t b
    unfold scB
    by_cases c : a / 2 = b / 2
    · rw [c]; omega
    · have l : a / 2 + 1 ≤ b / 2 := by omega
      have m := Int.mul_le_mul_of_nonneg_left l (show 0 ≤ t by omega)
      rw [Int.mul_add, Int.mul_one] at m
      omega
theorem scO_one (t : Int) : scO t (some 1) = some 1 := by
  show some (scB t 1) = some 1
  unfold scB
  simp
def scM (t : Int) (N : Mx) : Mx := fun i j => scO t (N i j)
theorem sc_nar {n : Nat} {N : Mx} {t : Int} (ht : 1 ≤ t) (R : Nar n N) : Nar n (scM t N) :=
  ⟨fun k hk i j hi hj => by
    show leO (scO t (N i j)) (addO (scO t (N i k)) (scO t (N k j)))
    rw [scO_add]; exact scO_mono ht (R.tri k hk i j hi hj), fun i hi => by show scO t (N i i) = _; rw [R.one i hi, scO_one], fun i hi => by
    have := scO_mono ht (R.row i hi)
    rw [scO_one] at this; exact this⟩
theorem scR {t : Int} (ht : 1 ≤ t) {b : Option Int} {q : Rat} (h : letsR (scO t b) q) : letsR b (q / (t : Rat)) := by
  cases b with
  | none => trivial
  | some b =>
    have d : scB t b / 2 = t * (b / 2) := by unfold scB; omega
    have m : scB t b % 2 = b % 2 := by unfold scB; omega
    have h : q < ((scB t b / 2 : Int) : Rat) ∨ (q = ((scB t b / 2 : Int) : Rat) ∧ scB t b % 2 = 1) := h
    rw [d, m, Rat.intCast_mul] at h
    show q / (t : Rat) < ((b / 2 : Int) : Rat) ∨ (q / (t : Rat) = ((b / 2 : Int) : Rat) ∧ b % 2 = 1)
    have tp := castpos (u := t) (by omega)
    generalize ((b / 2 : Int) : Rat) = y at *
    generalize (t : Rat) = t at *
    rcases h with h | ⟨h, o⟩
    · left
      rw [Rat.div_lt_iff tp]
      grind
    · right
      exact ⟨by grind, o⟩
theorem sc_sz {s : Nat} {N : Mx} {t : Int} {w : Nat} (h : SzM s N) (ht : Sz w t) (hs : 2 ≤ s + w) : SzM (s + w + 2) (scM t N) := fun i j v e => by
  have e : scO t (N i j) = some v := e
  cases hN : N i j with
  | none => rw [hN] at e; cases e
  | some b =>
    rw [hN] at e
    cases Option.some.inj e
    have h1 : Sz s (b / 2) := Sz.le (j := b) (by omega) (h i j b hN)
    have h2 := ht.mul h1 (c := s + w) (by omega)
    have p : (2 : Nat) ^ (s + w + 2) = 2 ^ (s + w) * 4 := by rw [Nat.pow_add]
    have p0 : 0 < (2 : Nat) ^ (s + w) := Nat.pow_pos (by decide)
    unfold scB Sz at *
    rw [p]
    omega
/-! ### fractions over a common bottom -/
/-- the bottom divides D, the fraction is no more than 2 ^ e either way -/
structure Fin (D : Int) (e : Nat) (x : Int × Int) : Prop where
  pos : 0 < x.2
  dvd : x.2 ∣ D
  hi : x.1 ≤ 2 ^ e * x.2
  lo : -(2 ^ e * x.2) ≤ x.1
theorem pow_mono {a b : Nat} (h : a ≤ b) : (2 : Int) ^ a ≤ 2 ^ b := by
  have := Nat.pow_le_pow_right (n := 2) (by decide) h
  exact_mod_cast this
theorem pow_pos2 (a : Nat) : (0 : Int) < 2 ^ a := by
  have : 0 < (2 : Nat) ^ a := Nat.pow_pos (by decide)
  exact_mod_cast this
theorem Fin.mono {D : Int} {e f : Nat} {x : Int × Int} (h : Fin D e x) (l : e ≤ f) : Fin D f x := by
  have := Int.mul_le_mul_of_nonneg_right (pow_mono l) (Int.le_of_lt h.pos)
  exact ⟨h.pos, h.dvd, Int.le_trans h.hi this, by have := h.lo; omega⟩
theorem Fin.dvd_mono {D E : Int} {e : Nat} {x : Int × Int} (h : Fin D e x) (l : D ∣ E) : Fin E e x := ⟨h.pos, Int.dvd_trans h.dvd l, h.hi, h.lo⟩
theorem Fin.sz {D : Int} {e d : Nat} {x : Int × Int} (h : Fin D e x) (hD : 0 < D) (sD : Sz d D) : Sz (e + d) x.1 ∧ Sz d x.2 := by
  have h2 := Int.le_of_dvd hD h.dvd
  have p := h.pos
  have s2 : Sz d x.2 := Sz.nn (Int.le_of_lt p) h2 sD
  refine ⟨?_, s2⟩
  have hi := h.hi
  have lo := h.lo
  have e1 : ((2 : Int) ^ e * x.2).natAbs = 2 ^ e * x.2.natAbs := by
    have : ((2 : Int) ^ e) = ((2 ^ e : Nat) : Int) := by push_cast; rfl
    rw [Int.natAbs_mul, this, Int.natAbs_natCast]
  have e2 : 2 ^ e * x.2.natAbs < 2 ^ e * 2 ^ d := Nat.mul_lt_mul_of_pos_left s2 (Nat.pow_pos (by decide))
  rw [← Nat.pow_add, ← e1] at e2
  unfold Sz
  generalize (2 : Int) ^ e * x.2 = A at *
  omega
theorem cancel_le {a b c : Int} (hc : 0 < c) (h : a * c ≤ b * c) : a ≤ b := Int.le_of_mul_le_mul_right h hc
theorem fin_red {a b t u D m : Int} {e : Nat} (R : Red a b t u) (hb : 0 < b) (hm : a * D = m * b) (h1 : a ≤ 2 ^ e * b) (h2 : -(2 ^ e * b) ≤ a) : Fin D e (t, u) := by
  have up := R.pos
  have eq := R.eq
  refine ⟨up, ?_, ?_, ?_⟩
  · refine dvd_cop (t := t) ⟨m, ?_⟩ R.one
    have : t * D * b = u * m * b := by
      rw [Int.mul_right_comm, eq, Int.mul_right_comm, hm]; ac_rfl
    exact Int.eq_of_mul_eq_mul_right (by omega) this
  · show t ≤ 2 ^ e * u
    refine cancel_le hb ?_
    rw [eq]
    have := Int.mul_le_mul_of_nonneg_right h1 (Int.le_of_lt up)
    rw [Int.mul_right_comm] at this
    exact this
  · show -(2 ^ e * u) ≤ t
    refine cancel_le hb ?_
    rw [eq]
    have := Int.mul_le_mul_of_nonneg_right h2 (Int.le_of_lt up)
    rw [show -(2 ^ e * u) * b = -(2 ^ e * b) * u by rw [Int.neg_mul, Int.neg_mul, Int.mul_right_comm]]
    exact this
theorem sz_range {e : Nat} {n : Int} (h : Sz e n) : n ≤ 2 ^ e ∧ -(2 ^ e) ≤ n := by
  have : ((2 : Int) ^ e) = ((2 ^ e : Nat) : Int) := by push_cast; rfl
  unfold Sz at h
  rw [this]
  omega
theorem pow_two_succ (e : Nat) : (2 : Int) ^ (e + 1) = 2 ^ e + 2 ^ e := by rw [Int.pow_succ]; omega
/-- a fraction less a number -/
theorem fin_minus {y : Int × Int} {n t u D : Int} {e : Nat} (F : Fin D e y) (hn : Sz e n) (R : Red (y.1 * 1 - n * y.2) (y.2 * 1) t u) : Fin D (e + 1) (t, u) := by
  obtain ⟨p, hp⟩ := F.dvd
  have yp := F.pos
  have r := sz_range hn
  have m1 := Int.mul_le_mul_of_nonneg_right r.1 (Int.le_of_lt yp)
  have m2 := Int.mul_le_mul_of_nonneg_right r.2 (Int.le_of_lt yp)
  have f1 := F.hi
  have f2 := F.lo
  refine fin_red (m := (y.1 - n * y.2) * p) R (by omega) (by rw [hp]; simp only [Int.mul_one]; ac_rfl) ?_ ?_
  · rw [pow_two_succ, Int.add_mul]
    simp only [Int.mul_one]
    rw [Int.neg_mul] at m2
    omega
  · rw [pow_two_succ, Int.add_mul]
    simp only [Int.mul_one]
    omega
/-- a fraction and a number -/
theorem fin_plus1 {y : Int × Int} {n t u D : Int} {e : Nat} (F : Fin D e y) (hn : Sz e n) (R : Red (y.1 * 1 + n * y.2) (y.2 * 1) t u) : Fin D (e + 1) (t, u) := by
  obtain ⟨p, hp⟩ := F.dvd
  have yp := F.pos
  have r := sz_range hn
  have m1 := Int.mul_le_mul_of_nonneg_right r.1 (Int.le_of_lt yp)
  have m2 := Int.mul_le_mul_of_nonneg_right r.2 (Int.le_of_lt yp)
  have f1 := F.hi
  have f2 := F.lo
  refine fin_red (m := (y.1 + n * y.2) * p) R (by omega) (by rw [hp]; simp only [Int.mul_one]; ac_rfl) ?_ ?_
  · rw [pow_two_succ, Int.add_mul]
    simp only [Int.mul_one]
    omega
  · rw [pow_two_succ, Int.add_mul]
    simp only [Int.mul_one]
    rw [Int.neg_mul] at m2
    omega
theorem fin_plus {x y : Int × Int} {t u D : Int} {e : Nat} (F : Fin D e x) (G : Fin D e y) (R : Red (x.1 * y.2 + y.1 * x.2) (x.2 * y.2) t u) : Fin D (e + 1) (t, u) := by
  obtain ⟨p, hp⟩ := F.dvd
  obtain ⟨q, hq⟩ := G.dvd
  have xp := F.pos
  have yp := G.pos
  have f1 := Int.mul_le_mul_of_nonneg_right F.hi (Int.le_of_lt yp)
  have f2 := Int.mul_le_mul_of_nonneg_right F.lo (Int.le_of_lt yp)
  have g1 := Int.mul_le_mul_of_nonneg_right G.hi (Int.le_of_lt xp)
  have g2 := Int.mul_le_mul_of_nonneg_right G.lo (Int.le_of_lt xp)
  rw [Int.neg_mul] at f2 g2
  rw [Int.mul_assoc] at f1 f2 g1 g2
  rw [Int.mul_comm y.2 x.2] at g1 g2
  refine fin_red (m := x.1 * p + y.1 * q) R (Int.mul_pos xp yp) ?_ ?_ ?_
  · rw [Int.add_mul, Int.add_mul]
    congr 1
    · rw [hp]; ac_rfl
    · rw [hq]; ac_rfl
  · rw [pow_two_succ, Int.add_mul]
    omega
  · rw [pow_two_succ, Int.add_mul]
    omega
theorem fin_half {x : Int × Int} {t u D : Int} {e : Nat} (F : Fin D e x) (R : Red x.1 (2 * x.2) t u) : Fin (2 * D) e (t, u) := by
  obtain ⟨p, hp⟩ := F.dvd
  have xp := F.pos
  have f1 := F.hi
  have f2 := F.lo
  have pp := Int.mul_pos (pow_pos2 e) xp
  refine fin_red (m := x.1 * p) R (by omega) (by rw [hp]; ac_rfl) ?_ ?_
  · rw [show (2 : Int) ^ e * (2 * x.2) = 2 * (2 ^ e * x.2) by ac_rfl]
    omega
  · rw [show (2 : Int) ^ e * (2 * x.2) = 2 * (2 ^ e * x.2) by ac_rfl]
    omega
/-- a fraction over so many times its bottom -/
theorem fin_over {x : Int × Int} {t u D s : Int} {e : Nat} (F : Fin D e x) (hs : 1 ≤ s) (R : Red x.1 (x.2 * s) t u) : Fin (D * s) e (t, u) := by
  obtain ⟨p, hp⟩ := F.dvd
  have xp := F.pos
  have f1 := F.hi
  have f2 := F.lo
  have pp := Int.mul_pos (pow_pos2 e) xp
  have m := Int.mul_le_mul_of_nonneg_left hs (Int.le_of_lt pp)
  rw [Int.mul_one] at m
  refine fin_red (m := x.1 * p) R (Int.mul_pos xp (by omega)) (by rw [hp]; ac_rfl) ?_ ?_
  · rw [← Int.mul_assoc]
    omega
  · rw [← Int.mul_assoc]
    omega
/-- the values known: from 0 on, in lowest terms, over D -/
def GoodE (D : Int) (e : Nat) (F : Nat → Option (Int × Int)) : Prop := ∀ j x, F j = some x → 0 ≤ x.1 ∧ Int.gcd x.1 x.2 = 1 ∧ Fin D e x
theorem GoodE.mono {D E : Int} {e f : Nat} {F : Nat → Option (Int × Int)} (h : GoodE D e F) (l : e ≤ f) (d : D ∣ E) : GoodE E f F := fun j x k => ⟨(h j x k).1, (h j x k).2.1, ((h j x k).2.2.mono l).dvd_mono d⟩
def FinV (D : Int) (e : Nat) (xs : List (Int × Int)) : Prop := ∀ x ∈ xs, Fin D e x
/-! ### dicts of values -/
section
variable {X : Cx} {pins : List (Addr × Obj)} {σ : L2.St} {H : Hp} {s : Shared} {a b : Addr} {kvs more : List (Key × V)} {A : Around} {E : Value → Shared → Prop}
theorem d_update {Q : Value → Shared → Prop} (I : Inv X pins σ H s) (e : H a = some (.dK kvs)) (e2 : H b = some (.dK more)) (hab : a ≠ b) (hl : kvs.length + more.length ≤ sizeLine) (h : ∀ s', Inv X pins σ (upd H a (.dK (mergeK kvs more))) s' → Q .none s') :
    wpAny (model X.prog X.w) A (call (.builtin "dict.update") [.ref a, .ref b]) Q E s := by
  obtain ⟨z, hd, vs, rel, dd⟩ := dk_of I.hok e
  obtain ⟨z2, hd2, vs2, rel2, dd2⟩ := dk_of I.hok e2
  refine call_meetsIn PySem.F.slot_dict_update dd.typeIs PySem.F.entry_dict_update (PySem.F.args_dict_update_2 _ _) (meets_dict_update (mixKind X.prog X.w) a b hab hd2) ⟨vs, vs2, dd, dd2, by rw [← rel.length, ← rel2.length]; exact hl, fun h' dd' _ hs => h _ ?_⟩
  have he : ∃ q, h'.get? a = some q := let ⟨q, _, _, hq, _⟩ := dd'; ⟨q, hq⟩
  exact d_write (t' := s.toks) I (by rw [e]; exact True.intro) hs he (dk_new (Nat.le_trans (length_mergeK more kvs) hl) hd (rel2.merge rel) dd')
end
def tDUpd (td ty : TE) : TE := fun σ H Q => td σ H fun x H1 => ∃ a, x = .ref a ∧ IsD H1 a ∧ ty σ H1 fun y H2 => ∃ b kvs more, y = .ref b ∧ a ≠ b ∧ H2 a = some (.dK kvs) ∧ H2 b = some (.dK more) ∧ kvs.length + more.length ≤ sizeLine ∧ Q .non (upd H2 a (.dK (mergeK kvs more)))
theorem pe_dupd {X : Cx} {o e : Expr} {apos cpos : PySem.Pos} {td ty : TE} (ho : PE X o td) (he : PE X e ty) (m : M1 X o "update" apos e cpos) : PE X (.Call (.Attribute o "update" apos) [e] [] cpos) (tDUpd td ty) := by
  refine ⟨fun pins s σ H Q I h => ?_⟩
  refine wpAny_Call_method m.base m.few m.line PySem.F.plainAttrs_dict PySem.F.slot_dict_update PySem.F.type_dict_update (thn (ho.run pins s σ H _ I h) fun u s1 ⟨x, H1, I1, rx, a, ex, d, q1⟩ => ?_)
  subst ex
  obtain rfl : u = Value.ref a := rx
  obtain ⟨t1, t2, _⟩ := isD_at I1 d
  refine ⟨t1, t2, ?_⟩
  rw [m.trees]
  refine Calls.callWith_builtin rfl (Calls.evalArgs_plain (Calls.spliced_cons (thn (he.run pins s1 σ H1 _ I1 q1) fun iv s2 ⟨y, H2, I2, ry, b, kvs, more, ey, hab, ea, eb, hl, q2⟩ => Calls.spliced_nil ?_)))
  subst ey
  obtain rfl : iv = Value.ref b := ry
  exact d_update I2 ea eb hab hl fun s3 I3 => ⟨.non, _, I3, rfl, q2⟩
/-- a for over the pairs of a dict, behind its iterable's reading -/
def ForD (d : Addr) (od : Obj) (kvs : List (Key × V)) (g : TG) (tb : TS) (D : Ends) (σ : L2.St) (H : Hp) : Prop := ∃ W : Nat → Nat → L2.St → Hp → Prop, (∃ m, W 0 m σ H) ∧ ∀ i m σ H, W i m σ H →
  ((Iti d od kvs).stop i H ∧ D.nx σ H) ∨ ((Iti d od kvs).go i H ∧ ∃ N : L2.St → Hp → Prop, (∀ σ' H', N σ' H' → ∃ m', m' < m ∧ W (i + 1) m' σ' H') ∧ ∀ v H', (Iti d od kvs).yld i H v H' → g v σ H' fun σ2 H2 => tb { D with nx := N, ct := N, bk := D.nx } σ2 H2)
theorem forD_by {d : Addr} {od : Obj} {kvs : List (Key × V)} {g : TG} {tb : TS} {D : Ends} {σ : L2.St} {H : Hp} (Pv : Nat → L2.St → Hp → Prop) (h0 : Pv 0 σ H) (hq : ∀ i σ H, Pv i σ H → H d = some (.frz od (.dK kvs)))
    (hs : ∀ (i : Nat) (k : Key) (v : V) (T : Addr) (σ : L2.St) (H : Hp) (H2 : Hp), kvs[i]? = some (k, v) → Pv i σ H → Same H H2 → H2 T = some (.tup [kV k, v]) → g (.ref T) σ H2 fun σ2 H2 => tb { D with nx := Pv (i + 1), ct := Pv (i + 1), bk := D.nx } σ2 H2) (hd : ∀ σ H, Pv kvs.length σ H → D.nx σ H) : ForD d od kvs g tb D σ H := by
  refine ⟨fun i m σ H => m = kvs.length - i ∧ i ≤ kvs.length ∧ Pv i σ H, ⟨kvs.length, rfl, Nat.zero_le _, h0⟩, ?_⟩
  rintro i m σ H ⟨rfl, hi, p⟩
  have q := hq i σ H p
  by_cases hlt : i < kvs.length
  · refine .inr ⟨⟨q, hlt⟩, Pv (i + 1), fun σ' H' p' => ⟨kvs.length - (i + 1), by omega, rfl, hlt, p'⟩, fun v H' y => ?_⟩
    obtain ⟨T, k, v', ek, rfl, hT, rfl⟩ := y
    exact hs i k v' T σ H _ ek p (upd_keep hT) upd_same
  · have e : i = kvs.length := by omega
    subst e
    exact .inl ⟨⟨q, Nat.le_refl _⟩, hd σ H p⟩
/-- for k, v in d.items(), d a variable that holds a dict; the loop only makes new things -/
theorem for_items {i : Nat} {d : Addr} {kvs : List (Key × V)} {g : TG} {tb : TS} {D : Ends} {σ : L2.St} {H : Hp} (hv : σ[i]? = some (some (.ref d))) (hd : H d = some (.dK kvs))
    (h : ∀ od, ForD d od kvs g tb ⟨fun σ' H' => H' d = some (.frz od (.dK kvs)) ∧ D.nx σ' (upd H' d (.dK kvs)), fun v H' => H' d = some (.frz od (.dK kvs)) ∧ D.rt v (upd H' d (.dK kvs)), fun σ' H' => H' d = some (.frz od (.dK kvs)) ∧ D.bk σ' (upd H' d (.dK kvs)), fun σ' H' => H' d = some (.frz od (.dK kvs)) ∧ D.ct σ' (upd H' d (.dK kvs))⟩ σ (upd H d (.frz od (.dK kvs)))) :
    tLock (tFor (iItems (tVar i)) g tb) D σ H :=
  ⟨d, _, hd, True.intro, fun od => ⟨.ref d, hv, d, od, kvs, rfl, upd_same, h od⟩⟩
theorem unlock_same {H H' : Hp} {d : Addr} {od : Obj} {u : HO} (hd : H d = some u) (s : Same (upd H d (.frz od u)) H') : Same H (upd H' d u) := fun b o e => by
  by_cases c : b = d
  · subst c
    rw [hd] at e
    rw [upd_same]; exact e
  · rw [upd_ne c]
    exact s b o (by rw [upd_ne c]; exact e)
/-- values of some places, in a dict -/
structure DAt (H : Hp) (d : Addr) (n : Nat) (F : Nat → Option (Int × Int)) (kvs : List (Key × V)) : Prop where
  here : H d = some (.dK kvs)
  mem : ∀ k v, (k, v) ∈ kvs → ∃ (j : Nat) (x : Int × Int) (q : Addr), j < n ∧ k = .inl (j : Int) ∧ v = .ref q ∧ F j = some x ∧ H q = some (.tup [.int x.1, .int x.2])
  cov : ∀ (j : Nat) x, F j = some x → ∃ v, ((.inl (j : Int) : Key), v) ∈ kvs
theorem valV_mem {kvs : List (Key × V)} {k : Key} {v : V} (h : valV kvs k = some v) : (k, v) ∈ kvs := by
  unfold valV at h
  obtain ⟨p, hp, rfl⟩ := Option.map_eq_some_iff.mp h
  have h1 := List.mem_of_find?_eq_some hp
  have h2 := List.find?_some hp
  have h2 : p.1 = k := of_decide_eq_true h2
  rw [← h2]; exact h1
theorem valV_ex {kvs : List (Key × V)} {k : Key} {v : V} (h : (k, v) ∈ kvs) : ∃ w, valV kvs k = some w := by
  unfold valV
  cases hf : kvs.find? fun kv => decide (kv.1 = k) with
  | none =>
    have := List.find?_eq_none.mp hf (k, v) h
    simp at this
  | some p => exact ⟨p.2, rfl⟩
theorem DAt.val {H : Hp} {d : Addr} {n : Nat} {F : Nat → Option (Int × Int)} {kvs : List (Key × V)} (D : DAt H d n F kvs) {j : Nat} {x : Int × Int} (h : F j = some x) : ∃ q, valV kvs (.inl (j : Int)) = some (.ref q) ∧ H q = some (.tup [.int x.1, .int x.2]) := by
  obtain ⟨v, hv⟩ := D.cov j x h
  obtain ⟨w, hw⟩ := valV_ex hv
  obtain ⟨j', x', q, _, ek, ev, ef, eq⟩ := D.mem _ _ (valV_mem hw)
  have ek : (j : Int) = (j' : Int) := Sum.inl.inj ek
  have ej : j = j' := by omega
  subst ej
  rw [h] at ef; cases ef
  exact ⟨q, by rw [hw, ev], eq⟩
theorem DAt.no {H : Hp} {d : Addr} {n : Nat} {F : Nat → Option (Int × Int)} {kvs : List (Key × V)} (D : DAt H d n F kvs) {j : Nat} (h : F j = none) : valV kvs (.inl (j : Int)) = none := by
  cases hw : valV kvs (.inl (j : Int)) with
  | none => rfl
  | some w =>
    obtain ⟨j', x', q, _, ek, ev, ef, eq⟩ := D.mem _ _ (valV_mem hw)
    have ek : (j : Int) = (j' : Int) := Sum.inl.inj ek
    have ej : j = j' := by omega
    subst ej
    rw [h] at ef; cases ef
theorem DAt.keep {H H' : Hp} {d : Addr} {n : Nat} {F : Nat → Option (Int × Int)} {kvs : List (Key × V)} (D : DAt H d n F kvs) (s : Same H H') : DAt H' d n F kvs :=
  ⟨s _ _ D.here, fun k v h => by
    obtain ⟨j, x, q, a, b, c, e, f⟩ := D.mem k v h
    exact ⟨j, x, q, a, b, c, e, s _ _ f⟩, D.cov⟩
def setF (F : Nat → Option (Int × Int)) (k : Nat) (x : Int × Int) : Nat → Option (Int × Int) := fun j => if j = k then some x else F j
theorem DAt.put {H : Hp} {d q : Addr} {n k : Nat} {F : Nat → Option (Int × Int)} {kvs : List (Key × V)} {x : Int × Int} (D : DAt H d n F kvs) (hk : k < n) (hF : F k = none) (hq : H q = some (.tup [.int x.1, .int x.2])) :
    DAt (upd H d (.dK (putK kvs (.inl (k : Int)) (.ref q)))) d n (setF F k x) (putK kvs (.inl (k : Int)) (.ref q)) := by
  have e := putK_new (.ref q) (D.no hF)
  have nq : ∀ r y, H r = some (.tup y) → (upd H d (.dK (putK kvs (.inl (k : Int)) (.ref q)))) r = some (.tup y) := fun r y h => by
    rw [L2.upd_ne (ne_of h D.here (by intro z; cases z))]; exact h
  refine ⟨upd_same, fun k' v h => ?_, fun j y h => ?_⟩
  · rw [e] at h
    rcases List.mem_append.mp h with h | h
    · obtain ⟨j, y, r, a, b, c, f, g⟩ := D.mem k' v h
      refine ⟨j, y, r, a, b, c, ?_, nq _ _ g⟩
      unfold setF
      have : j ≠ k := fun z => by rw [z, hF] at f; cases f
      rw [if_neg this]; exact f
    · have h := List.mem_singleton.mp h
      cases h
      exact ⟨k, x, q, hk, rfl, rfl, if_pos rfl, nq _ _ hq⟩
  · rw [e]
    unfold setF at h
    by_cases c : j = k
    · subst c
      exact ⟨.ref q, List.mem_append.mpr (.inr (List.mem_singleton.mpr rfl))⟩
    · rw [if_neg c] at h
      obtain ⟨v, hv⟩ := D.cov j y h
      exact ⟨v, List.mem_append.mpr (.inl hv)⟩
theorem mem_putK {kvs : List (Key × V)} {k k' : Key} {v v' : V} (h : (k', v') ∈ putK kvs k v) : (k' = k ∧ v' = v) ∨ ((k', v') ∈ kvs ∧ k' ≠ k) := by
  unfold putK at h
  split at h
  · obtain ⟨p, hp, e⟩ := List.mem_map.mp h
    split at e
    · rename_i c
      cases e
      exact .inl ⟨c, rfl⟩
    · rename_i c
      cases e
      exact .inr ⟨hp, c⟩
  · rename_i ha
    rcases List.mem_append.mp h with h | h
    · refine .inr ⟨h, fun z => ha (List.any_eq_true.mpr ⟨_, h, decide_eq_true z⟩)⟩
    · cases List.mem_singleton.mp h
      exact .inl ⟨rfl, rfl⟩
theorem key_putK {kvs : List (Key × V)} {k j : Key} {v : V} (h : (∃ w, (j, w) ∈ kvs) ∨ j = k) : ∃ w, (j, w) ∈ putK kvs k v := by
  have key : ∃ w, valV (putK kvs k v) j = some w := by
    rw [valV_put]
    split
    · exact ⟨_, rfl⟩
    · rename_i c
      rcases h with ⟨w, h⟩ | h
      · exact valV_ex h
      · exact absurd h c
  obtain ⟨w, hw⟩ := key
  exact ⟨w, valV_mem hw⟩
theorem mem_mergeK : ∀ {more kvs : List (Key × V)} {k' : Key} {v' : V}, (k', v') ∈ mergeK kvs more → (k', v') ∈ more ∨ ((k', v') ∈ kvs ∧ ∀ v, (k', v) ∉ more)
  | [], kvs, k', v', h => .inr ⟨h, fun v z => by cases z⟩
  | p :: more, kvs, k', v', h => by
    obtain ⟨k, v⟩ := p
    have h : (k', v') ∈ mergeK (putK kvs k v) more := h
    rcases mem_mergeK h with h1 | ⟨h1, h2⟩
    · exact .inl (List.mem_cons_of_mem _ h1)
    · rcases mem_putK h1 with ⟨rfl, rfl⟩ | ⟨h3, h4⟩
      · exact .inl (List.mem_cons_self ..)
      · refine .inr ⟨h3, fun w z => ?_⟩
        rcases List.mem_cons.mp z with z | z
        · cases z; exact h4 rfl
        · exact h2 w z
theorem key_mergeK : ∀ {more kvs : List (Key × V)} {j : Key}, ((∃ w, (j, w) ∈ kvs) ∨ ∃ w, (j, w) ∈ more) → ∃ w, (j, w) ∈ mergeK kvs more
  | [], kvs, j, h => by
    rcases h with h | ⟨w, h⟩
    · exact h
    · cases h
  | p :: more, kvs, j, h => by
    obtain ⟨k, v⟩ := p
    refine key_mergeK (more := more) (kvs := putK kvs k v) ?_
    rcases h with h | ⟨w, h⟩
    · exact .inl (key_putK (.inl h))
    · rcases List.mem_cons.mp h with h | h
      · cases h; exact .inl (key_putK (.inr rfl))
      · exact .inr ⟨w, h⟩
/-- [value for j in range(lo, hi)] -/
theorem lc_vals2 {H : Hp} {n c : Nat} {lo : Int} {σ : L2.St} {f : Nat → V} {ta : TA} {te : TE} {Q : VK} (hn : n ≤ 60) (hlo : 0 ≤ lo) (hlo2 : lo ≤ 100) (hc : c < σ.length)
    (ha : ∀ Q1 : List V → Hp → Prop, Q1 [.int lo, .int (lo + n)] H → ta σ H Q1)
    (ht : ∀ j H1 (Q1 : VK), j < n → Same H H1 → Q1 (f j) H1 → te ((σ.set c none).set c (some (.int (lo + (j : Int))))) H1 Q1)
    (q : ∀ D H', Same H H' → H' D = some (.lst ((List.range n).map f)) → H D = none → Q (.ref D) H') :
    tLc (iRng2 ta) (gName c) tYes te [c] σ H Q := by
  refine ha _ ⟨lo, lo + (n : Int), rfl, ⟨by omega, by omega, by omega, by omega⟩, fun D hD => ?_⟩
  rw [show (lo + (n : Int) - lo).toNat = n by omega]
  refine lc_range (lo := lo) (n := n) (fun i H' => Same H H' ∧ H' D = some (.lst ((List.range i).map f))) ⟨upd_keep hD, upd_same⟩ ?_ ?_
  · rintro i H' hi ⟨sm, eD⟩
    refine ⟨?_, ?_⟩
    · show ((σ.set c none).set c (some (.int (lo + (i : Int))))).set c none = σ.set c none
      rw [List.set_set, List.set_set]
    refine ht i H' _ hi sm ?_
    refine ⟨(List.range i).map f, eD, by rw [List.length_map, List.length_range]; exact small1000 (by omega), same_updN hD sm, ?_⟩
    rw [upd_same, List.range_succ, List.map_append]
    rfl
  · rintro H' ⟨sm, eD⟩
    exact q D H' sm eD hD
def adr : V → Addr
  | .ref q => q
  | _ => 0
/-! ### zip of two lists -/
theorem pi_zipK {X : Cx} {K : PySem.W.Frag} {e e2 : Expr} {ta : TA} {p pos tpos : PySem.Pos} {elts : List Expr} {kk : Nat} (h : X.K = K) (hg : Gl X "zip") (hm : X.mg "zip" = none) (ha : PA X [e, e2] ta)
    (hs : starEach [e, e2] X.env = (false, eval e X.env) :: starEach [e2] X.env := by rfl) (hpl : (backTo pos (starEach [e2] X.env)).any (·.1) = false := by rfl) :
    PI X (.Tuple elts kk tpos) (.Call (.Name "zip" p) [e, e2] [] pos) (iZip K ta) := by subst h; exact pi_zip hg hm ha hs hpl
def ForZ (K : PySem.W.Frag) (a b : Addr) (g : TG) (tb : TS) (D : Ends) (σ : L2.St) (H : Hp) : Prop := ∃ W : Nat → Nat → L2.St → Hp → Prop, (∃ m, W 0 m σ H) ∧ ∀ i m σ H, W i m σ H →
  ((Itz K a b).stop i H ∧ D.nx σ H) ∨ ((Itz K a b).go i H ∧ ∃ N : L2.St → Hp → Prop, (∀ σ' H', N σ' H' → ∃ m', m' < m ∧ W (i + 1) m' σ' H') ∧ ∀ v H', (Itz K a b).yld i H v H' → g v σ H' fun σ2 H2 => tb { D with nx := N, ct := N, bk := D.nx } σ2 H2)
theorem for_zp {K : PySem.W.Frag} {ta : TA} {g : TG} {tb : TS} {D : Ends} {σ : L2.St} {H : Hp} (h : ta σ H fun vs H1 => ∃ a b, vs = [.ref a, .ref b] ∧ ∃ xs, SqL K H1 a xs ∧ ∃ ys, SqL K H1 b ys ∧ ForZ K a b g tb D σ H1) : tFor (iZip K (tWk ta)) g tb D σ H :=
  ⟨_, h, fun _ _ ⟨a, b, e, xs, h1, ys, h2, h3⟩ => ⟨a, b, xs, ys, e, h1, h2, h3⟩⟩
theorem forZ_by {K : PySem.W.Frag} {a b : Addr} {xs ys : List V} {g : TG} {tb : TS} {D : Ends} {σ : L2.St} {H : Hp} (h1 : SqL K H a xs) (h2 : SqL K H b ys) (hl : xs.length = ys.length) (Pv : Nat → L2.St → Hp → Prop) (h0 : Pv 0 σ H) (hq : ∀ i σ H, Pv i σ H → SqL K H a xs ∧ SqL K H b ys)
    (hs : ∀ (i : Nat) (x y : V) (T : Addr) (σ : L2.St) (H : Hp) (H2 : Hp), xs[i]? = some x → ys[i]? = some y → Pv i σ H → Same H H2 → H2 T = some (.tup [x, y]) → g (.ref T) σ H2 fun σ2 H2 => tb { D with nx := Pv (i + 1), ct := Pv (i + 1), bk := D.nx } σ2 H2) (hd : ∀ σ H, Pv xs.length σ H → D.nx σ H) : ∃ xs, SqL K H a xs ∧ ∃ ys, SqL K H b ys ∧ ForZ K a b g tb D σ H :=
  ⟨xs, h1, ys, h2, RZ.for_zipL hl Pv h0 hq (fun i x y T σ H hx hy p hT => hs i x y T σ H _ hx hy p (upd_keep hT) upd_same) hd⟩
/-! ### comprehensions over a list -/
/-- what stands behind the source of a comprehension -/
def LcL (K : PySem.W.Frag) (a : Addr) (c : Nat) (te : TE) (σ : L2.St) (H1 : Hp) (Q : VK) : Prop := ∀ D, H1 D = none → ∃ W : Nat → Nat → Hp → Prop, (∃ m, W 0 m (upd H1 D (.lst []))) ∧ ∀ i m H, W i m H →
  ((Itl K a).stop i H ∧ Q (.ref D) H) ∨ ((Itl K a).go i H ∧ ∃ Nx : Hp → Prop, (∀ H', Nx H' → ∃ m', m' < m ∧ W (i + 1) m' H') ∧ ∀ x H', (Itl K a).yld i H x H' → gName c x (wipe σ [c]) H' fun σ2 H2 => wipe σ2 [c] = wipe σ [c] ∧ tYes σ2 H2 fun b H3 =>
    if b = true then te σ2 H3 fun y H4 => ∃ acc, H4 D = some (.lst acc) ∧ acc.length < sizeLine ∧ Nx (upd H4 D (.lst (acc ++ [y]))) else Nx H3)
theorem lc_src {K : PySem.W.Frag} {ts te : TE} {c : Nat} {σ : L2.St} {H : Hp} {Q : VK} (h : ts σ H fun x H1 => ∃ a, x = .ref a ∧ (∃ xs, SqL K H1 a xs) ∧ LcL K a c te σ H1 Q) : tLc (iList K ts) (gName c) tYes te [c] σ H Q := h
/-- each value turned into a value -/
theorem lcL_vals {K : PySem.W.Frag} {a : Addr} {c : Nat} {te : TE} {σ : L2.St} {H : Hp} {Q : VK} {xs : List V} {f : Nat → V} (hx : H a = some (.lst xs)) (hn : xs.length ≤ 60) (hc : c < σ.length)
    (ht : ∀ i x H2 (Q1 : VK), xs[i]? = some x → Same H H2 → (∀ H3, Same H2 H3 → Q1 (f i) H3) → te ((σ.set c none).set c (some x)) H2 Q1)
    (q : ∀ D H', Same H H' → H D = none → H' D = some (.lst ((List.range xs.length).map f)) → Q (.ref D) H') : LcL K a c te σ H Q := fun D hD => by
  refine lc_list (K := K) (a := a) (xs := xs) (fun i H' => Same H H' ∧ H' D = some (.lst ((List.range i).map f))) ⟨upd_keep hD, upd_same⟩ (fun i H' _ ⟨s, _⟩ => .of (s _ _ hx)) ?_ ?_
  · rintro i x H' hi ⟨sm, eD⟩
    have hin := (List.getElem?_eq_some_iff.mp hi).1
    refine ⟨?_, ?_⟩
    · show ((σ.set c none).set c (some x)).set c none = σ.set c none
      rw [List.set_set, List.set_set]
    refine ht i x H' _ hi sm fun H3 s3 => ?_
    refine ⟨(List.range i).map f, s3 _ _ eD, by rw [List.length_map, List.length_range]; exact small1000 (by omega), same_updN hD (sm.trans s3), ?_⟩
    rw [upd_same, List.range_succ, List.map_append]
    rfl
  · rintro H' ⟨sm, eD⟩
    exact q D H' sm hD eD
/-- each value turned into a new object -/
theorem lcL_objs {K : PySem.W.Frag} {a : Addr} {c : Nat} {te : TE} {σ : L2.St} {H : Hp} {Q : VK} {xs : List V} {Pr : Nat → HO → Prop} (hx : H a = some (.lst xs)) (hn : xs.length ≤ 60) (hc : c < σ.length)
    (ht : ∀ i x H2 (Q1 : VK), xs[i]? = some x → Same H H2 → (∀ r o H3, Same H2 H3 → H2 r = none → H3 r = some o → Pr i o → Q1 (.ref r) H3) → te ((σ.set c none).set c (some x)) H2 Q1)
    (q : ∀ D (as : List Addr) H', Same H H' → H D = none → H' D = some (.lst (as.map V.ref)) → as.length = xs.length → as.Nodup → (∀ a ∈ as, H a = none) → (∀ (i : Nat) (a : Addr), as[i]? = some a → ∃ o, H' a = some o ∧ Pr i o) → Q (.ref D) H') : LcL K a c te σ H Q := fun D hD => by
  refine lc_list (K := K) (a := a) (xs := xs) (fun i H' => ∃ as' : List Addr, Same H H' ∧ H' D = some (.lst (as'.map V.ref)) ∧ as'.length = i ∧ as'.Nodup ∧ (∀ a ∈ as', H a = none ∧ a ≠ D) ∧ ∀ (j : Nat) (a : Addr), as'[j]? = some a → ∃ o, H' a = some o ∧ Pr j o)
    ⟨[], upd_keep hD, upd_same, rfl, List.nodup_nil, (fun a h => by cases h), (fun j a h => by cases h)⟩ (fun i H' _ ⟨_, s, _⟩ => .of (s _ _ hx)) ?_ ?_
  · rintro i x H' hi ⟨as', sm, eD, hl, nd, hf, hr⟩
    have hin := (List.getElem?_eq_some_iff.mp hi).1
    refine ⟨?_, ?_⟩
    · show ((σ.set c none).set c (some x)).set c none = σ.set c none
      rw [List.set_set, List.set_set]
    refine ht i x H' _ hi sm fun l o H2 s2 fl e2 po => ?_
    have nD : l ≠ D := fun e => by rw [e, eD] at fl; cases fl
    have nl : l ∉ as' := fun hm => by
      obtain ⟨j, hj, e⟩ := List.mem_iff_getElem.mp hm
      obtain ⟨o', h', _⟩ := hr j l (by rw [List.getElem?_eq_getElem hj, e])
      rw [fl] at h'; cases h'
    refine ⟨as'.map V.ref, s2 _ _ eD, by rw [List.length_map, hl]; exact small1000 (by omega), as' ++ [l], same_updN hD (sm.trans s2), ?_, by simp [hl], ?_, ?_, ?_⟩
    · rw [upd_same, List.map_append]; rfl
    · rw [List.nodup_append]
      refine ⟨nd, by simp, fun a ha b hb e => ?_⟩
      have : b = l := by simpa using hb
      exact nl (by rw [← this, ← e]; exact ha)
    · intro a ha
      rcases List.mem_append.mp ha with h | h
      · exact hf a h
      · have : a = l := by simpa using h
        subst this
        exact ⟨sm.free fl, nD⟩
    · intro j a hj
      by_cases c1 : j < as'.length
      · rw [List.getElem?_append_left c1] at hj
        rw [upd_ne (hf a (List.mem_of_getElem? hj)).2]
        obtain ⟨o', h', p'⟩ := hr j a hj
        exact ⟨o', s2 _ _ h', p'⟩
      · have hlt := (List.getElem?_eq_some_iff.mp hj).1
        rw [List.length_append, List.length_singleton] at hlt
        obtain rfl : j = as'.length := by omega
        rw [List.getElem?_append_right (Nat.le_refl _), Nat.sub_self] at hj
        have : l = a := by simpa using hj
        subst this
        rw [upd_ne nD, hl]
        exact ⟨o, e2, po⟩
  · rintro H' ⟨as', sm, eD, hl, nd, hf, hr⟩
    exact q D as' H' sm hD eD hl nd (fun a ha => (hf a ha).1) hr
/-- each value turned into a tuple -/
theorem lcL_tups {K : PySem.W.Frag} {a : Addr} {c : Nat} {te : TE} {σ : L2.St} {H : Hp} {Q : VK} {xs : List V} {Pr : Nat → List V → Prop} (hx : H a = some (.lst xs)) (hn : xs.length ≤ 60) (hc : c < σ.length)
    (ht : ∀ i x H2 (Q1 : VK), xs[i]? = some x → Same H H2 → (∀ r o H3, Same H2 H3 → H3 r = some (.tup o) → Pr i o → Q1 (.ref r) H3) → te ((σ.set c none).set c (some x)) H2 Q1)
    (q : ∀ D (as : List Addr) H', Same H H' → H D = none → H' D = some (.lst (as.map V.ref)) → as.length = xs.length → (∀ (i : Nat) (a : Addr), as[i]? = some a → ∃ o, H' a = some (.tup o) ∧ Pr i o) → Q (.ref D) H') : LcL K a c te σ H Q := fun D hD => by
  refine lc_list (K := K) (a := a) (xs := xs) (fun i H' => ∃ as' : List Addr, Same H H' ∧ H' D = some (.lst (as'.map V.ref)) ∧ as'.length = i ∧ ∀ (j : Nat) (a : Addr), as'[j]? = some a → ∃ o, H' a = some (.tup o) ∧ Pr j o)
    ⟨[], upd_keep hD, upd_same, rfl, (fun j a h => by cases h)⟩ (fun i H' _ ⟨_, s, _⟩ => .of (s _ _ hx)) ?_ ?_
  · rintro i x H' hi ⟨as', sm, eD, hl, hr⟩
    have hin := (List.getElem?_eq_some_iff.mp hi).1
    refine ⟨?_, ?_⟩
    · show ((σ.set c none).set c (some x)).set c none = σ.set c none
      rw [List.set_set, List.set_set]
    refine ht i x H' _ hi sm fun l o H2 s2 e2 po => ?_
    have eD2 := s2 _ _ eD
    refine ⟨as'.map V.ref, eD2, by rw [List.length_map, hl]; exact small1000 (by omega), as' ++ [l], same_updN hD (sm.trans s2), ?_, by simp [hl], ?_⟩
    · rw [upd_same, List.map_append]; rfl
    · intro j a hj
      by_cases c1 : j < as'.length
      · rw [List.getElem?_append_left c1] at hj
        obtain ⟨o', h', p'⟩ := hr j a hj
        refine ⟨o', ?_, p'⟩
        have h2 := s2 _ _ h'
        rw [upd_ne (ne_of h2 eD2 (by intro z; cases z))]; exact h2
      · have hlt := (List.getElem?_eq_some_iff.mp hj).1
        rw [List.length_append, List.length_singleton] at hlt
        obtain rfl : j = as'.length := by omega
        rw [List.getElem?_append_right (Nat.le_refl _), Nat.sub_self] at hj
        have : l = a := by simpa using hj
        subst this
        rw [upd_ne (ne_of e2 eD2 (by intro z; cases z)), hl]
        exact ⟨o, e2, po⟩
  · rintro H' ⟨as', sm, eD, hl, hr⟩
    exact q D as' H' sm hD eD hl hr
/-! ### waiting, putting back, freeing -/
theorem leO_none (x : Option Int) : leO x none := by cases x <;> trivial
def waitM (N : Mx) : Mx := fun a b => if 1 ≤ a ∧ b = 0 then none else N a b
def sg (p : Nat) (a : Nat) : Nat := if a = p then 0 else a
def putM (p : Nat) (N : Mx) : Mx := fun a b => N (sg p a) (sg p b)
def freeM (p : Nat) (N : Mx) : Mx := fun a b => if a = p ∧ b ≠ p then none else N a b
theorem sg_lt {p a n : Nat} (h : a < n) : sg p a < n := by unfold sg; split <;> omega
section
variable {n p : Nat} {N : Mx}
theorem wait_nar (R : Nar n N) : Nar n (waitM N) := by
  refine ⟨fun k hk a b ha hb => ?_, fun a ha => ?_, fun b hb => ?_⟩
  · have le : ∀ x y, leO (N x y) (waitM N x y) := fun x y => by unfold waitM; split; exact leO_none _; exact leO_refl _
    by_cases c : 1 ≤ a ∧ b = 0
    · have : waitM N a k = none ∨ waitM N k b = none := by
        by_cases d : k = 0
        · left; unfold waitM; rw [if_pos (by omega)]
        · right; unfold waitM; rw [if_pos (by omega)]
      rcases this with h | h <;> rw [h]
      · rw [none_addO]; exact leO_none _
      · rw [addO_none]; exact leO_none _
    · rw [show waitM N a b = N a b by unfold waitM; rw [if_neg c]]
      exact leO_trans (R.tri k hk a b ha hb) (addO_mono (le a k) (le k b))
  · unfold waitM; rw [if_neg (by omega)]; exact R.one a ha
  · unfold waitM; rw [if_neg (by omega)]; exact R.row b hb
theorem put_nar (R : Nar n N) (hn : 0 < n) : Nar n (putM p N) :=
  ⟨fun k hk a b ha hb => R.tri _ (sg_lt hk) _ _ (sg_lt ha) (sg_lt hb), fun a ha => R.one _ (sg_lt ha), fun b hb => by
    show leO (N (sg p 0) (sg p b)) _
    rw [show sg p 0 = 0 by unfold sg; split <;> omega]
    exact R.row _ (sg_lt hb)⟩
theorem free_nar (R : Nar n N) (hp : p ≠ 0) : Nar n (freeM p N) := by
  refine ⟨fun k hk a b ha hb => ?_, fun a ha => ?_, fun b hb => ?_⟩
  · have le : ∀ x y, leO (N x y) (freeM p N x y) := fun x y => by unfold freeM; split; exact leO_none _; exact leO_refl _
    by_cases c : a = p ∧ b ≠ p
    · have : freeM p N a k = none ∨ freeM p N k b = none := by
        by_cases d : k = p
        · right; unfold freeM; rw [if_pos (by omega)]
        · left; unfold freeM; rw [if_pos (by omega)]
      rcases this with h | h <;> rw [h]
      · rw [none_addO]; exact leO_none _
      · rw [addO_none]; exact leO_none _
    · rw [show freeM p N a b = N a b by unfold freeM; rw [if_neg c]]
      exact leO_trans (R.tri k hk a b ha hb) (addO_mono (le a k) (le k b))
  · unfold freeM; rw [if_neg (by omega)]; exact R.one a ha
  · unfold freeM; rw [if_neg (by omega)]; exact R.row b hb
end
theorem letsR_down {b : Option Int} {x y : Rat} (h : letsR b x) (l : y ≤ x) : letsR b y := by
  cases b with
  | none => trivial
  | some b =>
    by_cases c : y = x
    · rw [c]; exact h
    · left
      have : y < x := by grind
      rcases h with h | ⟨h, _⟩ <;> grind
/-- values as rational numbers that lie in a zone -/
def LiesR (n : Nat) (M : Mx) (v : Nat → Rat) : Prop := ∀ i j, i < n → j < n → letsR (M i j) (v i - v j)
theorem wait_lies {n : Nat} {N : Mx} {v u : Nat → Rat} {t : Rat} (h : LiesR n N v) (ht : 0 ≤ t) (v0 : v 0 = 0) (u0 : u 0 = 0) (hu : ∀ i, i < n → i ≠ 0 → u i = v i + t) : LiesR n (waitM N) u := fun i j hi hj => by
  unfold waitM
  split
  · trivial
  · rename_i c
    have hij := h i j hi hj
    by_cases ci : i = 0
    · by_cases cj : j = 0
      · subst ci; subst cj
        rw [u0]; rw [v0] at hij; exact hij
      · refine letsR_down hij ?_
        rw [ci, u0, v0, hu j hj cj]; grind
    · have cj : j ≠ 0 := by omega
      refine letsR_down hij ?_
      rw [hu i hi ci, hu j hj cj]; grind
theorem put_lies {n p : Nat} {N : Mx} {v u : Nat → Rat} (h : LiesR n N v) (hu : ∀ i, i < n → u i = v (sg p i)) : LiesR n (putM p N) u := fun i j hi hj => by
  rw [hu i hi, hu j hj]
  exact h _ _ (sg_lt hi) (sg_lt hj)
theorem free_lies {n p : Nat} {N : Mx} {v u : Nat → Rat} {t : Rat} (h : LiesR n N v) (ht : 0 ≤ t) (hp : u p = v p + t) (hu : ∀ i, i < n → i ≠ p → u i = v i) : LiesR n (freeM p N) u := fun i j hi hj => by
  unfold freeM
  split
  · trivial
  · rename_i c
    have hij := h i j hi hj
    refine letsR_down hij ?_
    by_cases ci : i = p
    · have cj : j = p := by omega
      rw [ci, cj]; grind
    · by_cases cj : j = p
      · rw [cj, hu i hi ci, hp]; grind
      · rw [hu i hi ci, hu j hj cj]; grind
/-- a low and a high with their sharpness meet -/
def meetR (x : Rat) (s : Bool) (y : Rat) (o : Bool) : Prop := x < y ∨ (x = y ∧ s = false ∧ o = false)
theorem meet_pair {a b : Int} {x y : Rat} (h : x - ((a / 2 : Int) : Rat) < y + ((b / 2 : Int) : Rat) ∨ (x - ((a / 2 : Int) : Rat) = y + ((b / 2 : Int) : Rat) ∧ a % 2 = 1 ∧ b % 2 = 1)) :
    meetR (x - ((a / 2 : Int) : Rat)) (decide (a % 2 = 0)) (y + ((b / 2 : Int) : Rat)) (decide (b % 2 = 0)) := by
  rcases h with h | ⟨h, p, q⟩
  · exact .inl h
  · exact .inr ⟨h, decide_eq_false (by omega), decide_eq_false (by omega)⟩
theorem wait_sz {s : Nat} {N : Mx} (h : SzM s N) : SzM s (waitM N) := fun i j v e => by
  unfold waitM at e
  split at e
  · cases e
  · exact h i j v e
theorem put_sz {s p : Nat} {N : Mx} (h : SzM s N) : SzM s (putM p N) := fun i j v e => h _ _ v e
theorem free_sz {s p : Nat} {N : Mx} (h : SzM s N) : SzM s (freeM p N) := fun i j v e => by
  unfold freeM at e
  split at e
  · cases e
  · exact h i j v e
theorem sg_sg {p o a : Nat} : sg p (sg o (sg p a)) = sg p (sg o a) := by
  unfold sg
  by_cases c : a = p
  · rw [if_pos c]
    by_cases d : p = o
    · subst d; simp [c]
    · have : ¬ a = o := fun z => d (by rw [← c, z])
      rw [if_neg this, if_pos c]
      by_cases e : (0 : Nat) = o
      · rw [if_pos e]; split <;> rfl
      · rw [if_neg e]; split <;> rfl
  · rw [if_neg c]
section
variable {P : Program} {w : World} {K : PySem.W.Frag} {mg : Str → Option Value} {base : Heap}
def spCell_at (K : PySem.W.Frag) : Sp := fun vs H Q _ => ∃ (a : Addr) (ns : List Int) (k : Int), vs = [.ref a, .int k] ∧ SqL K H a (ns.map V.int) ∧ 0 ≤ k ∧ Q (.int (ns.getD k.toNat 0)) H
theorem ok_l_cell_at (T : Top K mg) : FnOk P w K mg base CX0 1 T.f_l_cell_at T.d_l_cell_at ["_law_script", "_law_k"] (spCell_at K) := by
  refine T.F_l_cell_at.ok sc_l_cell_at (fun vs H Q E h => ?_) (fun cdv A outer s H vs Q E hr h => ?_)
  · obtain ⟨a, ns, k, rfl, _⟩ := h; rfl
  · obtain ⟨a, ns, k, rfl, hS, hk, q⟩ := h
    refine ⟨_, (pss_cons (ps_if (pt_cmpR op_lt (pv 1) (pe_callB call_len_seq (by rfl) T.m_len (by decide +kernel) (pa_cons (pv 0) pa_nil)) (nomark _)) (pss_one (ps_ret (pe_ix (ix_listA (K := K) rfl) (pv 0) (pv 1) (fun _ _ => rfl)))) pss_nil)
      (pss_one (ps_ret pe_int))), ?_⟩
    refine seq_step ?_
    walk_at "rd"
    refine ⟨_, .inl hS, ite_d (fun c => ?_) (fun c => ?_)⟩
    · rw [List.length_map] at c
      have hl : k.toNat < ns.length := by omega
      refine ⟨a, _, k, .int (ns[k.toNat]), rfl, rfl, hS, at_of (j := k.toNat) (by omega) (by rw [List.getElem?_map, List.getElem?_eq_getElem hl]; rfl), ?_⟩
      rw [List.getD_eq_getElem?_getD, List.getElem?_eq_getElem hl] at q
      exact q
    · rw [List.length_map] at c
      rw [List.getD_eq_getElem?_getD, List.getElem?_eq_none (by omega)] at q
      exact q
def spNumber_of : Sp := fun vs H Q _ => ∃ b : Int, vs = [.int b] ∧ Q (.int (b / 2)) H
theorem ok_number_of (T : Top K mg) : FnOk P w K mg base CX0 1 T.f_number_of T.d_number_of ["bound"] spNumber_of := by
  refine T.F_number_of.ok sc_number_of (fun vs H Q E h => ?_) (fun cdv A outer s H vs Q E hr h => ?_)
  · obtain ⟨b, rfl, _⟩ := h; rfl
  · obtain ⟨b, rfl, q⟩ := h
    refine ⟨_, (pss_one (ps_ret (pe_op op_shr (pv 0) pe_int))), ?_⟩
    walk_at "rd"
    exact q
def spIs_open : Sp := fun vs H Q _ => ∃ b : Int, vs = [.int b] ∧ Q (.bl (decide (b % 2 = 0))) H
theorem ok_is_open (T : Top K mg) : FnOk P w K mg base CX0 1 T.f_is_open T.d_is_open ["bound"] spIs_open := by
  refine T.F_is_open.ok sc_is_open (fun vs H Q E h => ?_) (fun cdv A outer s H vs Q E hr h => ?_)
  · obtain ⟨b, rfl, _⟩ := h; rfl
  · obtain ⟨b, rfl, q⟩ := h
    refine ⟨_, (pss_one (ps_ret (pe_cmpR op_eq (pe_op op_and (pv 0) pe_int) pe_int (nomark _)))), ?_⟩
    walk_at "rd"
    rw [bitAnd_m1]; exact q
def spAdded (K : PySem.W.Frag) : Sp := fun vs H Q _ => ∃ (x y : Option Int), vs = [oV x, oV y] ∧ (∀ a b, x = some a → y = some b → Sz 10000 (a / 2 + b / 2)) ∧ Q (oV (addO x y)) H
theorem ok_added (T : Top K mg) : FnOk P w K mg base CX0 1 T.f_added T.d_added ["one", "other"] (spAdded K) := by
  refine T.F_added.ok sc_added (fun vs H Q E h => ?_) (fun cdv A outer s H vs Q E hr h => ?_)
  · obtain ⟨a, b, rfl, _⟩ := h; rfl
  · obtain ⟨x, y, rfl, h1, q⟩ := h
    refine ⟨_, (pss_cons (ps_if (PW.pt (pw_or (pt_cmpR op_isN (pv 0) pe_non (nomark _)) (pw_or1 (pt_cmpR op_isN (pv 1) pe_non (nomark _))))) (pss_one (ps_ret pe_non)) pss_nil)
      (pss_one (ps_ret (pe_op op_or (pe_op op_shlW (pe_op op_add (pe_op op_shr (pv 0) pe_int) (pe_op op_shr (pv 1) pe_int)) pe_int) (pe_op op_and (pe_op op_and (pv 0) (pv 1)) pe_int))))), ?_⟩
    refine seq_step ?_
    cases x with
    | none => 
      simp only [oV_none]
      walk_at "rd"
      exact q
    | some a =>
      cases y with
      | none =>
        simp only [oV_none, oV_some]
        walk_at "rd"
        exact q
      | some b =>
        simp only [oV_some]
        walk_at "rd"
        rw [bit_sum]
        exact ⟨shl1 (h1 a b rfl rfl) (by omega), q⟩
theorem added_i {K : PySem.W.Frag} {a b : Int} {H : Hp} {Q : VK} {E : XK} (h : Sz 10000 (a / 2 + b / 2)) (q : Q (.int (2 * (a / 2 + b / 2) + (if a % 2 = 1 ∧ b % 2 = 1 then 1 else 0))) H) : spAdded K [.int a, .int b] H Q E :=
  ⟨some a, some b, rfl, fun _ _ e1 e2 => by cases e1; cases e2; exact h, q⟩
theorem added_n1 {K : PySem.W.Frag} {H : Hp} {Q : VK} {E : XK} (x : Option Int) (q : Q .non H) : spAdded K [.non, oV x] H Q E := ⟨none, x, rfl, (fun _ _ e1 _ => nomatch e1), q⟩
theorem added_n2 {K : PySem.W.Frag} {H : Hp} {Q : VK} {E : XK} (x : Option Int) (q : Q .non H) : spAdded K [oV x, .non] H Q E := ⟨x, none, rfl, (fun _ _ _ e1 => nomatch e1), by cases x <;> exact q⟩
def spNarrower (K : PySem.W.Frag) : Sp := fun vs H Q _ => ∃ (x y : Option Int), vs = [oV x, oV y] ∧ Q (oV (narO x y)) H
theorem ok_narrower (T : Top K mg) : FnOk P w K mg base CX0 1 T.f_narrower T.d_narrower ["one", "other"] (spNarrower K) := by
  refine T.F_narrower.ok sc_narrower (fun vs H Q E h => ?_) (fun cdv A outer s H vs Q E hr h => ?_)
  · obtain ⟨x, y, rfl, _⟩ := h; rfl
  · obtain ⟨x, y, rfl, q⟩ := h
    refine ⟨_, (pss_cons (ps_if (pt_cmpR op_isN (pv 0) pe_non (nomark _)) (pss_one (ps_ret (pv 1))) pss_nil)
      (pss_cons (ps_if (pt_cmpR op_isN (pv 1) pe_non (nomark _)) (pss_one (ps_ret (pv 0))) pss_nil)
      (pss_one (ps_ret (pe_callB (call_min2 rfl) (by rfl) T.m_min (by decide +kernel) (pa_cons (pv 0) (pa_cons (pv 1) pa_nil))))))), ?_⟩
    refine seq_step ?_
    cases x with
    | none =>
      simp only [oV_none]
      walk_at "rd"
      cases y <;> exact q
    | some a =>
      simp only [oV_some]
      walk_at "rd"
      refine seq_step ?_
      cases y with
      | none =>
        simp only [oV_none]
        walk_at "rd"
        exact q
      | some b =>
        simp only [oV_some]
        walk_at "rd"
        exact q
def spLets (K : PySem.W.Frag) : Sp := fun vs H Q _ => ∃ (x : Option Int) (t u : Int) (p : Addr), vs = [oV x, .ref p] ∧ H p = some (.tup [.int t, .int u]) ∧ (∀ b, x = some b → Sz 10000 (b / 2)) ∧ Sz 10000 u ∧ Q (.bl (letsO x t u)) H
theorem ok_lets (T : Top K mg) : FnOk P w K mg base CX0 2 T.f_lets T.d_lets ["bound", "value"] (spLets K) := by
  refine T.F_lets.ok sc_lets (fun vs H Q E h => ?_) (fun cdv A outer s H vs Q E hr h => ?_)
  · obtain ⟨x, t, u, p, rfl, _⟩ := h; rfl
  · obtain ⟨x, t, u, p, rfl, hp, h1, h2, q⟩ := h
    refine ⟨_, (pss_cons (ps_if (pt_cmpR op_isN (pv 0) pe_non (nomark _)) (pss_one (ps_ret pe_bl)) pss_nil)
      (pss_cons (ps_asg (pv 1) (pg_tup (by rfl) (pgs_cons (pg_name (i := 2) sc_lets.nd rfl (.inl rfl)) (pgs_cons (pg_name (i := 3) sc_lets.nd rfl (.inl rfl)) pgs_nil))))
      (pss_cons (ps_set (i := 4) sc_lets.nd rfl (.inl rfl) (pe_op op_mulW (pe_call (ok_number_of T) (hr.mono (by decide)) rfl T.g_number_of T.F_number_of.kp T.b_number_of .nil pass0 (pa_cons (pv 0) pa_nil)) (pv 3)))
      (pss_one (ps_ret (pe_or (pe_cmpR op_lt (pv 2) (pv 4) (nomark _)) (pe_one (pe_and (pe_cmpR op_eq (pv 2) (pv 4) (nomark _)) (pe_one (pe_not (pe_call (ok_is_open T) (hr.mono (by decide)) rfl T.g_is_open T.F_is_open.kp T.b_is_open .nil pass0 (pa_cons (pv 0) pa_nil)))))))))))), ?_⟩
    refine seq_step ?_
    cases x with
    | none =>
      simp only [oV_none]
      walk_at "rd"
      exact q
    | some b =>
    simp only [oV_some]
    have h1 := h1 b rfl
    walk_at "rd"
    refine seq_step ?_
    walk_at "rd"
    refine gTup_of (sqt hp) rfl ?_
    walk_at "rd"
    refine seq_step ?_
    walk_at "rd"
    simp only [spNumber_of, spIs_open]
    walk_at "rd"
    have q : Q (V.bl (decide (t < b / 2 * u ∨ t = b / 2 * u ∧ b % 2 = 1))) H := q
    refine ⟨h1.mulW h2 (by omega), ite_d (fun c => ?_) (fun c => ite_d (fun c2 => ?_) (fun c2 => ?_))⟩
    · rw [decide_eq_true (Or.inl c)] at q; exact q
    · rw [show (!decide (b % 2 = 0)) = decide (t < b / 2 * u ∨ (t = b / 2 * u ∧ b % 2 = 1)) by
        rw [← decide_not]; exact decide_eq_decide.mpr ⟨fun z => .inr ⟨c2, by omega⟩, fun z => by rcases z with z | z <;> omega⟩]
      exact q
    · rw [decide_eq_false (by rintro (z | z); exact c z; exact c2 z.1)] at q; exact q
def spDiv_divisor (K : PySem.W.Frag) : Sp := fun vs H Q _ => ∃ a b : Int, vs = [.int a, .int b] ∧ Q (.int (Int.gcd a b)) H
theorem ok_divisor (T : Top K mg) : FnOk P w K mg base CX0 1 T.f_divisor T.d_divisor ["one", "other"] (spDiv_divisor K) := by
  refine T.F_divisor.ok sc_divisor (fun vs H Q E h => ?_) (fun cdv A outer s H vs Q E hr h => ?_)
  · obtain ⟨a, b, rfl, _⟩ := h; rfl
  · obtain ⟨a, b, rfl, q⟩ := h
    refine ⟨_, (pss_cons (ps_while PassesOwn.never (pt_cmpR op_ne (pv 1) pe_int (nomark _)) (pss_one (ps_par (i := 0) (j := 1) (by rfl) sc_divisor.nd rfl rfl (by decide) rfl rfl (pa_cons (pv 1) (pa_cons (pe_op op_modN (pv 0) (pv 1)) pa_nil)) (by rfl))))
      (pss_one (ps_ret (pe_callB call_abs (by rfl) T.m_abs (by decide +kernel) (pa_cons (pv 0) pa_nil))))), ?_⟩
    refine seq_step ?_
    refine while_by (fun σ H' => H' = H ∧ ∃ x y : Int, σ = [some (.int x), some (.int y)] ∧ Int.gcd x y = Int.gcd a b) (fun σ _ => match σ with | [_, some (.int y)] => y.natAbs | _ => 0) ⟨rfl, a, b, rfl, rfl⟩ ?_ ?_
    · rintro σ H' ⟨rfl, x, y, rfl, hg⟩
      walk_at "rd"
      by_cases c : y = 0
      · subst c
        rw [decide_eq_true rfl, Bool.not_true, if_neg Bool.false_ne_true]
        have e : (if x < 0 then -x else x) = ((Int.gcd a b : Nat) : Int) := by
          rw [← hg, Int.gcd_zero_right]; split <;> omega
        rw [e]; exact q
      · rw [decide_eq_false c, Bool.not_false, if_pos rfl]
        exact ⟨c, by rw [fmod_gcd, hg], fmod_lt x y c⟩
    · rintro σ H Q Q' m ⟨v, hv, hs, k, hk, q⟩
      exact ⟨v, hv, hs, k, hk, m _ _ q⟩
theorem ok_is_whole (T : Top K mg) : FnOk P w K mg base CX0 1 T.f_is_whole T.d_is_whole ["thing"] (spWhole K) := by
  refine T.F_is_whole.ok sc_is_whole (fun vs H Q E h => ?_) (fun cdv A outer s H vs Q E hr h => ?_)
  · obtain ⟨x, t, rfl, _⟩ := h; rfl
  · obtain ⟨x, t, rfl, hx, ht, q⟩ := h
    refine ⟨_, (pss_one (ps_ret (pe_and (pe_callB (call_isiA (K := K) rfl) (by rfl) T.m_isinstance (by decide +kernel) (pa_cons (pv 0) (pa_cons (pe_bltn (v := .ty "int") (u := .type "int") (by rfl) T.m_int (by decide +kernel) rfl) pa_nil))) (pe_one (pe_not (pe_callB (call_isiA (K := K) rfl) (by rfl) T.m_isinstance (by decide +kernel) (pa_cons (pv 0) (pa_cons (pe_bltn (v := .ty "bool") (u := .type "bool") (by rfl) T.m_bool (by decide +kernel) rfl) pa_nil)))))))), ?_⟩
    walk_at "rd"
    have k1 : ∃ r, kitB t "int" = some r ∧ ∃ r2, kitB t "bool" = some r2 ∧ (decide (t = "int")) = (r && !r2) := by
      simp only [kinds, List.mem_cons, List.not_mem_nil, or_false] at ht
      rcases ht with rfl | rfl | rfl | rfl | rfl | rfl | rfl
      · exact ⟨true, by decide +kernel, false, by decide +kernel, by decide +kernel⟩
      · exact ⟨true, by decide +kernel, true, by decide +kernel, by decide +kernel⟩
      · exact ⟨false, by decide +kernel, false, by decide +kernel, by decide +kernel⟩
      · exact ⟨false, by decide +kernel, false, by decide +kernel, by decide +kernel⟩
      · exact ⟨false, by decide +kernel, false, by decide +kernel, by decide +kernel⟩
      · exact ⟨false, by decide +kernel, false, by decide +kernel, by decide +kernel⟩
      · exact ⟨false, by decide +kernel, false, by decide +kernel, by decide +kernel⟩
    obtain ⟨r, e1, r2, e2, e3⟩ := k1
    refine isi hx e1 ?_
    rw [e3] at q
    walk_at "rd"
    cases r with
    | false => exact q
    | true =>
      walk_at "rd"
      refine isi hx e2 ?_
      walk_at "rd"
      exact q
def spFraction (C : Addr) (K : PySem.W.Frag) : Sp := fun vs H Q E => (∃ a b : Int, vs = [.int a, .int b] ∧ b ≠ 0 ∧ Sz 8000 b ∧ RedT a b H Q) ∨
  (∃ (x y : V) (t u : String), vs = [x, y] ∧ TyX K H x (.type t) ∧ TyX K H y (.type u) ∧ t ∈ kinds ∧ u ∈ kinds ∧ (t ≠ "int" ∨ u ≠ "int" ∨ y = .int 0) ∧ E (.ref C) none H)
theorem ok_fraction (T : Top K mg) : FnOk P w K mg base (L2.CX P w) 2 T.f_fraction T.d_fraction ["top", "bottom"] (spFraction T.C_NoNumber K) := by
  refine T.F_fraction.ok sc_fraction (fun vs H Q E h => ?_) (fun cdv A outer s H vs Q E hr h => ?_)
  · rcases h with ⟨a, b, rfl, _⟩ | ⟨a, b, _, _, rfl, _⟩ <;> rfl
  · refine ⟨_, (pss_cons (ps_if (PW.pt (pw_or (pt_not (pt_val (pe_call (ok_is_whole T) (hr.mono (by decide)) rfl T.g_is_whole T.F_is_whole.kp T.b_is_whole .nil pass0 (pa_cons (pv 0) pa_nil)))) (pw_or (pt_not (pt_val (pe_call (ok_is_whole T) (hr.mono (by decide)) rfl T.g_is_whole T.F_is_whole.kp T.b_is_whole .nil pass0 (pa_cons (pv 1) pa_nil)))) (pw_or1 (pt_cmpR op_eq (pv 1) pe_int (nomark _)))))) (pss_one (ps_raise rfl (takes_of rfl rfl rfl rfl) (pmk_own PySem.F.excBase_ValueError T.x_NoNumber T.g_NoNumber T.k_NoNumber (raises_own T.b_NoNumber T.t_NoNumber) rfl))) pss_nil)
      (pss_cons (ps_set (i := 2) sc_fraction.nd rfl (.inl rfl) (pe_call (ok_divisor T) (hr.mono (by decide)) rfl T.g_divisor T.F_divisor.kp T.b_divisor .nil pass0 (pa_cons (pv 0) (pa_cons (pv 1) pa_nil))))
      (pss_cons (ps_if (pt_cmpR op_lt (pv 1) pe_int (nomark _)) (pss_one (ps_set (i := 2) sc_fraction.nd rfl (.inl rfl) (pe_op op_sub pe_int (pv 2)))) pss_nil)
      (pss_one (ps_ret (pe_tupN (pa_cons (pe_op op_fdivZ (pv 0) (pv 2)) (pa_cons (pe_op op_fdivZ (pv 1) (pv 2)) pa_nil)))))))), ?_⟩
    rcases h with ⟨a, b, rfl, hb, hz, q⟩ | ⟨x, y, t, u, rfl, hx, hy, ht, hu, hbad, e⟩
    · refine seq_step ?_
      walk_at "rd"
      refine ⟨_, "int", rfl, .base (.int _), by decide, ?_⟩
      walk_at "rd"
      refine ⟨_, "int", rfl, .base (.int _), by decide, ?_⟩
      walk_at "rd"
      rw [decide_eq_false hb, if_neg Bool.false_ne_true]
      refine seq_step ?_
      walk_at "rd"
      refine ⟨a, b, rfl, ?_⟩
      walk_at "rd"
      have g := gcd_pos_right (a := a) hb
      have gs := gcd_le_size (a := a) hb
      refine seq_step ?_
      walk_at "rd"
      refine ite_d (fun c => ?_) (fun c => ?_)
      · have d : DivOk (0 - ((Int.gcd a b : Nat) : Int)) := .of (by omega) (Sz.le (j := b) (by omega) hz) (by omega)
        exact ⟨d, d, fun p H2 s2 _ e2 => q _ _ p H2 (red_neg c) s2 e2⟩
      · have d : DivOk ((Int.gcd a b : Nat) : Int) := .of (by omega) (Sz.le (by omega) hz) (by omega)
        exact ⟨d, d, fun p H2 s2 _ e2 => q _ _ p H2 ((low_of hb).red (by omega)) s2 e2⟩
    · refine seq_step ?_
      walk_at "rd"
      refine ⟨_, t, rfl, hx, ht, ?_⟩
      walk_at "rd"
      by_cases c : t = "int"
      · rw [decide_eq_true c]
        walk_at "rd"
        refine ⟨_, u, rfl, hy, hu, ?_⟩
        walk_at "rd"
        by_cases c2 : u = "int"
        · rw [decide_eq_true c2]
          walk_at "rd"
          obtain rfl : y = .int 0 := by
            rcases hbad with z | z | z
            · exact absurd c z
            · exact absurd c2 z
            · exact z
          walk_at "rd"
          exact e
        · rw [decide_eq_false c2]
          walk_at "rd"
          exact e
      · rw [decide_eq_false c]
        walk_at "rd"
        exact e
theorem frac_ok {C : Addr} {K : PySem.W.Frag} {a b : Int} {H : Hp} {Q : VK} {E : XK} (hb : b ≠ 0) (hz : Sz 8000 b) (q : RedT a b H Q) : spFraction C K [.int a, .int b] H Q E := .inl ⟨a, b, rfl, hb, hz, q⟩
def spMinus (K : PySem.W.Frag) : Sp := fun vs H Q _ => ∃ (a b c d : Int) (p1 p2 : Addr), vs = [.ref p1, .ref p2] ∧ H p1 = some (.tup [.int a, .int b]) ∧ H p2 = some (.tup [.int c, .int d]) ∧ 0 < b ∧ 0 < d ∧ Sz 3900 a ∧ Sz 3900 b ∧ Sz 3900 c ∧ Sz 3900 d ∧ RedT (a * d - c * b) (b * d) H Q
theorem ok_minus (T : Top K mg) : FnOk P w K mg base CX0 3 T.f_minus T.d_minus ["one", "other"] (spMinus K) := by
  refine T.F_minus.ok sc_minus (fun vs H Q E h => ?_) (fun cdv A outer s H vs Q E hr h => ?_)
  · obtain ⟨a, b, c, d, p1, p2, rfl, _⟩ := h; rfl
  · obtain ⟨a, b, c, d, p1, p2, rfl, h1, h2, hb, hd, sa, sb, sc, sd, q⟩ := h
    refine ⟨_, (pss_one (ps_ret (pe_call (ok_fraction T) (hr.mono (by decide)) rfl T.g_fraction T.F_fraction.kp T.b_fraction .nil passL (pa_cons (pe_op op_sub (pe_op op_mulW (pe_ix (ix_tupA (K := K) rfl) (pv 0) pe_int (fun _ _ => rfl)) (pe_ix (ix_tupA (K := K) rfl) (pv 1) pe_int (fun _ _ => rfl))) (pe_op op_mulW (pe_ix (ix_tupA (K := K) rfl) (pv 1) pe_int (fun _ _ => rfl)) (pe_ix (ix_tupA (K := K) rfl) (pv 0) pe_int (fun _ _ => rfl)))) (pa_cons (pe_op op_mulW (pe_ix (ix_tupA (K := K) rfl) (pv 0) pe_int (fun _ _ => rfl)) (pe_ix (ix_tupA (K := K) rfl) (pv 1) pe_int (fun _ _ => rfl))) pa_nil))))), ?_⟩
    walk_at "ix"
    walk_at "ix"
    walk_at "rd"
    refine ⟨sa.mulW sd (by omega), ?_⟩
    walk_at "ix"
    walk_at "ix"
    walk_at "rd"
    refine ⟨sc.mulW sb (by omega), ?_⟩
    walk_at "ix"
    walk_at "ix"
    walk_at "rd"
    exact ⟨sb.mulW sd (by omega), frac_ok (Int.ne_of_gt (Int.mul_pos hb hd)) (sb.mul sd (by omega)) q⟩
/-- values of a fraction -/
def spPlus (K : PySem.W.Frag) : Sp := fun vs H Q _ => ∃ (a b c d : Int) (p1 p2 : Addr), vs = [.ref p1, .ref p2] ∧ H p1 = some (.tup [.int a, .int b]) ∧ H p2 = some (.tup [.int c, .int d]) ∧ 0 < b ∧ 0 < d ∧ Sz 3900 a ∧ Sz 3900 b ∧ Sz 3900 c ∧ Sz 3900 d ∧ RedT (a * d + c * b) (b * d) H Q
theorem ok_plus (T : Top K mg) : FnOk P w K mg base CX0 3 T.f_plus T.d_plus ["one", "other"] (spPlus K) := by
  refine T.F_plus.ok sc_plus (fun vs H Q E h => ?_) (fun cdv A outer s H vs Q E hr h => ?_)
  · obtain ⟨a, b, c, d, p1, p2, rfl, _⟩ := h; rfl
  · obtain ⟨a, b, c, d, p1, p2, rfl, h1, h2, hb, hd, sa, sb, sc, sd, q⟩ := h
    refine ⟨_, (pss_one (ps_ret (pe_call (ok_fraction T) (hr.mono (by decide)) rfl T.g_fraction T.F_fraction.kp T.b_fraction .nil passL (pa_cons (pe_op op_add (pe_op op_mulW (pe_ix (ix_tupA (K := K) rfl) (pv 0) pe_int (fun _ _ => rfl)) (pe_ix (ix_tupA (K := K) rfl) (pv 1) pe_int (fun _ _ => rfl))) (pe_op op_mulW (pe_ix (ix_tupA (K := K) rfl) (pv 1) pe_int (fun _ _ => rfl)) (pe_ix (ix_tupA (K := K) rfl) (pv 0) pe_int (fun _ _ => rfl)))) (pa_cons (pe_op op_mulW (pe_ix (ix_tupA (K := K) rfl) (pv 0) pe_int (fun _ _ => rfl)) (pe_ix (ix_tupA (K := K) rfl) (pv 1) pe_int (fun _ _ => rfl))) pa_nil))))), ?_⟩
    walk_at "ix"
    walk_at "ix"
    walk_at "rd"
    refine ⟨sa.mulW sd (by omega), ?_⟩
    walk_at "ix"
    walk_at "ix"
    walk_at "rd"
    refine ⟨sc.mulW sb (by omega), ?_⟩
    walk_at "ix"
    walk_at "ix"
    walk_at "rd"
    exact ⟨sb.mulW sd (by omega), frac_ok (Int.ne_of_gt (Int.mul_pos hb hd)) (sb.mul sd (by omega)) q⟩
def spHalf (K : PySem.W.Frag) : Sp := fun vs H Q _ => ∃ (a b : Int) (p1 : Addr), vs = [.ref p1] ∧ H p1 = some (.tup [.int a, .int b]) ∧ 0 < b ∧ Sz 3900 a ∧ Sz 3900 b ∧ RedT a (2 * b) H Q
theorem ok_half (T : Top K mg) : FnOk P w K mg base CX0 3 T.f_half T.d_half ["one"] (spHalf K) := by
  refine T.F_half.ok sc_half (fun vs H Q E h => ?_) (fun cdv A outer s H vs Q E hr h => ?_)
  · obtain ⟨a, b, p1, rfl, _⟩ := h; rfl
  · obtain ⟨a, b, p1, rfl, h1, hb, sa, sb, q⟩ := h
    refine ⟨_, (pss_one (ps_ret (pe_call (ok_fraction T) (hr.mono (by decide)) rfl T.g_fraction T.F_fraction.kp T.b_fraction .nil passL (pa_cons (pe_ix (ix_tupA (K := K) rfl) (pv 0) pe_int (fun _ _ => rfl)) (pa_cons (pe_op op_mulW pe_int (pe_ix (ix_tupA (K := K) rfl) (pv 0) pe_int (fun _ _ => rfl))) pa_nil))))), ?_⟩
    walk_at "ix"
    walk_at "ix"
    walk_at "rd"
    have s2 : Sz 2 2 := by unfold Sz; decide
    exact ⟨s2.mulW sb (by omega), frac_ok (by omega) (s2.mul sb (by omega)) q⟩
def spUnder (K : PySem.W.Frag) : Sp := fun vs H Q _ => ∃ (a b c d : Int) (p1 p2 : Addr), vs = [.ref p1, .ref p2] ∧ H p1 = some (.tup [.int a, .int b]) ∧ H p2 = some (.tup [.int c, .int d]) ∧ Sz 3900 a ∧ Sz 3900 b ∧ Sz 3900 c ∧ Sz 3900 d ∧ Q (.bl (decide (a * d < c * b))) H
theorem ok_under (T : Top K mg) : FnOk P w K mg base CX0 1 T.f_under T.d_under ["one", "other"] (spUnder K) := by
  refine T.F_under.ok sc_under (fun vs H Q E h => ?_) (fun cdv A outer s H vs Q E hr h => ?_)
  · obtain ⟨a, b, c, d, p1, p2, rfl, _⟩ := h; rfl
  · obtain ⟨a, b, c, d, p1, p2, rfl, h1, h2, sa, sb, sc, sd, q⟩ := h
    refine ⟨_, (pss_one (ps_ret (pe_cmpR op_lt (pe_op op_mulW (pe_ix (ix_tupA (K := K) rfl) (pv 0) pe_int (fun _ _ => rfl)) (pe_ix (ix_tupA (K := K) rfl) (pv 1) pe_int (fun _ _ => rfl))) (pe_op op_mulW (pe_ix (ix_tupA (K := K) rfl) (pv 1) pe_int (fun _ _ => rfl)) (pe_ix (ix_tupA (K := K) rfl) (pv 0) pe_int (fun _ _ => rfl))) (nomark _)))), ?_⟩
    walk_at "ix"
    walk_at "ix"
    walk_at "rd"
    refine ⟨sa.mulW sd (by omega), ?_⟩
    walk_at "ix"
    walk_at "ix"
    walk_at "rd"
    exact ⟨sc.mulW sb (by omega), q⟩
def spThrough (K : PySem.W.Frag) : Sp := fun vs H Q _ => ∃ (p : Addr) (as : List Addr) (n : Nat) (M : Mx) (k s : Nat), vs = [.ref p, .int k] ∧ ZAt H p as n M ∧ k < n ∧ n ≤ 60 ∧ SzM s M ∧ s + 2 * n * n ≤ 9000 ∧
  ∀ H', ZAt H' p as n (thr n k M) → (∀ b o, b ∉ as → H b = some o → H' b = some o) → Q .non H'
theorem ok_through (T : Top K mg) : FnOk P w K mg base CX0 2 T.f_through T.d_through ["rows", "k"] (spThrough K) := by
  refine T.F_through.ok sc_through (fun vs H Q E h => ?_) (fun cdv A outer s H vs Q E hr h => ?_)
  · obtain ⟨p, as, n, M, k, s, rfl, _⟩ := h; rfl
  · obtain ⟨p, as, n, M, k, sz, rfl, z, hk, hn, hs, hb, q⟩ := h
    refine ⟨_, (pss_cons (ps_set (i := 2) sc_through.nd rfl (.inl rfl) (pe_ix (ix_listA (K := K) rfl) (pv 0) (pv 1) (fun _ _ => rfl)))
      (pss_one (ps_for PassesOwn.never rfl (pi_listA (K := K) rfl (pv 0)) (pg_name (i := 3) sc_through.nd rfl (.inl rfl)) (pss_one (ps_if (pt_cmpR op_notN (pe_ix (ix_listA (K := K) rfl) (pv 3) (pv 1) (fun _ _ => rfl)) pe_non (nomark _)) (pss_one (ps_for PassesOwn.never rfl (pi_range1 (by rfl) T.m_range (pa_cons (pe_callB call_len_seq (by rfl) T.m_len (by decide +kernel) (pa_cons (pv 2) pa_nil)) pa_nil)) (pg_name (i := 4) sc_through.nd rfl (.inl rfl)) (pss_one (ps_asg (pe_call (ok_narrower T) (hr.mono (by decide)) rfl T.g_narrower T.F_narrower.kp T.b_narrower .nil pass0 (pa_cons (pe_ix (ix_listA (K := K) rfl) (pv 3) (pv 4) (fun _ _ => rfl)) (pa_cons (pe_call (ok_added T) (hr.mono (by decide)) rfl T.g_added T.F_added.kp T.b_added .nil pass0 (pa_cons (pe_ix (ix_listA (K := K) rfl) (pv 3) (pv 1) (fun _ _ => rfl)) (pa_cons (pe_ix (ix_listA (K := K) rfl) (pv 2) (pv 4) (fun _ _ => rfl)) pa_nil))) pa_nil))) (pg_sub (pv 3) (pv 4) set_list))))) pss_nil))))), ?_⟩
    refine seq_step ?_
    walk_at "rd"
    obtain ⟨w, ew, ew2, hw⟩ := z.get hk
    refine ix_l (.of z.top) (by omega) (by rw [Int.toNat_natCast]; exact ew2) ?_
    walk_at "rd"
    refine for_li ?_
    walk_at "rd"
    refine forL_by (xs := as.map V.ref) (fun i σ' H' => ∃ v3 v4, σ' = [some (.ref p), some (.int k), some (.ref w), v3, v4] ∧ ZAt H' p as n (iter (rowst n k) i M) ∧ (∀ b o, b ∉ as → H b = some o → H' b = some o)) ⟨_, _, rfl, z, fun _ _ _ e => e⟩ (fun i σ H' _ ⟨_, _, _, z', _⟩ => .of z'.top) ?_ ?_
    · rintro i x σ' H1 hi ⟨v3, v4, rfl, z1, kp⟩
      have hin : i < n := by
        have := (List.getElem?_eq_some_iff.mp hi).1
        rw [List.length_map, z.len] at this; exact this
      obtain ⟨r, er, er2, hr1⟩ := z1.get hin
      obtain rfl : x = .ref r := Option.some.inj (hi.symm.trans er2)
      have hsi : SzM (sz + 2 * n * i) (iter (rowst n k) i M) := iter_sz (fun _ _ _ h => rowst_sz h) hs i
      have hmul : 2 * n * i + 2 * n ≤ 2 * n * n := by
        rw [← Nat.mul_succ]; exact Nat.mul_le_mul_left _ hin
      generalize hM1 : iter (rowst n k) i M = M1 at *
      have hgoal : iter (rowst n k) (i + 1) M = rowst n k i M1 := by rw [← hM1]; rfl
      rw [hgoal]
      walk_at "rd"
      refine ix_l (.of hr1) (by omega) (by rw [Int.toNat_natCast]; exact zrow_get _ hk) ?_
      walk_at "rd"
      cases hMk : M1 i k with
      | none =>
        rw [show rowst n k i M1 = M1 by unfold rowst; rw [if_pos hMk]]
        simp only [oV_none]
        walk_at "rd"
        exact ⟨z1, kp⟩
      | some d =>
        rw [show rowst n k i M1 = iter (cell1 k i) n M1 by unfold rowst; rw [if_neg (by rw [hMk]; exact fun z => by cases z)]]
        simp only [oV_some]
        walk_at "rd"
        refine for_rg ?_
        walk_at "rd"
        refine ⟨_, .inl (.of (z1.row k w ew)), (rg_ok (by rw [zrow_len]; omega)).1, (rg_ok (by rw [zrow_len]; omega)).2, ?_⟩
        rw [zrow_len, Int.toNat_natCast]
        refine forR_by (fun j σ' H' => ∃ v4, σ' = [some (.ref p), some (.int k), some (.ref w), some (.ref r), v4] ∧ ZAt H' p as n (iter (cell1 k i) j M1) ∧ (∀ b o, b ∉ as → H b = some o → H' b = some o)) ⟨_, rfl, z1, kp⟩ ?_ ?_
        · rintro j σ' H2 hj ⟨v4', rfl, z2, kp2⟩
          have hsj : SzM (sz + 2 * n * i + 2 * j) (iter (cell1 k i) j M1) := iter_sz (fun _ _ _ h => cell1_sz h) hsi j
          generalize hM2 : iter (cell1 k i) j M1 = M2 at *
          have hgoal2 : iter (cell1 k i) (j + 1) M1 = cell1 k i j M2 := by rw [← hM2]; rfl
          rw [hgoal2]
          walk_at "rd"
          refine ix_row (z2.row i r er) hj ?_
          refine ix_row (z2.row i r er) hk ?_
          refine ix_row (z2.row k w ew) hj ?_
          walk_at "rd"
          refine ⟨_, _, rfl, fun a b ea eb => half_sz (hsj _ _ _ ea) (hsj _ _ _ eb) (by omega), ?_⟩
          refine ⟨_, _, rfl, ?_⟩
          walk_at "rd"
          refine set_at (K := K) (z2.row i r er) hj ?_
          walk_at "rd"
          refine ⟨z2.set _ er, fun b o hb e => ?_⟩
          rw [upd_ne (fun z => hb (by rw [z]; exact List.mem_of_getElem? er))]
          exact kp2 b o hb e
        · rintro σ' H2 ⟨v4', rfl, z2, kp2⟩
          exact ⟨_, _, rfl, z2, kp2⟩
    · rintro σ' H1 ⟨v3, v4, rfl, z1, kp⟩
      rw [List.length_map, z.len] at z1
      exact q H1 z1 kp
def spNarrowest (K : PySem.W.Frag) : Sp := fun vs H Q _ => ∃ (p : Addr) (as : List Addr) (n : Nat) (M : Mx) (s : Nat), vs = [.ref p] ∧ ZAt H p as n M ∧ n ≤ 60 ∧ 1 ≤ s ∧ SzM s M ∧ s + 2 * n * n * n ≤ 9000 ∧
  ((∃ i d, i < n ∧ nrw n M i i = some d ∧ d < 1) → ∀ H', Same H H' → Q .non H') ∧
  ((∀ i, i < n → ∃ d, nrw n M i i = some d ∧ 1 ≤ d) → ∀ p' as' H', Same H H' → ZAt H' p' as' n (nrw n M) → H p' = none → (∀ a ∈ as', H a = none) → Q (.ref p') H')
theorem ok_narrowest (T : Top K mg) : FnOk P w K mg base CX0 3 T.f_narrowest T.d_narrowest ["zone"] (spNarrowest K) := by
  refine T.F_narrowest.ok sc_narrowest (fun vs H Q E h => ?_) (fun cdv A outer s H vs Q E hr h => ?_)
  · obtain ⟨p, as, n, M, s, rfl, _⟩ := h; rfl
  · obtain ⟨p, as, n, M, sz, rfl, z, hn, hs1, hs, hb, q1, q2⟩ := h
    refine ⟨_, (pss_cons (lc_vsS (vs := [4]) (ps_setLc (i := 1) (own := [("row", 4)]) (g := gName 4) (tt := tYes) rfl sc_narrowest.nd rfl rfl (sw_true rfl rfl rfl (by decide +kernel)) (pi_listA (K := K) rfl (pv 0)) (blkOk_by (own := [("row", 4)]) (N := ["zone", "rows", "i", "k", "row"]) (sc := defScope s_narrowest) (by decide +kernel)) (fun _ _ _ _ _ => (pg_name (i := 4) sc_narrowest.nd rfl (.inl rfl))) (fun _ _ _ _ _ => pts_nil) (fun _ _ _ _ _ => (pe_callTy (call_listA (K := K) rfl) (by rfl) T.m_list (by decide +kernel) (pa_cons (pv 4) pa_nil)))) rfl)
      (pss_cons (ps_for PassesOwn.never rfl (pi_range1 (by rfl) T.m_range (pa_cons (pe_callB call_len_seq (by rfl) T.m_len (by decide +kernel) (pa_cons (pv 1) pa_nil)) pa_nil)) (pg_name (i := 2) sc_narrowest.nd rfl (.inl rfl)) (pss_cons (ps_asg (pe_call (ok_narrower T) (hr.mono (by decide)) rfl T.g_narrower T.F_narrower.kp T.b_narrower .nil pass0 (pa_cons (pe_ix (ix_listA (K := K) rfl) (pe_ix (ix_listA (K := K) rfl) (pv 1) (pv 2) (fun _ _ => rfl)) (pv 2) (fun _ _ => rfl)) (pa_cons (pe_glob (v := .int 1) rfl T.g_NOUGHT ⟨_, rfl⟩) pa_nil))) (pg_sub (pe_ix (ix_listA (K := K) rfl) (pv 1) (pv 2) (fun _ _ => rfl)) (pv 2) set_list))
      (pss_one (ps_asg (pe_call (ok_narrower T) (hr.mono (by decide)) rfl T.g_narrower T.F_narrower.kp T.b_narrower .nil pass0 (pa_cons (pe_ix (ix_listA (K := K) rfl) (pe_ix (ix_listA (K := K) rfl) (pv 1) pe_int (fun _ _ => rfl)) (pv 2) (fun _ _ => rfl)) (pa_cons (pe_glob (v := .int 1) rfl T.g_NOUGHT ⟨_, rfl⟩) pa_nil))) (pg_sub (pe_ix (ix_listA (K := K) rfl) (pv 1) pe_int (fun _ _ => rfl)) (pv 2) set_list)))))
      (pss_cons (ps_for PassesOwn.never rfl (pi_range1 (by rfl) T.m_range (pa_cons (pe_callB call_len_seq (by rfl) T.m_len (by decide +kernel) (pa_cons (pv 1) pa_nil)) pa_nil)) (pg_name (i := 3) sc_narrowest.nd rfl (.inl rfl)) (pss_one (ps_expr (pe_call (ok_through T) (hr.mono (by decide)) rfl T.g_through T.F_through.kp T.b_through .nil pass0 (pa_cons (pv 1) (pa_cons (pv 3) pa_nil))))))
      (pss_cons (ps_for PassesOwn.never rfl (pi_range1 (by rfl) T.m_range (pa_cons (pe_callB call_len_seq (by rfl) T.m_len (by decide +kernel) (pa_cons (pv 1) pa_nil)) pa_nil)) (pg_name (i := 2) sc_narrowest.nd rfl (.inl rfl)) (pss_one (ps_if (pt_cmpR op_lt (pe_ix (ix_listA (K := K) rfl) (pe_ix (ix_listA (K := K) rfl) (pv 1) (pv 2) (fun _ _ => rfl)) (pv 2) (fun _ _ => rfl)) (pe_glob (v := .int 1) rfl T.g_NOUGHT ⟨_, rfl⟩) (nomark _)) (pss_one (ps_ret pe_non)) pss_nil)))
      (pss_one (ps_ret (pv 1))))))), ?_⟩
    refine seq_step ?_
    walk_at "rd"
    refine lc_copy z hn rfl (by simp) fun D as' H1 s1 z1 fD fa => ?_
    refine seq_step ?_
    refine for_rg ?_
    walk_at "rd"
    refine ⟨_, .inl (.of z1.top), ?_⟩
    rw [List.length_map, z1.len]
    refine ⟨(rg_ok (by omega)).1, (rg_ok (by omega)).2, ?_⟩
    rw [Int.toNat_natCast]
    refine forR_by (fun i σ' H' => ∃ v2, σ' = [some (.ref p), some (.ref D), v2, none, none] ∧ ZAt H' D as' n (iter diag1 i M) ∧ Same H H') ⟨_, rfl, z1, s1⟩ ?_ ?_
    · rintro i σ' H2 hi ⟨v2, rfl, z2, s2⟩
      generalize hM2 : iter diag1 i M = M2 at *
      rw [show iter diag1 (i + 1) M = diag1 i M2 by rw [← hM2]; rfl]
      walk_at "rd"
      refine seq_step ?_
      walk_at "rd"
      refine ix_top z2 hi fun r er hr1 => ?_
      refine ix_row hr1 hi ?_
      walk_at "rd"
      refine ⟨_, some 1, rfl, ?_⟩
      refine ix_top z2 hi fun r' er' hr1' => ?_
      obtain rfl : r = r' := Option.some.inj (er.symm.trans er')
      walk_at "rd"
      refine set_at (K := K) hr1 hi ?_
      have z3 := z2.set (j := i) (narO (M2 i i) (some 1)) er
      have s3 : Same H (upd H2 r (.lst ((zrow n (M2 i)).set i (oV (narO (M2 i i) (some 1)))))) := same_updN (fa r (List.mem_of_getElem? er)) s2
      generalize upd H2 r (.lst ((zrow n (M2 i)).set i (oV (narO (M2 i i) (some 1))))) = H3 at *
      unfold diag1
      generalize up2 M2 i i (narO (M2 i i) (some 1)) = M3 at *
      have h0 : 0 < n := by omega
      walk_at "rd"
      refine ix_top (i := 0) z3 h0 fun r0 er0 hr0 => ?_
      refine ix_row hr0 hi ?_
      walk_at "rd"
      refine ⟨_, some 1, rfl, ?_⟩
      refine ix_top (i := 0) z3 h0 fun r' er' hr1' => ?_
      obtain rfl : r0 = r' := Option.some.inj (er0.symm.trans er')
      walk_at "rd"
      refine set_at (K := K) hr0 hi ?_
      exact ⟨z3.set (j := i) _ er0, same_updN (fa r0 (List.mem_of_getElem? er0)) s3⟩
    · rintro σ' H2 ⟨v2, rfl, z2, s2⟩
      refine seq_step ?_
      walk_at "rd"
      refine for_rg ?_
      walk_at "rd"
      refine ⟨_, .inl (.of z2.top), ?_⟩
      rw [List.length_map, z2.len]
      refine ⟨(rg_ok (by omega)).1, (rg_ok (by omega)).2, ?_⟩
      rw [Int.toNat_natCast]
      refine forR_by (fun i σ' H' => ∃ v3, σ' = [some (.ref p), some (.ref D), v2, v3, none] ∧ ZAt H' D as' n (iter (thr n) i (iter diag1 n M)) ∧ Same H H') ⟨_, rfl, z2, s2⟩ ?_ ?_
      · rintro k σ' H3 hk ⟨v3, rfl, z3, s3⟩
        have hsk := nrw_sz (n := n) (m := k) hs1 hs
        have hmul : 2 * n * n * k + 2 * n * n ≤ 2 * n * n * n := by
          rw [← Nat.mul_succ]; exact Nat.mul_le_mul_left _ hk
        walk_at "rd"
        refine ⟨D, as', n, _, k, _, rfl, z3, hk, hn, hsk, by omega, fun H4 z4 kp => ?_⟩
        walk_at "rd"
        exact ⟨z4, fun b o e => kp b o (fun hb => by rw [fa b hb] at e; cases e) (s3 b o e)⟩
      · rintro σ' H3 ⟨v3, rfl, z3, s3⟩
        have zN : ZAt H3 D as' n (nrw n M) := z3
        refine seq_step ?_
        walk_at "rd"
        refine for_rg ?_
        walk_at "rd"
        refine ⟨_, .inl (.of zN.top), ?_⟩
        rw [List.length_map, zN.len]
        refine ⟨(rg_ok (by omega)).1, (rg_ok (by omega)).2, ?_⟩
        rw [Int.toNat_natCast]
        refine forR_by (fun i σ' H' => ∃ v2, σ' = [some (.ref p), some (.ref D), v2, v3, none] ∧ H' = H3 ∧ ∀ j, j < i → ∃ d, nrw n M j j = some d ∧ 1 ≤ d) ⟨_, rfl, rfl, fun j h => by omega⟩ ?_ ?_
        · rintro i σ' H4 hi ⟨v2', rfl, rfl, hd⟩
          walk_at "rd"
          refine ix_top zN hi fun r er hr1 => ?_
          refine ix_row hr1 hi ?_
          obtain ⟨d, ed⟩ := has_nrw (M := M) hi
          rw [ed]
          simp only [oV_some]
          walk_at "rd"
          refine ite_d (fun c => q1 ⟨i, d, hi, ed, c⟩ _ s3) (fun c j hj => ?_)
          by_cases cj : j = i
          · subst cj; exact ⟨d, ed, by omega⟩
          · exact hd j (by omega)
        · rintro σ' H4 ⟨v2', rfl, rfl, hd⟩
          walk_at "rd"
          exact q2 hd D as' _ s3 zN fD fa
def lies_inI1 (Hb : Hp) (pz pvl pp : Addr) (vals : List (Int × Int)) (n : Nat) (M : Mx) (i : Nat) (σ' : L2.St) (H' : Hp) : Prop := ∃ (v3 v4 : Option V), σ' = [some (.ref pz), some (.ref pvl), some (.ref pp), v3, v4] ∧ Same Hb H' ∧ ∀ a b, a < i → b < n → letsO (M a b) (dif (plc vals a) (plc vals b)).1 (dif (plc vals a) (plc vals b)).2 = true
def lies_inI2 (Hb : Hp) (pz pvl pp : Addr) (vals : List (Int × Int)) (n : Nat) (M : Mx) (i j : Nat) (σ' : L2.St) (H' : Hp) : Prop := ∃ (v4 : Option V), σ' = [some (.ref pz), some (.ref pvl), some (.ref pp), some (.int i), v4] ∧ Same Hb H' ∧ ∀ b, b < j → letsO (M i b) (dif (plc vals i) (plc vals b)).1 (dif (plc vals i) (plc vals b)).2 = true
def splies_in (K : PySem.W.Frag) : Sp := fun vs H Q _ => ∃ (pz pvl : Addr) (as : List Addr) (n : Nat) (M : Mx) (vals : List (Int × Int)), vs = [.ref pz, .ref pvl] ∧ ZAt H pz as n M ∧ VAt H pvl vals ∧ GoodV 400 vals ∧ vals.length + 1 = n ∧ n ≤ 8 ∧ SzM 9000 M ∧
  ∀ (r : Bool) (H' : Hp), Same H H' → (r = true ↔ Lies n M (plc vals)) → Q (.bl r) H'
theorem ok_lies_in (T : Top K mg) : FnOk P w K mg base CX0 4 T.f_lies_in T.d_lies_in ["zone", "values"] (splies_in K) := by
  refine T.F_lies_in.ok sc_lies_in (fun vs H Q E h => ?_) (fun cdv A outer s H vs Q E hr h => ?_)
  · obtain ⟨pz, pvl, as, n, M, vals, rfl, _⟩ := h; rfl
  · obtain ⟨pz, pvl, as, n, M, vals, rfl, z, hv, gv, hN, hn, sM, q⟩ := h
    refine ⟨_, (pss_cons (ps_set (i := 2) sc_lies_in.nd rfl (.inl rfl) (pe_op op_catN (pe_lstN (pa_cons (pe_tupN (pa_cons pe_int (pa_cons pe_int pa_nil))) pa_nil)) (pv 1)))
      (pss_cons (ps_for PassesOwn.never rfl (pi_range1 (by rfl) T.m_range (pa_cons (pe_callB call_len_seq (by rfl) T.m_len (by decide +kernel) (pa_cons (pv 2) pa_nil)) pa_nil)) (pg_name (i := 3) sc_lies_in.nd rfl (.inl rfl)) (pss_one (ps_for PassesOwn.never rfl (pi_range1 (by rfl) T.m_range (pa_cons (pe_callB call_len_seq (by rfl) T.m_len (by decide +kernel) (pa_cons (pv 2) pa_nil)) pa_nil)) (pg_name (i := 4) sc_lies_in.nd rfl (.inl rfl)) (pss_one (ps_if (pt_not (pt_val (pe_call (ok_lets T) (hr.mono (by decide)) rfl T.g_lets T.F_lets.kp T.b_lets .nil pass0 (pa_cons (pe_ix (ix_listA (K := K) rfl) (pe_ix (ix_listA (K := K) rfl) (pv 0) (pv 3) (fun _ _ => rfl)) (pv 4) (fun _ _ => rfl)) (pa_cons (pe_call (ok_minus T) (hr.mono (by decide)) rfl T.g_minus T.F_minus.kp T.b_minus .nil pass0 (pa_cons (pe_ix (ix_listA (K := K) rfl) (pv 2) (pv 3) (fun _ _ => rfl)) (pa_cons (pe_ix (ix_listA (K := K) rfl) (pv 2) (pv 4) (fun _ _ => rfl)) pa_nil))) pa_nil))))) (pss_one (ps_ret pe_bl)) pss_nil)))))
      (pss_one (ps_ret pe_bl)))), ?_⟩
    refine seq_step ?_
    walk_at "rd"
    intro q0 H1 s1 _ e1 p1 H2 s2 _ e2
    obtain ⟨qs, hv1, hv2, hv3⟩ := hv.keep (s1.trans s2)
    have hlq : qs.length ≤ 8 := by omega
    refine ⟨_, e2, _, hv1, Nat.le_of_lt (small1000 (by simp; omega)), fun pp H3 s3 _ e3 => ?_⟩
    have sHb : Same H H3 := s1.trans (s2.trans s3)
    have vp : VAt H3 pp ((0, 1) :: vals) := ⟨q0 :: qs, e3, by simp [hv2], fun i q' x h1 h2 => by
      cases i with
      | zero =>
        cases h1; cases h2
        exact s3 _ _ (s2 _ _ e1)
      | succ i => exact s3 _ _ (hv3 i q' x h1 h2)⟩
    obtain ⟨qs', ep1, ep2, _⟩ := id vp
    refine seq_step ?_
    refine for_rg ?_
    walk_at "rd"
    have hn' : (qs'.map V.ref).length = n := by rw [List.length_map, ep2]; exact hN
    refine ⟨_, .inl (.of ep1), (rg_ok (by omega)).1, (rg_ok (by omega)).2, ?_⟩
    rw [hn', Int.toNat_natCast]
    refine forR_by (lies_inI1 H3 pz pvl pp vals n M) ⟨_, _, rfl, Same.refl _, fun a b h => by omega⟩ ?_ ?_
    · rintro i σ' H5 hi ⟨v3, v4, rfl, s5, hl⟩
      walk_at "rd"
      refine for_rg ?_
      walk_at "rd"
      refine ⟨_, .inl (.of (s5 _ _ ep1)), (rg_ok (by omega)).1, (rg_ok (by omega)).2, ?_⟩
      rw [hn', Int.toNat_natCast]
      refine forR_by (lies_inI2 H3 pz pvl pp vals n M i) ⟨_, rfl, s5, fun b h => by omega⟩ ?_ ?_
      · rintro j σ' H7 hj ⟨v4', rfl, s7, hlf⟩
        walk_at "rd"
        have gi := plc_good gv (by decide) i
        have gj := plc_good gv (by decide) j
        have dp := dif_pos gi.2.1 gj.2.1
        refine ix_top (z.keep (sHb.trans s7)) hi fun r er hr1 => ?_
        refine ix_row hr1 hj ?_
        refine (vp.keep s7).get (plc_get (by omega)) fun a1 ha1 => ?_
        refine (vp.keep s7).get (plc_get (by omega)) fun a2 ha2 => ?_
        refine ⟨_, _, _, _, a1, a2, rfl, ha1, ha2, gi.2.1, gj.2.1, gi.2.2.1.mono (by omega), gi.2.2.2.mono (by omega), gj.2.2.1.mono (by omega), gj.2.2.2.mono (by omega), fun t u p8 H8 R s8 e8 => ?_⟩
        walk_at "rd"
        have ratio : letsO (M i j) t u = letsO (M i j) (dif (plc vals i) (plc vals j)).1 (dif (plc vals i) (plc vals j)).2 := letsO_ratio R.pos dp R.eq
        refine ⟨_, t, u, p8, rfl, e8, (fun b e => half1 (sM i j b e)), Sz.le R.ule ((gi.2.2.2.mul gj.2.2.2 (Nat.le_refl _)).mono (by omega)), ?_⟩
        rw [ratio]
        walk_at "rd"
        have s48 : Same H3 H8 := s7.trans s8
        cases hres : letsO (M i j) (dif (plc vals i) (plc vals j)).1 (dif (plc vals i) (plc vals j)).2 with
        | false =>
          walk_at "rd"
          exact q false _ (sHb.trans s48) ⟨(fun h => by cases h), (fun h => by rw [h i j hi hj] at hres; cases hres)⟩
        | true =>
          walk_at "rd"
          refine ⟨_, rfl, s48, fun b hb => ?_⟩
          by_cases c : b = j
          · subst c; exact hres
          · exact hlf b (by omega)
      · rintro σ' H7 ⟨v4', rfl, s7, hlf⟩
        refine ⟨_, _, rfl, s7, fun a b ha hb => ?_⟩
        by_cases c : a = i
        · subst c; exact hlf b hb
        · exact hl a b (by omega) hb
    · rintro σ' H5 ⟨v3, v4, rfl, s5, hl⟩
      walk_at "rd"
      exact q true _ (sHb.trans s5) ⟨fun _ a b ha hb => hl a b ha hb, fun _ => rfl⟩
def spCopied (K : PySem.W.Frag) : Sp := fun vs H Q _ => ∃ (p : Addr) (as : List Addr) (n : Nat) (M : Mx), vs = [.ref p] ∧ ZAt H p as n M ∧ n ≤ 60 ∧ ∀ D as' H', Same H H' → ZAt H' D as' n M → H D = none → (∀ a ∈ as', H a = none) → Q (.ref D) H'
theorem ok_copied (T : Top K mg) : FnOk P w K mg base CX0 1 T.f_copied T.d_copied ["zone"] (spCopied K) := by
  refine T.F_copied.ok sc_copied (fun vs H Q E h => ?_) (fun cdv A outer s H vs Q E hr h => ?_)
  · obtain ⟨p, as, n, M, rfl, _⟩ := h; rfl
  · obtain ⟨p, as, n, M, rfl, z, hn, q⟩ := h
    refine ⟨_, (pss_one (ps_ret (lc_vs (vs := [1]) (pe_lc (own := [("row", 1)]) (g := gName 1) (tt := tYes) rfl sc_copied.nd (pi_listA (K := K) rfl (pv 0)) (blkOk_by (own := [("row", 1)]) (N := ["zone", "row"]) (sc := defScope s_copied) (by decide +kernel)) (fun _ _ _ _ _ => (pg_name (i := 1) sc_copied.nd rfl (.inl rfl))) (fun _ _ _ _ _ => pts_nil) (fun _ _ _ _ _ => (pe_callTy (call_listA (K := K) rfl) (by rfl) T.m_list (by decide +kernel) (pa_cons (pv 1) pa_nil)))) rfl))), ?_⟩
    walk_at "rd"
    exact lc_copy z hn rfl (by simp) q
/-- the greater one -/
def spGreater (K : PySem.W.Frag) : Sp := fun vs H Q _ => ∃ (a b : Int × Int) (p1 p2 : Addr), vs = [.ref p1, .ref p2] ∧ H p1 = some (.tup [.int a.1, .int a.2]) ∧ H p2 = some (.tup [.int b.1, .int b.2]) ∧ Sz 3900 a.1 ∧ Sz 3900 a.2 ∧ Sz 3900 b.1 ∧ Sz 3900 b.2 ∧
  (a.1 * b.2 < b.1 * a.2 → Q (.ref p2) H) ∧ (¬ a.1 * b.2 < b.1 * a.2 → Q (.ref p1) H)
theorem ok_greater (T : Top K mg) : FnOk P w K mg base CX0 2 T.f_greater T.d_greater ["one", "other"] (spGreater K) := by
  refine T.F_greater.ok sc_greater (fun vs H Q E h => ?_) (fun cdv A outer s H vs Q E hr h => ?_)
  · obtain ⟨a, b, p1, p2, rfl, _⟩ := h; rfl
  · obtain ⟨a, b, p1, p2, rfl, h1, h2, s1, s2, s3, s4, q1, q2⟩ := h
    refine ⟨_, (pss_cons (ps_if (pt_val (pe_call (ok_under T) (hr.mono (by decide)) rfl T.g_under T.F_under.kp T.b_under .nil pass0 (pa_cons (pv 0) (pa_cons (pv 1) pa_nil)))) (pss_one (ps_ret (pv 1))) pss_nil)
      (pss_one (ps_ret (pv 0)))), ?_⟩
    refine seq_step ?_
    walk_at "rd"
    refine ⟨_, _, _, _, p1, p2, rfl, h1, h2, s1, s2, s3, s4, ?_⟩
    walk_at "rd"
    refine ite_d (fun c => ?_) (fun c => ?_)
    · exact q1 c
    · walk_at "rd"
      exact q2 c
/-- what dicts hold, as rational numbers -/
def fR (F : Nat → Option (Int × Int)) : Nat → Option Rat := fun j => (F j).map rq
/-- the lowest by the first i pairs -/
structure LowI (N : Mx) (kvs : List (Key × V)) (F : Nat → Option (Int × Int)) (k i : Nat) (low : Rat) (n : Nat) : Prop where
  nn : 0 ≤ low
  all : ∀ (a j : Nat) v x b, a < i → kvs[a]? = some (.inl (j : Int), v) → F j = some x → N j k = some b → rq x - ((b / 2 : Int) : Rat) ≤ low
  one : low = 0 ∨ ∃ (j : Nat) (x : Int × Int) (b : Int), j < n ∧ F j = some x ∧ N j k = some b ∧ low = rq x - ((b / 2 : Int) : Rat)
def LwInv (Hl : Hp) (pz pd : Addr) (kvs : List (Key × V)) (n : Nat) (N : Mx) (F : Nat → Option (Int × Int)) (k e : Nat) (Dn : Int) (i : Nat) (σ' : L2.St) (H' : Hp) : Prop := ∃ (pf : Addr) (x : Int × Int) (v4 v5 : Option V), σ' = [some (.ref pz), some (.ref pd), some (.int k), some (.ref pf), v4, v5] ∧ Same Hl H' ∧ H' pf = some (.tup [.int x.1, .int x.2]) ∧ Fin Dn (e + 1) x ∧ LowI N kvs F k i (rq x) n
def spLowestF (K : PySem.W.Frag) : Sp := fun vs H Q _ => ∃ (pz pd : Addr) (az : List Addr) (n : Nat) (N : Mx) (F : Nat → Option (Int × Int)) (kvs : List (Key × V)) (k e d : Nat) (Dn : Int), vs = [.ref pz, .ref pd, .int k] ∧ ZAt H pz az n N ∧ DAt H pd n F kvs ∧ GoodE Dn e F ∧ SzM e N ∧ 0 < Dn ∧ Sz d Dn ∧ k < n ∧ e + d + 2 ≤ 3900 ∧
  ∀ (p : Addr) (x : Int × Int) (H' : Hp), Same H H' → H' p = some (.tup [.int x.1, .int x.2]) → Fin Dn (e + 1) x → IsLow n N (fR F) k (rq x) → Q (.ref p) H'
theorem ok_lowest (T : Top K mg) : FnOk P w K mg base CX0 4 T.f_lowest T.d_lowest ["zone", "values", "k"] (spLowestF K) := by
  refine T.F_lowest.ok sc_lowest (fun vs H Q E h => ?_) (fun cdv A outer s H vs Q E hr h => ?_)
  · obtain ⟨pz, pd, az, n, N, F, kvs, k, e, d, Dn, rfl, _⟩ := h; rfl
  · obtain ⟨pz, pd, az, n, N, F, kvs, k, ee, d, Dn, rfl, z, D, gF, sN, hD, sD, hk, hst, q⟩ := h
    refine ⟨_, (pss_cons (ps_set (i := 3) sc_lowest.nd rfl (.inl rfl) (pe_tupN (pa_cons pe_int (pa_cons pe_int pa_nil))))
      (pss_cons (ps_lock (ps_for PassesOwn.never rfl (pi_items (pv 1)) (pg_tup (by rfl) (pgs_cons (pg_name (i := 4) sc_lowest.nd rfl (.inl rfl)) (pgs_cons (pg_name (i := 5) sc_lowest.nd rfl (.inl rfl)) pgs_nil))) (pss_one (ps_if (pt_cmpR op_notN (pe_ix (ix_listA (K := K) rfl) (pe_ix (ix_listA (K := K) rfl) (pv 0) (pv 4) (fun _ _ => rfl)) (pv 2) (fun _ _ => rfl)) pe_non (nomark _)) (pss_one (ps_set (i := 3) sc_lowest.nd rfl (.inl rfl) (pe_call (ok_greater T) (hr.mono (by decide)) rfl T.g_greater T.F_greater.kp T.b_greater .nil pass0 (pa_cons (pv 3) (pa_cons (pe_call (ok_minus T) (hr.mono (by decide)) rfl T.g_minus T.F_minus.kp T.b_minus .nil pass0 (pa_cons (pv 5) (pa_cons (pe_call (ok_fraction T) (hr.mono (by decide)) rfl T.g_fraction T.F_fraction.kp T.bd_fraction T.v_fraction passL (pa_cons (pe_call (ok_number_of T) (hr.mono (by decide)) rfl T.g_number_of T.F_number_of.kp T.b_number_of .nil pass0 (pa_cons (pe_ix (ix_listA (K := K) rfl) (pe_ix (ix_listA (K := K) rfl) (pv 0) (pv 4) (fun _ _ => rfl)) (pv 2) (fun _ _ => rfl)) pa_nil)) pa_nil)) pa_nil))) pa_nil))))) pss_nil))))
      (pss_one (ps_ret (pv 3))))), ?_⟩
    refine seq_step ?_
    walk_at "rd"
    intro p1 H1 s1 _ e1
    refine seq_step ?_
    have D1 := D.keep s1
    have z1 := z.keep s1
    refine for_items rfl D1.here fun od => ?_
    have ne : ∀ b o, H1 b = some o → (∀ kvs, o ≠ .dK kvs) → (upd H1 pd (.frz od (.dK kvs))) b = some o := fun b o e h => by
      rw [upd_ne (ne_of e D1.here (h kvs))]; exact e
    have zl : ZAt (upd H1 pd (.frz od (.dK kvs))) pz az n N := ⟨ne _ _ z1.top (fun _ z => by cases z), z1.len, fun i a e => ne _ _ (z1.row i a e) (fun _ z => by cases z), z1.nd⟩
    have hh : upd H1 pd (.frz od (.dK kvs)) pd = some (.frz od (.dK kvs)) := upd_same
    have ul : ∀ H', Same (upd H1 pd (.frz od (.dK kvs))) H' → Same H1 (upd H' pd (.dK kvs)) := fun H' s => unlock_same D1.here s
    have el := ne _ _ e1 (fun _ z => by cases z)
    have ml : ∀ k v, (k, v) ∈ kvs → ∃ (j : Nat) (x : Int × Int) (q : Addr), j < n ∧ k = .inl (j : Int) ∧ v = .ref q ∧ F j = some x ∧ upd H1 pd (.frz od (.dK kvs)) q = some (.tup [.int x.1, .int x.2]) := fun k v h => by
      obtain ⟨j, x, q, a, b, c, e, f⟩ := D1.mem k v h
      exact ⟨j, x, q, a, b, c, e, ne _ _ f (fun _ z => by cases z)⟩
    generalize upd H1 pd (.frz od (.dK kvs)) = Hl at *
    refine forD_by (LwInv Hl pz pd kvs n N F k ee Dn) ⟨p1, (0, 1), _, _, rfl, Same.refl _, el, ⟨by decide, Int.one_dvd _, by simp; exact Int.le_of_lt (pow_pos2 _), by simp; exact Int.le_of_lt (pow_pos2 _)⟩, by rw [rq0]; grind, fun a j v x b h => by omega, .inl rq0⟩ (fun i σ H' ⟨_, _, _, _, _, s, _⟩ => s _ _ hh) ?_ ?_
    · rintro i key v t0 σ' H2 H3 hi ⟨pf, x, v4, v5, rfl, s2, ef, fx0, L⟩ s3 et
      obtain ⟨j, y, qy, hj, rfl, rfl, fy, ey⟩ := ml key v (List.mem_of_getElem? hi)
      have s23 := s2.trans s3
      refine gTup_of (sqt et) rfl ?_
      walk_at "rd"
      refine ix_top (zl.keep s23) hj fun r er hr1 => ?_
      refine ix_row hr1 hk ?_
      have old : ∀ z : Int × Int, rq x ≤ rq z → (∀ b, N j k = some b → rq y - ((b / 2 : Int) : Rat) ≤ rq z) → (rq z = rq x ∨ ∃ b, N j k = some b ∧ rq z = rq y - ((b / 2 : Int) : Rat)) → LowI N kvs F k (i + 1) (rq z) n := fun z h1 h2 h3 => by
        have := L.nn
        refine ⟨by grind, fun a j' v x' b ha hk' fx hb => ?_, ?_⟩
        · by_cases c : a = i
          · subst c
            rw [hi] at hk'
            cases hk'
            rw [fy] at fx; cases fx
            exact h2 b hb
          · have := L.all a j' v x' b (by omega) hk' fx hb
            grind
        · rcases h3 with h3 | ⟨b, hb, e⟩
          · rw [h3]; exact L.one
          · exact .inr ⟨j, y, b, hj, fy, hb, e⟩
      cases hN : N j k with
      | none =>
        simp only [oV_none]
        walk_at "rd"
        exact ⟨pf, x, _, _, rfl, s23, s3 _ _ ef, fx0, old x (by grind) (fun b h => by rw [hN] at h; cases h) (.inl rfl)⟩
      | some b =>
      simp only [oV_some]
      walk_at "rd"
      refine ix_top (zl.keep s23) hj fun r2 er2 hr2 => ?_
      refine ix_row hr2 hk ?_
      rw [hN]
      simp only [oV_some]
      refine ⟨b, rfl, ?_⟩
      refine frac_ok (by decide) (by unfold Sz; decide) fun t1 u1 q1 H4 R1 s4 e4 => ?_
      have gy := gF j y fy
      have fy2 := gy.2.2
      have px := fx0.pos
      have szy := fy2.sz hD sD
      have szx := fx0.sz hD sD
      have sb : Sz ee b := sN j k b hN
      have hu1 : u1 = 1 := by
        have := R1.ule; have := R1.pos; omega
      subst hu1
      have ht1 : t1 = b / 2 := by have := R1.eq; omega
      subst ht1
      have sb2 : Sz ee (b / 2) := Sz.le (by omega) sb
      have one3 : Sz 3900 1 := by unfold Sz; exact Nat.one_lt_two_pow (by decide)
      have ey4 := (s23.trans s4) _ _ ey
      refine ⟨y.1, y.2, b / 2, 1, qy, q1, rfl, ey4, e4, fy2.pos, by decide, szy.1.mono (by omega), szy.2.mono (by omega), sb2.mono (by omega), one3, fun t2 u2 q2 H5 R2 s5 e5 => ?_⟩
      have p2 : 0 < y.2 * 1 := by have := fy2.pos; omega
      have rz : rq (t2, u2) = rq y - ((b / 2 : Int) : Rat) := by
        have h1 := rq_red p2 R2
        have h2 : rq (y.1 * 1 - b / 2 * y.2, y.2 * 1) = rq y - rq (b / 2, 1) := rq_dif (x := y) (y := (b / 2, 1)) fy2.pos (show (0 : Int) < 1 by decide)
        rw [h1, h2, rqn]
      have f2 : Fin Dn (ee + 1) (t2, u2) := fin_minus fy2 sb2 R2
      have sz2 := f2.sz hD sD
      have s35 := s4.trans s5
      refine ⟨x, (t2, u2), pf, q2, rfl, s35 _ _ (s3 _ _ ef), e5, szx.1.mono (by omega), szx.2.mono (by omega), sz2.1.mono (by omega), sz2.2.mono (by omega), fun c => ?_, fun c => ?_⟩
      · have c := (rq_cross px R2.pos).mpr c
        refine ⟨q2, (t2, u2), _, _, rfl, s23.trans s35, e5, f2, old (t2, u2) (by grind) (fun b' h => ?_) (.inr ⟨b, hN, rz⟩)⟩
        rw [hN] at h; cases h
        rw [rz]; grind
      · have c : ¬ rq x < rq (t2, u2) := fun z => c ((rq_cross px R2.pos).mp z)
        refine ⟨pf, x, _, _, rfl, s23.trans s35, s35 _ _ (s3 _ _ ef), fx0, old x (by grind) (fun b' h => ?_) (.inl rfl)⟩
        rw [hN] at h; cases h
        rw [← rz]; grind
    · rintro σ' H2 ⟨pf, x, v4, v5, rfl, s2, ef, fx0, L⟩
      refine ⟨s2 _ _ hh, ?_⟩
      walk_at "rd"
      have s4 := s1.trans (ul _ s2)
      refine q pf x _ s4 ?_ fx0 ⟨L.nn, fun j r b hj fr hb => ?_, ?_⟩
      · rw [upd_ne (ne_of ef (s2 _ _ hh) (by intro z; cases z))]; exact ef
      · obtain ⟨y, fy, rfl⟩ := Option.map_eq_some_iff.mp fr
        obtain ⟨v, hv⟩ := D.cov j y fy
        obtain ⟨a, ha⟩ := List.getElem?_of_mem hv
        exact L.all a j v y b (List.getElem?_eq_some_iff.mp ha).1 ha fy hb
      · rcases L.one with h | ⟨j, y, b, hj, fy, hb, e⟩
        · exact .inl h
        · exact .inr ⟨j, rq y, b, hj, by unfold fR; rw [fy]; rfl, hb, e⟩
def foV : Option (Addr × Int × Int) → V
  | none => .non
  | some p => .ref p.1
def HighI (N : Mx) (kvs : List (Key × V)) (F : Nat → Option (Int × Int)) (k i n : Nat) : Option (Addr × Int × Int) → Prop
  | none => ∀ (a j : Nat) v, a < i → kvs[a]? = some (.inl (j : Int), v) → N k j = none
  | some p => (∀ (a j : Nat) v x b, a < i → kvs[a]? = some (.inl (j : Int), v) → F j = some x → N k j = some b → rq p.2 ≤ rq x + ((b / 2 : Int) : Rat)) ∧ ∃ (j : Nat) (x : Int × Int) (b : Int), j < n ∧ F j = some x ∧ N k j = some b ∧ rq p.2 = rq x + ((b / 2 : Int) : Rat)
def FoOk (H : Hp) (e : Nat) (Dn : Int) (fo : Option (Addr × Int × Int)) : Prop := ∀ p, fo = some p → H p.1 = some (.tup [.int p.2.1, .int p.2.2]) ∧ Fin Dn (e + 1) p.2
theorem FoOk.keep {H H' : Hp} {e : Nat} {Dn : Int} {fo : Option (Addr × Int × Int)} (h : FoOk H e Dn fo) (k : Same H H') : FoOk H' e Dn fo := fun p e => ⟨k _ _ (h p e).1, (h p e).2⟩
def HiInv (Hl : Hp) (pz pd : Addr) (kvs : List (Key × V)) (n : Nat) (N : Mx) (F : Nat → Option (Int × Int)) (k e : Nat) (Dn : Int) (i : Nat) (σ' : L2.St) (H' : Hp) : Prop := ∃ (fo : Option (Addr × Int × Int)) (v4 v5 v6 : Option V), σ' = [some (.ref pz), some (.ref pd), some (.int k), some (foV fo), v4, v5, v6] ∧ Same Hl H' ∧ FoOk H' e Dn fo ∧ HighI N kvs F k i n fo
def spHighestF (K : PySem.W.Frag) : Sp := fun vs H Q _ => ∃ (pz pd : Addr) (az : List Addr) (n : Nat) (N : Mx) (F : Nat → Option (Int × Int)) (kvs : List (Key × V)) (k e d : Nat) (Dn : Int), vs = [.ref pz, .ref pd, .int k] ∧ ZAt H pz az n N ∧ DAt H pd n F kvs ∧ GoodE Dn e F ∧ SzM e N ∧ 0 < Dn ∧ Sz d Dn ∧ k < n ∧ e + d + 2 ≤ 3900 ∧
  ∀ (fo : Option (Addr × Int × Int)) (H' : Hp), Same H H' → FoOk H' e Dn fo → IsHigh n N (fR F) k (fo.map fun p => rq p.2) → Q (foV fo) H'
theorem ok_highest (T : Top K mg) : FnOk P w K mg base CX0 4 T.f_highest T.d_highest ["zone", "values", "k"] (spHighestF K) := by
  refine T.F_highest.ok sc_highest (fun vs H Q E h => ?_) (fun cdv A outer s H vs Q E hr h => ?_)
  · obtain ⟨pz, pd, az, n, N, F, kvs, k, e, d, Dn, rfl, _⟩ := h; rfl
  · obtain ⟨pz, pd, az, n, N, F, kvs, k, ee, d, Dn, rfl, z, D1, gF, sN, hD, sD, hk, hst, q⟩ := h
    refine ⟨_, (pss_cons (ps_set (i := 3) sc_highest.nd rfl (.inl rfl) pe_non)
      (pss_cons (ps_lock (ps_for PassesOwn.never rfl (pi_items (pv 1)) (pg_tup (by rfl) (pgs_cons (pg_name (i := 4) sc_highest.nd rfl (.inl rfl)) (pgs_cons (pg_name (i := 5) sc_highest.nd rfl (.inl rfl)) pgs_nil))) (pss_one (ps_if (pt_cmpR op_notN (pe_ix (ix_listA (K := K) rfl) (pe_ix (ix_listA (K := K) rfl) (pv 0) (pv 2) (fun _ _ => rfl)) (pv 4) (fun _ _ => rfl)) pe_non (nomark _)) (pss_cons (ps_set (i := 6) sc_highest.nd rfl (.inl rfl) (pe_call (ok_plus T) (hr.mono (by decide)) rfl T.g_plus T.F_plus.kp T.b_plus .nil pass0 (pa_cons (pv 5) (pa_cons (pe_call (ok_fraction T) (hr.mono (by decide)) rfl T.g_fraction T.F_fraction.kp T.bd_fraction T.v_fraction passL (pa_cons (pe_call (ok_number_of T) (hr.mono (by decide)) rfl T.g_number_of T.F_number_of.kp T.b_number_of .nil pass0 (pa_cons (pe_ix (ix_listA (K := K) rfl) (pe_ix (ix_listA (K := K) rfl) (pv 0) (pv 2) (fun _ _ => rfl)) (pv 4) (fun _ _ => rfl)) pa_nil)) pa_nil)) pa_nil))))
      (pss_one (ps_if (PW.pt (pw_or (pt_cmpR op_isN (pv 3) pe_non (nomark _)) (pw_or1 (pt_val (pe_call (ok_under T) (hr.mono (by decide)) rfl T.g_under T.F_under.kp T.b_under .nil pass0 (pa_cons (pv 6) (pa_cons (pv 3) pa_nil))))))) (pss_one (ps_set (i := 3) sc_highest.nd rfl (.inl rfl) (pv 6))) pss_nil))) pss_nil))))
      (pss_one (ps_ret (pv 3))))), ?_⟩
    refine seq_step ?_
    walk_at "rd"
    refine seq_step ?_
    refine for_items rfl D1.here fun od => ?_
    have ne : ∀ b o, H b = some o → (∀ kvs, o ≠ .dK kvs) → (upd H pd (.frz od (.dK kvs))) b = some o := fun b o e h => by
      rw [upd_ne (ne_of e D1.here (h kvs))]; exact e
    have zl : ZAt (upd H pd (.frz od (.dK kvs))) pz az n N := ⟨ne _ _ z.top (fun _ z => by cases z), z.len, fun i a e => ne _ _ (z.row i a e) (fun _ z => by cases z), z.nd⟩
    have hh : upd H pd (.frz od (.dK kvs)) pd = some (.frz od (.dK kvs)) := upd_same
    have ul : ∀ H', Same (upd H pd (.frz od (.dK kvs))) H' → Same H (upd H' pd (.dK kvs)) := fun H' s => unlock_same D1.here s
    have ml : ∀ k v, (k, v) ∈ kvs → ∃ (j : Nat) (x : Int × Int) (q : Addr), j < n ∧ k = .inl (j : Int) ∧ v = .ref q ∧ F j = some x ∧ upd H pd (.frz od (.dK kvs)) q = some (.tup [.int x.1, .int x.2]) := fun k v h => by
      obtain ⟨j, x, q, a, b, c, e, f⟩ := D1.mem k v h
      exact ⟨j, x, q, a, b, c, e, ne _ _ f (fun _ z => by cases z)⟩
    generalize upd H pd (.frz od (.dK kvs)) = Hl at *
    refine forD_by (HiInv Hl pz pd kvs n N F k ee Dn) ⟨none, _, _, _, rfl, Same.refl _, (fun p h => by cases h), fun a j v h => by omega⟩ (fun i σ H' ⟨_, _, _, _, _, s, _⟩ => s _ _ hh) ?_ ?_
    · rintro i key v t0 σ' H2 H3 hi ⟨fo, v4, v5, v6, rfl, s2, ok, L⟩ s3 et
      obtain ⟨j, y, qy, hj, rfl, rfl, fy, ey⟩ := ml key v (List.mem_of_getElem? hi)
      have s23 := s2.trans s3
      refine gTup_of (sqt et) rfl ?_
      walk_at "rd"
      refine ix_top (zl.keep s23) hk fun r er hr1 => ?_
      refine ix_row hr1 hj ?_
      cases hN : N k j with
      | none =>
        simp only [oV_none]
        walk_at "rd"
        refine ⟨fo, _, _, _, rfl, s23, ok.keep s3, ?_⟩
        cases fo with
        | none =>
          intro a j' v ha hk'
          by_cases c : a = i
          · subst c
            rw [hi] at hk'
            cases hk'
            exact hN
          · exact L a j' v (by omega) hk'
        | some p =>
          refine ⟨fun a j' v x' b ha hk' fx hb => ?_, L.2⟩
          by_cases c : a = i
          · subst c
            rw [hi] at hk'
            cases hk'
            rw [hN] at hb; cases hb
          · exact L.1 a j' v x' b (by omega) hk' fx hb
      | some b =>
      simp only [oV_some]
      walk_at "rd"
      refine seq_step ?_
      walk_at "rd"
      refine ix_top (zl.keep s23) hk fun r2 er2 hr2 => ?_
      refine ix_row hr2 hj ?_
      rw [hN]
      simp only [oV_some]
      refine ⟨b, rfl, ?_⟩
      refine frac_ok (by decide) (by unfold Sz; decide) fun t1 u1 q1 H4 R1 s4 e4 => ?_
      have gy := gF j y fy
      have fy2 := gy.2.2
      have szy := fy2.sz hD sD
      have sb : Sz ee b := sN k j b hN
      have hu1 : u1 = 1 := by
        have := R1.ule; have := R1.pos; omega
      subst hu1
      have ht1 : t1 = b / 2 := by have := R1.eq; omega
      subst ht1
      have sb2 : Sz ee (b / 2) := Sz.le (by omega) sb
      have one3 : Sz 3900 1 := by unfold Sz; exact Nat.one_lt_two_pow (by decide)
      have ey4 := (s23.trans s4) _ _ ey
      refine ⟨y.1, y.2, b / 2, 1, qy, q1, rfl, ey4, e4, fy2.pos, by decide, szy.1.mono (by omega), szy.2.mono (by omega), sb2.mono (by omega), one3, fun t2 u2 q2 H5 R2 s5 e5 => ?_⟩
      have p2 : 0 < y.2 * 1 := by have := fy2.pos; omega
      have rz : rq (t2, u2) = rq y + ((b / 2 : Int) : Rat) := by
        have h1 := rq_red p2 R2
        have h2 : rq (y.1 * 1 + b / 2 * y.2, y.2 * 1) = rq y + rq (b / 2, 1) := rq_sum (x := y) (y := (b / 2, 1)) fy2.pos (show (0 : Int) < 1 by decide)
        rw [h1, h2, rqn]
      have f2 : Fin Dn (ee + 1) (t2, u2) := fin_plus1 fy2 sb2 R2
      have sz2 := f2.sz hD sD
      have s35 := s4.trans s5
      have new : ∀ p, some (q2, t2, u2) = some p → H5 p.1 = some (.tup [.int p.2.1, .int p.2.2]) ∧ Fin Dn (ee + 1) p.2 := fun p h => by
        cases h; exact ⟨e5, f2⟩
      walk_at "rd"
      cases fo with
      | none =>
        simp only [foV]
        walk_at "rd"
        refine ⟨some (q2, t2, u2), _, _, _, rfl, s23.trans s35, new, fun a j' v x' b' ha hk' fx hb => ?_, j, y, b, hj, fy, hN, rz⟩
        by_cases c : a = i
        · subst c
          rw [hi] at hk'
          cases hk'
          rw [hN] at hb; cases hb
          rw [fy] at fx; cases fx
          show rq (t2, u2) ≤ _
          rw [rz]; grind
        · rw [L a j' v (by omega) hk'] at hb; cases hb
      | some p =>
        obtain ⟨pf, x⟩ := p
        have okp := ok _ rfl
        have okz := okp.2.sz hD sD
        simp only [foV]
        walk_at "rd"
        refine ⟨_, _, _, _, q2, pf, rfl, e5, s35 _ _ (s3 _ _ okp.1), sz2.1.mono (by omega), sz2.2.mono (by omega), okz.1.mono (by omega), okz.2.mono (by omega), ?_⟩
        walk_at "rd"
        refine ite_d (fun c => ?_) (fun c => ?_)
        · have c : rq (t2, u2) < rq x := (rq_cross (x := (t2, u2)) (y := x) R2.pos okp.2.pos).mpr c
          refine ⟨some (q2, t2, u2), _, _, _, rfl, s23.trans s35, new, fun a j' v x' b' ha hk' fx hb => ?_, j, y, b, hj, fy, hN, rz⟩
          show rq (t2, u2) ≤ _
          by_cases c2 : a = i
          · subst c2
            rw [hi] at hk'
            cases hk'
            rw [hN] at hb; cases hb
            rw [fy] at fx; cases fx
            rw [rz]; grind
          · have := L.1 a j' v x' b' (by omega) hk' fx hb
            have : rq x ≤ _ := this
            grind
        · have c : ¬ rq (t2, u2) < rq x := fun z => c ((rq_cross (x := (t2, u2)) (y := x) R2.pos okp.2.pos).mp z)
          refine ⟨some (pf, x), _, _, _, rfl, s23.trans s35, ok.keep (s3.trans s35), fun a j' v x' b' ha hk' fx hb => ?_, L.2⟩
          by_cases c2 : a = i
          · subst c2
            rw [hi] at hk'
            cases hk'
            rw [hN] at hb; cases hb
            rw [fy] at fx; cases fx
            show rq x ≤ _
            rw [← rz]; grind
          · exact L.1 a j' v x' b' (by omega) hk' fx hb
    · rintro σ' H2 ⟨fo, v4, v5, v6, rfl, s2, ok, L⟩
      refine ⟨s2 _ _ hh, ?_⟩
      walk_at "rd"
      have find : ∀ j y, F j = some y → ∃ a v, a < kvs.length ∧ kvs[a]? = some ((.inl (j : Int) : Key), v) := fun j y fy => by
        obtain ⟨v, hv⟩ := D1.cov j y fy
        obtain ⟨a, ha⟩ := List.getElem?_of_mem hv
        exact ⟨a, v, (List.getElem?_eq_some_iff.mp ha).1, ha⟩
      refine q fo _ (ul _ s2) (fun p e => ⟨?_, (ok p e).2⟩) ?_
      · rw [upd_ne (ne_of (ok p e).1 (s2 _ _ hh) (by intro z; cases z))]; exact (ok p e).1
      · cases fo with
        | none =>
          intro j r hj fr
          obtain ⟨y, fy, rfl⟩ := Option.map_eq_some_iff.mp fr
          obtain ⟨a, v, ha, hv⟩ := find j y fy
          exact L a j v ha hv
        | some p =>
          refine ⟨fun j r b hj fr hb => ?_, ?_⟩
          · obtain ⟨y, fy, rfl⟩ := Option.map_eq_some_iff.mp fr
            obtain ⟨a, v, ha, hv⟩ := find j y fy
            exact L.1 a j v y b ha hv fy hb
          · obtain ⟨j, y, b, hj, fy, hb, e⟩ := L.2
            exact ⟨j, rq y, b, hj, by unfold fR; rw [fy]; rfl, hb, e⟩
def DD (D : Int) : Nat → Int
  | 0 => D
  | i + 1 => 2 * DD D i
theorem DD_pos {D : Int} (h : 0 < D) : ∀ i, 0 < DD D i
  | 0 => h
  | i + 1 => by have := DD_pos h i; show 0 < 2 * DD D i; omega
theorem DD_sz {D : Int} {d : Nat} (h : Sz d D) : ∀ i, Sz (d + i) (DD D i)
  | 0 => h
  | i + 1 => by
    have := DD_sz h i
    have p : (2 : Nat) ^ (d + (i + 1)) = 2 ^ (d + i) * 2 := Nat.pow_succ ..
    show (2 * DD D i).natAbs < _
    unfold Sz at this
    rw [p]; omega
theorem fR_set (F : Nat → Option (Int × Int)) (k : Nat) (x : Int × Int) : fR (setF F k x) = setR (fR F) k (rq x) := by
  funext j
  unfold fR setF setR
  by_cases c : j = k
  · rw [if_pos c, if_pos c]; rfl
  · rw [if_neg c, if_neg c]
def FiInv (H : Hp) (pz pk pd : Addr) (n : Nat) (N : Mx) (F0 : Nat → Option (Int × Int)) (D0 : Int) (e0 c i : Nat) (σ' : L2.St) (H' : Hp) : Prop := ∃ (F : Nat → Option (Int × Int)) (kvs : List (Key × V)) (v3 v4 v5 : Option V), σ' = [some (.ref pz), some (.ref pk), some (.ref pd), v3, v4, v5] ∧ Same H H' ∧ DAt H' pd n F kvs ∧ kvs.length ≤ c + i ∧ GoodE (DD D0 i) (e0 + 2 * i) F ∧ Part n N (fR F) ∧ F 0 = some (0, 1) ∧ (∀ j, j ≤ i → F j ≠ none) ∧ ∀ j x, F0 j = some x → F j = some x
def spFilled (K : PySem.W.Frag) : Sp := fun vs H Q _ => ∃ (pz pk : Addr) (az : List Addr) (n : Nat) (N : Mx) (F0 : Nat → Option (Int × Int)) (more : List (Key × V)) (D0 : Int) (e0 d0 : Nat), vs = [.ref pz, .ref pk] ∧ ZAt H pz az n N ∧ DAt H pk n F0 more ∧ more.length ≤ 100 ∧ F0 0 = none ∧ GoodE D0 e0 F0 ∧ 0 < D0 ∧ Sz d0 D0 ∧ e0 + d0 + 30 ≤ 3800 ∧ Part n N (fR (setF F0 0 (0, 1))) ∧ Nar n N ∧ SzM e0 N ∧ 1 ≤ n ∧ n ≤ 8 ∧
  ∀ (p : Addr) (xs : List (Int × Int)) (H' : Hp), Same H H' → H p = none → VAt H' p xs → xs.length + 1 = n → GoodV (e0 + d0 + 30) xs → FinV (DD D0 (n - 1)) (e0 + 2 * (n - 1)) xs → RedV xs → Lies n N (plc xs) → (∀ j x, F0 (j + 1) = some x → xs[j]? = some x) → Q (.ref p) H'
theorem ok_filled (T : Top K mg) : FnOk P w K mg base CX0 5 T.f_filled T.d_filled ["zone", "known"] (spFilled K) := by
  refine T.F_filled.ok sc_filled (fun vs H Q E h => ?_) (fun cdv A outer s H vs Q E hr h => ?_)
  · obtain ⟨pz, pk, az, n, N, F0, more, D0', e0, d0, rfl, _⟩ := h; rfl
  · obtain ⟨pz, pk, az, n, N, F0, more, Dz, e0, d0, rfl, z, D0, hm, f00, g0, hDz, sDz, hed, p0, R, sN, hn1, hn, q⟩ := h
    refine ⟨_, (pss_cons (ps_set (i := 2) sc_filled.nd rfl (.inr rfl) (pe_disp (pps_cons pe_int (pe_tupN (pa_cons pe_int (pa_cons pe_int pa_nil))) pps_nil) (by rfl) (by rfl) (fun z => by cases z) (by decide)))
      (pss_cons (ps_expr (pe_dupd (pv 2) (pv 1) ⟨rfl, rfl, rfl, rfl⟩))
      (pss_cons (ps_for PassesOwn.never rfl (pi_range2 (by rfl) T.m_range (pa_cons pe_int (pa_cons (pe_callB call_len_seq (by rfl) T.m_len (by decide +kernel) (pa_cons (pv 0) pa_nil)) pa_nil))) (pg_name (i := 3) sc_filled.nd rfl (.inl rfl)) (pss_one (ps_if (pt_cmp (pc_dnotin (hu_of hr) (pv 3) (pv 2))) (pss_cons (ps_set (i := 4) sc_filled.nd rfl (.inl rfl) (pe_call (ok_lowest T) (hr.mono (by decide)) rfl T.g_lowest T.F_lowest.kp T.b_lowest .nil pass0 (pa_cons (pv 0) (pa_cons (pv 2) (pa_cons (pv 3) pa_nil)))))
      (pss_cons (ps_set (i := 5) sc_filled.nd rfl (.inl rfl) (pe_call (ok_highest T) (hr.mono (by decide)) rfl T.g_highest T.F_highest.kp T.b_highest .nil pass0 (pa_cons (pv 0) (pa_cons (pv 2) (pa_cons (pv 3) pa_nil)))))
      (pss_one (ps_if (pt_cmpR op_isN (pv 5) pe_non (nomark _)) (pss_one (ps_dput (hu_of hr) (pv 2) (pv 3) (pe_call (ok_plus T) (hr.mono (by decide)) rfl T.g_plus T.F_plus.kp T.b_plus .nil pass0 (pa_cons (pv 4) (pa_cons (pe_tupN (pa_cons pe_int (pa_cons pe_int pa_nil))) pa_nil))) rfl)) (pss_one (ps_dput (hu_of hr) (pv 2) (pv 3) (pe_call (ok_half T) (hr.mono (by decide)) rfl T.g_half T.F_half.kp T.b_half .nil pass0 (pa_cons (pe_call (ok_plus T) (hr.mono (by decide)) rfl T.g_plus T.F_plus.kp T.b_plus .nil pass0 (pa_cons (pv 4) (pa_cons (pv 5) pa_nil))) pa_nil)) rfl)))))) pss_nil)))
      (pss_one (ps_ret (lc_vs (vs := [3]) (pe_lc (own := [("k", 3)]) (g := gName 3) (tt := tYes) rfl sc_filled.nd (pi_range2 (by rfl) T.m_range (pa_cons pe_int (pa_cons (pe_callB call_len_seq (by rfl) T.m_len (by decide +kernel) (pa_cons (pv 0) pa_nil)) pa_nil))) (blkOk_by (own := [("k", 3)]) (N := ["zone", "known", "values", "k", "low", "high"]) (sc := defScope s_filled) (by decide +kernel)) (fun _ _ _ _ _ => (pg_name (i := 3) sc_filled.nd rfl (.inl rfl))) (fun _ _ _ _ _ => pts_nil) (fun _ _ _ _ _ => (pe_dget (hu_of hr) (pv 2) (pv 3) (fun _ _ => rfl)))) rfl)))))), ?_⟩
    refine seq_step ?_
    walk_at "rd"
    intro pd fd
    simp only [tPairs]
    walk_at "rd"
    intro p1 H2 s2 _ e2
    refine ⟨s2 _ _ upd_same, [(.inl 0, .ref p1)], rfl, (show 1 ≤ 15 by decide), ?_⟩
    have sH2 : Same H H2 := (upd_keep fd).trans s2
    rw [show mergeK [] [((.inl 0 : Key), V.ref p1)] = [((.inl 0 : Key), V.ref p1)] from rfl]
    have np : p1 ≠ pd := ne_of e2 (s2 _ _ upd_same) (by intro z; cases z)
    have s3 : Same H (upd H2 pd (.dK [((.inl 0 : Key), V.ref p1)])) := same_updN fd sH2
    have e3 : upd H2 pd (.dK [((.inl 0 : Key), V.ref p1)]) p1 = some (.tup [.int 0, .int 1]) := by rw [upd_ne np]; exact e2
    have ed : upd H2 pd (.dK [((.inl 0 : Key), V.ref p1)]) pd = some (.dK [((.inl 0 : Key), V.ref p1)]) := upd_same
    generalize upd H2 pd (.dK [((.inl 0 : Key), V.ref p1)]) = H3 at *
    have npk : pd ≠ pk := fun z => by rw [z, D0.here] at fd; cases fd
    refine seq_step ?_
    walk_at "rd"
    simp only [tDUpd]
    walk_at "rd"
    refine ⟨.inl ⟨_, .inl ed⟩, npk, _, ed, _, s3 _ _ D0.here, small1000' (by simp; omega), ?_⟩
    have lm := length_mergeK more [((.inl 0 : Key), V.ref p1)]
    have s4 : Same H (upd H3 pd (.dK (mergeK [((.inl 0 : Key), V.ref p1)] more))) := same_updN fd s3
    have D4 : DAt (upd H3 pd (.dK (mergeK [((.inl 0 : Key), V.ref p1)] more))) pd n (setF F0 0 (0, 1)) (mergeK [((.inl 0 : Key), V.ref p1)] more) := by
      refine ⟨upd_same, fun k v h => ?_, fun j x h => ?_⟩
      · rcases mem_mergeK h with h | ⟨h, _⟩
        · obtain ⟨j, x, q, hj, a, b, c, d⟩ := D0.mem k v h
          refine ⟨j, x, q, hj, a, b, ?_, s4 _ _ d⟩
          unfold setF
          rw [if_neg (fun z => by rw [z, f00] at c; cases c)]
          exact c
        · cases List.mem_singleton.mp h
          exact ⟨0, (0, 1), p1, hn1, rfl, rfl, if_pos rfl, by rw [upd_ne np]; exact e3⟩
      · unfold setF at h
        by_cases c : j = 0
        · subst c
          exact key_mergeK (.inl ⟨_, List.mem_singleton.mpr rfl⟩)
        · rw [if_neg c] at h
          exact key_mergeK (.inr (D0.cov j x h))
    generalize upd H3 pd (.dK (mergeK [((.inl 0 : Key), V.ref p1)] more)) = H4 at *
    generalize mergeK [((.inl 0 : Key), V.ref p1)] more = kvs4 at *
    have g4 : GoodE (DD Dz 0) (e0 + 2 * 0) (setF F0 0 (0, 1)) := fun j x h => by
      unfold setF at h
      split at h
      · cases h; exact ⟨by decide, rfl, by decide, Int.one_dvd _, by simp; exact Int.le_of_lt (pow_pos2 _), by simp; exact Int.le_of_lt (pow_pos2 _)⟩
      · exact g0 j x h
    clear s2 sH2 e2 e3 ed np s3 H2 H3
    refine seq_step ?_
    refine for_rg2 ?_
    walk_at "rd"
    refine ⟨_, .inl (.of (s4 _ _ z.top)), ?_⟩
    rw [List.length_map, z.len]
    refine ⟨by omega, by omega, ?_⟩
    rw [show ((n : Int) - 1).toNat = n - 1 by omega]
    refine forR2_by (FiInv H pz pk pd n N F0 Dz e0 101) ⟨_, kvs4, _, _, _, rfl, s4, D4, by simp at lm; omega, g4, p0, if_pos rfl, fun j hj => by
        obtain rfl : j = 0 := by omega
        unfold setF; rw [if_pos rfl]; exact fun z => (by cases z), fun j x h => by
        unfold setF
        rw [if_neg (fun z => by rw [z, f00] at h; cases h)]; exact h⟩ ?_ ?_
    · rintro i σ' H5 hi ⟨F, kvs, v3, v4, v5, rfl, s5, D5, lk, gF, pF, F00, tot, kn⟩
      walk_at "rd"
      rw [show (1 : Int) + (i : Int) = ((i + 1 : Nat) : Int) by omega]
      refine ⟨_, DGet.k (k := .inl ((i + 1 : Nat) : Int)) D5.here, ?_⟩
      have dp := DD_pos hDz i
      have dz := DD_sz sDz i
      have d2 : DD Dz i ∣ DD Dz (i + 1) := ⟨2, Int.mul_comm ..⟩
      cases hF : F (i + 1) with
      | some x =>
        obtain ⟨q0, e0, _⟩ := D5.val hF
        rw [e0]
        walk_at "rd"
        refine ⟨F, kvs, _, _, _, rfl, s5, D5, by omega, gF.mono (by omega) d2, pF, F00, fun j hj => ?_, kn⟩
        by_cases c : j = i + 1
        · rw [c, hF]; exact fun z => by cases z
        · exact tot j (by omega)
      | none =>
      rw [D5.no hF]
      refine if_t rfl ?_
      refine seq_step ?_
      walk_at "rd"
      have z5 := z.keep s5
      have hk : i + 1 < n := by omega
      refine ⟨pz, pd, az, n, N, F, kvs, i + 1, e0 + 2 * i, d0 + i, DD Dz i, rfl, z5, D5, gF, sN.mono (by omega), dp, dz, hk, by omega, fun pl lo H6 s6 el fl IL => ?_⟩
      walk_at "rd"
      refine seq_step ?_
      walk_at "rd"
      refine ⟨pz, pd, az, n, N, F, kvs, i + 1, e0 + 2 * i, d0 + i, DD Dz i, rfl, z5.keep s6, D5.keep s6, gF, sN.mono (by omega), dp, dz, hk, by omega, fun fo H7 s7 ok IH => ?_⟩
      walk_at "rd"
      have el7 := s7 _ _ el
      have D7 := D5.keep (s6.trans s7)
      have s57 := s5.trans (s6.trans s7)
      have fR0 : fR F 0 = some 0 := by unfold fR; rw [F00]; exact congrArg some rq0
      have step := fill_step R hk fR0 pF IL IH
      have fin : ∀ (t u : Int) (pq : Addr) (H8 : Hp), rq (t, u) = midR (rq lo) (fo.map fun p => rq p.2) → Int.gcd t u = 1 → Fin (DD Dz (i + 1)) (e0 + 2 * (i + 1)) (t, u) → Same H7 H8 → H8 pq = some (.tup [.int t, .int u]) →
          FiInv H pz pk pd n N F0 Dz e0 101 (i + 1) [some (.ref pz), some (.ref pk), some (.ref pd), some (.int ((i + 1 : Nat) : Int)), some (.ref pl), some (foV fo)] (upd H8 pd (.dK (putK kvs (.inl ((i + 1 : Nat) : Int)) (.ref pq)))) := fun t u pq H8 e g ft s8 e8 => by
        have D8 := (D7.keep s8).put (k := i + 1) (x := (t, u)) hk hF e8
        have lp := length_putK kvs (.inl ((i + 1 : Nat) : Int)) (.ref pq)
        rw [← e] at step
        refine ⟨_, _, _, _, _, rfl, same_updN fd (s57.trans s8), D8, by omega, fun j x h => ?_, ?_, ?_, fun j hj => ?_, fun j x h => ?_⟩
        · unfold setF at h
          split at h
          · cases h
            exact ⟨(rq_nn ft.pos).mp step.1, g, ft⟩
          · exact gF.mono (by omega) d2 j x h
        · rw [fR_set]
          exact part_set R hk pF step.2
        · unfold setF
          rw [if_neg (by omega)]; exact F00
        · unfold setF
          split
          · exact fun z => by cases z
          · exact tot j (by omega)
        · unfold setF
          rw [if_neg (fun z => by rw [← z, kn j x h] at hF; cases hF)]
          exact kn j x h
      have slo := fl.sz dp dz
      have one3 : Sz 3900 1 := by unfold Sz; exact Nat.one_lt_two_pow (by decide)
      have lsz : kvs.length < sizeLine := small1000 (by omega)
      cases fo with
      | none =>
        simp only [foV]
        walk_at "rd"
        intro p9 H9 s9 _ e9
        refine ⟨lo.1, lo.2, 1, 1, pl, p9, rfl, s9 _ _ el7, e9, fl.pos, by decide, slo.1.mono (by omega), slo.2.mono (by omega), one3, one3, fun t u pq H10 R10 s10 e10 => ?_⟩
        have R10' : Red (lo.1 * 1 + 1 * lo.2) (lo.2 * 1) t u := R10
        refine ⟨_, DPut.k (k := .inl ((i + 1 : Nat) : Int)) (((D7.keep s9).keep s10).here) lsz, ?_⟩
        refine fin t u pq H10 ?_ R10.one (((fin_plus1 fl (show Sz (e0 + 2 * i + 1) 1 from Nat.one_lt_two_pow (by omega)) R10').mono (by omega)).dvd_mono d2) (s9.trans s10) e10
        have h1 := rq_red (by have := fl.pos; omega) R10
        have h2 := rq_sum (x := lo) (y := (1, 1)) fl.pos (show (0 : Int) < 1 by decide)
        exact h1.trans (h2.trans (by rw [rq1]; rfl))
      | some p =>
        obtain ⟨ph, hi2⟩ := p
        have okh := ok _ rfl
        have szh := okh.2.sz dp dz
        simp only [foV]
        walk_at "rd"
        refine ⟨lo.1, lo.2, hi2.1, hi2.2, pl, ph, rfl, el7, okh.1, fl.pos, okh.2.pos, slo.1.mono (by omega), slo.2.mono (by omega), szh.1.mono (by omega), szh.2.mono (by omega), fun t u pq H10 R10 s10 e10 => ?_⟩
        have pb := Int.mul_pos fl.pos okh.2.pos
        have f10 : Fin (DD Dz i) (e0 + 2 * i + 1 + 1) (t, u) := fin_plus fl okh.2 R10
        have sz10 := f10.sz dp dz
        refine ⟨t, u, pq, rfl, e10, R10.pos, sz10.1.mono (by omega), sz10.2.mono (by omega), fun t2 u2 pq2 H11 R11 s11 e11 => ?_⟩
        refine ⟨_, DPut.k (k := .inl ((i + 1 : Nat) : Int)) (((D7.keep s10).keep s11).here) lsz, ?_⟩
        refine fin t2 u2 pq2 H11 ?_ R11.one (fin_half f10 R11) (s10.trans s11) e11
        have h1 := rq_red (by have := R10.pos; omega) R11
        have h2 := rq_red pb R10
        have h3 := rq_sum (x := lo) (y := hi2) fl.pos okh.2.pos
        rw [h1, rq_half R10.pos, h2, h3]
        rfl
    · rintro σ' H5 ⟨F, kvs, v3, v4, v5, rfl, s5, D5, lk, gF, pF, F00, tot, kn⟩
      walk_at "rd"
      have z5 := z.keep s5
      have all : ∀ j, j < n → ∃ x q, F j = some x ∧ valV kvs (.inl (j : Int)) = some (.ref q) ∧ H5 q = some (.tup [.int x.1, .int x.2]) := fun j hj => by
        cases hF : F j with
        | none => exact absurd hF (tot j (by omega))
        | some x =>
          obtain ⟨q, e1, e2⟩ := D5.val hF
          exact ⟨x, q, rfl, e1, e2⟩
      refine lc_vals2 (n := n - 1) (lo := 1) (f := fun j => (valV kvs (.inl ((j + 1 : Nat) : Int))).getD .non) (by omega) (by omega) (by omega) (by simp) (fun Q1 h => ?_) (fun j H6 Q1 hj s6 h => ?_) (fun r H6 s6 er fr => ?_)
      · walk_at "rd"
        refine ⟨_, .inl (.of z5.top), ?_⟩
        rw [List.length_map, z5.len]
        rw [show (1 : Int) + ((n - 1 : Nat) : Int) = (n : Int) by omega] at h
        exact h
      · walk_at "rd"
        rw [show (1 : Int) + (j : Int) = ((j + 1 : Nat) : Int) by omega]
        obtain ⟨x, q0, _, e1, _⟩ := all (j + 1) (by omega)
        rw [e1] at h
        exact ⟨_, e1 ▸ DGet.k (k := .inl ((j + 1 : Nat) : Int)) ((D5.keep s6).here), h⟩
      · have val : ∀ i x, F (i + 1) = some x → i < n - 1 → ((List.range (n - 1)).map fun i => (F (i + 1)).getD (0, 1))[i]? = some x := fun i x h hi => by
          rw [List.getElem?_map, List.getElem?_range hi]
          show some ((F (i + 1)).getD (0, 1)) = some x
          rw [h]; rfl
        have plcF : ∀ i, i < n → F i = some (plc ((List.range (n - 1)).map fun i => (F (i + 1)).getD (0, 1)) i) := fun i hi => by
          have h1 := plc_get (xs := (List.range (n - 1)).map fun i => (F (i + 1)).getD (0, 1)) (i := i) (by simp; omega)
          cases i with
          | zero => rw [F00]; rfl
          | succ i =>
            obtain ⟨x, _, hx, _⟩ := all (i + 1) hi
            rw [List.getElem?_cons_succ, val i x hx (by omega)] at h1
            rw [hx]; exact h1
        have memF : ∀ x, x ∈ (List.range (n - 1)).map (fun i => (F (i + 1)).getD (0, 1)) → ∃ j, F j = some x := fun x h => by
          obtain ⟨i, hi, e⟩ := List.mem_map.mp h
          have hi := List.mem_range.mp hi
          obtain ⟨y, _, hy, _⟩ := all (i + 1) (by omega)
          rw [hy] at e
          exact ⟨i + 1, by rw [hy]; exact congrArg some e⟩
        have dpn := DD_pos hDz (n - 1)
        have dzn := DD_sz sDz (n - 1)
        refine q r ((List.range (n - 1)).map fun i => (F (i + 1)).getD (0, 1)) H6 (s5.trans s6) (s5.free fr) ⟨(List.range (n - 1)).map fun j => adr ((valV kvs (.inl ((j + 1 : Nat) : Int))).getD .non), ?_, by simp, fun i a x h1 h2 => ?_⟩ (by simp; omega) (fun x hx => ?_) (fun x hx => ?_) (fun x hx => ?_) (fun i j hi hj => ?_) (fun j x h => ?_)
        · rw [er, List.map_map]
          refine congrArg (fun x => some (HO.lst x)) (List.map_congr_left fun j hj => ?_)
          obtain ⟨x, q0, _, e1, _⟩ := all (j + 1) (by have := List.mem_range.mp hj; omega)
          show _ = V.ref (adr _)
          rw [e1]; rfl
        · have hi : i < n - 1 := by
            have := (List.getElem?_eq_some_iff.mp h1).1
            rwa [List.length_map, List.length_range] at this
          obtain ⟨y, q0, fy, e1, e2⟩ := all (i + 1) (by omega)
          rw [val i y fy hi] at h2
          rw [List.getElem?_map, List.getElem?_range hi] at h1
          cases h2
          have h1 : adr ((valV kvs (.inl ((i + 1 : Nat) : Int))).getD .non) = a := Option.some.inj h1
          rw [e1] at h1
          have h1 : q0 = a := h1
          rw [← h1]
          exact s6 _ _ e2
        · obtain ⟨j, hj⟩ := memF x hx
          have g := gF j x hj
          have sx := g.2.2.sz dpn dzn
          exact ⟨g.1, g.2.2.pos, sx.1.mono (by omega), sx.2.mono (by omega)⟩
        · obtain ⟨j, hj⟩ := memF x hx
          exact (gF j x hj).2.2
        · obtain ⟨j, hj⟩ := memF x hx
          exact (gF j x hj).2.1
        · have fi := plcF i hi
          have fj := plcF j hj
          have gi := gF i _ fi
          have gj := gF j _ fj
          rw [lets_rat (dif_pos gi.2.2.pos gj.2.2.pos)]
          show letsR (N i j) (rq (dif _ _))
          rw [rq_dif gi.2.2.pos gj.2.2.pos]
          exact pF i j _ _ hi hj (by unfold fR; rw [fi]; rfl) (by unfold fR; rw [fj]; rfl)
        · have hj : j + 1 < n := by
            obtain ⟨v, hv⟩ := D0.cov _ _ h
            obtain ⟨j', _, _, hj', ek, _⟩ := D0.mem _ _ hv
            have ek : ((j + 1 : Nat) : Int) = (j' : Int) := Sum.inl.inj ek
            omega
          exact val j x (kn _ _ h) (by omega)
/-! ### values near to a bound -/
theorem rdiv1 (d : Rat) : d / ((1 : Int) : Rat) = d := by rw [Rat.intCast_one]; grind
/-- the difference is as great as the bound, or as near as told -/
def NearR (r : Rat) : Option Int → Rat → Prop
  | none, d => r ≤ d
  | some b, d => if b % 2 = 1 then d = ((b / 2 : Int) : Rat) else d < ((b / 2 : Int) : Rat) ∧ ((b / 2 : Int) : Rat) < d + r
theorem near_none {n0 n1 m : Int} (h1 : 0 < n1) (le : m * n1 ≤ 0 - n0) {d : Rat} (h : letsR (some (2 * m + 1)) (0 - d)) : NearR (rq (n0, n1)) none (d / ((1 : Int) : Rat)) := by
  rw [rdiv1]
  show rq (n0, n1) ≤ d
  have k : 0 - d ≤ (m : Rat) := by
    have e : (2 * m + 1) / 2 = m := by omega
    rcases h with h | ⟨h, _⟩ <;> rw [e] at h <;> grind
  have c1 := castpos h1
  have l : (m : Rat) * (n1 : Rat) ≤ 0 - (n0 : Rat) := by
    have := Rat.intCast_le_intCast.mpr le
    rw [Rat.intCast_mul, Rat.intCast_sub, Rat.intCast_zero] at this
    exact this
  unfold rq
  show (n0 : Rat) / (n1 : Rat) ≤ d
  generalize (n0 : Rat) = a at *
  generalize (n1 : Rat) = b at *
  generalize (m : Rat) = m at *
  have : ¬ d < a / b := fun z => by
    rw [Rat.lt_div_iff c1] at z
    have : (0 - d) * b ≤ m * b := Rat.mul_le_mul_of_nonneg_right k (by grind)
    grind
  grind
theorem near_open {n0 n1 t b : Int} (h0 : 0 < n0) (h1 : 0 < n1) (ht : 1 ≤ t) (le : n1 ≤ t * n0) (hb : b % 2 = 0) {d : Rat} (h : letsR (scO t (some b)) d) (k : letsR (some (2 * (1 - t * (b / 2)))) (0 - d)) : NearR (rq (n0, n1)) (some b) (d / (t : Rat)) := by
  show if b % 2 = 1 then _ else _
  rw [if_neg (by omega)]
  have hx : scB t b / 2 = t * (b / 2) := by unfold scB; omega
  have hy : scB t b % 2 = 0 := by unfold scB; omega
  have h1' : d < (t : Rat) * ((b / 2 : Int) : Rat) := by
    have h : d < ((scB t b / 2 : Int) : Rat) ∨ (d = ((scB t b / 2 : Int) : Rat) ∧ scB t b % 2 = 1) := h
    rw [hx, hy, Rat.intCast_mul] at h
    rcases h with h | h
    · exact h
    · omega
  have h2' : 0 - d < 1 - (t : Rat) * ((b / 2 : Int) : Rat) := by
    have e : (2 * (1 - t * (b / 2))) / 2 = 1 - t * (b / 2) := by omega
    have e2 : (2 * (1 - t * (b / 2))) % 2 = 0 := by omega
    have k : 0 - d < ((2 * (1 - t * (b / 2)) / 2 : Int) : Rat) ∨ (0 - d = ((2 * (1 - t * (b / 2)) / 2 : Int) : Rat) ∧ 2 * (1 - t * (b / 2)) % 2 = 1) := k
    rw [e, e2, Rat.intCast_sub, Rat.intCast_mul, Rat.intCast_one] at k
    rcases k with k | k
    · exact k
    · omega
  have tp := castpos (u := t) (by omega)
  have c1 := castpos h1
  have c0 := castpos h0
  have l : (n1 : Rat) ≤ (t : Rat) * (n0 : Rat) := by
    have := Rat.intCast_le_intCast.mpr le
    rwa [Rat.intCast_mul] at this
  unfold rq
  show d / (t : Rat) < _ ∧ _ < d / (t : Rat) + (n0 : Rat) / (n1 : Rat)
  generalize ((b / 2 : Int) : Rat) = m at *
  generalize (t : Rat) = t at *
  generalize (n0 : Rat) = a at *
  generalize (n1 : Rat) = c at *
  have r1 : 1 ≤ t * (a / c) := by
    have : ¬ t * a / c < 1 := fun z => by
      rw [Rat.div_lt_iff c1] at z
      grind
    grind
  refine ⟨by rw [Rat.div_lt_iff tp]; grind, ?_⟩
  have e : d / t + a / c = (d + t * (a / c)) / t := by grind
  rw [e, Rat.lt_div_iff tp]
  grind
theorem near_closed {r : Rat} {b : Int} (hb : b % 2 = 1) {d : Rat} (h : letsR (scO 1 (some b)) d) (k : letsR (some (2 * (0 - b / 2) + 1)) (0 - d)) : NearR r (some b) (d / ((1 : Int) : Rat)) := by
  rw [rdiv1]
  show if b % 2 = 1 then _ else _
  rw [if_pos hb]
  have hx : scB 1 b / 2 = b / 2 := by unfold scB; omega
  have h1' : d ≤ ((b / 2 : Int) : Rat) := by
    rcases h with h | ⟨h, _⟩ <;> rw [hx] at h <;> grind
  have h2' : 0 - d ≤ 0 - ((b / 2 : Int) : Rat) := by
    have e : (2 * (0 - b / 2) + 1) / 2 = 0 - b / 2 := by omega
    rcases k with k | ⟨k, _⟩ <;> rw [e, Rat.intCast_sub, Rat.intCast_zero] at k <;> grind
  grind
theorem rq_div {a b t : Int} (hb : 0 < b) (ht : 1 ≤ t) : rq (a, b * t) = rq (a, b) / (t : Rat) := by
  unfold rq
  have h1 := castpos hb
  have h2 := castpos (u := t) (by omega)
  simp only [Rat.intCast_mul]
  generalize (a : Rat) = a at *
  generalize (b : Rat) = b at *
  generalize (t : Rat) = t at *
  grind
theorem lies_rat {n : Nat} {M : Mx} {v : Nat → Int × Int} (h : ∀ i, i < n → 0 < (v i).2) : Lies n M v ↔ ∀ i j, i < n → j < n → letsR (M i j) (rq (v i) - rq (v j)) := by
  have key : ∀ i j, i < n → j < n → (letsO (M i j) (dif (v i) (v j)).1 (dif (v i) (v j)).2 = true ↔ letsR (M i j) (rq (v i) - rq (v j))) := fun i j hi hj => by
    rw [lets_rat (dif_pos (h i hi) (h j hj)), ← rq_dif (h i hi) (h j hj)]
  exact ⟨fun k i j hi hj => (key i j hi hj).mp (k i j hi hj), fun k i j hi hj => (key i j hi hj).mpr (k i j hi hj)⟩
theorem part_nil {n : Nat} {N : Mx} (R : Nar n N) (hn : 1 ≤ n) : Part n N (fR (setF (fun _ => none) 0 (0, 1))) := fun i j x y hi hj hx hy => by
  have k : ∀ i x, fR (setF (fun _ => none) 0 (0, 1)) i = some x → i = 0 ∧ x = 0 := fun i x h => by
    unfold fR setF at h
    by_cases c : i = 0
    · rw [if_pos c] at h
      exact ⟨c, (Option.some.inj h).symm.trans rq0⟩
    · rw [if_neg c] at h; cases h
  obtain ⟨rfl, rfl⟩ := k i x hx
  obtain ⟨rfl, rfl⟩ := k j y hy
  rw [R.one 0 (by omega)]
  right
  exact ⟨by show (0 : Rat) - 0 = ((0 : Int) : Rat); rw [Rat.intCast_zero]; grind, rfl⟩
theorem good_nilE (D : Int) (e : Nat) : GoodE D e (fun _ => none) := fun j x h => by cases h
theorem dat_nil {H : Hp} {pk : Addr} {n : Nat} (h : H pk = some (.dK [])) : DAt H pk n (fun _ => none) [] := ⟨h, (fun k v h => by cases h), fun j x h => by cases h⟩
def tupO : Option HO → Int × Int
  | some (.tup [.int t, .int u]) => (t, u)
  | _ => (0, 1)
/-- what is asked of the bound put in -/
structure LeastOk (n0 n1 : Int) (b : Option Int) (t c : Int) : Prop where
  t1 : 1 ≤ t
  tz : Sz 32 t
  cz : Sz 190 c
  ok : leO (some 1) (addO (scO t b) (some c))
  fin : ∀ d : Rat, letsR (scO t b) d → letsR (some c) (0 - d) → NearR (rq (n0, n1)) b (d / (t : Rat))
theorem sz_one {s : Nat} (h : 1 ≤ s) : Sz s 1 := by
  unfold Sz
  exact Nat.lt_of_lt_of_le (by decide : 1 < 2 ^ 1) (Nat.pow_le_pow_right (by decide) h)
theorem least_none {n0 n1 : Int} (h0 : 0 < n0) (h1 : 0 < n1) (s0 : Sz 50 n0) : LeastOk n0 n1 none 1 (2 * (0 - n0).fdiv n1 + 1) := by
  have sz := fdiv_sz (s := 50) (t := 0 - n0) h1 (Sz.le (j := n0) (by omega) s0)
  have e : (0 - n0).fdiv n1 = (0 - n0) / n1 := Int.fdiv_eq_ediv_of_nonneg _ (by omega)
  have le := Int.ediv_mul_le (0 - n0) (b := n1) (by omega)
  rw [e] at sz ⊢
  generalize (0 - n0) / n1 = m at *
  refine ⟨by omega, sz_one (by decide), Sz.mono (a := 60) (by unfold Sz at *; omega) (by decide), ?_, fun d _ h => near_none h1 le h⟩
  show leO (some 1) (addO none (some (2 * m + 1)))
  trivial
theorem least_open {n0 n1 b : Int} (h0 : 0 < n0) (h1 : 0 < n1) (s1 : Sz 31 n1) (sb : Sz 150 b) (hb : b % 2 = 0) : LeastOk n0 n1 (some b) (0 - (0 - n1).fdiv n0) (2 * (1 - (0 - (0 - n1).fdiv n0) * (b / 2))) := by
  have sz := fdiv_sz (s := 31) (t := 0 - n1) h0 (Sz.le (j := n1) (by omega) s1)
  have e : (0 - n1).fdiv n0 = (0 - n1) / n0 := Int.fdiv_eq_ediv_of_nonneg _ (by omega)
  have le := Int.ediv_mul_le (0 - n1) (b := n0) (by omega)
  rw [e] at sz ⊢
  have hneg : (0 - n1) / n0 < 0 := Int.ediv_neg_of_neg_of_pos (by omega) h0
  have sz : Sz 32 (0 - (0 - n1) / n0) := Sz.le (j := (0 - n1) / n0) (by omega) sz
  have le2 : n1 ≤ (0 - (0 - n1) / n0) * n0 := by rw [Int.sub_mul]; omega
  generalize (0 - (0 - n1) / n0) = t at *
  have s3 : Sz 184 (t * (b / 2)) := sz.mul (Sz.le (j := b) (by omega) sb) (by decide)
  have ht : 1 ≤ t := by
    rcases Int.lt_or_le 0 t with z | z
    · omega
    · have := Int.mul_nonpos_of_nonpos_of_nonneg z (Int.le_of_lt h0); omega
  refine ⟨ht, sz, ((show Sz 2 2 by unfold Sz; decide).mul ((sz_one (s := 2) (by decide)).sub s3 (c := 185) (by decide) (by decide)) (c := 190) (by decide)), ?_, fun d h k => near_open h0 h1 ht le2 hb h k⟩
  show leO (some 1) (addO (some (scB t b)) (some (2 * (1 - t * (b / 2)))))
  show (1 : Int) ≤ 2 * (scB t b / 2 + 2 * (1 - t * (b / 2)) / 2) + _
  have e1 : scB t b / 2 = t * (b / 2) := by unfold scB; omega
  have e2 : 2 * (1 - t * (b / 2)) / 2 = 1 - t * (b / 2) := by omega
  rw [e1, e2]
  split <;> omega
theorem least_closed {n0 n1 b : Int} (sb : Sz 150 b) (hb : b % 2 = 1) : LeastOk n0 n1 (some b) 1 (2 * (0 - b / 2) + 1) := by
  refine ⟨by omega, sz_one (by decide), Sz.mono (a := 155) (by unfold Sz at *; omega) (by decide), ?_, fun d h k => near_closed hb h k⟩
  show (1 : Int) ≤ 2 * (scB 1 b / 2 + (2 * (0 - b / 2) + 1) / 2) + (if scB 1 b % 2 = 1 ∧ (2 * (0 - b / 2) + 1) % 2 = 1 then 1 else 0)
  have e1 : scB 1 b / 2 = b / 2 := by unfold scB; omega
  have e2 : scB 1 b % 2 = 1 := by unfold scB; omega
  rw [e1, if_pos (by omega)]
  omega
def spAt_most : Sp := fun vs H Q _ => ∃ n : Int, vs = [.int n] ∧ Sz 10000 n ∧ Q (.int (2 * n + 1)) H
theorem ok_at_most (T : Top K mg) : FnOk P w K mg base CX0 1 T.f_at_most T.d_at_most ["number"] spAt_most := by
  refine T.F_at_most.ok sc_at_most (fun vs H Q E h => ?_) (fun cdv A outer s H vs Q E hr h => ?_)
  · obtain ⟨n, rfl, _⟩ := h; rfl
  · obtain ⟨n, rfl, hn, q⟩ := h
    refine ⟨_, (pss_one (ps_ret (pe_op op_add (pe_op op_mulW pe_int (pv 0)) pe_int))), ?_⟩
    walk_at "rd"
    exact ⟨Sz.mulW (a := 2) (by unfold Sz; decide) hn (by omega), q⟩
def spBelow (K : PySem.W.Frag) : Sp := fun vs H Q _ => ∃ n : Int, vs = [.int n] ∧ Sz 10000 n ∧ Q (.int (2 * n)) H
theorem ok_below (T : Top K mg) : FnOk P w K mg base CX0 1 T.f_below T.d_below ["number"] (spBelow K) := by
  refine T.F_below.ok sc_below (fun vs H Q E h => ?_) (fun cdv A outer s H vs Q E hr h => ?_)
  · obtain ⟨n, rfl, _⟩ := h; rfl
  · obtain ⟨n, rfl, hn, q⟩ := h
    refine ⟨_, (pss_one (ps_ret (pe_op op_mulW pe_int (pv 0)))), ?_⟩
    walk_at "rd"
    exact ⟨Sz.mulW (a := 2) (by unfold Sz; decide) hn (by omega), q⟩
def spScaled (K : PySem.W.Frag) : Sp := fun vs H Q _ => ∃ (x : Option Int) (t : Int), vs = [oV x, .int t] ∧ Sz 40 t ∧ (∀ b, x = some b → Sz 9000 b) ∧ Q (oV (scO t x)) H
theorem ok_scaled (T : Top K mg) : FnOk P w K mg base CX0 2 T.f_scaled T.d_scaled ["bound", "times"] (spScaled K) := by
  refine T.F_scaled.ok sc_scaled (fun vs H Q E h => ?_) (fun cdv A outer s H vs Q E hr h => ?_)
  · obtain ⟨x, t, rfl, _⟩ := h; rfl
  · obtain ⟨x, t, rfl, st, sx, q⟩ := h
    refine ⟨_, (pss_cons (ps_if (pt_cmpR op_isN (pv 0) pe_non (nomark _)) (pss_one (ps_ret pe_non)) pss_nil)
      (pss_cons (ps_if (pt_val (pe_call (ok_is_open T) (hr.mono (by decide)) rfl T.g_is_open T.F_is_open.kp T.b_is_open .nil pass0 (pa_cons (pv 0) pa_nil))) (pss_one (ps_ret (pe_call (ok_below T) (hr.mono (by decide)) rfl T.g_below T.F_below.kp T.b_below .nil pass0 (pa_cons (pe_op op_mulW (pv 1) (pe_call (ok_number_of T) (hr.mono (by decide)) rfl T.g_number_of T.F_number_of.kp T.b_number_of .nil pass0 (pa_cons (pv 0) pa_nil))) pa_nil)))) pss_nil)
      (pss_one (ps_ret (pe_call (ok_at_most T) (hr.mono (by decide)) rfl T.g_at_most T.F_at_most.kp T.b_at_most .nil pass0 (pa_cons (pe_op op_mulW (pv 1) (pe_call (ok_number_of T) (hr.mono (by decide)) rfl T.g_number_of T.F_number_of.kp T.b_number_of .nil pass0 (pa_cons (pv 0) pa_nil))) pa_nil)))))), ?_⟩
    refine seq_step ?_
    cases x with
    | none =>
      simp only [oV_none]
      walk_at "rd"
      exact q
    | some b =>
    have sb : Sz 9000 (b / 2) := Sz.le (j := b) (by omega) (sx b rfl)
    have stb := st.mul sb (c := 10000) (by omega)
    simp only [oV_some]
    walk_at "rd"
    refine seq_step ?_
    walk_at "rd"
    refine ⟨b, rfl, ?_⟩
    walk_at "rd"
    have q : Q (.int (2 * (t * (b / 2)) + b % 2)) H := q
    refine ite_d (fun c => ?_) (fun c => ?_)
    · refine ⟨b, rfl, ?_⟩
      walk_at "rd"
      refine ⟨st.mulW sb (by omega), ?_⟩
      refine ⟨_, rfl, stb, ?_⟩
      rw [c, Int.add_zero] at q
      exact q
    · walk_at "rd"
      refine ⟨b, rfl, ?_⟩
      walk_at "rd"
      refine ⟨st.mulW sb (by omega), ?_⟩
      refine ⟨_, rfl, stb, ?_⟩
      rw [show b % 2 = 1 by omega] at q
      exact q
def spNear (K : PySem.W.Frag) : Sp := fun vs H Q _ => ∃ (pz pn : Addr) (az : List Addr) (n : Nat) (N : Mx) (i j : Nat) (n0 n1 : Int), vs = [.ref pz, .int i, .int j, .ref pn] ∧ ZAt H pz az n N ∧ Nar n N ∧ SzM 150 N ∧ i < n ∧ j < n ∧ n ≤ 5 ∧ H pn = some (.tup [.int n0, .int n1]) ∧ 0 < n0 ∧ 0 < n1 ∧ Sz 50 n0 ∧ Sz 31 n1 ∧
  ∀ (p : Addr) (xs : List (Int × Int)) (H' : Hp), Same H H' → H p = none → VAt H' p xs → xs.length + 1 = n → GoodV 300 xs → (∃ Dn : Int, 0 < Dn ∧ Sz 40 Dn ∧ FinV Dn 220 xs) → RedV xs → Lies n N (plc xs) → NearR (rq (n0, n1)) (N i j) (rq (plc xs i) - rq (plc xs j)) → Q (.ref p) H'
theorem ok_near_values (T : Top K mg) : FnOk P w K mg base CX0 6 T.f_near_values T.d_near_values ["zone", "i", "j", "near"] (spNear K) := by
  refine T.F_near_values.ok sc_near_values (fun vs H Q E h => ?_) (fun cdv A outer s H vs Q E hr h => ?_)
  · obtain ⟨pz, pn, az, n, N, i, j, n0, n1, rfl, _⟩ := h; rfl
  · obtain ⟨pz, pn, az, n, N, i, j, n0, n1, rfl, z, R, sN, hi, hj, hn, en, h0, h1, s0, s1, q⟩ := h
    refine ⟨_, (pss_cons (ps_set (i := 4) sc_near_values.nd rfl (.inr rfl) (pe_op op_sub pe_int (pe_op op_fdivZ (pe_op op_sub pe_int (pe_ix (ix_tupA (K := K) rfl) (pv 3) pe_int (fun _ _ => rfl))) (pe_ix (ix_tupA (K := K) rfl) (pv 3) pe_int (fun _ _ => rfl)))))
      (pss_cons (ps_set (i := 5) sc_near_values.nd rfl (.inl rfl) (pe_call (ok_at_most T) (hr.mono (by decide)) rfl T.g_at_most T.F_at_most.kp T.b_at_most .nil pass0 (pa_cons (pe_op op_fdivZ (pe_op op_sub pe_int (pe_ix (ix_tupA (K := K) rfl) (pv 3) pe_int (fun _ _ => rfl))) (pe_ix (ix_tupA (K := K) rfl) (pv 3) pe_int (fun _ _ => rfl))) pa_nil)))
      (pss_cons (ps_if (pt_cmpR op_isN (pe_ix (ix_listA (K := K) rfl) (pe_ix (ix_listA (K := K) rfl) (pv 0) (pv 1) (fun _ _ => rfl)) (pv 2) (fun _ _ => rfl)) pe_non (nomark _)) (pss_one (ps_set (i := 4) sc_near_values.nd rfl (.inr rfl) pe_int)) (pss_one (ps_if (pt_val (pe_call (ok_is_open T) (hr.mono (by decide)) rfl T.g_is_open T.F_is_open.kp T.b_is_open .nil pass0 (pa_cons (pe_ix (ix_listA (K := K) rfl) (pe_ix (ix_listA (K := K) rfl) (pv 0) (pv 1) (fun _ _ => rfl)) (pv 2) (fun _ _ => rfl)) pa_nil))) (pss_one (ps_set (i := 5) sc_near_values.nd rfl (.inl rfl) (pe_call (ok_below T) (hr.mono (by decide)) rfl T.g_below T.F_below.kp T.b_below .nil pass0 (pa_cons (pe_op op_sub pe_int (pe_op op_mulW (pv 4) (pe_call (ok_number_of T) (hr.mono (by decide)) rfl T.g_number_of T.F_number_of.kp T.b_number_of .nil pass0 (pa_cons (pe_ix (ix_listA (K := K) rfl) (pe_ix (ix_listA (K := K) rfl) (pv 0) (pv 1) (fun _ _ => rfl)) (pv 2) (fun _ _ => rfl)) pa_nil)))) pa_nil)))) (pss_cons (ps_set (i := 4) sc_near_values.nd rfl (.inr rfl) pe_int)
      (pss_one (ps_set (i := 5) sc_near_values.nd rfl (.inl rfl) (pe_call (ok_at_most T) (hr.mono (by decide)) rfl T.g_at_most T.F_at_most.kp T.b_at_most .nil pass0 (pa_cons (pe_op op_sub pe_int (pe_call (ok_number_of T) (hr.mono (by decide)) rfl T.g_number_of T.F_number_of.kp T.b_number_of .nil pass0 (pa_cons (pe_ix (ix_listA (K := K) rfl) (pe_ix (ix_listA (K := K) rfl) (pv 0) (pv 1) (fun _ _ => rfl)) (pv 2) (fun _ _ => rfl)) pa_nil))) pa_nil))))))))
      (pss_cons (lc_vsS (vs := [7]) (ps_setLc (i := 6) (own := [("row", 7)]) (g := gName 7) (tt := tYes) rfl sc_near_values.nd rfl rfl (sw_true rfl rfl rfl (by decide +kernel)) (pi_listA (K := K) rfl (pv 0)) (blkOk_by (own := [("row", 7)]) (N := ["zone", "i", "j", "near", "times", "least", "rows", "row", "value", "bound"]) (sc := defScope s_near_values) (by decide +kernel)) (fun _ _ _ _ _ => (pg_name (i := 7) sc_near_values.nd rfl (.inl rfl))) (fun _ _ _ _ _ => pts_nil) (fun _ _ _ _ _ => (lc_vs (vs := [9]) (pe_lc (own := [("bound", 9)]) (g := gName 9) (tt := tYes) rfl sc_near_values.nd (pi_listA (K := K) rfl (pv 7)) (blkOk_by (own := [("bound", 9)]) (N := ["zone", "i", "j", "near", "times", "least", "rows", "row", "value", "bound"]) (sc := _) (by kernel_rfl)) (fun _ _ _ _ _ => (pg_name (i := 9) sc_near_values.nd rfl (.inl rfl))) (fun _ _ _ _ _ => pts_nil) (fun _ _ _ _ _ => (pe_call (ok_scaled T) (hr.mono (by decide)) rfl T.g_scaled T.F_scaled.kp T.b_scaled .nil pass0 (pa_cons (pv 9) (pa_cons (pv 4) pa_nil))))) rfl))) rfl)
      (pss_cons (ps_asg (pe_call (ok_narrower T) (hr.mono (by decide)) rfl T.g_narrower T.F_narrower.kp T.b_narrower .nil pass0 (pa_cons (pe_ix (ix_listA (K := K) rfl) (pe_ix (ix_listA (K := K) rfl) (pv 6) (pv 2) (fun _ _ => rfl)) (pv 1) (fun _ _ => rfl)) (pa_cons (pv 5) pa_nil))) (pg_sub (pe_ix (ix_listA (K := K) rfl) (pv 6) (pv 2) (fun _ _ => rfl)) (pv 1) set_list))
      (pss_one (ps_ret (lc_vs (vs := [8]) (pe_lc (own := [("value", 8)]) (g := gName 8) (tt := tYes) rfl sc_near_values.nd (pi_listA (K := K) rfl (pe_call (ok_filled T) (hr.mono (by decide)) rfl T.g_filled T.F_filled.kp T.b_filled .nil pass0 (pa_cons (pe_call (ok_narrowest T) (hr.mono (by decide)) rfl T.g_narrowest T.F_narrowest.kp T.b_narrowest .nil pass0 (pa_cons (pv 6) pa_nil)) (pa_cons pe_dnewN pa_nil)))) (blkOk_by (own := [("value", 8)]) (N := ["zone", "i", "j", "near", "times", "least", "rows", "row", "value", "bound"]) (sc := defScope s_near_values) (by decide +kernel)) (fun _ _ _ _ _ => (pg_name (i := 8) sc_near_values.nd rfl (.inl rfl))) (fun _ _ _ _ _ => pts_nil) (fun _ _ _ _ _ => (pe_call (ok_fraction T) (hr.mono (by decide)) rfl T.g_fraction T.F_fraction.kp T.b_fraction .nil passL (pa_cons (pe_ix (ix_tupA (K := K) rfl) (pv 8) pe_int (fun _ _ => rfl)) (pa_cons (pe_op op_mulW (pe_ix (ix_tupA (K := K) rfl) (pv 8) pe_int (fun _ _ => rfl)) (pv 4)) pa_nil))))) rfl)))))))), ?_⟩
    have dv0 : DivOk n0 := .of (by omega) s0 (by omega)
    have dv1 : DivOk n1 := .of (by omega) s1 (by omega)
    refine seq_step ?_
    walk_at "ix"
    walk_at "ix"
    walk_at "rd"
    refine ⟨dv0, ?_⟩
    refine seq_step ?_
    walk_at "ix"
    walk_at "ix"
    walk_at "rd"
    have sl : Sz 51 ((0 - n0).fdiv n1) := fdiv_sz (s := 50) h1 (Sz.le (j := n0) (by omega) s0)
    have st : Sz 32 (0 - (0 - n1).fdiv n0) := Sz.le (j := (0 - n1).fdiv n0) (by omega) (fdiv_sz (s := 31) h0 (Sz.le (j := n1) (by omega) s1))
    refine ⟨dv1, _, rfl, sl.mono (by omega), ?_⟩
    walk_at "rd"
    refine join_op (fun σ' H' => ∃ t c : Int, σ' = [some (.ref pz), some (.int i), some (.int j), some (.ref pn), some (.int t), some (.int c), none, none, none, none] ∧ H' = H ∧ LeastOk n0 n1 (N i j) t c) (fun σ' H' h => ?_) (fun R' jn => ?_)
    rotate_left
    · refine seq_step ?_
      walk_at "rd"
      refine ix_top z hi fun r er hr1 => ?_
      refine ix_row hr1 hj ?_
      cases hN : N i j with
      | none =>
        simp only [oV_none]
        walk_at "rd"
        exact jn _ _ ⟨_, _, rfl, rfl, hN ▸ least_none h0 h1 s0⟩
      | some b =>
      have sb := sN i j b hN
      simp only [oV_some]
      walk_at "rd"
      refine ix_top z hi fun r er hr1 => ?_
      refine ix_row hr1 hj ?_
      rw [hN]
      simp only [oV_some]
      refine ⟨b, rfl, ?_⟩
      walk_at "rd"
      refine ite_d (fun c => ?_) (fun c => ?_)
      · refine ix_top z hi fun r er hr1 => ?_
        refine ix_row hr1 hj ?_
        rw [hN]
        simp only [oV_some]
        refine ⟨b, rfl, ?_⟩
        walk_at "rd"
        have sb2 : Sz 150 (b / 2) := Sz.le (j := b) (by omega) sb
        refine ⟨st.mulW sb2 (by omega), ?_⟩
        refine ⟨_, rfl, (sz_one (s := 2) (by decide)).sub (st.mul sb2 (Nat.le_refl _)) (by omega) (by omega), ?_⟩
        exact jn _ _ ⟨_, _, rfl, rfl, hN ▸ least_open h0 h1 s1 sb c⟩
      · refine seq_step ?_
        walk_at "rd"
        refine ix_top z hi fun r er hr1 => ?_
        refine ix_row hr1 hj ?_
        rw [hN]
        simp only [oV_some]
        refine ⟨b, rfl, ?_⟩
        walk_at "rd"
        refine ⟨_, rfl, (Sz.le (j := b) (by omega) (sb.mono (by omega))), ?_⟩
        exact jn _ _ ⟨_, _, rfl, rfl, hN ▸ least_closed sb (by omega)⟩
    obtain ⟨t, c, rfl, rfl, L⟩ := h
    have ht := L.t1
    have tp := castpos (u := t) (by omega)
    refine seq_step ?_
    walk_at "rd"
    refine lc_src ?_
    walk_at "rd"
    refine ⟨⟨_, .of z.top⟩, ?_⟩
    refine lcL_objs (xs := az.map V.ref) (Pr := fun a o => o = .lst (zrow n (scM t N a))) z.top (by rw [List.length_map, z.len]; omega) (by simp) (fun a x H2 Q1 ha s2 h => ?_) (fun D as H2 s2 fD eD hl nd ff pr => ?_)
    · have hin : a < n := by
        have := (List.getElem?_eq_some_iff.mp ha).1
        rw [List.length_map, z.len] at this; exact this
      obtain ⟨r, er1, er2, hr1⟩ := (z.keep s2).get hin
      obtain rfl : x = .ref r := Option.some.inj (ha.symm.trans er2)
      refine lc_src ?_
      walk_at "rd"
      refine ⟨⟨_, .of hr1⟩, ?_⟩
      refine lcL_vals (xs := zrow n (N a)) (f := fun b => oV (scM t N a b)) hr1 (by rw [zrow_len]; omega) (by simp) (fun b y H3 Q2 hb s3 h3 => ?_) (fun D2 H3 s3 f3 e3 => ?_)
      · have hbn : b < n := by
          have := (List.getElem?_eq_some_iff.mp hb).1
          rwa [zrow_len] at this
        rw [zrow_get _ hbn] at hb
        obtain rfl := Option.some.inj hb
        walk_at "rd"
        exact ⟨N a b, t, rfl, L.tz.mono (by omega), fun v e => (sN a b v e).mono (by omega), h3 H3 (Same.refl _)⟩
      · rw [zrow_len] at e3
        exact h D2 _ H3 s3 f3 e3 rfl
    rw [List.length_map, z.len] at hl
    have zS : ZAt H2 D as n (scM t N) := ⟨eD, hl, fun a r ha => by obtain ⟨o, h1, rfl⟩ := pr a r ha; exact h1, nd⟩
    have sS : SzM 190 (scM t N) := (sc_sz sN L.tz (by omega)).mono (by omega)
    have RS := sc_nar ht R
    have hL : leO (some 1) (addO (scM t N i j) (some c)) := L.ok
    refine seq_step ?_
    walk_at "rd"
    refine ix_top zS hj fun r er hr1 => ?_
    refine ix_row hr1 hi ?_
    refine ⟨_, some c, rfl, ?_⟩
    refine ix_top zS hj fun r' er' hr' => ?_
    obtain rfl : r = r' := Option.some.inj (er.symm.trans er')
    refine set_at (K := K) hr1 hi ?_
    have zU := zS.set (j := i) (narO (scM t N j i) (some c)) er
    have sU : Same H' (upd H2 r (.lst ((zrow n (scM t N j)).set i (oV (narO (scM t N j i) (some c)))))) := same_updN (ff r (List.mem_of_getElem? er)) s2
    generalize upd H2 r (.lst ((zrow n (scM t N j)).set i (oV (narO (scM t N j i) (some c))))) = H3 at *
    have szU : SzM 190 (up2 (scM t N) j i (narO (scM t N j i) (some c))) := up2_sz sS fun v e => narO_sz (fun v e => sS j i v e) (fun v e => by cases e; exact L.cz) e
    have posU := tight_pos RS hi hj hL
    have hUle := nrw_le n (up2 (scM t N) j i (narO (scM t N j i) (some c)))
    have hle2 : leO (up2 (scM t N) j i (narO (scM t N j i) (some c)) j i) (some c) := by unfold up2; rw [if_pos ⟨rfl, rfl⟩]; exact narO_le2 _ _
    have hle3 : LeM (up2 (scM t N) j i (narO (scM t N j i) (some c))) (scM t N) := up2_le _ _ _ _
    have cub := cube_le (n := n) (by omega)
    walk_at "rd"
    refine lc_src ?_
    walk_at "rd"
    refine ⟨D, as, n, _, 190, rfl, zU, by omega, by omega, szU, by omega, fun ⟨k, d, hk, e, h⟩ => ?_, fun _ pN aN H4 s4 zN _ _ => ?_⟩
    · have h1 := posU k hk
      unfold Pos at h1
      rw [e] at h1
      have h1 : (1 : Int) ≤ d := h1
      omega
    have szN := (nrw_sz2 posU (by omega) szU).mono (t := 200) (by omega)
    have RN := (Nar.of_nrw posU).cut
    generalize hU : up2 (scM t N) j i (narO (scM t N j i) (some c)) = U at *
    walk_at "rd"
    intro pk H5 s5 _ e5
    refine ⟨pN, pk, aN, n, cutM n (nrw n U), fun _ => none, [], 1, 210, 1, rfl, (zN.keep s5).cut, dat_nil e5, by simp, rfl, good_nilE _ _, by decide, by unfold Sz; decide, by omega, part_nil RN (by omega), RN, szN.mono (by omega), by omega, by omega, fun p xs H6 s6 _ hv hxl gv fv rv hlie _ => ?_⟩
    have dpn := DD_pos (D := 1) (by decide) (n - 1)
    have dzn := (DD_sz (D := 1) (d := 1) (by unfold Sz; decide) (n - 1)).mono (c := 7) (by omega)
    generalize DD 1 (n - 1) = Dn at *
    have v0 : Vals0 n (plc xs) := plc_vals gv (by decide) _
    have hlie2 : Lies n U (plc xs) := (nrw_lies v0).mp (lies_cut.mp hlie)
    have hR := (lies_rat v0.pos).mp hlie2
    obtain ⟨qs, hq1, hq2, hq3⟩ := hv
    have s16 : Same H' H6 := sU.trans (s4.trans (s5.trans s6))
    refine ⟨p, rfl, ⟨_, .of hq1⟩, ?_⟩
    refine lcL_tups (xs := qs.map V.ref) (Pr := fun a o => ∃ (x : Int × Int) (t' u' : Int), xs[a]? = some x ∧ o = [.int t', .int u'] ∧ Red x.1 (x.2 * t) t' u') hq1 (by simp; omega) (by simp) (fun a x H7 Q1 ha s7 h => ?_) (fun D' as' H7 s7 fD' eD' hl' pr' => ?_)
    · obtain ⟨qa, hqa, rfl⟩ : ∃ qa, qs[a]? = some qa ∧ x = .ref qa := by
        rw [List.getElem?_map] at ha
        obtain ⟨qa, h1, h2⟩ := Option.map_eq_some_iff.mp ha
        exact ⟨qa, h1, h2.symm⟩
      have hal := (List.getElem?_eq_some_iff.mp hqa).1
      have hxa := List.getElem?_eq_getElem (l := xs) (i := a) (by omega)
      have e7 := s7 _ _ (hq3 a qa _ hqa hxa)
      have ga := gv _ (List.mem_of_getElem? hxa)
      generalize xs[a] = y at *
      walk_at "rd"
      refine ix_t (.of e7) (by decide) rfl ?_
      refine ix_t (.of e7) (by decide) rfl ?_
      walk_at "rd"
      refine ⟨ga.2.2.2.mulW L.tz (by omega), ?_⟩
      refine frac_ok (Int.ne_of_gt (Int.mul_pos ga.2.1 (by omega))) (ga.2.2.2.mul L.tz (by omega)) fun t' u' p8 H8 R8 s8 e8 => h p8 _ H8 s8 e8 ⟨y, t', u', hxa, rfl, R8⟩
    · let ys := as'.map fun a => tupO (H7 a)
      have yat : ∀ k (a : Addr), as'[k]? = some a → ∃ (x : Int × Int) (t' u' : Int), xs[k]? = some x ∧ H7 a = some (.tup [.int t', .int u']) ∧ ys[k]? = some (t', u') ∧ Red x.1 (x.2 * t) t' u' := fun k a ha => by
        obtain ⟨o, ho, x, t', u', hx, rfl, Rd⟩ := pr' k a ha
        refine ⟨x, t', u', hx, ho, ?_, Rd⟩
        show (as'.map fun a => tupO (H7 a))[k]? = _
        rw [List.getElem?_map, ha]
        show some (tupO (H7 a)) = _
        rw [ho]
        rfl
      have hyl : ys.length = as'.length := List.length_map ..
      have hl' : as'.length = xs.length := by rw [hl', List.length_map]; exact hq2
      have ymem : ∀ y ∈ ys, ∃ (k : Nat) (x : Int × Int), xs[k]? = some x ∧ ys[k]? = some y ∧ Red x.1 (x.2 * t) y.1 y.2 := fun y hy => by
        obtain ⟨k, hk⟩ := List.getElem?_of_mem hy
        have hk2 := (List.getElem?_eq_some_iff.mp hk).1
        obtain ⟨x, t', u', h1, _, h3, h4⟩ := yat k as'[k] (List.getElem?_eq_getElem (by omega))
        rw [hk] at h3
        cases Option.some.inj h3
        exact ⟨k, x, h1, hk, h4⟩
      have rqy : ∀ k y, ys[k]? = some y → rq y = rq ((plc xs) (k + 1)) / (t : Rat) ∧ 0 < y.2 := fun k y hk => by
        have hk2 := (List.getElem?_eq_some_iff.mp hk).1
        obtain ⟨x, t', u', h1, _, h3, h4⟩ := yat k as'[k] (List.getElem?_eq_getElem (by omega))
        rw [hk] at h3
        cases Option.some.inj h3
        have gx := gv x (List.mem_of_getElem? h1)
        have h5 := plc_get (xs := xs) (i := k + 1) (by have := (List.getElem?_eq_some_iff.mp h1).1; omega)
        rw [List.getElem?_cons_succ, h1] at h5
        rw [← Option.some.inj h5]
        refine ⟨?_, h4.pos⟩
        rw [show rq (t', u') = _ from rq_red (Int.mul_pos gx.2.1 (by omega)) h4]
        exact rq_div gx.2.1 ht
      have fin : ∀ y ∈ ys, Fin (Dn * t) 220 y := fun y hy => by
        obtain ⟨k, x, h1, h2, h3⟩ := ymem y hy
        exact (fin_over (fv x (List.mem_of_getElem? h1)) ht h3).mono (by omega)
      have dtp := Int.mul_pos dpn (show 0 < t by omega)
      have dtz := dzn.mul L.tz (c := 40) (by omega)
      have good : GoodV 300 ys := fun y hy => by
        obtain ⟨k, x, h1, h2, h3⟩ := ymem y hy
        have gx := gv x (List.mem_of_getElem? h1)
        have sz := (fin y hy).sz dtp dtz
        refine ⟨(rq_nn h3.pos).mp ?_, h3.pos, sz.1.mono (by omega), sz.2.mono (by omega)⟩
        rw [show rq (y.1, y.2) = _ from rq_red (Int.mul_pos gx.2.1 (by omega)) h3, rq_nn (x := (x.1, x.2 * t)) (Int.mul_pos gx.2.1 (by omega))]
        exact gx.1
      have rqp : ∀ k, k < n → rq (plc ys k) = rq (plc xs k) / (t : Rat) := fun k hk => by
        cases k with
        | zero =>
          show rq (0, 1) = rq (0, 1) / (t : Rat)
          rw [rq0]; grind
        | succ k =>
          have h5 := plc_get (xs := ys) (i := k + 1) (by omega)
          rw [List.getElem?_cons_succ] at h5
          exact (rqy k _ h5).1
      have sub : ∀ k l, k < n → l < n → rq (plc ys k) - rq (plc ys l) = (rq (plc xs k) - rq (plc xs l)) / (t : Rat) := fun k l hk hl => by
        rw [rqp k hk, rqp l hl]; grind
      refine q D' ys H7 (s16.trans s7) (s16.free fD') ⟨as', eD', by omega, fun k a y h1 h2 => ?_⟩ (by omega) good ⟨_, dtp, dtz, fin⟩ (fun y hy => ?_) ?_ ?_
      · obtain ⟨x, t', u', _, h3, h4, _⟩ := yat k a h1
        rw [h2] at h4
        cases Option.some.inj h4
        exact h3
      · obtain ⟨k, x, _, _, h3⟩ := ymem y hy
        exact h3.one
      · refine (lies_rat (plc_vals good (by decide) n).pos).mpr fun k l hk hl => ?_
        rw [sub k l hk hl]
        refine scR ht ?_
        exact letsR_mono (hle3 k l) (hR k l hk hl)
      · rw [sub i j hi hj]
        refine L.fin _ (letsR_mono (hle3 i j) (hR i j hi hj)) ?_
        have h9 := letsR_mono hle2 (hR j i hj hi)
        rw [show 0 - (rq (plc xs i) - rq (plc xs j)) = rq (plc xs j) - rq (plc xs i) by grind]
        exact h9
def spStream (K : PySem.W.Frag) : Sp := fun vs H Q _ => ∃ (c : Int) (m : Nat), vs = [.int c, .int m] ∧ m ≤ 60 ∧ ∀ (p : Addr) (H' : Hp) (xs : List Int), Same H H' → H p = none → H' p = some (.lst (xs.map V.int)) → xs.length = m → (∀ x ∈ xs, 0 ≤ x ∧ Sz 150 x) → Q (.ref p) H'
theorem ok_l_stream (T : Top K mg) : FnOk P w K mg base CX0 1 T.f_l_stream T.d_l_stream ["_law_cell", "_law_many"] (spStream K) := by
  refine T.F_l_stream.ok sc_l_stream (fun vs H Q E h => ?_) (fun cdv A outer s H vs Q E hr h => ?_)
  · obtain ⟨c, m, rfl, _⟩ := h; rfl
  · obtain ⟨c, m, rfl, hm, q⟩ := h
    refine ⟨_, (pss_cons (ps_set (i := 2) sc_l_stream.nd rfl (.inl rfl) (pe_lstN pa_nil))
      (pss_cons (ps_if (pt_cmpR op_ge (pv 0) (pe_op op_pow pe_int pe_int) (nomark _)) (pss_cons (ps_set (i := 3) sc_l_stream.nd rfl (.inl rfl) (pe_op op_sub (pv 0) (pe_op op_pow pe_int pe_int)))
      (pss_cons (ps_for PassesOwn.never rfl (pi_range1 (by rfl) T.m_range (pa_cons (pv 1) pa_nil)) (pg_name (i := 4) sc_l_stream.nd rfl (.inl rfl)) (pss_cons (ps_expr (pe_bm PySem.F.plainAttrs_list PySem.F.slot_list_append PySem.F.type_list_append mt_append (pv 2) (pa_cons (pe_op op_modN (pv 3) (pe_op op_pow pe_int pe_int)) pa_nil)))
      (pss_one (ps_set (i := 3) sc_l_stream.nd rfl (.inl rfl) (pe_op op_fdivZ (pv 3) (pe_op op_pow pe_int pe_int))))))
      (pss_one (ps_ret (pv 2))))) pss_nil)
      (pss_cons (ps_set (i := 5) sc_l_stream.nd rfl (.inl rfl) (pe_op op_add (pe_op op_modN (pv 0) (pe_op op_add (pe_op op_pow pe_int pe_int) pe_int)) pe_int))
      (pss_cons (ps_for PassesOwn.never rfl (pi_range1 (by rfl) T.m_range (pa_cons (pe_op op_add (pv 1) pe_int) pa_nil)) (pg_name (i := 4) sc_l_stream.nd rfl (.inl rfl)) (pss_cons (ps_set (i := 5) sc_l_stream.nd rfl (.inl rfl) (pe_op op_modN (pe_op op_add (pe_op op_add (pe_op op_mulW (pv 5) (pv 5)) (pe_op op_mulW pe_int (pv 5))) (pv 4)) (pe_op op_add (pe_op op_pow pe_int pe_int) pe_int)))
      (pss_one (ps_expr (pe_bm PySem.F.plainAttrs_list PySem.F.slot_list_append PySem.F.type_list_append mt_append (pv 2) (pa_cons (pv 5) pa_nil))))))
      (pss_one (ps_ret (pe_slice (sl_listA (K := K) rfl) (pv 2) (po_some pe_int) po_none))))))), ?_⟩
    refine seq_step ?_
    walk_at "rd"
    intro l H1 s1 fl e1
    refine seq_step ?_
    walk_at "rd"
    refine ite_d (fun _ => ?_) (fun _ => ?_)
    · refine seq_step ?_
      walk_at "rd"
      refine seq_step ?_
      refine for_rg ?_
      walk_at "rd"
      refine ⟨(rg_ok (by omega)).1, (rg_ok (by omega)).2, ?_⟩
      rw [Int.toNat_natCast]
      refine forR_by (fun i σ' H' => ∃ (r : Int) (v4 : Option V) (xs : List Int), σ' = [some (.int c), some (.int m), some (.ref l), some (.int r), v4, none] ∧ Same H H' ∧ H' l = some (.lst (xs.map V.int)) ∧ xs.length = i ∧ ∀ x ∈ xs, 0 ≤ x ∧ Sz 150 x) ⟨_, _, [], rfl, s1, e1, rfl, fun x h => by cases h⟩ ?_ ?_
      · rintro i σ' H2 hi ⟨r, v4, xs, rfl, s2, el, hl, hx⟩
        walk_at "rd"
        refine seq_step ?_
        refine ⟨.ref l, rfl, .inl ⟨rfl, _, .of el⟩, ?_⟩
        walk_at "rd"
        refine app_at el (by rw [List.length_map]; omega) ?_
        walk_at "rd"
        have f := fm_pos (c := r) (m := 1000000000000000000000000000000000000000000000) (by decide)
        refine ⟨same_updN fl s2, xs ++ [r.fmod 1000000000000000000000000000000000000000000000], by rw [upd_same, List.map_append]; rfl, by simp [hl], fun x hx' => ?_⟩
        rcases List.mem_append.mp hx' with h | h
        · exact hx x h
        · have : x = r.fmod 1000000000000000000000000000000000000000000000 := by simpa using h
          rw [this]
          exact ⟨f.1, Sz.nn f.1 (Int.le_of_lt f.2) (by unfold Sz; decide +kernel)⟩
      · rintro σ' H2 ⟨r, v4, xs, rfl, s2, el, hl, hx⟩
        walk_at "rd"
        exact q l H2 xs s2 fl el hl hx
    · refine seq_step ?_
      walk_at "rd"
      have f0 := fm_pos (c := c) (m := 1000000000000000009) (by decide)
      refine seq_step ?_
      refine for_rg ?_
      walk_at "rd"
      refine ⟨by omega, by omega, ?_⟩
      rw [show ((m : Int) + 2).toNat = m + 2 by omega]
      refine forR_by (fun i σ' H' => ∃ (r : Int) (v4 : Option V) (xs : List Int), σ' = [some (.int c), some (.int m), some (.ref l), none, v4, some (.int r)] ∧ 0 ≤ r ∧ Sz 62 r ∧ Same H H' ∧ H' l = some (.lst (xs.map V.int)) ∧ xs.length = i ∧ ∀ x ∈ xs, 0 ≤ x ∧ Sz 150 x) ⟨_, _, [], rfl, by omega, by unfold Sz; omega, s1, e1, rfl, fun x h => by cases h⟩ ?_ ?_
      · rintro i σ' H2 hi ⟨r, v4, xs, rfl, r0, sr, s2, el, hl, hx⟩
        walk_at "rd"
        refine seq_step ?_
        walk_at "rd"
        refine ⟨sr.mulW sr (by omega), Sz.mulW (a := 20) (by unfold Sz; decide) sr (by omega), ?_⟩
        have f := fm_pos (c := r * r + 48271 * r + i) (m := 1000000000000000009) (by decide)
        generalize (r * r + 48271 * r + i).fmod 1000000000000000009 = r2 at *
        refine ⟨.ref l, rfl, .inl ⟨rfl, _, .of el⟩, ?_⟩
        walk_at "rd"
        refine app_at el (by rw [List.length_map]; omega) ?_
        walk_at "rd"
        refine ⟨f.1, by unfold Sz; omega, same_updN fl s2, xs ++ [r2], by rw [upd_same, List.map_append]; rfl, by simp [hl], fun x hx' => ?_⟩
        rcases List.mem_append.mp hx' with h | h
        · exact hx x h
        · have : x = r2 := by simpa using h
          rw [this]
          exact ⟨f.1, by unfold Sz; omega⟩
      · rintro σ' H2 ⟨r, v4, xs, rfl, r0, sr, s2, el, hl, hx⟩
        walk_at "rd"
        refine ⟨_, .of el, fun p2 H3 s3 f3 e3 => ?_⟩
        have ec : cutV (xs.map V.int) (some 2) none = (xs.drop 2).map V.int := by
          rw [List.map_drop]
          exact cut_from (k := 2) (by rw [List.length_map]; omega)
        rw [ec] at e3
        exact q p2 H3 (xs.drop 2) (s2.trans s3) (s2.free f3) e3 (by rw [List.length_drop]; omega) fun x h => hx x (List.mem_of_mem_drop h)
def spLowest (K : PySem.W.Frag) : Sp := fun vs H Q _ => ∃ a b : Int, vs = [.int a, .int b] ∧ b ≠ 0 ∧ Sz 8000 b ∧ LowT a b H Q
theorem ok_l_lowest (T : Top K mg) : FnOk P w K mg base CX0 1 T.f_l_lowest T.d_l_lowest ["_law_top", "_law_bottom"] (spLowest K) := by
  refine T.F_l_lowest.ok sc_l_lowest (fun vs H Q E h => ?_) (fun cdv A outer s H vs Q E hr h => ?_)
  · obtain ⟨a, b, rfl, _⟩ := h; rfl
  · obtain ⟨a, b, rfl, hb, hz, q⟩ := h
    refine ⟨_, (pss_cons (ps_set (i := 2) sc_l_lowest.nd rfl (.inl rfl) (pv 0))
      (pss_cons (ps_set (i := 3) sc_l_lowest.nd rfl (.inl rfl) (pv 1))
      (pss_cons (ps_while PassesOwn.never (pt_cmpR op_ne (pv 3) pe_int (nomark _)) (pss_one (ps_par (i := 2) (j := 3) (by rfl) sc_l_lowest.nd rfl rfl (by decide) rfl rfl (pa_cons (pv 3) (pa_cons (pe_op op_modN (pv 2) (pv 3)) pa_nil)) (by rfl))))
      (pss_one (ps_ret (pe_tupN (pa_cons (pe_op op_fdivZ (pv 0) (pe_callB call_abs (by rfl) T.m_abs (by decide +kernel) (pa_cons (pv 2) pa_nil))) (pa_cons (pe_op op_fdivZ (pv 1) (pe_callB call_abs (by rfl) T.m_abs (by decide +kernel) (pa_cons (pv 2) pa_nil))) pa_nil)))))))), ?_⟩
    refine seq_step ?_
    walk_at "rd"
    refine seq_step ?_
    walk_at "rd"
    refine seq_step ?_
    refine while_by (fun σ H' => H' = H ∧ ∃ x y : Int, σ = [some (.int a), some (.int b), some (.int x), some (.int y)] ∧ Int.gcd x y = Int.gcd a b) (fun σ _ => match σ with | [_, _, _, some (.int y)] => y.natAbs | _ => 0) ⟨rfl, a, b, rfl, rfl⟩ ?_ ?_
    · rintro σ H' ⟨rfl, x, y, rfl, hg⟩
      walk_at "rd"
      by_cases c : y = 0
      · subst c
        rw [decide_eq_true rfl, Bool.not_true, if_neg Bool.false_ne_true]
        have e : (if x < 0 then -x else x) = ((Int.gcd a b : Nat) : Int) := by
          rw [← hg, Int.gcd_zero_right]; split <;> omega
        rw [e]
        have g := gcd_pos_right (a := a) hb
        have gs := gcd_le_size (a := a) hb
        have c : DivOk ((Int.gcd a b : Nat) : Int) := .of (by omega) (Sz.le (by omega) hz) (by omega)
        exact ⟨c, c, fun p H2 s2 _ e2 => q _ _ p H2 (low_of hb) s2 e2⟩
      · rw [decide_eq_false c, Bool.not_false, if_pos rfl]
        exact ⟨c, by rw [fmod_gcd, hg], fmod_lt x y c⟩
    · rintro σ H Q Q' m ⟨v, hv, hs, k, hk, q⟩
      exact ⟨v, hv, hs, k, hk, m _ _ q⟩
def ValInv (H : Hp) (px : Addr) (m : Nat) (unit : Int) (l : Addr) (i : Nat) (σ' : L2.St) (H' : Hp) : Prop := ∃ (qs : List Addr) (vals : List (Int × Int)) (v4 v5 : Option V), σ' = [some (.ref px), some (.int m), some (.int unit), some (.ref l), v4, v5] ∧ Same H H' ∧ vals.length = i ∧ GoodV 50 vals ∧ RedV vals ∧ H' l = some (.lst (qs.map V.ref)) ∧ qs.length = vals.length ∧ ∀ (i : Nat) (q : Addr) (x : Int × Int), qs[i]? = some q → vals[i]? = some x → H' q = some (.tup [.int x.1, .int x.2])
def spValues (K : PySem.W.Frag) : Sp := fun vs H Q _ => ∃ (px : Addr) (xs : List Int) (m : Nat) (unit : Int), vs = [.ref px, .int m, .int unit] ∧ H px = some (.lst (xs.map V.int)) ∧ 2 * m ≤ xs.length ∧ m ≤ 8 ∧ 0 < unit ∧ unit ≤ 1000000000000 ∧
  ∀ (p : Addr) (H' : Hp) (vals : List (Int × Int)), Same H H' → H p = none → VAt H' p vals → vals.length = m → GoodV 50 vals → RedV vals → Q (.ref p) H'
theorem ok_l_values (T : Top K mg) : FnOk P w K mg base CX0 2 T.f_l_values T.d_l_values ["_law_xs", "_law_many", "_law_unit"] (spValues K) := by
  refine T.F_l_values.ok sc_l_values (fun vs H Q E h => ?_) (fun cdv A outer s H vs Q E hr h => ?_)
  · obtain ⟨px, xs, m, unit, rfl, _⟩ := h; rfl
  · obtain ⟨px, xs, m, unit, rfl, ex, hx, hm, hu0, hu1, q⟩ := h
    refine ⟨_, (pss_cons (ps_set (i := 3) sc_l_values.nd rfl (.inl rfl) (pe_lstN pa_nil))
      (pss_cons (ps_for PassesOwn.never rfl (pi_range1 (by rfl) T.m_range (pa_cons (pv 1) pa_nil)) (pg_name (i := 4) sc_l_values.nd rfl (.inl rfl)) (pss_cons (ps_set (i := 5) sc_l_values.nd rfl (.inl rfl) (pe_op op_add pe_int (pe_op op_modN (pe_ix (ix_listA (K := K) rfl) (pv 0) (pe_op op_mulW pe_int (pv 4)) (fun _ _ => rfl)) pe_int)))
      (pss_one (ps_expr (pe_bm PySem.F.plainAttrs_list PySem.F.slot_list_append PySem.F.type_list_append mt_append (pv 3) (pa_cons (pe_call (ok_l_lowest T) (hr.mono (by decide)) rfl T.g_l_lowest T.F_l_lowest.kp T.b_l_lowest .nil pass0 (pa_cons (pe_op op_modN (pe_ix (ix_listA (K := K) rfl) (pv 0) (pe_op op_add (pe_op op_mulW pe_int (pv 4)) pe_int) (fun _ _ => rfl)) (pe_op op_mulW (pe_op op_mulW pe_int (pv 2)) (pv 5))) (pa_cons (pv 5) pa_nil))) pa_nil))))))
      (pss_one (ps_ret (pv 3))))), ?_⟩
    refine seq_step ?_
    walk_at "rd"
    intro l H1 s1 fl e1
    refine seq_step ?_
    refine for_rg ?_
    walk_at "rd"
    refine ⟨(rg_ok (by omega)).1, (rg_ok (by omega)).2, ?_⟩
    rw [Int.toNat_natCast]
    have VI : ∀ (qs : List Addr) (H' : Hp) (vals : List (Int × Int)), H' l = some (.lst (qs.map V.ref)) → qs.length = vals.length → (∀ (i : Nat) (q : Addr) (x : Int × Int), qs[i]? = some q → vals[i]? = some x → H' q = some (.tup [.int x.1, .int x.2])) → VAt H' l vals := fun qs H' vals a b c => ⟨qs, a, b, c⟩
    refine forR_by (ValInv H px m unit l)
      ⟨[], [], _, _, rfl, s1, rfl, (fun x h => by cases h), (fun x h => by cases h), e1, rfl, fun i q x h => by cases h⟩ ?_ ?_
    · rintro i σ' H2 hi ⟨qs, vals, v4, v5, rfl, s2, hl, gv, rv, el, hql, hqs⟩
      walk_at "rd"
      refine seq_step ?_
      walk_at "rd"
      have exx := s2 _ _ ex
      have two : Sz 2 2 := by unfold Sz; decide
      have si : Sz 10 (i : Int) := by unfold Sz; omega
      have i1 : 2 * i < xs.length := by omega
      have i2 : 2 * i + 1 < xs.length := by omega
      refine ⟨two.mulW si (by omega), ?_⟩
      refine ix_l (.of exx) (by omega) (by rw [show (2 * (i : Int)).toNat = 2 * i by omega, List.getElem?_map, List.getElem?_eq_getElem i1]; rfl) ?_
      walk_at "rd"
      have f1 := fm_pos (c := xs[2 * i]) (m := 6) (by decide)
      obtain ⟨B, hB⟩ : ∃ B, 1 + xs[2 * i].fmod 6 = B := ⟨_, rfl⟩
      rw [hB]
      have sB : Sz 3 B := by unfold Sz; omega
      have su : Sz 41 unit := by unfold Sz; omega
      refine ⟨.ref l, rfl, .inl ⟨rfl, _, .of el⟩, ?_⟩
      walk_at "rd"
      refine ⟨two.mulW si (by omega), ?_⟩
      refine ix_l (.of exx) (by omega) (by rw [show (2 * (i : Int) + 1).toNat = 2 * i + 1 by omega, List.getElem?_map, List.getElem?_eq_getElem i2]; rfl) ?_
      walk_at "rd"
      have s4u : Sz 45 (4 * unit) := by unfold Sz; omega
      have p4 : 0 < 4 * unit * B := Int.mul_pos (by omega) (by omega)
      have f2 := fm_pos (c := xs[2 * i + 1]) p4
      refine ⟨Sz.mulW (a := 3) (by unfold Sz; decide) su (by omega), s4u.mulW sB (by omega), by omega, ?_⟩
      refine ⟨_, _, rfl, by omega, sB.mono (by omega), fun t u p H3 low s3 e3 => ?_⟩
      have R := low.red (by omega)
      have st : Sz 50 t := Sz.le R.tle (Sz.nn f2.1 (Int.le_of_lt f2.2) (s4u.mul sB (by omega)))
      have tn : 0 ≤ t := by
        have e := low.top
        have g := gcd_pos_right (a := xs[2 * i + 1].fmod (4 * unit * B)) (b := B) (by omega)
        rcases Int.lt_or_le t 0 with z | z
        · have := Int.mul_neg_of_neg_of_pos z g; omega
        · exact z
      have el3 := s3 _ _ el
      have npl : p ≠ l := ne_of e3 el3 (by intro z; cases z)
      refine app_at el3 (by rw [List.length_map]; omega) ?_
      walk_at "rd"
      refine ⟨qs ++ [p], vals ++ [(t, u)], _, _, rfl, same_updN fl (s2.trans s3), by simp [hl], fun x hx' => ?_, fun x hx' => ?_, by rw [upd_same, List.map_append]; rfl, by simp [hql], fun k q x h1 h2 => ?_⟩
      · rcases List.mem_append.mp hx' with h | h
        · exact gv x h
        · have : x = (t, u) := by simpa using h
          rw [this]
          exact ⟨tn, R.pos, st, Sz.le R.ule (sB.mono (by omega))⟩
      · rcases List.mem_append.mp hx' with h | h
        · exact rv x h
        · have : x = (t, u) := by simpa using h
          rw [this]
          exact R.one
      · by_cases c : k < qs.length
        · rw [List.getElem?_append_left c] at h1
          rw [List.getElem?_append_left (by omega)] at h2
          have h3 := hqs k q x h1 h2
          rw [upd_ne (ne_of h3 el (by intro z; cases z))]
          exact s3 _ _ h3
        · have hlt := (List.getElem?_eq_some_iff.mp h1).1
          rw [List.length_append, List.length_singleton] at hlt
          obtain rfl : k = qs.length := by omega
          rw [List.getElem?_append_right (Nat.le_refl _), Nat.sub_self] at h1
          rw [hql, List.getElem?_append_right (Nat.le_refl _), Nat.sub_self] at h2
          have a1 : p = q := by simpa using h1
          have a2 : (t, u) = x := by simpa using h2
          subst a1; subst a2
          rw [upd_ne npl]; exact e3
    · rintro σ' H2 ⟨qs, vals, v4, v5, rfl, s2, hl, gv, rv, el, hql, hqs⟩
      walk_at "rd"
      exact q l H2 vals s2 fl (VI qs H2 vals el hql hqs) hl gv rv
def spLMinusR (K : PySem.W.Frag) : Sp := fun vs H Q _ => ∃ (a b : Int × Int) (p1 p2 : Addr), vs = [.ref p1, .ref p2] ∧ H p1 = some (.tup [.int a.1, .int a.2]) ∧ H p2 = some (.tup [.int b.1, .int b.2]) ∧ 0 < a.2 ∧ 0 < b.2 ∧ Sz 3900 a.1 ∧ Sz 3900 a.2 ∧ Sz 3900 b.1 ∧ Sz 3900 b.2 ∧ RedT (a.1 * b.2 - b.1 * a.2) (a.2 * b.2) H Q
theorem ok_l_minus (T : Top K mg) : FnOk P w K mg base CX0 2 T.f_l_minus T.d_l_minus ["_law_one", "_law_other"] (spLMinusR K) := by
  refine T.F_l_minus.ok sc_l_minus (fun vs H Q E h => ?_) (fun cdv A outer s H vs Q E hr h => ?_)
  · obtain ⟨a, b, p1, p2, rfl, _⟩ := h; rfl
  · obtain ⟨a, b, p1, p2, rfl, h1, h2, pa, pb, sa, sb, sc, sd, q⟩ := h
    refine ⟨_, (pss_one (ps_ret (pe_call (ok_l_lowest T) (hr.mono (by decide)) rfl T.g_l_lowest T.F_l_lowest.kp T.b_l_lowest .nil pass0 (pa_cons (pe_op op_sub (pe_op op_mulW (pe_ix (ix_tupA (K := K) rfl) (pv 0) pe_int (fun _ _ => rfl)) (pe_ix (ix_tupA (K := K) rfl) (pv 1) pe_int (fun _ _ => rfl))) (pe_op op_mulW (pe_ix (ix_tupA (K := K) rfl) (pv 1) pe_int (fun _ _ => rfl)) (pe_ix (ix_tupA (K := K) rfl) (pv 0) pe_int (fun _ _ => rfl)))) (pa_cons (pe_op op_mulW (pe_ix (ix_tupA (K := K) rfl) (pv 0) pe_int (fun _ _ => rfl)) (pe_ix (ix_tupA (K := K) rfl) (pv 1) pe_int (fun _ _ => rfl))) pa_nil))))), ?_⟩
    walk_at "ix"
    walk_at "ix"
    walk_at "rd"
    refine ⟨sa.mulW sd (by omega), ?_⟩
    walk_at "ix"
    walk_at "ix"
    walk_at "rd"
    refine ⟨sc.mulW sb (by omega), ?_⟩
    walk_at "ix"
    walk_at "ix"
    walk_at "rd"
    have pp := Int.mul_pos pa pb
    refine ⟨sb.mulW sd (by omega), _, _, rfl, Int.ne_of_gt pp, sb.mul sd (by omega), fun t u p3 H3 low s3 e3 => q t u p3 H3 (low.red pp) s3 e3⟩
def spLPlusR (K : PySem.W.Frag) : Sp := fun vs H Q _ => ∃ (a b : Int × Int) (p1 p2 : Addr), vs = [.ref p1, .ref p2] ∧ H p1 = some (.tup [.int a.1, .int a.2]) ∧ H p2 = some (.tup [.int b.1, .int b.2]) ∧ 0 < a.2 ∧ 0 < b.2 ∧ Sz 3900 a.1 ∧ Sz 3900 a.2 ∧ Sz 3900 b.1 ∧ Sz 3900 b.2 ∧ RedT (a.1 * b.2 + b.1 * a.2) (a.2 * b.2) H Q
theorem ok_l_plus (T : Top K mg) : FnOk P w K mg base CX0 2 T.f_l_plus T.d_l_plus ["_law_one", "_law_other"] (spLPlusR K) := by
  refine T.F_l_plus.ok sc_l_plus (fun vs H Q E h => ?_) (fun cdv A outer s H vs Q E hr h => ?_)
  · obtain ⟨a, b, p1, p2, rfl, _⟩ := h; rfl
  · obtain ⟨a, b, p1, p2, rfl, h1, h2, pa, pb, sa, sb, sc, sd, q⟩ := h
    refine ⟨_, (pss_one (ps_ret (pe_call (ok_l_lowest T) (hr.mono (by decide)) rfl T.g_l_lowest T.F_l_lowest.kp T.b_l_lowest .nil pass0 (pa_cons (pe_op op_add (pe_op op_mulW (pe_ix (ix_tupA (K := K) rfl) (pv 0) pe_int (fun _ _ => rfl)) (pe_ix (ix_tupA (K := K) rfl) (pv 1) pe_int (fun _ _ => rfl))) (pe_op op_mulW (pe_ix (ix_tupA (K := K) rfl) (pv 1) pe_int (fun _ _ => rfl)) (pe_ix (ix_tupA (K := K) rfl) (pv 0) pe_int (fun _ _ => rfl)))) (pa_cons (pe_op op_mulW (pe_ix (ix_tupA (K := K) rfl) (pv 0) pe_int (fun _ _ => rfl)) (pe_ix (ix_tupA (K := K) rfl) (pv 1) pe_int (fun _ _ => rfl))) pa_nil))))), ?_⟩
    walk_at "ix"
    walk_at "ix"
    walk_at "rd"
    refine ⟨sa.mulW sd (by omega), ?_⟩
    walk_at "ix"
    walk_at "ix"
    walk_at "rd"
    refine ⟨sc.mulW sb (by omega), ?_⟩
    walk_at "ix"
    walk_at "ix"
    walk_at "rd"
    have pp := Int.mul_pos pa pb
    refine ⟨sb.mulW sd (by omega), _, _, rfl, Int.ne_of_gt pp, sb.mul sd (by omega), fun t u p3 H3 low s3 e3 => q t u p3 H3 (low.red pp) s3 e3⟩
def spBound (K : PySem.W.Frag) : Sp := fun vs H Q _ => ∃ (t u x : Int) (p : Addr), vs = [.ref p, .int x] ∧ H p = some (.tup [.int t, .int u]) ∧ 0 < u ∧ Sz 110 t ∧ Sz 110 u ∧ ∀ (b : Option Int) (H' : Hp), Same H H' → letsO b t u = true → (∀ v, b = some v → Sz 130 v) → Q (oV b) H'
theorem ok_l_bound (T : Top K mg) : FnOk P w K mg base CX0 1 T.f_l_bound T.d_l_bound ["_law_value", "_law_x"] (spBound K) := by
  refine T.F_l_bound.ok sc_l_bound (fun vs H Q E h => ?_) (fun cdv A outer s H vs Q E hr h => ?_)
  · obtain ⟨t, u, x, p, rfl, _⟩ := h; rfl
  · obtain ⟨t, u, x, p, rfl, hp, hu, st, su, q⟩ := h
    refine ⟨_, (pss_cons (ps_asg (pv 0) (pg_tup (by rfl) (pgs_cons (pg_name (i := 2) sc_l_bound.nd rfl (.inl rfl)) (pgs_cons (pg_name (i := 3) sc_l_bound.nd rfl (.inl rfl)) pgs_nil))))
      (pss_cons (ps_set (i := 4) sc_l_bound.nd rfl (.inl rfl) (pe_op op_modN (pv 1) pe_int))
      (pss_cons (ps_set (i := 5) sc_l_bound.nd rfl (.inl rfl) (pe_op op_modN (pe_op op_fdivZ (pv 1) pe_int) (pe_ix (ix_listA (K := K) rfl) (pe_lstN (pa_cons pe_int (pa_cons (pe_op op_pow pe_int pe_int) pa_nil))) (pe_op op_modN (pe_op op_fdivZ (pv 1) pe_int) pe_int) (fun _ _ => rfl))))
      (pss_cons (ps_if (pt_cmpR op_lt (pv 4) pe_int (nomark _)) (pss_one (ps_ret pe_non)) pss_nil)
      (pss_cons (ps_if (pt_cmpR op_lt (pv 4) pe_int (nomark _)) (pss_one (ps_ret (pe_op op_add (pe_op op_mulW pe_int (pe_op op_add (pe_op op_sub pe_int (pe_op op_fdivZ (pe_op op_sub pe_int (pv 2)) (pv 3))) (pe_op op_mulW (pv 5) (pe_op op_sub (pv 4) pe_int)))) pe_int))) pss_nil)
      (pss_one (ps_ret (pe_op op_mulW pe_int (pe_op op_add (pe_op op_add (pe_op op_fdivZ (pv 2) (pv 3)) pe_int) (pe_op op_mulW (pv 5) (pe_op op_sub (pv 4) pe_int))))))))))), ?_⟩
    refine seq_step ?_
    walk_at "rd"
    refine gTup_of (sqt hp) rfl ?_
    walk_at "rd"
    refine seq_step ?_
    walk_at "rd"
    have f6 := fm_pos (c := x) (m := 6) (by decide)
    refine seq_step ?_
    walk_at "rd"
    intro p1 H1 s1 _ e1
    obtain ⟨m, hmS, hm0, hm1⟩ : ∃ m : Int, ([.int 5, .int 1000000000] : List V)[((x.fdiv 30).fmod 2).toNat]? = some (.int m) ∧ 0 < m ∧ m ≤ 1000000000 := by
      rcases fm2 (x.fdiv 30) with e | e <;> rw [e]
      · exact ⟨5, rfl, by decide, by decide⟩
      · exact ⟨_, rfl, by decide, by decide⟩
    refine ix_l (.of e1) (fm_pos (m := 2) (by decide)).1 hmS ?_
    walk_at "rd"
    have fm := fm_pos (c := x.fdiv 6) hm0
    obtain ⟨more, hmore⟩ : ∃ more, (x.fdiv 6).fmod m = more := ⟨_, rfl⟩
    rw [hmore] at fm ⊢
    obtain ⟨way, hway⟩ : ∃ way, x.fmod 6 = way := ⟨_, rfl⟩
    rw [hway] at f6 ⊢
    have sm : Sz 30 more := by unfold Sz; omega
    refine ⟨by omega, ?_⟩
    refine seq_step ?_
    walk_at "rd"
    refine ite_d (fun _ => q none H1 s1 rfl (fun v h => by cases h)) (fun c1 => ?_)
    refine seq_step ?_
    walk_at "rd"
    have du : DivOk u := .of (by omega) su (by omega)
    have two : Sz 2 2 := by unfold Sz; decide
    have s1t := fdiv_sz hu st
    have s2t : Sz 112 (0 - (0 - t).fdiv u) := by
      have := fdiv_sz (s := 110) (t := 0 - t) hu (by unfold Sz at st ⊢; omega)
      refine (Sz.le (j := (0 - t).fdiv u) (by omega) this).mono (by omega)
    refine ite_d (fun c2 => ?_) (fun c2 => ?_)
    · have kn : 0 ≤ more * (way - 2) := Int.mul_nonneg fm.1 (by omega)
      have sk := Sz.mul (a := 30) (b := 3) (c := 33) sm (show Sz 3 (way - 2) by unfold Sz; omega) (by omega)
      have ss := s2t.add sk (c := 113) (by omega) (by omega)
      refine ⟨du, Sz.mulW (a := 30) (b := 3) sm (by unfold Sz; omega) (by omega), two.mulW ss (by omega), ?_⟩
      refine q (some _) H1 s1 (ceil_ok hu kn) fun v e => ?_
      cases e
      exact ((two.mul ss (Nat.le_refl _)).add (show Sz 2 1 by unfold Sz; decide) (c := 116) (by omega) (by omega)).mono (by omega)
    · have kn : 0 ≤ more * (way - 4) := Int.mul_nonneg fm.1 (by omega)
      have sk := Sz.mul (a := 30) (b := 3) (c := 33) sm (show Sz 3 (way - 4) by unfold Sz; omega) (by omega)
      have s3 := s1t.add (show Sz 2 1 by unfold Sz; decide) (c := 112) (by omega) (by omega)
      have ss := s3.add sk (c := 113) (by omega) (by omega)
      refine ⟨du, Sz.mulW (a := 30) (b := 3) sm (by unfold Sz; omega) (by omega), two.mulW ss (by omega), ?_⟩
      refine q (some _) H1 s1 (floor_ok hu kn) fun v e => ?_
      cases e
      exact (two.mul ss (Nat.le_refl _)).mono (by omega)
def AInv1 (Hb : Hp) (pvl px pp l : Addr) (vals : List (Int × Int)) (n i : Nat) (σ' : L2.St) (H' : Hp) : Prop := ∃ (as : List Addr) (M : Mx) (v4 v5 v6 : Option V), σ' = [some (.ref pvl), some (.ref px), some (.ref pp), some (.ref l), v4, v5, v6] ∧ Same Hb H' ∧ Grow Hb H' l as i n M ∧ SzM 130 M ∧ ∀ a b, a < i → b < n → letsO (M a b) (dif (plc vals a) (plc vals b)).1 (dif (plc vals a) (plc vals b)).2 = true
def AInv2 (Hb : Hp) (pvl px pp l r : Addr) (vals : List (Int × Int)) (as : List Addr) (M : Mx) (n i j : Nat) (σ' : L2.St) (H' : Hp) : Prop := ∃ (f : Nat → Option Int) (v6 : Option V), σ' = [some (.ref pvl), some (.ref px), some (.ref pp), some (.ref l), some (.int i), some (.ref r), v6] ∧ Same Hb H' ∧ Grow Hb H' l as i n M ∧ H' r = some (.lst (zrow j f)) ∧ (∀ b v, f b = some v → Sz 130 v) ∧ ∀ b, b < j → letsO (f b) (dif (plc vals i) (plc vals b)).1 (dif (plc vals i) (plc vals b)).2 = true
def spAround (K : PySem.W.Frag) : Sp := fun vs H Q _ => ∃ (pvl px : Addr) (vals : List (Int × Int)) (xs : List Int), vs = [.ref pvl, .ref px] ∧ VAt H pvl vals ∧ GoodV 50 vals ∧ vals.length ≤ 6 ∧ H px = some (.lst (xs.map V.int)) ∧ (vals.length + 1) * (vals.length + 1) ≤ xs.length ∧
  ∀ (p : Addr) (as : List Addr) (M : Mx) (H' : Hp), Same H H' → ZAt H' p as (vals.length + 1) M → H p = none → (∀ a ∈ as, H a = none) → SzM 130 M → Lies (vals.length + 1) M (plc vals) → Q (.ref p) H'
theorem ok_l_around (T : Top K mg) : FnOk P w K mg base CX0 3 T.f_l_around T.d_l_around ["_law_values_here", "_law_xs"] (spAround K) := by
  refine T.F_l_around.ok sc_l_around (fun vs H Q E h => ?_) (fun cdv A outer s H vs Q E hr h => ?_)
  · obtain ⟨pvl, px, vals, xs, rfl, _⟩ := h; rfl
  · obtain ⟨pvl, px, vals, xs, rfl, hv, gv, hm, ex, hx, q⟩ := h
    refine ⟨_, (pss_cons (ps_set (i := 2) sc_l_around.nd rfl (.inl rfl) (pe_op op_catN (pe_lstN (pa_cons (pe_tupN (pa_cons pe_int (pa_cons pe_int pa_nil))) pa_nil)) (pv 0)))
      (pss_cons (ps_set (i := 3) sc_l_around.nd rfl (.inl rfl) (pe_lstN pa_nil))
      (pss_cons (ps_for PassesOwn.never rfl (pi_range1 (by rfl) T.m_range (pa_cons (pe_callB call_len_seq (by rfl) T.m_len (by decide +kernel) (pa_cons (pv 2) pa_nil)) pa_nil)) (pg_name (i := 4) sc_l_around.nd rfl (.inl rfl)) (pss_cons (ps_set (i := 5) sc_l_around.nd rfl (.inl rfl) (pe_lstN pa_nil))
      (pss_cons (ps_for PassesOwn.never rfl (pi_range1 (by rfl) T.m_range (pa_cons (pe_callB call_len_seq (by rfl) T.m_len (by decide +kernel) (pa_cons (pv 2) pa_nil)) pa_nil)) (pg_name (i := 6) sc_l_around.nd rfl (.inl rfl)) (pss_one (ps_expr (pe_bm PySem.F.plainAttrs_list PySem.F.slot_list_append PySem.F.type_list_append mt_append (pv 5) (pa_cons (pe_call (ok_l_bound T) (hr.mono (by decide)) rfl T.g_l_bound T.F_l_bound.kp T.b_l_bound .nil pass0 (pa_cons (pe_call (ok_l_minus T) (hr.mono (by decide)) rfl T.g_l_minus T.F_l_minus.kp T.b_l_minus .nil pass0 (pa_cons (pe_ix (ix_listA (K := K) rfl) (pv 2) (pv 4) (fun _ _ => rfl)) (pa_cons (pe_ix (ix_listA (K := K) rfl) (pv 2) (pv 6) (fun _ _ => rfl)) pa_nil))) (pa_cons (pe_ix (ix_listA (K := K) rfl) (pv 1) (pe_op op_add (pe_op op_mulW (pv 4) (pe_callB call_len_seq (by rfl) T.m_len (by decide +kernel) (pa_cons (pv 2) pa_nil))) (pv 6)) (fun _ _ => rfl)) pa_nil))) pa_nil)))))
      (pss_one (ps_expr (pe_bm PySem.F.plainAttrs_list PySem.F.slot_list_append PySem.F.type_list_append mt_append (pv 3) (pa_cons (pv 5) pa_nil)))))))
      (pss_one (ps_ret (pv 3)))))), ?_⟩
    refine seq_step ?_
    walk_at "rd"
    intro q0 H1 s1 _ e1 p1 H2 s2 _ e2
    obtain ⟨qs, hv1, hv2, hv3⟩ := hv.keep (s1.trans s2)
    have hlq : qs.length ≤ 6 := by omega
    refine ⟨_, e2, _, hv1, Nat.le_of_lt (small1000 (by simp; omega)), fun pp H3 s3 _ e3 => ?_⟩
    have sHb : Same H H3 := s1.trans (s2.trans s3)
    have vp : VAt H3 pp ((0, 1) :: vals) := ⟨q0 :: qs, e3, by simp [hv2], fun i q' x h1 h2 => by
      cases i with
      | zero =>
        cases h1; cases h2
        exact s3 _ _ (s2 _ _ e1)
      | succ i => exact s3 _ _ (hv3 i q' x h1 h2)⟩
    obtain ⟨qs', ep1, ep2, _⟩ := id vp
    refine seq_step ?_
    walk_at "rd"
    intro l H4 s4 fl e4
    refine seq_step ?_
    refine for_rg ?_
    walk_at "rd"
    have hn : (qs'.map V.ref).length = vals.length + 1 := by rw [List.length_map, ep2]; rfl
    refine ⟨_, .inl (.of (s4 _ _ ep1)), (rg_ok (by omega)).1, (rg_ok (by omega)).2, ?_⟩
    rw [hn, Int.toNat_natCast]
    generalize hN : vals.length + 1 = n at *
    have hn7 : n ≤ 7 := by omega
    refine forR_by (AInv1 H3 pvl px pp l vals n) ⟨[], fun _ _ => none, _, _, _, rfl, s4, ⟨e4, rfl, List.nodup_nil, (fun a h => by cases h), (fun j a h => by cases h)⟩, (fun i j v h => by cases h), fun a b h => by omega⟩ ?_ ?_
    · rintro i σ' H5 hi ⟨as, M, v4, v5, v6, rfl, s5, g, sM, hl⟩
      walk_at "rd"
      refine seq_step ?_
      walk_at "rd"
      intro r H6 s6 fr e6
      refine seq_step ?_
      refine for_rg ?_
      walk_at "rd"
      have s36 := s5.trans s6
      refine ⟨_, .inl (.of (s36 _ _ ep1)), (rg_ok (by omega)).1, (rg_ok (by omega)).2, ?_⟩
      rw [hn, Int.toNat_natCast]
      have nl : r ≠ l := fun e => by rw [e, g.top] at fr; cases fr
      have nr : r ∉ as := fun hm => by
        obtain ⟨j, hj, e⟩ := List.mem_iff_getElem.mp hm
        have := g.row j r (by rw [List.getElem?_eq_getElem hj, e])
        rw [fr] at this; cases this
      refine forR_by (AInv2 H3 pvl px pp l r vals as M n i) ⟨fun _ => none, _, rfl, s36, g.keep fun b o e _ => s6 b o e, e6, (fun b v h => by cases h), fun b h => by omega⟩ ?_ ?_
      · rintro j σ' H7 hj ⟨f, v6', rfl, s7, g7, e7, hf, hlf⟩
        walk_at "rd"
        refine ⟨.ref r, rfl, .inl ⟨rfl, _, .of e7⟩, ?_⟩
        walk_at "rd"
        have gi := plc_good gv (by decide) i
        have gj := plc_good gv (by decide) j
        refine (vp.keep s7).get (plc_get (by omega)) fun a1 ha1 => ?_
        refine (vp.keep s7).get (plc_get (by omega)) fun a2 ha2 => ?_
        refine ⟨plc vals i, plc vals j, a1, a2, rfl, ha1, ha2, gi.2.1, gj.2.1, gi.2.2.1.mono (by omega), gi.2.2.2.mono (by omega), gj.2.2.1.mono (by omega), gj.2.2.2.mono (by omega), fun t8 u8 p8 H8 R8 s8 e8 => ?_⟩
        walk_at "rd"
        refine ⟨_, .inl (.of (s8 _ _ (s7 _ _ ep1))), ?_⟩
        rw [hn]
        have hidx : i * n + j < xs.length := by
          have : i * n + n ≤ n * n := by rw [← Nat.succ_mul]; exact Nat.mul_le_mul_right _ hi
          omega
        refine ⟨Sz.mulW (a := 10) (b := 10) (by unfold Sz; omega) (by unfold Sz; omega) (by omega), ?_⟩
        rw [show (i : Int) * (n : Int) + (j : Int) = ((i * n + j : Nat) : Int) by push_cast; rfl]
        refine ix_l (.of (s8 _ _ (s7 _ _ (sHb _ _ ex)))) (by omega) (by rw [Int.toNat_natCast, List.getElem?_map, List.getElem?_eq_getElem hidx]; rfl) ?_
        have dp := dif_pos gi.2.1 gj.2.1
        have d1 : Sz 110 (dif (plc vals i) (plc vals j)).1 := (gi.2.2.1.mul gj.2.2.2 (c := 100) (by omega)).sub (gj.2.2.1.mul gi.2.2.2 (c := 100) (by omega)) (by omega) (by omega)
        have d2 : Sz 110 (dif (plc vals i) (plc vals j)).2 := gi.2.2.2.mul gj.2.2.2 (by omega)
        refine ⟨_, _, _, p8, rfl, e8, R8.pos, Sz.le R8.tle d1, Sz.le R8.ule d2, fun b H9 s9 hb1 hb2 => ?_⟩
        rw [letsO_ratio R8.pos dp R8.eq] at hb1
        have e9 := s9 _ _ (s8 _ _ e7)
        refine app_at e9 (by rw [zrow_len]; omega) ?_
        have g9 : Grow H3 H9 l as i n M := g7.keep fun b o e _ => s9 _ _ (s8 _ _ e)
        refine ⟨fun c => if c = j then b else f c, _, rfl, same_updN (s5.free fr) (s7.trans (s8.trans s9)), g9.keep fun c o e hc => ?_, by rw [upd_same, zrow_snoc], fun c v h => ?_, fun c hc => ?_⟩
        · rw [upd_ne (fun z => by rcases hc with h | h; exact nl (z ▸ h); exact nr (z ▸ h))]; exact e
        · have h : (if c = j then b else f c) = some v := h
          split at h
          · exact hb2 v h
          · exact hf c v h
        · show letsO (if c = j then b else f c) _ _ = true
          split
          · rename_i e; subst e; exact hb1
          · exact hlf c (by omega)
      · rintro σ' H7 ⟨f, v6', rfl, s7, g7, e7, hf, hlf⟩
        walk_at "rd"
        refine ⟨.ref l, rfl, .inl ⟨rfl, _, .of g7.top⟩, ?_⟩
        walk_at "rd"
        refine app_at g7.top (by rw [List.length_map, g7.len]; omega) ?_
        refine ⟨as ++ [r], _, _, _, _, rfl, same_updN fl s7, g7.snoc e7 (s5.free fr) nr nl, fun a b v h => ?_, fun a b ha hb => ?_⟩
        · have h : (if a = i then f b else M a b) = some v := h
          split at h
          · exact hf b v h
          · exact sM a b v h
        · show letsO (if a = i then f b else M a b) _ _ = true
          split
          · rename_i e; subst e; exact hlf b hb
          · exact hl a b (by omega) hb
    · rintro σ' H5 ⟨as, M, v4, v5, v6, rfl, s5, g, sM, hl⟩
      walk_at "rd"
      refine q l as M H5 (sHb.trans s5) ?_ (sHb.free fl) (fun a ha => sHb.free (g.fr a ha).1) sM ?_
      · exact g.done
      · exact fun a b ha hb => hl a b ha hb
def spLLets (K : PySem.W.Frag) : Sp := fun vs H Q _ => ∃ (x : Option Int) (t u : Int) (p : Addr), vs = [oV x, .ref p] ∧ H p = some (.tup [.int t, .int u]) ∧ (∀ b, x = some b → Sz 10000 (b / 2)) ∧ Sz 10000 u ∧ Q (.bl (letsO x t u)) H
theorem ok_l_lets (T : Top K mg) : FnOk P w K mg base CX0 1 T.f_l_lets T.d_l_lets ["_law_bound_here", "_law_value"] (spLLets K) := by
  refine T.F_l_lets.ok sc_l_lets (fun vs H Q E h => ?_) (fun cdv A outer s H vs Q E hr h => ?_)
  · obtain ⟨x, t, u, p, rfl, _⟩ := h; rfl
  · obtain ⟨x, t, u, p, rfl, hp, h1, h2, q⟩ := h
    refine ⟨_, (pss_cons (ps_if (pt_cmpR op_isN (pv 0) pe_non (nomark _)) (pss_one (ps_ret pe_bl)) pss_nil)
      (pss_cons (ps_set (i := 2) sc_l_lets.nd rfl (.inl rfl) (pe_op op_mulW (pe_op op_fdivZ (pv 0) pe_int) (pe_ix (ix_tupA (K := K) rfl) (pv 1) pe_int (fun _ _ => rfl))))
      (pss_one (ps_ret (pe_or (pe_cmpR op_lt (pe_ix (ix_tupA (K := K) rfl) (pv 1) pe_int (fun _ _ => rfl)) (pv 2) (nomark _)) (pe_one (pe_and (pe_cmpR op_eq (pe_ix (ix_tupA (K := K) rfl) (pv 1) pe_int (fun _ _ => rfl)) (pv 2) (nomark _)) (pe_one (pe_cmpR op_eq (pe_op op_modN (pv 0) pe_int) pe_int (nomark _)))))))))), ?_⟩
    refine seq_step ?_
    cases x with
    | none =>
      simp only [oV_none]
      walk_at "rd"
      exact q
    | some b =>
    simp only [oV_some]
    have h1 := h1 b rfl
    have d2 : b.fdiv 2 = b / 2 := Int.fdiv_eq_ediv_of_nonneg _ (by omega)
    have m2 : b.fmod 2 = b % 2 := Int.fmod_eq_emod_of_nonneg _ (by omega)
    walk_at "rd"
    refine seq_step ?_
    walk_at "rd"
    walk_at "ix"
    walk_at "rd"
    rw [d2]
    refine ⟨h1.mulW h2 (by omega), ?_⟩
    walk_at "ix"
    walk_at "rd"
    have q : Q (V.bl (decide (t < b / 2 * u ∨ t = b / 2 * u ∧ b % 2 = 1))) H := q
    refine ite_d (fun c => ?_) (fun c => ?_)
    · rw [decide_eq_true (Or.inl c)] at q; exact q
    · walk_at "ix"
      walk_at "rd"
      refine ite_d (fun c2 => ?_) (fun c2 => ?_)
      · rw [m2, show decide (b % 2 = 1) = decide (t < b / 2 * u ∨ (t = b / 2 * u ∧ b % 2 = 1)) from decide_eq_decide.mpr ⟨fun z => .inr ⟨c2, z⟩, fun z => by rcases z with z | z; exact absurd z c; exact z.2⟩]
        exact q
      · rw [decide_eq_false (by rintro (z | z); exact c z; exact c2 z.1)] at q; exact q
theorem kp_upd {Hb H : Hp} {as : List Addr} {i : Nat} {r : Addr} {o : HO} (er : as[i]? = some r) (kp : ∀ b o, b ∉ as → Hb b = some o → H b = some o) : ∀ b x, b ∉ as → Hb b = some x → (upd H r o) b = some x := fun b x hb e => by
  rw [upd_ne (fun z => hb (by rw [z]; exact List.mem_of_getElem? er))]; exact kp b x hb e
theorem ZAt.setK {Hb H : Hp} {p a : Addr} {as : List Addr} {n i j : Nat} {M : Mx} (z : ZAt H p as n M) (kp : ∀ b o, b ∉ as → Hb b = some o → H b = some o) (c : Int) (ha : as[i]? = some a) : ZAt (upd H a (.lst ((zrow n (M i)).set j (oV (narO (M i j) (some c)))))) p as n (up2 M i j (narO (M i j) (some c))) ∧ ∀ b x, b ∉ as → Hb b = some x → (upd H a (.lst ((zrow n (M i)).set j (oV (narO (M i j) (some c)))))) b = some x := ⟨z.set _ ha, kp_upd ha kp⟩
theorem kp_same {Hb H H' : Hp} {as : List Addr} (s : Same H H') (kp : ∀ b o, b ∉ as → Hb b = some o → H b = some o) : ∀ b x, b ∉ as → Hb b = some x → H' b = some x := fun b x hb e => s _ _ (kp b x hb e)
def spWaited (K : PySem.W.Frag) : Sp := fun vs H Q _ => ∃ (pz : Addr) (az : List Addr) (n : Nat) (N : Mx), vs = [.ref pz] ∧ ZAt H pz az n N ∧ 1 ≤ n ∧ n ≤ 8 ∧ ∀ (p : Addr) (as : List Addr) (H' : Hp), Same H H' → H p = none → (∀ a ∈ as, H a = none) → ZAt H' p as n (waitM N) → Q (.ref p) H'
/-- the first i rows are turned by f -/
def rowsM (N T : Mx) (i : Nat) : Mx := fun a b => if a < i then T a b else N a b
theorem ok_waited (T : Top K mg) : FnOk P w K mg base CX0 2 T.f_waited T.d_waited ["zone"] (spWaited K) := by
  refine T.F_waited.ok sc_waited (fun vs H Q E h => ?_) (fun cdv A outer s H vs Q E hr h => ?_)
  · obtain ⟨pz, az, n, N, rfl, _⟩ := h; rfl
  · obtain ⟨pz, az, n, N, rfl, z, hn1, hn, q⟩ := h
    refine ⟨_, (pss_cons (ps_set (i := 1) sc_waited.nd rfl (.inl rfl) (pe_call (ok_copied T) (hr.mono (by decide)) rfl T.g_copied T.F_copied.kp T.b_copied .nil pass0 (pa_cons (pv 0) pa_nil)))
      (pss_cons (ps_for PassesOwn.never rfl (pi_listA (K := K) rfl (pe_slice (sl_listA (K := K) rfl) (pv 1) (po_some pe_int) po_none)) (pg_name (i := 2) sc_waited.nd rfl (.inl rfl)) (pss_one (ps_asg pe_non (pg_sub (pv 2) pe_int set_list))))
      (pss_one (ps_ret (pv 1))))), ?_⟩
    refine seq_step ?_
    walk_at "rd"
    refine ⟨pz, az, n, N, rfl, z, by omega, fun D as H1 s1 z1 fD ff => ?_⟩
    refine seq_step ?_
    refine for_li ?_
    walk_at "rd"
    refine ⟨_, .of z1.top, fun pl H2 s2 fl el => ?_⟩
    have cut : cutV (as.map V.ref) (some 1) none = (as.drop 1).map V.ref := by
      rw [List.map_drop]
      exact cut_from (k := 1) (by rw [List.length_map, z1.len]; omega)
    rw [cut] at el
    have z2 := z1.keep s2
    have npl : pl ∉ as := fun hm => by
      obtain ⟨j, hj, e⟩ := List.mem_iff_getElem.mp hm
      have h := z1.row j pl (by rw [List.getElem?_eq_getElem hj, e])
      rw [fl] at h; cases h
    refine forL_by (xs := (as.drop 1).map V.ref) (fun i σ' H' => ∃ v2, σ' = [some (.ref pz), some (.ref D), v2] ∧ ZAt H' D as n (rowsM N (waitM N) (i + 1)) ∧ ∀ b o, b ∉ as → H2 b = some o → H' b = some o) ⟨_, rfl, z2.to fun a b ha hb => ?_, fun _ _ _ e => e⟩ (fun i σ H' _ ⟨_, _, _, kp⟩ => .of (kp _ _ npl el)) ?_ ?_
    · unfold rowsM waitM
      split
      · rw [if_neg (by omega)]
      · rfl
    · rintro i x σ' H3 hi ⟨v2, rfl, zM, kp⟩
      rw [List.getElem?_map, List.getElem?_drop] at hi
      obtain ⟨r, er, rfl⟩ := Option.map_eq_some_iff.mp hi
      have hin : 1 + i < n := by rw [← zM.len]; exact (List.getElem?_eq_some_iff.mp er).1
      have hr1 := zM.row (1 + i) r er
      walk_at "rd"
      refine set_at (K := K) (x := none) (j := 0) hr1 (by omega) ?_
      refine ⟨(zM.set (j := 0) none er).to fun a b ha hb => ?_, kp_upd er kp⟩
      unfold up2 rowsM waitM
      repeat' split
      all_goals first | rfl | (exfalso; omega)
    · rintro σ' H3 ⟨v2, rfl, zM, kp⟩
      walk_at "rd"
      refine q D as H3 (fun b o e => kp b o (fun hb => by rw [ff b hb] at e; cases e) (s2 _ _ (s1 _ _ e))) fD ff (zM.to fun a b ha hb => if_pos ?_)
      rw [List.length_map, List.length_drop, z1.len]
      omega
/-- the first j cells of row p are turned -/
def cellsM (p : Nat) (N T : Mx) (j : Nat) : Mx := fun a b => if a = p ∧ b < j then T a b else N a b
def spFreed (K : PySem.W.Frag) : Sp := fun vs H Q _ => ∃ (pz : Addr) (az : List Addr) (n p : Nat) (N : Mx), vs = [.ref pz, .int p] ∧ ZAt H pz az n N ∧ p < n ∧ n ≤ 8 ∧ ∀ (q : Addr) (as : List Addr) (H' : Hp), Same H H' → H q = none → (∀ a ∈ as, H a = none) → ZAt H' q as n (freeM p N) → Q (.ref q) H'
theorem ok_freed (T : Top K mg) : FnOk P w K mg base CX0 2 T.f_freed T.d_freed ["zone", "place"] (spFreed K) := by
  refine T.F_freed.ok sc_freed (fun vs H Q E h => ?_) (fun cdv A outer s H vs Q E hr h => ?_)
  · obtain ⟨pz, az, n, p, N, rfl, _⟩ := h; rfl
  · obtain ⟨pz, az, n, p, N, rfl, z, hp, hn, q⟩ := h
    refine ⟨_, (pss_cons (ps_set (i := 2) sc_freed.nd rfl (.inl rfl) (pe_call (ok_copied T) (hr.mono (by decide)) rfl T.g_copied T.F_copied.kp T.b_copied .nil pass0 (pa_cons (pv 0) pa_nil)))
      (pss_cons (ps_for PassesOwn.never rfl (pi_range1 (by rfl) T.m_range (pa_cons (pe_callB call_len_seq (by rfl) T.m_len (by decide +kernel) (pa_cons (pv 2) pa_nil)) pa_nil)) (pg_name (i := 3) sc_freed.nd rfl (.inl rfl)) (pss_one (ps_if (pt_cmpR op_ne (pv 3) (pv 1) (nomark _)) (pss_one (ps_asg pe_non (pg_sub (pe_ix (ix_listA (K := K) rfl) (pv 2) (pv 1) (fun _ _ => rfl)) (pv 3) set_list))) pss_nil)))
      (pss_one (ps_ret (pv 2))))), ?_⟩
    refine seq_step ?_
    walk_at "rd"
    refine ⟨pz, az, n, N, rfl, z, by omega, fun D as H1 s1 z1 fD ff => ?_⟩
    refine seq_step ?_
    refine for_rg ?_
    walk_at "rd"
    refine ⟨_, .inl (.of z1.top), ?_⟩
    rw [List.length_map, z1.len]
    refine ⟨by omega, by omega, ?_⟩
    rw [Int.toNat_natCast]
    refine forR_by (fun j σ' H' => ∃ v3, σ' = [some (.ref pz), some (.int p), some (.ref D), v3] ∧ ZAt H' D as n (cellsM p N (freeM p N) j) ∧ ∀ b o, b ∉ as → H1 b = some o → H' b = some o) ⟨_, rfl, z1.to fun a b _ _ => (if_neg (by omega)).symm, fun _ _ _ e => e⟩ ?_ ?_
    · rintro j σ' H3 hj ⟨v3, rfl, zM, kp⟩
      walk_at "rd"
      by_cases c : (j : Int) = (p : Int)
      · rw [decide_eq_true c]
        walk_at "rd"
        refine ⟨zM.to fun a b ha hb => ?_, kp⟩
        unfold cellsM freeM
        repeat' split
        all_goals first | rfl | (exfalso; omega)
      · rw [decide_eq_false c]
        walk_at "rd"
        refine ix_top zM hp fun r er hr1 => ?_
        refine set_at (K := K) (x := none) (j := j) hr1 hj ?_
        refine ⟨(zM.set (j := j) none er).to fun a b ha hb => ?_, kp_upd er kp⟩
        unfold up2 cellsM freeM
        repeat' split
        all_goals first | rfl | (exfalso; omega)
    · rintro σ' H3 ⟨v3, rfl, zM, kp⟩
      walk_at "rd"
      refine q D as H3 (fun b o e => kp b o (fun hb => by rw [ff b hb] at e; cases e) (s1 _ _ e)) fD ff (zM.to fun a b ha hb => ?_)
      unfold cellsM
      by_cases c : a = p
      · rw [if_pos ⟨c, hb⟩]
      · rw [if_neg (by omega)]
        unfold freeM
        rw [if_neg (by omega)]
/-- the rows are put, the first i of them have their place p by place 0 -/
def colM (p : Nat) (N : Mx) (i : Nat) : Mx := fun a b => if b = p ∧ a < i then N (sg p a) 0 else N (sg p a) b
theorem ZAt.putRow {H : Hp} {D l : Addr} {as : List Addr} {n p : Nat} {N : Mx} (z : ZAt H D as n N) (hp : p < n) (el : H l = some (.lst (zrow n (N 0)))) (nl : l ∉ as) (nD : l ≠ D) :
    ZAt (upd H D (.lst ((as.map V.ref).set p (.ref l)))) D (as.set p l) n (fun a b => N (sg p a) b) := by
  have h0 : 0 < n := by omega
  refine ⟨by rw [upd_same, List.map_set], by rw [List.length_set]; exact z.len, fun i a e => ?_, ?_⟩
  · rw [List.getElem?_set] at e
    by_cases c : p = i
    · rw [if_pos c, if_pos (by rw [z.len]; exact hp)] at e
      cases e
      rw [upd_ne nD, el]
      show _ = some (HO.lst (zrow n (N (sg p i))))
      rw [show sg p i = 0 by unfold sg; rw [if_pos c.symm]]
    · rw [if_neg c] at e
      have na : a ≠ D := fun h => z.np (by rw [← h]; exact List.mem_of_getElem? e)
      rw [upd_ne na, z.row i a e]
      show _ = some (HO.lst (zrow n (N (sg p i))))
      rw [show sg p i = i by unfold sg; rw [if_neg (fun h => c h.symm)]]
  · have nd : ∀ (i j : Nat) (hi : i < as.length) (hj : j < as.length), i < j → as[i] ≠ as[j] := List.pairwise_iff_getElem.mp z.nd
    have mem : ∀ (k : Nat) (hk : k < as.length), as[k] ≠ l := fun k hk h => nl (by rw [← h]; exact List.getElem_mem hk)
    show List.Pairwise (· ≠ ·) (as.set p l)
    rw [List.pairwise_iff_getElem]
    intro i j hi hj hij
    rw [List.length_set] at hi hj
    rw [List.getElem_set, List.getElem_set]
    by_cases c1 : p = i
    · rw [if_pos c1, if_neg (by omega)]
      exact fun e => mem j hj e.symm
    · rw [if_neg c1]
      by_cases c2 : p = j
      · rw [if_pos c2]
        exact mem i hi
      · rw [if_neg c2]
        exact nd i j hi hj hij
theorem colM_all (p n : Nat) (N : Mx) : ∀ a b, a < n → colM p N n a b = putM p N a b := fun a b ha => by
  unfold colM putM
  by_cases c : b = p
  · rw [if_pos ⟨c, ha⟩, show sg p b = 0 by unfold sg; rw [if_pos c]]
  · rw [if_neg (by omega), show sg p b = b by unfold sg; rw [if_neg c]]
/-- by all the places, one behind the other -/
def putsM (N : Mx) (ps : List Nat) : Mx := ps.foldl (fun M p => putM p M) N
theorem putsM_snoc (N : Mx) {ps : List Nat} {i p : Nat} (h : ps[i]? = some p) : putsM N (ps.take (i + 1)) = putM p (putsM N (ps.take i)) := by
  unfold putsM
  rw [List.take_add_one, h]
  simp [List.foldl_append]
def PbInv (Hb : Hp) (pz pp D : Addr) (n : Nat) (N : Mx) (ps : List Nat) (i : Nat) (σ' : L2.St) (H' : Hp) : Prop := ∃ (as : List Addr) (v3 v4 : Option V), σ' = [some (.ref pz), some (.ref pp), some (.ref D), v3, v4] ∧ ZAt H' D as n (putsM N (ps.take i)) ∧ Same Hb H' ∧ ∀ a ∈ as, Hb a = none
def PbInv2 (Hb : Hp) (pz pp D : Addr) (as : List Addr) (n p : Nat) (N : Mx) (i : Nat) (σ' : L2.St) (H' : Hp) : Prop := ∃ (v4 : Option V), σ' = [some (.ref pz), some (.ref pp), some (.ref D), some (.int p), v4] ∧ ZAt H' D as n (colM p N i) ∧ Same Hb H'
def spPutBack (K : PySem.W.Frag) : Sp := fun vs H Q _ => ∃ (pz pp : Addr) (az : List Addr) (n : Nat) (N : Mx) (ps : List Nat), vs = [.ref pz, .ref pp] ∧ ZAt H pz az n N ∧ H pp = some (.lst (ps.map fun p : Nat => V.int (p : Int))) ∧ ps.length ≤ 60 ∧ (∀ p ∈ ps, p < n) ∧ 1 ≤ n ∧ n ≤ 8 ∧ ∀ (q : Addr) (as : List Addr) (H' : Hp), Same H H' → H q = none → (∀ a ∈ as, H a = none) → ZAt H' q as n (putsM N ps) → Q (.ref q) H'
theorem ok_put_back (T : Top K mg) : FnOk P w K mg base CX0 2 T.f_put_back T.d_put_back ["zone", "places"] (spPutBack K) := by
  refine T.F_put_back.ok sc_put_back (fun vs H Q E h => ?_) (fun cdv A outer s H vs Q E hr h => ?_)
  · obtain ⟨pz, pp, az, n, N, ps, rfl, _⟩ := h; rfl
  · obtain ⟨pz, pp, az, n, N, ps, rfl, z, ep, hps, okp, hn1, hn, q⟩ := h
    refine ⟨_, (pss_cons (ps_set (i := 2) sc_put_back.nd rfl (.inl rfl) (pe_call (ok_copied T) (hr.mono (by decide)) rfl T.g_copied T.F_copied.kp T.b_copied .nil pass0 (pa_cons (pv 0) pa_nil)))
      (pss_cons (ps_for PassesOwn.never rfl (pi_listA (K := K) rfl (pv 1)) (pg_name (i := 3) sc_put_back.nd rfl (.inl rfl)) (pss_cons (ps_asg (pe_callTy (call_listA (K := K) rfl) (by rfl) T.m_list (by decide +kernel) (pa_cons (pe_ix (ix_listA (K := K) rfl) (pv 2) pe_int (fun _ _ => rfl)) pa_nil)) (pg_sub (pv 2) (pv 3) set_list))
      (pss_one (ps_for PassesOwn.never rfl (pi_listA (K := K) rfl (pv 2)) (pg_name (i := 4) sc_put_back.nd rfl (.inl rfl)) (pss_one (ps_asg (pe_ix (ix_listA (K := K) rfl) (pv 4) pe_int (fun _ _ => rfl)) (pg_sub (pv 4) (pv 3) set_list)))))))
      (pss_one (ps_ret (pv 2))))), ?_⟩
    refine seq_step ?_
    walk_at "rd"
    refine ⟨pz, az, n, N, rfl, z, by omega, fun D as H1 s1 z1 fD ff => ?_⟩
    refine seq_step ?_
    refine for_li ?_
    walk_at "rd"
    refine forL_by (xs := ps.map fun p : Nat => V.int (p : Int)) (PbInv H pz pp D n N ps) ⟨as, _, _, rfl, z1, s1, ff⟩ (fun i σ H' _ ⟨_, _, _, _, _, s, _⟩ => .of (s _ _ ep)) ?_ ?_
    · rintro i x σ' H3 hi ⟨as, v3, v4, rfl, zM, s3, ff⟩
      rw [List.getElem?_map] at hi
      obtain ⟨p, hp, rfl⟩ := Option.map_eq_some_iff.mp hi
      have hpn := okp p (List.mem_of_getElem? hp)
      rw [show PbInv H pz pp D n N ps (i + 1) = fun σ' H' => ∃ (as : List Addr) (v3 v4 : Option V), σ' = [some (.ref pz), some (.ref pp), some (.ref D), v3, v4] ∧ ZAt H' D as n (putM p (putsM N (ps.take i))) ∧ Same H H' ∧ ∀ a ∈ as, H a = none by unfold PbInv; rw [putsM_snoc N hp]]
      generalize putsM N (ps.take i) = M at *
      walk_at "rd"
      refine seq_step ?_
      walk_at "rd"
      refine ix_top (i := 0) zM (by omega) fun r0 er0 hr0 => ?_
      walk_at "rd"
      refine ⟨_, .inl (.of hr0), fun l H4 s4 fl el => ?_⟩
      have nl : l ∉ as := fun hm => by
        obtain ⟨j, hj, e⟩ := List.mem_iff_getElem.mp hm
        have h := zM.row j l (by rw [List.getElem?_eq_getElem hj, e])
        rw [fl] at h; cases h
      have nD : l ≠ D := fun e => by rw [e, zM.top] at fl; cases fl
      have z4 := zM.keep s4
      have z5 := z4.putRow hpn el nl nD
      have s5 : Same H (upd H4 D (.lst ((as.map V.ref).set p (.ref l)))) := same_updN fD (s3.trans s4)
      have ff5 : ∀ a ∈ as.set p l, H a = none := fun a ha => by
        rcases List.mem_or_eq_of_mem_set ha with h | h
        · exact ff a h
        · rw [h]; exact s3.free fl
      refine ⟨D, _, p, p, rfl, rfl, z4.top, by unfold ixN; rw [if_pos (by omega), if_pos (by rw [List.length_map, z4.len]; omega), Int.toNat_natCast], ?_⟩
      generalize upd H4 D (.lst ((as.map V.ref).set p (.ref l))) = H5 at *
      generalize as.set p l = as' at *
      refine for_li ?_
      walk_at "rd"
      refine forL_by (xs := as'.map V.ref) (PbInv2 H pz pp D as' n p M) ⟨_, rfl, z5.to fun a b _ _ => (if_neg (by omega)).symm, s5⟩ (fun i σ H' _ ⟨_, _, z', _⟩ => .of z'.top) ?_ ?_
      · rintro j x σ' H6 hj ⟨v4', rfl, z6, s6⟩
        rw [List.getElem?_map] at hj
        obtain ⟨r, er, rfl⟩ := Option.map_eq_some_iff.mp hj
        have hjn : j < n := by rw [← z6.len]; exact (List.getElem?_eq_some_iff.mp er).1
        have hr1 := z6.row j r er
        walk_at "rd"
        refine ix_row (j := 0) hr1 (by omega) ?_
        refine set_at (K := K) (j := p) hr1 hpn ?_
        refine ⟨_, rfl, (z6.set (j := p) _ er).to fun a b ha hb => ?_, same_updN (ff5 r (List.mem_of_getElem? er)) s6⟩
        unfold up2 colM
        by_cases c : a = j ∧ b = p
        · rw [if_pos c, if_neg (by omega), if_pos (by omega), c.1]
        · rw [if_neg c]
          by_cases d : b = p ∧ a < j
          · rw [if_pos d, if_pos (by omega)]
          · rw [if_neg d, if_neg (by omega)]
      · rintro σ' H6 ⟨v4', rfl, z6, s6⟩
        rw [List.length_map, z6.len] at z6
        exact ⟨as', _, _, rfl, z6.to fun a b ha _ => colM_all p n M a b ha, s6, ff5⟩
    · rintro σ' H3 ⟨as, v3, v4, rfl, zM, s3, ff⟩
      walk_at "rd"
      rw [List.length_map, List.take_length] at zM
      exact q D as H3 s3 fD ff zM
/-- fractions, each with a truth -/
abbrev FB := (Int × Int) × Bool
def LHAt (H : Hp) (p : Addr) (xs : List FB) : Prop := ∃ qs : List Addr, H p = some (.lst (qs.map V.ref)) ∧ qs.length = xs.length ∧ ∀ (i : Nat) (q : Addr) (x : FB), qs[i]? = some q → xs[i]? = some x → ∃ r, H q = some (.tup [.ref r, .bl x.2]) ∧ H r = some (.tup [.int x.1.1, .int x.1.2])
theorem LHAt.keep {H H' : Hp} {p : Addr} {xs : List FB} (v : LHAt H p xs) (s : Same H H') : LHAt H' p xs := by
  obtain ⟨qs, a, b, c⟩ := v
  exact ⟨qs, s _ _ a, b, fun i q x h1 h2 => by
    obtain ⟨r, e, f⟩ := c i q x h1 h2
    exact ⟨r, s _ _ e, s _ _ f⟩⟩
theorem LHAt.app {H : Hp} {p q r : Addr} {xs : List FB} {x : FB} (v : LHAt H p xs) (e : H q = some (.tup [.ref r, .bl x.2])) (f : H r = some (.tup [.int x.1.1, .int x.1.2])) : ∃ items, H p = some (.lst items) ∧ items.length = xs.length ∧ LHAt (upd H p (.lst (items ++ [.ref q]))) p (xs ++ [x]) := by
  obtain ⟨qs, a, b, c⟩ := v
  refine ⟨_, a, by rw [List.length_map]; exact b, qs ++ [q], by rw [upd_same, List.map_append]; rfl, by simp [b], fun i q' x' h1 h2 => ?_⟩
  have nt : ∀ z y, H z = some (.tup y) → (upd H p (.lst (qs.map V.ref ++ [.ref q]))) z = some (.tup y) := fun z y h => by
    rw [L2.upd_ne (ne_of h a (by intro z; cases z))]; exact h
  by_cases c1 : i < qs.length
  · rw [List.getElem?_append_left c1] at h1
    rw [List.getElem?_append_left (by omega)] at h2
    obtain ⟨r', e', f'⟩ := c i q' x' h1 h2
    exact ⟨r', nt _ _ e', nt _ _ f'⟩
  · have hlt := (List.getElem?_eq_some_iff.mp h1).1
    rw [List.length_append, List.length_singleton] at hlt
    obtain rfl : i = qs.length := by omega
    rw [List.getElem?_append_right (Nat.le_refl _), Nat.sub_self] at h1
    rw [b, List.getElem?_append_right (Nat.le_refl _), Nat.sub_self] at h2
    have a1 : q = q' := by simpa using h1
    have a2 : x = x' := by simpa using h2
    subst a1; subst a2
    exact ⟨r, nt _ _ e, nt _ _ f⟩
theorem LHAt.other {H : Hp} {p l : Addr} {xs : List FB} {items items' : List V} (v : LHAt H p xs) (hl : H l = some (.lst items)) (n : p ≠ l) : LHAt (upd H l (.lst items')) p xs := by
  obtain ⟨qs, a, b, c⟩ := v
  have nt : ∀ z y, H z = some (.tup y) → (upd H l (.lst items')) z = some (.tup y) := fun z y h => by
    rw [L2.upd_ne (ne_of h hl (by intro z; cases z))]; exact h
  exact ⟨qs, by rw [L2.upd_ne n]; exact a, b, fun i q x h1 h2 => by
    obtain ⟨r, e, f⟩ := c i q x h1 h2
    exact ⟨r, nt _ _ e, nt _ _ f⟩⟩
def FBOk (xs : List FB) : Prop := ∀ x ∈ xs, 0 < x.1.2 ∧ Sz 3900 x.1.1 ∧ Sz 3900 x.1.2
def spMeet (K : PySem.W.Frag) : Sp := fun vs H Q _ => ∃ (pl ph : Addr) (ls hs : List FB), vs = [.ref pl, .ref ph] ∧ LHAt H pl ls ∧ LHAt H ph hs ∧ FBOk ls ∧ FBOk hs ∧ (∀ l ∈ ls, ∀ h ∈ hs, meetR (rq l.1) l.2 (rq h.1) h.2) ∧ Q (.bl true) H
theorem ok_l_meet (T : Top K mg) : FnOk P w K mg base CX0 1 T.f_l_meet T.d_l_meet ["_law_lows", "_law_highs"] (spMeet K) := by
  refine T.F_l_meet.ok sc_l_meet (fun vs H Q E h => ?_) (fun cdv A outer s H vs Q E hr h => ?_)
  · obtain ⟨pl, ph, ls, hs, rfl, _⟩ := h; rfl
  · obtain ⟨pl, ph, ls, hs, rfl, ⟨ql, l1, l2, l3⟩, ⟨qh, h1, h2, h3⟩, okl, okh, mt, q⟩ := h
    refine ⟨_, (pss_cons (ps_for PassesOwn.never rfl (pi_listA (K := K) rfl (pv 0)) (pg_tup (by rfl) (pgs_cons (pg_name (i := 2) sc_l_meet.nd rfl (.inl rfl)) (pgs_cons (pg_name (i := 3) sc_l_meet.nd rfl (.inl rfl)) pgs_nil))) (pss_one (ps_for PassesOwn.never rfl (pi_listA (K := K) rfl (pv 1)) (pg_tup (by rfl) (pgs_cons (pg_name (i := 4) sc_l_meet.nd rfl (.inl rfl)) (pgs_cons (pg_name (i := 5) sc_l_meet.nd rfl (.inl rfl)) pgs_nil))) (pss_cons (ps_set (i := 6) sc_l_meet.nd rfl (.inl rfl) (pe_op op_sub (pe_op op_mulW (pe_ix (ix_tupA (K := K) rfl) (pv 2) pe_int (fun _ _ => rfl)) (pe_ix (ix_tupA (K := K) rfl) (pv 4) pe_int (fun _ _ => rfl))) (pe_op op_mulW (pe_ix (ix_tupA (K := K) rfl) (pv 4) pe_int (fun _ _ => rfl)) (pe_ix (ix_tupA (K := K) rfl) (pv 2) pe_int (fun _ _ => rfl)))))
      (pss_one (ps_if (PW.pt (pw_or (pt_cmpR op_gt (pv 6) pe_int (nomark _)) (pw_or1 (PW.pt (pw_and (pt_cmpR op_eq (pv 6) pe_int (nomark _)) (pw_and1 (PW.pt (pw_or (pt_val (pv 3)) (pw_or1 (pt_val (pv 5))))))))))) (pss_one (ps_ret pe_bl)) pss_nil))))))
      (pss_one (ps_ret pe_bl))), ?_⟩
    refine seq_step ?_
    refine for_li ?_
    walk_at "rd"
    refine forL_by (xs := ql.map V.ref) (fun i σ' H' => ∃ v2 v3 v4 v5 v6, σ' = [some (.ref pl), some (.ref ph), v2, v3, v4, v5, v6] ∧ H' = H) ⟨_, _, _, _, _, rfl, rfl⟩ (fun i σ H' _ ⟨_, _, _, _, _, _, h⟩ => by subst h; exact .of l1) ?_ ?_
    · rintro i x σ' H' hi ⟨v2, v3, v4, v5, v6, rfl, rfl⟩
      rw [List.getElem?_map] at hi
      obtain ⟨qa, hqa, rfl⟩ := Option.map_eq_some_iff.mp hi
      have hal := (List.getElem?_eq_some_iff.mp hqa).1
      have hla := List.getElem?_eq_getElem (l := ls) (i := i) (by omega)
      obtain ⟨ra, ea, fa⟩ := l3 i qa _ hqa hla
      have hma := List.mem_of_getElem? hla
      generalize ls[i] = x at *
      have ox := okl x hma
      refine gTup_of (sqt ea) rfl ?_
      walk_at "rd"
      refine for_li ?_
      walk_at "rd"
      refine forL_by (xs := qh.map V.ref) (fun j σ' H2 => ∃ v4 v5 v6, σ' = [some (.ref pl), some (.ref ph), some (.ref ra), some (.bl x.2), v4, v5, v6] ∧ H2 = H') ⟨_, _, _, rfl, rfl⟩ (fun i σ H2 _ ⟨_, _, _, _, h⟩ => by subst h; exact .of h1) ?_ ?_
      · rintro j z σ' H2 hj ⟨v4, v5, v6, rfl, rfl⟩
        rw [List.getElem?_map] at hj
        obtain ⟨qb, hqb, rfl⟩ := Option.map_eq_some_iff.mp hj
        have hbl := (List.getElem?_eq_some_iff.mp hqb).1
        have hlb := List.getElem?_eq_getElem (l := hs) (i := j) (by omega)
        obtain ⟨rb, eb, fb⟩ := h3 j qb _ hqb hlb
        have hmb := List.mem_of_getElem? hlb
        generalize hs[j] = y at *
        have oy := okh y hmb
        have m := mt x hma y hmb
        refine gTup_of (sqt eb) rfl ?_
        walk_at "rd"
        refine seq_step ?_
        walk_at "rd"
        refine ix_t (.of fa) (by decide) rfl ?_
        refine ix_t (.of fb) (by decide) rfl ?_
        refine ⟨_, rfl, _, rfl, ox.2.1.mulW oy.2.2 (by omega), ?_⟩
        refine ix_t (.of fb) (by decide) rfl ?_
        refine ix_t (.of fa) (by decide) rfl ?_
        refine ⟨_, rfl, _, rfl, oy.2.1.mulW ox.2.2 (by omega), ?_⟩
        have lt := rq_cross (x := x.1) (y := y.1) ox.1 oy.1
        have gt := rq_cross (x := y.1) (y := x.1) oy.1 ox.1
        have key : x.1.1 * y.1.2 - y.1.1 * x.1.2 < 0 ∨ (x.1.1 * y.1.2 - y.1.1 * x.1.2 = 0 ∧ x.2 = false ∧ y.2 = false) := by
          rcases m with m | ⟨m, a, b⟩
          · left
            have := lt.mp m
            omega
          · right
            have n1 : ¬ x.1.1 * y.1.2 < y.1.1 * x.1.2 := fun z => by have := lt.mpr z; grind
            have n2 : ¬ y.1.1 * x.1.2 < x.1.1 * y.1.2 := fun z => by have := gt.mpr z; grind
            exact ⟨by omega, a, b⟩
        generalize x.1.1 * y.1.2 - y.1.1 * x.1.2 = c at *
        rw [decide_eq_false (show ¬ 0 < c by omega), if_neg Bool.false_ne_true]
        rcases key with k | ⟨k, ka, kb⟩
        · rw [decide_eq_false (show ¬ c = 0 by omega)]
          simp
        · rw [decide_eq_true k, ka, kb]
          simp
      · rintro σ' H2 ⟨v4, v5, v6, rfl, rfl⟩
        exact ⟨_, _, _, _, _, rfl, rfl⟩
    · rintro σ' H' ⟨v2, v3, v4, v5, v6, rfl, rfl⟩
      walk_at "rd"
      exact q
/-- what is asked of values so that some wait brings them -/
def SwInv (Hb : Hp) (pz pvl pl ph : Addr) (N : Mx) (vals : List (Int × Int)) (m i : Nat) (σ' : L2.St) (H' : Hp) : Prop := ∃ (ls hs : List FB) (v4 v5 : Option V), σ' = [some (.ref pz), some (.ref pvl), some (.ref pl), some (.ref ph), v4, v5] ∧ Same Hb H' ∧ LHAt H' pl ls ∧ LHAt H' ph hs ∧ FBOk ls ∧ FBOk hs ∧ ls.length ≤ 2 * i + 1 ∧ hs.length ≤ 2 * i + 1 ∧
  (∀ l ∈ ls, l = ((0, 1), false) ∨ ∃ j a, j < i ∧ N (j + 1) 0 = some a ∧ rq l.1 = rq (plc vals (j + 1)) - ((a / 2 : Int) : Rat) ∧ l.2 = decide (a % 2 = 0)) ∧
  ∀ h ∈ hs, ∃ j b, j < i ∧ N 0 (j + 1) = some b ∧ rq h.1 = rq (plc vals (j + 1)) + ((b / 2 : Int) : Rat) ∧ h.2 = decide (b % 2 = 0)
def spSomeWait (K : PySem.W.Frag) : Sp := fun vs H Q _ => ∃ (pz pvl : Addr) (az : List Addr) (m : Nat) (N : Mx) (vals : List (Int × Int)), vs = [.ref pz, .ref pvl] ∧ ZAt H pz az (m + 1) N ∧ Nar (m + 1) N ∧ SzM 200 N ∧ VAt H pvl vals ∧ GoodV 300 vals ∧ vals.length = m ∧ m ≤ 6 ∧ LiesR (m + 1) (waitM N) (fun i => rq (plc vals i)) ∧ ∀ H', Same H H' → Q (.bl true) H'
theorem ok_l_some_wait (T : Top K mg) : FnOk P w K mg base CX0 3 T.f_l_some_wait T.d_l_some_wait ["_law_zone", "_law_values_here"] (spSomeWait K) := by
  refine T.F_l_some_wait.ok sc_l_some_wait (fun vs H Q E h => ?_) (fun cdv A outer s H vs Q E hr h => ?_)
  · obtain ⟨pz, pvl, az, m, N, vals, rfl, _⟩ := h; rfl
  · obtain ⟨pz, pvl, az, m, N, vals, rfl, z, R, sN, hv, gv, hvl, hm, hW, q⟩ := h
    refine ⟨_, (pss_cons (ps_set (i := 2) sc_l_some_wait.nd rfl (.inl rfl) (pe_lstN (pa_cons (pe_tupN (pa_cons (pe_tupN (pa_cons pe_int (pa_cons pe_int pa_nil))) (pa_cons pe_bl pa_nil))) pa_nil)))
      (pss_cons (ps_set (i := 3) sc_l_some_wait.nd rfl (.inl rfl) (pe_lstN pa_nil))
      (pss_cons (ps_for PassesOwn.never rfl (pi_range1 (by rfl) T.m_range (pa_cons (pe_callB call_len_seq (by rfl) T.m_len (by decide +kernel) (pa_cons (pv 1) pa_nil)) pa_nil)) (pg_name (i := 4) sc_l_some_wait.nd rfl (.inl rfl)) (pss_cons (ps_for PassesOwn.never rfl (pi_range1 (by rfl) T.m_range (pa_cons (pe_callB call_len_seq (by rfl) T.m_len (by decide +kernel) (pa_cons (pv 1) pa_nil)) pa_nil)) (pg_name (i := 5) sc_l_some_wait.nd rfl (.inl rfl)) (pss_one (ps_if (pt_not (pt_val (pe_call (ok_l_lets T) (hr.mono (by decide)) rfl T.g_l_lets T.F_l_lets.kp T.b_l_lets .nil pass0 (pa_cons (pe_ix (ix_listA (K := K) rfl) (pe_ix (ix_listA (K := K) rfl) (pv 0) (pe_op op_add (pv 4) pe_int) (fun _ _ => rfl)) (pe_op op_add (pv 5) pe_int) (fun _ _ => rfl)) (pa_cons (pe_call (ok_l_minus T) (hr.mono (by decide)) rfl T.g_l_minus T.F_l_minus.kp T.b_l_minus .nil pass0 (pa_cons (pe_ix (ix_listA (K := K) rfl) (pv 1) (pv 4) (fun _ _ => rfl)) (pa_cons (pe_ix (ix_listA (K := K) rfl) (pv 1) (pv 5) (fun _ _ => rfl)) pa_nil))) pa_nil))))) (pss_one (ps_ret pe_bl)) pss_nil)))
      (pss_cons (ps_if (pt_cmpR op_notN (pe_ix (ix_listA (K := K) rfl) (pe_ix (ix_listA (K := K) rfl) (pv 0) (pe_op op_add (pv 4) pe_int) (fun _ _ => rfl)) pe_int (fun _ _ => rfl)) pe_non (nomark _)) (pss_one (ps_expr (pe_bm PySem.F.plainAttrs_list PySem.F.slot_list_append PySem.F.type_list_append mt_append (pv 2) (pa_cons (pe_tupN (pa_cons (pe_call (ok_l_minus T) (hr.mono (by decide)) rfl T.g_l_minus T.F_l_minus.kp T.b_l_minus .nil pass0 (pa_cons (pe_ix (ix_listA (K := K) rfl) (pv 1) (pv 4) (fun _ _ => rfl)) (pa_cons (pe_tupN (pa_cons (pe_op op_fdivZ (pe_ix (ix_listA (K := K) rfl) (pe_ix (ix_listA (K := K) rfl) (pv 0) (pe_op op_add (pv 4) pe_int) (fun _ _ => rfl)) pe_int (fun _ _ => rfl)) pe_int) (pa_cons pe_int pa_nil))) pa_nil))) (pa_cons (pe_cmpR op_eq (pe_op op_modN (pe_ix (ix_listA (K := K) rfl) (pe_ix (ix_listA (K := K) rfl) (pv 0) (pe_op op_add (pv 4) pe_int) (fun _ _ => rfl)) pe_int (fun _ _ => rfl)) pe_int) pe_int (nomark _)) pa_nil))) pa_nil)))) pss_nil)
      (pss_one (ps_expr (pe_bm PySem.F.plainAttrs_list PySem.F.slot_list_append PySem.F.type_list_append mt_append (pv 3) (pa_cons (pe_tupN (pa_cons (pe_call (ok_l_plus T) (hr.mono (by decide)) rfl T.g_l_plus T.F_l_plus.kp T.b_l_plus .nil pass0 (pa_cons (pe_ix (ix_listA (K := K) rfl) (pv 1) (pv 4) (fun _ _ => rfl)) (pa_cons (pe_tupN (pa_cons (pe_op op_fdivZ (pe_ix (ix_listA (K := K) rfl) (pe_ix (ix_listA (K := K) rfl) (pv 0) pe_int (fun _ _ => rfl)) (pe_op op_add (pv 4) pe_int) (fun _ _ => rfl)) pe_int) (pa_cons pe_int pa_nil))) pa_nil))) (pa_cons (pe_cmpR op_eq (pe_op op_modN (pe_ix (ix_listA (K := K) rfl) (pe_ix (ix_listA (K := K) rfl) (pv 0) pe_int (fun _ _ => rfl)) (pe_op op_add (pv 4) pe_int) (fun _ _ => rfl)) pe_int) pe_int (nomark _)) pa_nil))) pa_nil)))))))
      (pss_one (ps_ret (pe_call (ok_l_meet T) (hr.mono (by decide)) rfl T.g_l_meet T.F_l_meet.kp T.b_l_meet .nil pass0 (pa_cons (pv 2) (pa_cons (pv 3) pa_nil)))))))), ?_⟩
    have v0 := plc_vals gv (by decide) (m + 1)
    have kk : ∀ k : Nat, (k : Int) + 1 = ((k + 1 : Nat) : Int) := fun k => by omega
    refine seq_step ?_
    walk_at "rd"
    intro p1 H1 s1 _ e1 p2 H2 s2 _ e2 pl H3 s3 fl e3
    refine seq_step ?_
    walk_at "rd"
    intro ph H4 s4 fh e4
    have s13 := s1.trans (s2.trans s3)
    have s14 := s13.trans s4
    have npl : pl ≠ ph := ne_of_none e3 fh
    have fl0 : H pl = none := (s1.trans s2).free fl
    have fh0 : H ph = none := s13.free fh
    have hl0 : LHAt H4 pl [((0, 1), false)] := ⟨[p2], s4 _ _ e3, rfl, fun i q x h1 h2 => by
      cases i with
      | zero => cases h1; cases h2; exact ⟨p1, s4 _ _ (s3 _ _ e2), s4 _ _ (s3 _ _ (s2 _ _ e1))⟩
      | succ i => cases h1⟩
    have hh0 : LHAt H4 ph [] := ⟨[], e4, rfl, fun i q x h1 h2 => by cases h1⟩
    clear e1 e2 e3 e4
    refine seq_step ?_
    refine for_rg ?_
    walk_at "rd"
    obtain ⟨qs, hv1, hv2, hv3⟩ := hv.keep s14
    refine ⟨_, .inl (.of hv1), (rg_ok (by simp; omega)).1, (rg_ok (by simp; omega)).2, ?_⟩
    rw [List.length_map, hv2, hvl, Int.toNat_natCast]
    refine forR_by (SwInv H pz pvl pl ph N vals m) ⟨_, _, _, _, rfl, s14, hl0, hh0, (fun x h => by
        rw [List.mem_singleton.mp h]; exact ⟨by decide, by unfold Sz; decide, by unfold Sz; exact Nat.one_lt_two_pow (by decide)⟩), (fun x h => by cases h), by simp, by simp, (fun l h => .inl (List.mem_singleton.mp h)), fun h hh => by cases hh⟩ ?_ ?_
    · rintro i σ' H5 hi ⟨ls, hs, v4, v5, rfl, s5, hl, hh, okl, okh, ll, lh, fl', fh'⟩
      have z5 := z.keep s5
      have hv5 := hv.keep s5
      have gi := plc_good gv (by decide) (i + 1)
      have hxi := List.getElem?_eq_getElem (l := vals) (i := i) (by omega)
      have hpi : plc vals (i + 1) = vals[i]'(by omega) := by
        have h := plc_get (xs := vals) (i := i + 1) (by omega)
        rw [List.getElem?_cons_succ, hxi] at h
        exact (Option.some.inj h).symm
      walk_at "rd"
      refine seq_step ?_
      walk_at "rd"
      refine for_rg ?_
      walk_at "rd"
      obtain ⟨qs5, hw1, hw2, hw3⟩ := id hv5
      refine ⟨_, .inl (.of hw1), (rg_ok (by simp; omega)).1, (rg_ok (by simp; omega)).2, ?_⟩
      rw [List.length_map, hw2, hvl, Int.toNat_natCast]
      refine forR_by (fun j σ' H' => ∃ v5, σ' = [some (.ref pz), some (.ref pvl), some (.ref pl), some (.ref ph), some (.int i), v5] ∧ Same H5 H') ⟨_, rfl, Same.refl _⟩ ?_ ?_
      · rintro j σ' H6 hj ⟨v5, rfl, s6⟩
        have gj := plc_good gv (by decide) (j + 1)
        have hxj := List.getElem?_eq_getElem (l := vals) (i := j) (by omega)
        have hpj : plc vals (j + 1) = vals[j]'(by omega) := by
          have h := plc_get (xs := vals) (i := j + 1) (by omega)
          rw [List.getElem?_cons_succ, hxj] at h
          exact (Option.some.inj h).symm
        rw [hpj] at gj
        have gi' := gi
        rw [hpi] at gi'
        walk_at "rd"
        rw [kk i, kk j]
        refine ix_top (i := i + 1) (z5.keep s6) (by omega) fun r er hr1 => ?_
        refine ix_row (j := j + 1) hr1 (by omega) ?_
        refine (hv5.keep s6).get hxi fun a1 ha1 => ?_
        refine (hv5.keep s6).get hxj fun a2 ha2 => ?_
        refine ⟨_, _, a1, a2, rfl, ha1, ha2, gi'.2.1, gj.2.1, gi'.2.2.1.mono (by omega), gi'.2.2.2.mono (by omega), gj.2.2.1.mono (by omega), gj.2.2.2.mono (by omega), fun t u p7 H7 R7 s7 e7 => ?_⟩
        have hlet : letsO (N (i + 1) (j + 1)) t u = true := by
          have dp := dif_pos gi'.2.1 gj.2.1
          rw [letsO_ratio R7.pos dp R7.eq]
          have h := hW (i + 1) (j + 1) (by omega) (by omega)
          have h : letsR (N (i + 1) (j + 1)) (rq (plc vals (i + 1)) - rq (plc vals (j + 1))) := by
            unfold waitM at h; rw [if_neg (by omega)] at h; exact h
          rw [hpi, hpj, ← rq_dif gi'.2.1 gj.2.1] at h
          exact (lets_rat dp).mpr h
        refine ⟨_, t, u, p7, rfl, e7, (fun b e => half1 ((sN _ _ b e).mono (by omega))), Sz.le R7.ule ((gi'.2.2.2.mul gj.2.2.2 (Nat.le_refl _)).mono (by omega)), ?_⟩
        rw [hlet]
        walk_at "rd"
        exact s6.trans s7
      · rintro σ' H6 ⟨v5, rfl, s6⟩
        walk_at "rd"
        have hl6 := hl.keep s6
        have hh6 := hh.keep s6
        have z6 := z5.keep s6
        have hv6 := hv5.keep s6
        have s56 := s5.trans s6
        clear hl hh z5 hv5 s5 s6 hw1 hw2 hw3
        rw [hpi] at gi
        refine join_op (fun σ' H' => ∃ (ls : List FB) (v5 : Option V), σ' = [some (.ref pz), some (.ref pvl), some (.ref pl), some (.ref ph), some (.int i), v5] ∧ Same H H' ∧ LHAt H' pl ls ∧ LHAt H' ph hs ∧ FBOk ls ∧ ls.length ≤ 2 * (i + 1) + 1 ∧ ∀ l ∈ ls, l = ((0, 1), false) ∨ ∃ j a, j < i + 1 ∧ N (j + 1) 0 = some a ∧ rq l.1 = rq (plc vals (j + 1)) - ((a / 2 : Int) : Rat) ∧ l.2 = decide (a % 2 = 0)) (fun σ' H7 h => ?_) (fun R' jn => ?_)
        rotate_left
        · have old : ∀ l ∈ ls, l = ((0, 1), false) ∨ ∃ j a, j < i + 1 ∧ N (j + 1) 0 = some a ∧ rq l.1 = rq (plc vals (j + 1)) - ((a / 2 : Int) : Rat) ∧ l.2 = decide (a % 2 = 0) := fun l h => by
            rcases fl' l h with h | ⟨j, a, b, c⟩
            · exact .inl h
            · exact .inr ⟨j, a, by omega, c⟩
          refine seq_step ?_
          walk_at "rd"
          rw [kk i]
          refine ix_top (i := i + 1) z6 (by omega) fun r er hr1 => ?_
          refine ix_row (j := 0) hr1 (by omega) ?_
          cases hN : N (i + 1) 0 with
          | none =>
            simp only [oV_none]
            walk_at "rd"
            exact jn _ _ ⟨ls, _, rfl, s56, hl6, hh6, okl, by omega, old⟩
          | some a =>
          have sa : Sz 200 (a / 2) := Sz.le (j := a) (by omega) (sN _ _ a hN)
          have d2 : a.fdiv 2 = a / 2 := Int.fdiv_eq_ediv_of_nonneg _ (by omega)
          have m2 : a.fmod 2 = a % 2 := Int.fmod_eq_emod_of_nonneg _ (by omega)
          simp only [oV_some]
          walk_at "rd"
          obtain ⟨ql, l1, l2, l3⟩ := id hl6
          refine ⟨.ref pl, rfl, .inl ⟨rfl, _, .of l1⟩, ?_⟩
          walk_at "rd"
          rw [kk i]
          refine hv6.get hxi fun a1 ha1 => ?_
          refine ix_top (i := i + 1) z6 (by omega) fun r er hr1 => ?_
          refine ix_row (j := 0) hr1 (by omega) ?_
          rw [hN]
          simp only [oV_some]
          refine ⟨_, rfl, ?_⟩
          rw [d2]
          intro p7 H7 s7 _ e7
          refine ⟨_, (a / 2, 1), a1, p7, rfl, s7 _ _ ha1, e7, gi.2.1, (show (0 : Int) < 1 by decide), gi.2.2.1.mono (by omega), gi.2.2.2.mono (by omega), sa.mono (by omega), sz_one (by decide), fun t u p8 H8 R8 s8 e8 => ?_⟩
          walk_at "rd"
          have s68 := s7.trans s8
          refine ix_top (i := i + 1) (z6.keep s68) (by omega) fun r er hr1 => ?_
          refine ix_row (j := 0) hr1 (by omega) ?_
          rw [hN]
          simp only [oV_some]
          refine ⟨a, rfl, fun p9 H9 s9 _ e9 => ?_⟩
          rw [m2] at e9
          have s69 := s68.trans s9
          have pp := Int.mul_pos gi.2.1 (show (0 : Int) < 1 by decide)
          have rz : rq (t, u) = rq (plc vals (i + 1)) - ((a / 2 : Int) : Rat) := by
            rw [hpi]
            exact (rq_red pp R8).trans ((rq_dif (x := vals[i]) (y := (a / 2, 1)) gi.2.1 (show (0 : Int) < 1 by decide)).trans (by rw [rqn]))
          have sz1 : Sz 3900 t := Sz.le R8.tle (((gi.2.2.1.mul (sz_one (s := 1) (by decide)) (c := 3000) (by omega)).sub (sa.mul gi.2.2.2 (c := 3000) (by omega)) (c := 3001) (by omega) (by omega)).mono (by omega))
          have sz2 : Sz 3900 u := Sz.le R8.ule ((gi.2.2.2.mul (sz_one (s := 1) (by decide)) (Nat.le_refl _)).mono (by omega))
          obtain ⟨items, ei, li, happ⟩ := (hl6.keep s69).app (x := ((t, u), decide (a % 2 = 0))) e9 (s9 _ _ e8)
          refine app_at ei (by omega) ?_
          refine jn _ _ ⟨ls ++ [((t, u), decide (a % 2 = 0))], _, rfl, same_updN fl0 (s56.trans s69), happ, (hh6.keep s69).other ei (Ne.symm npl), fun x hx => ?_, by simp; omega, fun l h => ?_⟩
          · rcases List.mem_append.mp hx with h | h
            · exact okl x h
            · rw [List.mem_singleton.mp h]; exact ⟨R8.pos, sz1, sz2⟩
          · rcases List.mem_append.mp h with h | h
            · exact old l h
            · rw [List.mem_singleton.mp h]; exact .inr ⟨i, a, by omega, hN, rz, rfl⟩
        obtain ⟨ls, v5, rfl, s7, hl, hh, okl, ll, fl'⟩ := h
        have z7 := z.keep s7
        have hv7 := hv.keep s7
        obtain ⟨b, hN⟩ : ∃ b, N 0 (i + 1) = some b := by
          have h := R.row (i + 1) (by omega)
          cases hN : N 0 (i + 1) with
          | none => rw [hN] at h; exact h.elim
          | some b => exact ⟨b, rfl⟩
        have sb : Sz 200 (b / 2) := Sz.le (j := b) (by omega) (sN _ _ b hN)
        have d2 : b.fdiv 2 = b / 2 := Int.fdiv_eq_ediv_of_nonneg _ (by omega)
        have m2 : b.fmod 2 = b % 2 := Int.fmod_eq_emod_of_nonneg _ (by omega)
        walk_at "rd"
        obtain ⟨qh, h1, h2, h3⟩ := id hh
        refine ⟨.ref ph, rfl, .inl ⟨rfl, _, .of h1⟩, ?_⟩
        walk_at "rd"
        rw [kk i]
        refine hv7.get hxi fun a1 ha1 => ?_
        refine ix_top (i := 0) z7 (by omega) fun r er hr1 => ?_
        refine ix_row (j := i + 1) hr1 (by omega) ?_
        rw [hN]
        simp only [oV_some]
        refine ⟨_, rfl, ?_⟩
        rw [d2]
        intro p8 H8 s8 _ e8
        refine ⟨_, (b / 2, 1), a1, p8, rfl, s8 _ _ ha1, e8, gi.2.1, (show (0 : Int) < 1 by decide), gi.2.2.1.mono (by omega), gi.2.2.2.mono (by omega), sb.mono (by omega), sz_one (by decide), fun t u p9 H9 R9 s9 e9 => ?_⟩
        walk_at "rd"
        have s79 := s8.trans s9
        refine ix_top (i := 0) (z7.keep s79) (by omega) fun r er hr1 => ?_
        refine ix_row (j := i + 1) hr1 (by omega) ?_
        rw [hN]
        simp only [oV_some]
        refine ⟨b, rfl, fun p10 H10 s10 _ e10 => ?_⟩
        rw [m2] at e10
        have s710 := s79.trans s10
        have pp := Int.mul_pos gi.2.1 (show (0 : Int) < 1 by decide)
        have rz : rq (t, u) = rq (plc vals (i + 1)) + ((b / 2 : Int) : Rat) := by
          rw [hpi]
          exact (rq_red pp R9).trans ((rq_sum (x := vals[i]) (y := (b / 2, 1)) gi.2.1 (show (0 : Int) < 1 by decide)).trans (by rw [rqn]))
        have sz1 : Sz 3900 t := Sz.le R9.tle (((gi.2.2.1.mul (sz_one (s := 1) (by decide)) (c := 3000) (by omega)).add (sb.mul gi.2.2.2 (c := 3000) (by omega)) (c := 3001) (by omega) (by omega)).mono (by omega))
        have sz2 : Sz 3900 u := Sz.le R9.ule ((gi.2.2.2.mul (sz_one (s := 1) (by decide)) (Nat.le_refl _)).mono (by omega))
        obtain ⟨items, ei, li, happ⟩ := (hh.keep s710).app (x := ((t, u), decide (b % 2 = 0))) e10 (s10 _ _ e9)
        refine app_at ei (by omega) ?_
        refine ⟨ls, hs ++ [((t, u), decide (b % 2 = 0))], _, _, rfl, same_updN fh0 (s7.trans s710), (hl.keep s710).other ei npl, happ, okl, fun x hx => ?_, ll, by simp; omega, fl', fun h hm => ?_⟩
        · rcases List.mem_append.mp hx with h | h
          · exact okh x h
          · rw [List.mem_singleton.mp h]; exact ⟨R9.pos, sz1, sz2⟩
        · rcases List.mem_append.mp hm with hm | hm
          · obtain ⟨j, b, hj, c⟩ := fh' h hm
            exact ⟨j, b, by omega, c⟩
          · rw [List.mem_singleton.mp hm]; exact ⟨i, b, by omega, hN, rz, rfl⟩
    · rintro σ' H5 ⟨ls, hs, v4, v5, rfl, s5, hl, hh, okl, okh, ll, lh, fl', fh'⟩
      walk_at "rd"
      have part : Part (m + 1) N (fun i => if i = 0 then none else some (rq (plc vals i))) := fun i j x y hi hj hx hy => by
        have hx : (if i = 0 then none else some (rq (plc vals i))) = some x := hx
        have hy : (if j = 0 then none else some (rq (plc vals j))) = some y := hy
        by_cases ci : i = 0
        · rw [if_pos ci] at hx; cases hx
        · by_cases cj : j = 0
          · rw [if_pos cj] at hy; cases hy
          · rw [if_neg ci] at hx
            rw [if_neg cj] at hy
            cases hx; cases hy
            have h := hW i j hi hj
            unfold waitM at h
            rw [if_neg (by omega)] at h
            exact h
      refine ⟨pl, ph, ls, hs, rfl, hl, hh, okl, okh, fun l hml h hmh => ?_, q _ s5⟩
      obtain ⟨j, b, hj, eb, e1, e2⟩ := fh' h hmh
      rw [e1, e2]
      rcases fl' l hml with rfl | ⟨i, a, hi, ea, e3, e4⟩
      · have h := hW 0 (j + 1) (by omega) (by omega)
        unfold waitM at h
        rw [if_neg (by omega), eb] at h
        have z0 : rq (plc vals 0) = 0 := rq0
        show meetR (rq (0, 1)) false _ _
        rw [rq0]
        have h : rq (plc vals 0) - rq (plc vals (j + 1)) < ((b / 2 : Int) : Rat) ∨ (rq (plc vals 0) - rq (plc vals (j + 1)) = ((b / 2 : Int) : Rat) ∧ b % 2 = 1) := h
        rw [z0] at h
        rcases h with h | ⟨h, o⟩
        · left; grind
        · right; exact ⟨by grind, rfl, decide_eq_false (by omega)⟩
      · rw [e3, e4]
        exact meet_pair (pair_lo_hi R (by omega : 0 < m + 1) part (j := i + 1) (l := j + 1) (by omega) (by omega) (if_neg (by omega)) (if_neg (by omega)) ea eb)
/-- a most, or none -/
def moV : Option (Addr × Int × Int) → V
  | none => .non
  | some p => .ref p.1
def SvL (n p : Nat) (N : Mx) (vals : List (Int × Int)) (l : FB) : Prop := l = ((0, 1), false) ∨ ∃ j a, j < n ∧ j ≠ p ∧ N j p = some a ∧ rq l.1 = rq (plc vals j) - ((a / 2 : Int) : Rat) ∧ l.2 = decide (a % 2 = 0)
def SvH (n p : Nat) (N : Mx) (vals : List (Int × Int)) (mo : Option (Addr × Int × Int)) (h : FB) : Prop := (∃ x, mo = some x ∧ h = (x.2, false)) ∨ ∃ j b, j < n ∧ j ≠ p ∧ N p j = some b ∧ rq h.1 = rq (plc vals j) + ((b / 2 : Int) : Rat) ∧ h.2 = decide (b % 2 = 0)
def SvSt (pz pvl pp pl ph : Addr) (p : Nat) (mo : Option (Addr × Int × Int)) : List (Option V) := [some (.ref pz), some (.ref pvl), some (.int p), some (moV mo), some (.ref pp), some (.ref pl), some (.ref ph)]
def SvMid (Hb : Hp) (pl ph : Addr) (n p : Nat) (N : Mx) (vals : List (Int × Int)) (mo : Option (Addr × Int × Int)) (a b : Nat) (H' : Hp) : Prop := ∃ (ls hs : List FB), Same Hb H' ∧ LHAt H' pl ls ∧ LHAt H' ph hs ∧ FBOk ls ∧ FBOk hs ∧ ls.length ≤ a + 1 ∧ hs.length ≤ b + 1 ∧ (∀ l ∈ ls, SvL n p N vals l) ∧ ∀ h ∈ hs, SvH n p N vals mo h
def spSomeValue (K : PySem.W.Frag) : Sp := fun vs H Q _ => ∃ (pz pvl : Addr) (az : List Addr) (m p : Nat) (N : Mx) (vals : List (Int × Int)) (mo : Option (Addr × Int × Int)), vs = [.ref pz, .ref pvl, .int p, moV mo] ∧ ZAt H pz az (m + 1) N ∧ Nar (m + 1) N ∧ SzM 200 N ∧ VAt H pvl vals ∧ GoodV 300 vals ∧ vals.length = m ∧ m ≤ 6 ∧ p < m + 1 ∧ p ≠ 0 ∧
  (∀ i j, i < m + 1 → j < m + 1 → i ≠ p → j ≠ p → letsR (N i j) (rq (plc vals i) - rq (plc vals j))) ∧
  (∀ x, mo = some x → H x.1 = some (.tup [.int x.2.1, .int x.2.2]) ∧ 0 < x.2.2 ∧ Sz 3900 x.2.1 ∧ Sz 3900 x.2.2 ∧ 0 ≤ rq x.2 ∧ ∀ i, i < m + 1 → i ≠ p → letsR (N i p) (rq (plc vals i) - rq x.2)) ∧ ∀ H', Same H H' → Q (.bl true) H'
theorem ok_l_some_value (T : Top K mg) : FnOk P w K mg base CX0 3 T.f_l_some_value T.d_l_some_value ["_law_zone", "_law_values_here", "_law_p", "_law_most"] (spSomeValue K) := by
  refine T.F_l_some_value.ok sc_l_some_value (fun vs H Q E h => ?_) (fun cdv A outer s H vs Q E hr h => ?_)
  · obtain ⟨pz, pvl, az, m, p, N, vals, mo, rfl, _⟩ := h; rfl
  · obtain ⟨pz, pvl, az, m, p, N, vals, mo, rfl, z, R, sN, hv, gv, hvl, hm, hp, hp0, C1, C4, q⟩ := h
    refine ⟨_, (pss_cons (ps_set (i := 4) sc_l_some_value.nd rfl (.inl rfl) (pe_op op_catN (pe_lstN (pa_cons (pe_tupN (pa_cons pe_int (pa_cons pe_int pa_nil))) pa_nil)) (pv 1)))
      (pss_cons (ps_set (i := 5) sc_l_some_value.nd rfl (.inl rfl) (pe_lstN (pa_cons (pe_tupN (pa_cons (pe_tupN (pa_cons pe_int (pa_cons pe_int pa_nil))) (pa_cons pe_bl pa_nil))) pa_nil)))
      (pss_cons (ps_set (i := 6) sc_l_some_value.nd rfl (.inl rfl) (pe_lstN pa_nil))
      (pss_cons (ps_if (pt_cmpR op_notN (pv 3) pe_non (nomark _)) (pss_one (ps_expr (pe_bm PySem.F.plainAttrs_list PySem.F.slot_list_append PySem.F.type_list_append mt_append (pv 6) (pa_cons (pe_tupN (pa_cons (pv 3) (pa_cons pe_bl pa_nil))) pa_nil)))) pss_nil)
      (pss_cons (ps_for PassesOwn.never rfl (pi_range1 (by rfl) T.m_range (pa_cons (pe_callB call_len_seq (by rfl) T.m_len (by decide +kernel) (pa_cons (pv 4) pa_nil)) pa_nil)) (pg_name (i := 7) sc_l_some_value.nd rfl (.inl rfl)) (pss_cons (ps_for PassesOwn.never rfl (pi_range1 (by rfl) T.m_range (pa_cons (pe_callB call_len_seq (by rfl) T.m_len (by decide +kernel) (pa_cons (pv 4) pa_nil)) pa_nil)) (pg_name (i := 8) sc_l_some_value.nd rfl (.inl rfl)) (pss_one (ps_if (PW.pt (pw_and (pt_cmpR op_ne (pv 7) (pv 2) (nomark _)) (pw_and (pt_cmpR op_ne (pv 8) (pv 2) (nomark _)) (pw_and1 (pt_not (pt_val (pe_call (ok_l_lets T) (hr.mono (by decide)) rfl T.g_l_lets T.F_l_lets.kp T.b_l_lets .nil pass0 (pa_cons (pe_ix (ix_listA (K := K) rfl) (pe_ix (ix_listA (K := K) rfl) (pv 0) (pv 7) (fun _ _ => rfl)) (pv 8) (fun _ _ => rfl)) (pa_cons (pe_call (ok_l_minus T) (hr.mono (by decide)) rfl T.g_l_minus T.F_l_minus.kp T.b_l_minus .nil pass0 (pa_cons (pe_ix (ix_listA (K := K) rfl) (pv 4) (pv 7) (fun _ _ => rfl)) (pa_cons (pe_ix (ix_listA (K := K) rfl) (pv 4) (pv 8) (fun _ _ => rfl)) pa_nil))) pa_nil))))))))) (pss_one (ps_ret pe_bl)) pss_nil)))
      (pss_cons (ps_if (PW.pt (pw_and (pt_cmpR op_ne (pv 7) (pv 2) (nomark _)) (pw_and1 (pt_cmpR op_notN (pe_ix (ix_listA (K := K) rfl) (pe_ix (ix_listA (K := K) rfl) (pv 0) (pv 7) (fun _ _ => rfl)) (pv 2) (fun _ _ => rfl)) pe_non (nomark _))))) (pss_one (ps_expr (pe_bm PySem.F.plainAttrs_list PySem.F.slot_list_append PySem.F.type_list_append mt_append (pv 5) (pa_cons (pe_tupN (pa_cons (pe_call (ok_l_minus T) (hr.mono (by decide)) rfl T.g_l_minus T.F_l_minus.kp T.b_l_minus .nil pass0 (pa_cons (pe_ix (ix_listA (K := K) rfl) (pv 4) (pv 7) (fun _ _ => rfl)) (pa_cons (pe_tupN (pa_cons (pe_op op_fdivZ (pe_ix (ix_listA (K := K) rfl) (pe_ix (ix_listA (K := K) rfl) (pv 0) (pv 7) (fun _ _ => rfl)) (pv 2) (fun _ _ => rfl)) pe_int) (pa_cons pe_int pa_nil))) pa_nil))) (pa_cons (pe_cmpR op_eq (pe_op op_modN (pe_ix (ix_listA (K := K) rfl) (pe_ix (ix_listA (K := K) rfl) (pv 0) (pv 7) (fun _ _ => rfl)) (pv 2) (fun _ _ => rfl)) pe_int) pe_int (nomark _)) pa_nil))) pa_nil)))) pss_nil)
      (pss_one (ps_if (PW.pt (pw_and (pt_cmpR op_ne (pv 7) (pv 2) (nomark _)) (pw_and1 (pt_cmpR op_notN (pe_ix (ix_listA (K := K) rfl) (pe_ix (ix_listA (K := K) rfl) (pv 0) (pv 2) (fun _ _ => rfl)) (pv 7) (fun _ _ => rfl)) pe_non (nomark _))))) (pss_one (ps_expr (pe_bm PySem.F.plainAttrs_list PySem.F.slot_list_append PySem.F.type_list_append mt_append (pv 6) (pa_cons (pe_tupN (pa_cons (pe_call (ok_l_plus T) (hr.mono (by decide)) rfl T.g_l_plus T.F_l_plus.kp T.b_l_plus .nil pass0 (pa_cons (pe_ix (ix_listA (K := K) rfl) (pv 4) (pv 7) (fun _ _ => rfl)) (pa_cons (pe_tupN (pa_cons (pe_op op_fdivZ (pe_ix (ix_listA (K := K) rfl) (pe_ix (ix_listA (K := K) rfl) (pv 0) (pv 2) (fun _ _ => rfl)) (pv 7) (fun _ _ => rfl)) pe_int) (pa_cons pe_int pa_nil))) pa_nil))) (pa_cons (pe_cmpR op_eq (pe_op op_modN (pe_ix (ix_listA (K := K) rfl) (pe_ix (ix_listA (K := K) rfl) (pv 0) (pv 2) (fun _ _ => rfl)) (pv 7) (fun _ _ => rfl)) pe_int) pe_int (nomark _)) pa_nil))) pa_nil)))) pss_nil)))))
      (pss_one (ps_ret (pe_call (ok_l_meet T) (hr.mono (by decide)) rfl T.g_l_meet T.F_l_meet.kp T.b_l_meet .nil pass0 (pa_cons (pv 5) (pa_cons (pv 6) pa_nil)))))))))), ?_⟩
    have v0 := plc_vals gv (by decide) (m + 1)
    refine seq_step ?_
    walk_at "rd"
    intro q0 H1 s1 _ e1 p1 H2 s2 _ e2
    obtain ⟨qs, hv1, hv2, hv3⟩ := hv.keep (s1.trans s2)
    refine ⟨_, e2, _, hv1, Nat.le_of_lt (small1000 (by simp; omega)), fun pp H3 s3 _ e3 => ?_⟩
    have vp : VAt H3 pp ((0, 1) :: vals) := ⟨q0 :: qs, e3, by simp [hv2], fun i q' x h1 h2 => by
      cases i with
      | zero =>
        cases h1; cases h2
        exact s3 _ _ (s2 _ _ e1)
      | succ i => exact s3 _ _ (hv3 i q' x h1 h2)⟩
    have s13 := s1.trans (s2.trans s3)
    clear e1 e2 e3 s1 s2 s3 hv1 hv2 hv3
    refine seq_step ?_
    walk_at "rd"
    intro r1 H4 s4 _ e4 r2 H5 s5 _ e5 pl H6 s6 fl e6
    refine seq_step ?_
    walk_at "rd"
    intro ph H7 s7 fh e7
    have s37 := s4.trans (s5.trans (s6.trans s7))
    have npl : pl ≠ ph := ne_of_none e6 fh
    have vp7 := vp.keep s37
    have s17 := s13.trans s37
    have fl0 : H pl = none := (s13.trans (s4.trans s5)).free fl
    have fh0 : H ph = none := (s13.trans (s4.trans (s5.trans s6))).free fh
    have hl0 : LHAt H7 pl [((0, 1), false)] := ⟨[r2], s7 _ _ e6, rfl, fun i q x h1 h2 => by
      cases i with
      | zero => cases h1; cases h2; exact ⟨r1, s7 _ _ (s6 _ _ e5), s7 _ _ (s6 _ _ (s5 _ _ e4))⟩
      | succ i => cases h1⟩
    have hh0 : LHAt H7 ph [] := ⟨[], e7, rfl, fun i q x h1 h2 => by cases h1⟩
    have ok0 : FBOk [((0, 1), false)] := fun x h => by
      rw [List.mem_singleton.mp h]; exact ⟨by decide, by unfold Sz; decide, by unfold Sz; exact Nat.one_lt_two_pow (by decide)⟩
    have vpp : ∀ b x, H7 b = some (.tup x) → ∀ H' : Hp, True := fun _ _ _ _ => trivial
    have npph : pp ≠ ph := by
      obtain ⟨_, a, _⟩ := vp.keep (s4.trans (s5.trans s6))
      exact ne_of_none a fh
    have nppl : pp ≠ pl := by
      obtain ⟨_, a, _⟩ := vp.keep (s4.trans s5)
      exact ne_of_none a fl
    clear e4 e5 e6 e7 s4 s5 s6 s7 s37 vpp
    refine join_op (fun σ' H' => σ' = SvSt pz pvl pp pl ph p mo ++ [none, none] ∧ SvMid H pl ph (m + 1) p N vals mo 0 0 H' ∧ VAt H' pp ((0, 1) :: vals)) (fun σ' H8 h => ?_) (fun R' jn => ?_)
    rotate_left
    · refine seq_step ?_
      cases mo with
      | none =>
        simp only [moV]
        walk_at "rd"
        exact jn _ _ ⟨rfl, ⟨_, _, s17, hl0, hh0, ok0, (fun x h => by cases h), by simp, by simp, (fun l h => .inl (List.mem_singleton.mp h)), fun h hh => by cases hh⟩, vp7⟩
      | some x =>
        obtain ⟨ex, xp, sx1, sx2, _⟩ := C4 x rfl
        simp only [moV]
        walk_at "rd"
        obtain ⟨qh, h1, h2, h3⟩ := id hh0
        refine ⟨.ref ph, rfl, .inl ⟨rfl, _, .of h1⟩, ?_⟩
        walk_at "rd"
        intro p9 H9 s9 _ e9
        obtain ⟨items, ei, li, happ⟩ := (hh0.keep s9).app (x := (x.2, false)) e9 (s9 _ _ (s17 _ _ ex))
        refine app_at ei (by rw [li]; simp) ?_
        refine jn _ _ ⟨rfl, ⟨_, [(x.2, false)], same_updN fh0 (s17.trans s9), (hl0.keep s9).other ei npl, happ, ok0, (fun y h => by rw [List.mem_singleton.mp h]; exact ⟨xp, sx1, sx2⟩), by simp, by simp, (fun l h => .inl (List.mem_singleton.mp h)), fun h hh => .inl ⟨x, rfl, List.mem_singleton.mp hh⟩⟩, ?_⟩
        exact (vp7.keep s9).upd_ne ei npph
    obtain ⟨rfl, mid, vp8⟩ := h
    refine seq_step ?_
    refine for_rg ?_
    simp only [SvSt]
    walk_at "rd"
    obtain ⟨qs, hw1, hw2, hw3⟩ := id vp8
    refine ⟨_, .inl (.of hw1), (rg_ok (by simp [hw2]; omega)).1, (rg_ok (by simp [hw2]; omega)).2, ?_⟩
    rw [List.length_map, hw2, List.length_cons, hvl, Int.toNat_natCast]
    refine forR_by (fun i σ' H' => ∃ v7 v8, σ' = SvSt pz pvl pp pl ph p mo ++ [v7, v8] ∧ SvMid H pl ph (m + 1) p N vals mo i i H' ∧ VAt H' pp ((0, 1) :: vals)) ⟨_, _, rfl, mid, vp8⟩ ?_ ?_
    · rintro i σ' H9 hi ⟨v7, v8, rfl, ⟨ls, hs, s9, hl, hh, okl, okh, ll, lh, fl', fh'⟩, vp9⟩
      have gi := plc_good gv (by decide) i
      have hgi := plc_get (xs := vals) (i := i) (by omega)
      simp only [SvSt]
      walk_at "rd"
      refine seq_step ?_
      walk_at "rd"
      refine for_rg ?_
      walk_at "rd"
      obtain ⟨qs9, x1, x2, x3⟩ := id vp9
      refine ⟨_, .inl (.of x1), (rg_ok (by simp [x2]; omega)).1, (rg_ok (by simp [x2]; omega)).2, ?_⟩
      rw [List.length_map, x2, List.length_cons, hvl, Int.toNat_natCast]
      refine forR_by (fun j σ' H' => ∃ v8, σ' = [some (.ref pz), some (.ref pvl), some (.int p), some (moV mo), some (.ref pp), some (.ref pl), some (.ref ph), some (.int i), v8] ∧ Same H9 H') ⟨_, rfl, Same.refl _⟩ ?_ ?_
      · rintro j σ' H6 hj ⟨v8, rfl, s6⟩
        have gj := plc_good gv (by decide) j
        walk_at "rd"
        by_cases ci : (i : Int) = (p : Int)
        · rw [decide_eq_true ci]
          walk_at "rd"
          exact s6
        rw [decide_eq_false ci]
        walk_at "rd"
        by_cases cj : (j : Int) = (p : Int)
        · rw [decide_eq_true cj]
          walk_at "rd"
          exact s6
        rw [decide_eq_false cj]
        walk_at "rd"
        refine ix_top (i := i) (z.keep (s9.trans s6)) hi fun r er hr1 => ?_
        refine ix_row (j := j) hr1 hj ?_
        refine (vp9.keep s6).get hgi fun a1 ha1 => ?_
        refine (vp9.keep s6).get (plc_get (xs := vals) (i := j) (by omega)) fun a2 ha2 => ?_
        refine ⟨_, _, a1, a2, rfl, ha1, ha2, gi.2.1, gj.2.1, gi.2.2.1.mono (by omega), gi.2.2.2.mono (by omega), gj.2.2.1.mono (by omega), gj.2.2.2.mono (by omega), fun t u p7 H7 R7 s7 e7 => ?_⟩
        have hlet : letsO (N i j) t u = true := by
          have dp := dif_pos gi.2.1 gj.2.1
          rw [letsO_ratio R7.pos dp R7.eq]
          have h := C1 i j hi hj (by omega) (by omega)
          rw [← rq_dif gi.2.1 gj.2.1] at h
          exact (lets_rat dp).mpr h
        refine ⟨_, t, u, p7, rfl, e7, (fun b e => half1 ((sN _ _ b e).mono (by omega))), Sz.le R7.ule ((gi.2.2.2.mul gj.2.2.2 (Nat.le_refl _)).mono (by omega)), ?_⟩
        rw [hlet]
        walk_at "rd"
        exact s6.trans s7
      · rintro σ' H6 ⟨v8, rfl, s6⟩
        walk_at "rd"
        have hl := hl.keep s6
        have hh := hh.keep s6
        have z6 := z.keep (s9.trans s6)
        have vp6 := vp9.keep s6
        have s56 := s9.trans s6
        clear s6 x1 x2 x3 vp9
        refine join_op (fun σ' H' => ∃ v8, σ' = [some (.ref pz), some (.ref pvl), some (.int p), some (moV mo), some (.ref pp), some (.ref pl), some (.ref ph), some (.int i), v8] ∧ SvMid H pl ph (m + 1) p N vals mo (i + 1) i H' ∧ VAt H' pp ((0, 1) :: vals)) (fun σ' H7 h => ?_) (fun R' jn => ?_)
        rotate_left
        · have same := jn _ _ ⟨v8, rfl, ⟨ls, hs, s56, hl, hh, okl, okh, by omega, lh, fl', fh'⟩, vp6⟩
          refine seq_step ?_
          walk_at "rd"
          by_cases ci : (i : Int) = (p : Int)
          · rw [decide_eq_true ci]
            walk_at "rd"
            exact same
          rw [decide_eq_false ci]
          walk_at "rd"
          refine ix_top (i := i) z6 hi fun r er hr1 => ?_
          refine ix_row (j := p) hr1 hp ?_
          cases hN : N i p with
          | none =>
            simp only [oV_none]
            walk_at "rd"
            exact same
          | some a =>
          have sa : Sz 200 (a / 2) := Sz.le (j := a) (by omega) (sN _ _ a hN)
          have d2 : a.fdiv 2 = a / 2 := Int.fdiv_eq_ediv_of_nonneg _ (by omega)
          have m2 : a.fmod 2 = a % 2 := Int.fmod_eq_emod_of_nonneg _ (by omega)
          simp only [oV_some]
          walk_at "rd"
          obtain ⟨qx, l1, l2, l3⟩ := id hl
          refine ⟨.ref pl, rfl, .inl ⟨rfl, _, .of l1⟩, ?_⟩
          walk_at "rd"
          refine vp6.get hgi fun a1 ha1 => ?_
          refine ix_top (i := i) z6 hi fun r er hr1 => ?_
          refine ix_row (j := p) hr1 hp ?_
          rw [hN]
          simp only [oV_some]
          refine ⟨_, rfl, ?_⟩
          rw [d2]
          intro p7 H7 s7 _ e7
          refine ⟨_, (a / 2, 1), a1, p7, rfl, s7 _ _ ha1, e7, gi.2.1, (show (0 : Int) < 1 by decide), gi.2.2.1.mono (by omega), gi.2.2.2.mono (by omega), sa.mono (by omega), sz_one (by decide), fun t u p8 H8 R8 s8 e8 => ?_⟩
          walk_at "rd"
          have s68 := s7.trans s8
          refine ix_top (i := i) (z6.keep s68) hi fun r er hr1 => ?_
          refine ix_row (j := p) hr1 hp ?_
          rw [hN]
          simp only [oV_some]
          refine ⟨a, rfl, fun p9 H9 s9 _ e9 => ?_⟩
          rw [m2] at e9
          have s69 := s68.trans s9
          have pos := Int.mul_pos gi.2.1 (show (0 : Int) < 1 by decide)
          have rz : rq (t, u) = rq (plc vals i) - ((a / 2 : Int) : Rat) := (rq_red pos R8).trans ((rq_dif (x := plc vals i) (y := (a / 2, 1)) gi.2.1 (show (0 : Int) < 1 by decide)).trans (by rw [rqn]))
          have sz1 : Sz 3900 t := Sz.le R8.tle (((gi.2.2.1.mul (sz_one (s := 1) (by decide)) (c := 3000) (by omega)).sub (sa.mul gi.2.2.2 (c := 3000) (by omega)) (c := 3001) (by omega) (by omega)).mono (by omega))
          have sz2 : Sz 3900 u := Sz.le R8.ule ((gi.2.2.2.mul (sz_one (s := 1) (by decide)) (Nat.le_refl _)).mono (by omega))
          obtain ⟨items, ei, li, happ⟩ := (hl.keep s69).app (x := ((t, u), decide (a % 2 = 0))) e9 (s9 _ _ e8)
          refine app_at ei (by omega) ?_
          refine jn _ _ ⟨_, rfl, ⟨ls ++ [((t, u), decide (a % 2 = 0))], hs, same_updN fl0 (s56.trans s69), happ, (hh.keep s69).other ei (Ne.symm npl), fun x hx => ?_, okh, by simp; omega, lh, fun l h => ?_, fh'⟩, (vp6.keep s69).upd_ne ei nppl⟩
          · rcases List.mem_append.mp hx with h | h
            · exact okl x h
            · rw [List.mem_singleton.mp h]; exact ⟨R8.pos, sz1, sz2⟩
          · rcases List.mem_append.mp h with h | h
            · exact fl' l h
            · rw [List.mem_singleton.mp h]; exact .inr ⟨i, a, hi, by omega, hN, rz, rfl⟩
        obtain ⟨v8, rfl, ⟨ls, hs, s56, hl, hh, okl, okh, ll, lh, fl', fh'⟩, vp6⟩ := h
        have z6 := z.keep s56
        walk_at "rd"
        by_cases ci : (i : Int) = (p : Int)
        · rw [decide_eq_true ci]
          walk_at "rd"
          exact ⟨⟨ls, hs, s56, hl, hh, okl, okh, ll, by omega, fl', fh'⟩, vp6⟩
        rw [decide_eq_false ci]
        walk_at "rd"
        refine ix_top (i := p) z6 hp fun r er hr1 => ?_
        refine ix_row (j := i) hr1 hi ?_
        cases hN : N p i with
        | none =>
          simp only [oV_none]
          walk_at "rd"
          exact ⟨⟨ls, hs, s56, hl, hh, okl, okh, ll, by omega, fl', fh'⟩, vp6⟩
        | some a =>
          have sa : Sz 200 (a / 2) := Sz.le (j := a) (by omega) (sN _ _ a hN)
          have d2 : a.fdiv 2 = a / 2 := Int.fdiv_eq_ediv_of_nonneg _ (by omega)
          have m2 : a.fmod 2 = a % 2 := Int.fmod_eq_emod_of_nonneg _ (by omega)
          simp only [oV_some]
          walk_at "rd"
          obtain ⟨qx, l1, l2, l3⟩ := id hh
          refine ⟨.ref ph, rfl, .inl ⟨rfl, _, .of l1⟩, ?_⟩
          walk_at "rd"
          refine vp6.get hgi fun a1 ha1 => ?_
          refine ix_top (i := p) z6 hp fun r er hr1 => ?_
          refine ix_row (j := i) hr1 hi ?_
          rw [hN]
          simp only [oV_some]
          refine ⟨_, rfl, ?_⟩
          rw [d2]
          intro p7 H7 s7 _ e7
          refine ⟨_, (a / 2, 1), a1, p7, rfl, s7 _ _ ha1, e7, gi.2.1, (show (0 : Int) < 1 by decide), gi.2.2.1.mono (by omega), gi.2.2.2.mono (by omega), sa.mono (by omega), sz_one (by decide), fun t u p8 H8 R8 s8 e8 => ?_⟩
          walk_at "rd"
          have s68 := s7.trans s8
          refine ix_top (i := p) (z6.keep s68) hp fun r er hr1 => ?_
          refine ix_row (j := i) hr1 hi ?_
          rw [hN]
          simp only [oV_some]
          refine ⟨a, rfl, fun p9 H9 s9 _ e9 => ?_⟩
          rw [m2] at e9
          have s69 := s68.trans s9
          have pos := Int.mul_pos gi.2.1 (show (0 : Int) < 1 by decide)
          have rz : rq (t, u) = rq (plc vals i) + ((a / 2 : Int) : Rat) := (rq_red pos R8).trans ((rq_sum (x := plc vals i) (y := (a / 2, 1)) gi.2.1 (show (0 : Int) < 1 by decide)).trans (by rw [rqn]))
          have sz1 : Sz 3900 t := Sz.le R8.tle (((gi.2.2.1.mul (sz_one (s := 1) (by decide)) (c := 3000) (by omega)).add (sa.mul gi.2.2.2 (c := 3000) (by omega)) (c := 3001) (by omega) (by omega)).mono (by omega))
          have sz2 : Sz 3900 u := Sz.le R8.ule ((gi.2.2.2.mul (sz_one (s := 1) (by decide)) (Nat.le_refl _)).mono (by omega))
          obtain ⟨items, ei, li, happ⟩ := (hh.keep s69).app (x := ((t, u), decide (a % 2 = 0))) e9 (s9 _ _ e8)
          refine app_at ei (by omega) ?_
          refine ⟨⟨ls, hs ++ [((t, u), decide (a % 2 = 0))], same_updN fh0 (s56.trans s69), (hl.keep s69).other ei npl, happ, okl, fun x hx => ?_, ll, by simp; omega, fl', fun h hm => ?_⟩, (vp6.keep s69).upd_ne ei npph⟩
          · rcases List.mem_append.mp hx with h | h
            · exact okh x h
            · rw [List.mem_singleton.mp h]; exact ⟨R8.pos, sz1, sz2⟩
          · rcases List.mem_append.mp hm with hm | hm
            · exact fh' h hm
            · rw [List.mem_singleton.mp hm]; exact .inr ⟨i, a, hi, by omega, hN, rz, rfl⟩
    · rintro σ' H9 ⟨v7, v8, rfl, ⟨ls, hs, s9, hl, hh, okl, okh, ll, lh, fl', fh'⟩, vp9⟩
      simp only [SvSt]
      walk_at "rd"
      have part : Part (m + 1) N (fun i => if i = p then none else some (rq (plc vals i))) := fun i j x y hi hj hx hy => by
        have hx : (if i = p then none else some (rq (plc vals i))) = some x := hx
        have hy : (if j = p then none else some (rq (plc vals j))) = some y := hy
        by_cases ci : i = p
        · rw [if_pos ci] at hx; cases hx
        · by_cases cj : j = p
          · rw [if_pos cj] at hy; cases hy
          · rw [if_neg ci] at hx
            rw [if_neg cj] at hy
            cases hx; cases hy
            exact C1 i j hi hj ci cj
      have z0 : rq (plc vals 0) = 0 := rq0
      refine ⟨pl, ph, ls, hs, rfl, hl, hh, okl, okh, fun l hml h hmh => ?_, q _ s9⟩
      rcases fh' h hmh with ⟨x, ex, rfl⟩ | ⟨j, b, hj, hjp, eb, e1, e2⟩
      · obtain ⟨_, _, _, _, xn, hx⟩ := C4 x ex
        rcases fl' l hml with rfl | ⟨i, a, hi, hip, ea, e3, e4⟩
        · show meetR (rq (0, 1)) false (rq x.2) false
          rw [rq0]
          by_cases c : rq x.2 = 0
          · right; exact ⟨c.symm, rfl, rfl⟩
          · left; grind
        · rw [e3, e4]
          have h := hx i hi hip
          rw [ea] at h
          have h : rq (plc vals i) - rq x.2 < ((a / 2 : Int) : Rat) ∨ (rq (plc vals i) - rq x.2 = ((a / 2 : Int) : Rat) ∧ a % 2 = 1) := h
          rcases h with h | ⟨h, o⟩
          · left; show _ < rq x.2; grind
          · right; exact ⟨by show _ = rq x.2; grind, decide_eq_false (by omega), rfl⟩
      · rw [e1, e2]
        rcases fl' l hml with rfl | ⟨i, a, hi, hip, ea, e3, e4⟩
        · have hr0 := R.row p hp
          cases hN : N 0 p with
          | none => rw [hN] at hr0; exact hr0.elim
          | some a =>
            rw [hN] at hr0
            have hr0 : a ≤ 1 := hr0
            have ha : ((a / 2 : Int) : Rat) ≤ ((0 : Int) : Rat) := Rat.intCast_le_intCast.mpr (by omega)
            have ha : ((a / 2 : Int) : Rat) ≤ 0 := ha
            have pr := pair_lo_hi R hp part (j := 0) (l := j) (by omega) hj (if_neg (fun z => hp0 z.symm)) (if_neg hjp) hN eb
            rw [z0] at pr
            show meetR (rq (0, 1)) false _ _
            rw [rq0]
            rcases pr with pr | ⟨pr, _, o⟩
            · left; grind
            · by_cases c : ((a / 2 : Int) : Rat) = 0
              · right; exact ⟨by grind, rfl, decide_eq_false (by omega)⟩
              · left; grind
        · rw [e3, e4]
          exact meet_pair (pair_lo_hi R hp part (j := i) (l := j) hi hj (if_neg hip) (if_neg hjp) ea eb)
/-- values of a zone, in a list -/
def NV (n : Nat) (N : Mx) (H : Hp) (o : Addr) : Prop := ∃ xs, VAt H o xs ∧ GoodV 300 xs ∧ RedV xs ∧ xs.length + 1 = n ∧ Lies n N (plc xs)
theorem NV.keep {n : Nat} {N : Mx} {H H' : Hp} {o : Addr} (s : Same H H') (h : NV n N H o) : NV n N H' o := by
  obtain ⟨xs, a, b⟩ := h
  exact ⟨xs, a.keep s, b⟩
theorem NV.upd {n : Nat} {N : Mx} {H : Hp} {o l : Addr} {items items' : List V} (h : NV n N H o) (hl : H l = some (.lst items)) (ne : o ≠ l) : NV n N (upd H l (.lst items')) o := by
  obtain ⟨xs, a, b⟩ := h
  exact ⟨xs, a.upd_ne hl ne, b⟩
def NrInv (Hb : Hp) (pz po : Addr) (cell : Int) (n : Nat) (N : Mx) (i : Nat) (σ' : L2.St) (H' : Hp) : Prop := ∃ (ol : List Addr) (v3 v4 v5 : Option V), σ' = [some (.ref pz), some (.int cell), some (.ref po), v3, v4, v5] ∧ Same Hb H' ∧ H' po = some (.lst (ol.map V.ref)) ∧ ol.length = i ∧ ∀ o ∈ ol, o ≠ po ∧ NV n N H' o
def spNear18 (K : PySem.W.Frag) : Sp := fun vs H Q _ => ∃ (pz : Addr) (az : List Addr) (n : Nat) (N : Mx) (cell : Int), vs = [.ref pz, .int cell] ∧ ZAt H pz az n N ∧ Nar n N ∧ SzM 150 N ∧ 2 ≤ n ∧ n ≤ 4 ∧
  ∀ (p : Addr) (ol : List Addr) (H' : Hp), Same H H' → H p = none → H' p = some (.lst (ol.map V.ref)) → ol.length = 4 → (∀ o ∈ ol, NV n N H' o) → Q (.ref p) H'
theorem ok_l_near (T : Top K mg) : FnOk P w K mg base CX0 7 T.f_l_near T.d_l_near ["_law_zone", "_law_cell"] (spNear18 K) := by
  refine T.F_l_near.ok sc_l_near (fun vs H Q E h => ?_) (fun cdv A outer s H vs Q E hr h => ?_)
  · obtain ⟨pz, az, n, N, cell, rfl, _⟩ := h; rfl
  · obtain ⟨pz, az, n, N, cell, rfl, z, R, sN, hn2, hn, q⟩ := h
    refine ⟨_, (pss_cons (ps_set (i := 2) sc_l_near.nd rfl (.inl rfl) (pe_lstN pa_nil))
      (pss_cons (ps_for PassesOwn.never rfl (pi_range1 (by rfl) T.m_range (pa_cons pe_int pa_nil)) (pg_name (i := 3) sc_l_near.nd rfl (.inl rfl)) (pss_cons (ps_set (i := 4) sc_l_near.nd rfl (.inl rfl) (pe_op op_modN (pe_op op_add (pv 1) (pv 3)) (pe_callB call_len_seq (by rfl) T.m_len (by decide +kernel) (pa_cons (pv 0) pa_nil))))
      (pss_cons (ps_set (i := 5) sc_l_near.nd rfl (.inl rfl) (pe_op op_modN (pe_op op_add (pe_op op_add (pv 4) pe_int) (pe_op op_modN (pe_op op_add (pe_op op_fdivZ (pv 1) pe_int) (pe_op op_fdivZ (pv 3) pe_int)) (pe_op op_sub (pe_callB call_len_seq (by rfl) T.m_len (by decide +kernel) (pa_cons (pv 0) pa_nil)) pe_int))) (pe_callB call_len_seq (by rfl) T.m_len (by decide +kernel) (pa_cons (pv 0) pa_nil))))
      (pss_one (ps_expr (pe_bm PySem.F.plainAttrs_list PySem.F.slot_list_append PySem.F.type_list_append mt_append (pv 2) (pa_cons (pe_call (ok_near_values T) (hr.mono (by decide)) rfl T.g_near_values T.F_near_values.kp T.b_near_values .nil pass0 (pa_cons (pv 0) (pa_cons (pv 4) (pa_cons (pv 5) (pa_cons (pe_tupN (pa_cons pe_int (pa_cons (pe_op op_add pe_int (pe_op op_modN (pe_op op_fdivZ (pv 1) pe_int) pe_int)) pa_nil))) pa_nil))))) pa_nil)))))))
      (pss_one (ps_ret (pv 2))))), ?_⟩
    refine seq_step ?_
    walk_at "rd"
    intro po H1 s1 fo eo
    refine seq_step ?_
    refine for_rg ?_
    walk_at "rd"
    refine forR_by (n := 4) (NrInv H pz po cell n N) ⟨[], _, _, _, rfl, s1, eo, rfl, fun o h => by cases h⟩ ?_ ?_
    · rintro k σ' H4 hk ⟨ol, v3, v4, v5, rfl, s4, el, hol, hO⟩
      have z4 := z.keep s4
      walk_at "rd"
      refine seq_step ?_
      walk_at "rd"
      refine ⟨_, .inl (.of z4.top), ?_⟩
      rw [List.length_map, z4.len]
      refine ⟨by omega, ?_⟩
      have fi := fm_pos (c := cell + (k : Int)) (m := (n : Int)) (by omega)
      obtain ⟨i, hi⟩ : ∃ i : Nat, (cell + (k : Int)).fmod (n : Int) = (i : Int) := ⟨((cell + (k : Int)).fmod (n : Int)).toNat, by omega⟩
      rw [hi] at fi ⊢
      refine seq_step ?_
      walk_at "rd"
      refine ⟨_, .inl (.of z4.top), ?_⟩
      rw [List.length_map, z4.len]
      refine ⟨by omega, _, .inl (.of z4.top), ?_⟩
      rw [List.length_map, z4.len]
      refine ⟨by omega, ?_⟩
      generalize hJ : ((i : Int) + 1 + (cell.fdiv 4 + (k : Int).fdiv 2).fmod ((n : Int) - 1)) = J
      have fj := fm_pos (c := J) (m := (n : Int)) (by omega)
      obtain ⟨j, hj⟩ : ∃ j : Nat, J.fmod (n : Int) = (j : Int) := ⟨(J.fmod (n : Int)).toNat, by omega⟩
      rw [hj] at fj ⊢
      walk_at "rd"
      refine ⟨.ref po, rfl, .inl ⟨rfl, _, .of el⟩, ?_⟩
      walk_at "rd"
      intro pn H5 s5 _ en
      have f12 := fm_pos (c := cell.fdiv 12) (m := 50) (by decide)
      refine ⟨pz, pn, az, n, N, i, j, 1, _, rfl, z4.keep s5, R, sN, by omega, by omega, by omega, en, by decide, by omega, by unfold Sz; decide, by unfold Sz; omega, fun pq xq H6 s6 fq hvq hql gq _ rq hlq _ => ?_⟩
      have s46 := s5.trans s6
      have el6 := s46 _ _ el
      have npq : pq ≠ po := fun e => by rw [e, s5 _ _ el] at fq; cases fq
      refine app_at el6 (by rw [List.length_map, hol]; omega) ?_
      refine ⟨ol ++ [pq], _, _, _, rfl, same_updN fo (s4.trans s46), by rw [upd_same, List.map_append]; rfl, by simp [hol], fun o h => ?_⟩
      rcases List.mem_append.mp h with h | h
      · exact ⟨(hO o h).1, ((hO o h).2.keep s46).upd el6 (hO o h).1⟩
      · rw [List.mem_singleton.mp h]
        exact ⟨npq, NV.upd ⟨xq, hvq, gq, rq, hql, hlq⟩ el6 npq⟩
    · rintro σ' H4 ⟨ol, v3, v4, v5, rfl, s4, el, hol, hO⟩
      walk_at "rd"
      exact q po ol H4 s4 fo el hol fun o h => (hO o h).2
def spIsNarrow (K : PySem.W.Frag) : Sp := fun vs H Q _ => ∃ (pf pz ph : Addr) (af az ah : List Addr) (n : Nat) (M N : Mx), vs = [.ref pf, .ref pz, .ref ph] ∧ ZAt H pf af n M ∧ ZAt H pz az n N ∧ ZAt H ph ah n N ∧ Nar n M ∧ SzM 2000 M ∧ n ≤ 8 ∧ ∀ H', Same H H' → Q (.bl true) H'
theorem ok_l_is_narrow (T : Top K mg) : FnOk P w K mg base CX0 4 T.f_l_is_narrow T.d_l_is_narrow ["_law_found", "_law_zone", "_law_handed"] (spIsNarrow K) := by
  refine T.F_l_is_narrow.ok sc_l_is_narrow (fun vs H Q E h => ?_) (fun cdv A outer s H vs Q E hr h => ?_)
  · obtain ⟨pf, pz, ph, af, az, ah, n, M, N, rfl, _⟩ := h; rfl
  · obtain ⟨pf, pz, ph, af, az, ah, n, M, N, rfl, zf, z, zh, R, sM, hn, q⟩ := h
    refine ⟨_, (pss_one (ps_ret (pe_and (pe_callB (call_isiA (K := K) rfl) (by rfl) T.m_isinstance (by decide +kernel) (pa_cons (pv 0) (pa_cons (pe_bltn (v := .ty "list") (u := .type "list") (by rfl) T.m_list (by decide +kernel) rfl) pa_nil))) (pe_and (pe_cmpR (op_eqD hr.units) (pe_call (ok_narrowest T) (hr.mono (by decide)) rfl T.g_narrowest T.F_narrowest.kp T.b_narrowest .nil pass0 (pa_cons (pv 0) pa_nil)) (pv 0) (nomark _)) (pe_one (pe_cmpR (op_eqD hr.units) (pv 2) (pv 1) (nomark _))))))), ?_⟩
    have cub := cube_le (n := n) hn
    walk_at "rd"
    refine isi (r := true) (.base (.lst zf.top)) (by decide +kernel) ?_
    walk_at "rd"
    refine ⟨pf, af, n, M, 2000, rfl, zf, by omega, by omega, sM, by omega, fun ⟨i, d, hi, e, h⟩ => ?_, fun _ pR aR H2 s2 zR _ _ => ?_⟩
    · rw [R.idem, R.one i hi] at e; cases e; omega
    rw [R.idem] at zR
    refine ⟨_, _, zR.dp, (zf.keep s2).dp, shaped_zone _ _, shaped_zone _ _, ?_⟩
    rw [SeqAt.eqv_refl _ (lay_zone _ _).1]
    walk_at "rd"
    refine ⟨_, _, (zh.keep s2).dp, (z.keep s2).dp, shaped_zone _ _, shaped_zone _ _, ?_⟩
    rw [SeqAt.eqv_refl _ (lay_zone _ _).1]
    exact q _ s2
theorem cut_to {xs : List V} {k : Nat} (h : k ≤ xs.length) : cutV xs none (some (k : Int)) = xs.take k := by
  unfold cutV
  rw [HT.sIx_none, HT.sIx_nat, Nat.min_eq_left h]
  simp
def spChanged (K : PySem.W.Frag) : Sp := fun vs H Q _ => ∃ (pwl pw : Addr) (p : Nat) (vals : List (Int × Int)) (x : Int × Int), vs = [.ref pwl, .int ((p + 1 : Nat) : Int), .ref pw] ∧ VAt H pwl vals ∧ p < vals.length ∧ vals.length ≤ 8 ∧ H pw = some (.tup [.int x.1, .int x.2]) ∧ ∀ (o : Addr) (H' : Hp), Same H H' → VAt H' o (vals.set p x) → Q (.ref o) H'
theorem ok_l_changed (T : Top K mg) : FnOk P w K mg base CX0 1 T.f_l_changed T.d_l_changed ["_law_values_here", "_law_p", "_law_value"] (spChanged K) := by
  refine T.F_l_changed.ok sc_l_changed (fun vs H Q E h => ?_) (fun cdv A outer s H vs Q E hr h => ?_)
  · obtain ⟨pwl, pw, p, vals, x, rfl, _⟩ := h; rfl
  · obtain ⟨pwl, pw, p, vals, x, rfl, hv, hp, hl, ex, q⟩ := h
    obtain ⟨qs, a, b, c⟩ := hv
    refine ⟨_, (pss_one (ps_ret (pe_op op_catN (pe_op op_catN (pe_slice (sl_listA (K := K) rfl) (pv 0) po_none (po_some (pe_op op_sub (pv 1) pe_int))) (pe_lstN (pa_cons (pv 2) pa_nil))) (pe_slice (sl_listA (K := K) rfl) (pv 0) (po_some (pv 1)) po_none)))), ?_⟩
    walk_at "rd"
    rw [show ((p + 1 : Nat) : Int) - 1 = (p : Int) by omega]
    refine ⟨_, .of a, fun p1 H1 s1 _ e1 p2 H2 s2 _ e2 => ?_⟩
    rw [cut_to (by rw [List.length_map]; omega)] at e1
    refine ⟨_, s2 _ _ e1, _, e2, small1000' (by simp; omega), fun p3 H3 s3 _ e3 => ?_⟩
    have s03 := s1.trans (s2.trans s3)
    refine ⟨_, .of (s03 _ _ a), fun p4 H4 s4 _ e4 => ?_⟩
    rw [cut_from (by rw [List.length_map]; omega)] at e4
    refine ⟨_, s4 _ _ e3, _, e4, small1000' (by simp; omega), fun o H5 s5 _ e5 => ?_⟩
    have s05 := s03.trans (s4.trans s5)
    refine q o H5 s05 ⟨qs.set p pw, ?_, by simp [b], fun i r y h1 h2 => ?_⟩
    · rw [e5, List.map_set, List.set_eq_take_append_cons_drop, if_pos (by rw [List.length_map]; omega)]
      simp
    · rw [List.getElem?_set] at h1 h2
      by_cases e : p = i
      · rw [if_pos e] at h1 h2
        rw [if_pos (by omega)] at h1 h2
        cases h1; cases h2
        exact s05 _ _ ex
      · rw [if_neg e] at h1 h2
        exact s05 _ _ (c i r y h1 h2)
def spLaw (K : PySem.W.Frag) : Sp := fun vs H Q _ => ∃ (a : Addr) (ns : List Int), vs = [.ref a] ∧ SqL K H a (ns.map V.int) ∧ ns.length ≤ 63 ∧ ∀ H', Q (.bl true) H'
/-- tuples told by a relation are values -/
theorem vat_of {H : Hp} {D : Addr} {as : List Addr} {xs : List (Int × Int)} {Pr : Int × Int → Int × Int → Prop} (eD : H D = some (.lst (as.map V.ref))) (hl : as.length = xs.length) (pr : ∀ (i : Nat) (a : Addr), as[i]? = some a → ∃ o, H a = some (.tup o) ∧ ∃ (x y : Int × Int), xs[i]? = some x ∧ o = [.int y.1, .int y.2] ∧ Pr x y) :
    ∃ ys, VAt H D ys ∧ ys.length = xs.length ∧ ∀ (i : Nat) (x : Int × Int), xs[i]? = some x → ∃ y, ys[i]? = some y ∧ Pr x y := by
  have yat : ∀ k (a : Addr), as[k]? = some a → ∃ (x y : Int × Int), xs[k]? = some x ∧ H a = some (.tup [.int y.1, .int y.2]) ∧ (as.map fun a => tupO (H a))[k]? = some y ∧ Pr x y := fun k a ha => by
    obtain ⟨o, ho, x, y, hx, rfl, Rd⟩ := pr k a ha
    refine ⟨x, y, hx, ho, ?_, Rd⟩
    rw [List.getElem?_map, ha]
    show some (tupO (H a)) = _
    rw [ho]
    rfl
  refine ⟨as.map fun a => tupO (H a), ⟨as, eD, by simp, fun i a y h1 h2 => ?_⟩, by simp [hl], fun i x hx => ?_⟩
  · obtain ⟨x, y', _, h3, h4, _⟩ := yat i a h1
    rw [h2] at h4
    cases Option.some.inj h4
    exact h3
  · have hi := (List.getElem?_eq_some_iff.mp hx).1
    obtain ⟨x', y, h1, _, h3, h4⟩ := yat i as[i] (List.getElem?_eq_getElem (by omega))
    rw [hx] at h1; cases h1
    exact ⟨y, h3, h4⟩
theorem plc_at {xs : List (Int × Int)} {i : Nat} {x : Int × Int} (h : xs[i]? = some x) : plc xs (i + 1) = x := by
  have h5 := plc_get (xs := xs) (i := i + 1) (by have := (List.getElem?_eq_some_iff.mp h).1; omega)
  rw [List.getElem?_cons_succ, h] at h5
  exact (Option.some.inj h5).symm
def LwI (Hb : Hp) (pre : List (Option V)) (i : Nat) (σ' : L2.St) (H' : Hp) : Prop := ∃ (v11 v12 : Option V), σ' = pre ++ [v11, v12, none, none, none, none, none] ∧ Same Hb H'
theorem plc_set {xs : List (Int × Int)} {p : Nat} {x : Int × Int} (hp : p < xs.length) (i : Nat) : plc (xs.set p x) i = if i = p + 1 then x else plc xs i := by
  unfold plc
  cases i with
  | zero => rfl
  | succ i =>
    rw [List.getD_eq_getElem?_getD, List.getD_eq_getElem?_getD, List.getElem?_cons_succ, List.getElem?_cons_succ, List.getElem?_set]
    by_cases c : p = i
    · rw [if_pos c, if_pos hp, if_pos (by omega)]; rfl
    · rw [if_neg c, if_neg (by omega)]
theorem ok_law (T : Top K mg) : FnOk P w K mg base CX0 8 T.f_law T.d_law ["_law_script"] (spLaw K) := by
  refine T.F_law.ok sc_law (fun vs H Q E h => ?_) (fun cdv A outer s H vs Q E hr h => ?_)
  · obtain ⟨a, ns, rfl, _⟩ := h; rfl
  · obtain ⟨a, ns, rfl, hS, hlen, q⟩ := h
    refine ⟨_, (pss_cons (ps_set (i := 1) sc_law.nd rfl (.inl rfl) (pe_call (ok_l_cell_at T) (hr.mono (by decide)) rfl T.g_l_cell_at T.F_l_cell_at.kp T.b_l_cell_at .nil pass0 (pa_cons (pv 0) (pa_cons pe_int pa_nil))))
      (pss_cons (ps_set (i := 2) sc_law.nd rfl (.inl rfl) (pe_op op_add pe_int (pe_op op_modN (pv 1) pe_int)))
      (pss_cons (ps_set (i := 3) sc_law.nd rfl (.inl rfl) (pe_ix (ix_listA (K := K) rfl) (pe_lstN (pa_cons pe_int (pa_cons (pe_op op_pow pe_int pe_int) pa_nil))) (pe_op op_modN (pe_op op_fdivZ (pv 1) pe_int) pe_int) (fun _ _ => rfl)))
      (pss_cons (ps_set (i := 4) sc_law.nd rfl (.inl rfl) (pe_call (ok_l_values T) (hr.mono (by decide)) rfl T.g_l_values T.F_l_values.kp T.b_l_values .nil pass0 (pa_cons (pe_call (ok_l_stream T) (hr.mono (by decide)) rfl T.g_l_stream T.F_l_stream.kp T.b_l_stream .nil pass0 (pa_cons (pe_call (ok_l_cell_at T) (hr.mono (by decide)) rfl T.g_l_cell_at T.F_l_cell_at.kp T.b_l_cell_at .nil pass0 (pa_cons (pv 0) (pa_cons pe_int pa_nil))) (pa_cons pe_int pa_nil))) (pa_cons (pv 2) (pa_cons (pv 3) pa_nil)))))
      (pss_cons (ps_set (i := 5) sc_law.nd rfl (.inr rfl) (pe_call (ok_narrowest T) (hr.mono (by decide)) rfl T.g_narrowest T.F_narrowest.kp T.b_narrowest .nil pass0 (pa_cons (pe_call (ok_l_around T) (hr.mono (by decide)) rfl T.g_l_around T.F_l_around.kp T.b_l_around .nil pass0 (pa_cons (pv 4) (pa_cons (pe_call (ok_l_stream T) (hr.mono (by decide)) rfl T.g_l_stream T.F_l_stream.kp T.b_l_stream .nil pass0 (pa_cons (pe_call (ok_l_cell_at T) (hr.mono (by decide)) rfl T.g_l_cell_at T.F_l_cell_at.kp T.b_l_cell_at .nil pass0 (pa_cons (pv 0) (pa_cons pe_int pa_nil))) (pa_cons pe_int pa_nil))) pa_nil))) pa_nil)))
      (pss_cons (ps_set (i := 6) sc_law.nd rfl (.inr rfl) (lc_vs (vs := [15]) (pe_lc (own := [("_law_row", 15)]) (g := gName 15) (tt := tYes) rfl sc_law.nd (pi_listA (K := K) rfl (pv 5)) (blkOk_by (own := [("_law_row", 15)]) (N := ["_law_script", "_law_first", "_law_many", "_law_unit", "_law_values_here", "_law_zone", "_law_handed", "_law_cell", "_law_p", "_law_wait", "_law_told", "_law_one", "_law_after", "_law_other", "_law_both", "_law_row", "_law_value", "_law_found"]) (sc := defScope s_law) (by decide +kernel)) (fun _ _ _ _ _ => (pg_name (i := 15) sc_law.nd rfl (.inl rfl))) (fun _ _ _ _ _ => pts_nil) (fun _ _ _ _ _ => (pe_callTy (call_listA (K := K) rfl) (by rfl) T.m_list (by decide +kernel) (pa_cons (pv 15) pa_nil)))) rfl))
      (pss_cons (ps_set (i := 7) sc_law.nd rfl (.inl rfl) (pe_op op_modN (pe_call (ok_l_cell_at T) (hr.mono (by decide)) rfl T.g_l_cell_at T.F_l_cell_at.kp T.b_l_cell_at .nil pass0 (pa_cons (pv 0) (pa_cons pe_int pa_nil))) (pe_op op_pow pe_int pe_int)))
      (pss_cons (ps_set (i := 8) sc_law.nd rfl (.inl rfl) (pe_op op_add pe_int (pe_op op_modN (pv 7) (pv 2))))
      (pss_cons (ps_set (i := 9) sc_law.nd rfl (.inr rfl) (pe_ix (ix_listA (K := K) rfl) (pe_lstN (pa_cons (pe_tupN (pa_cons pe_int (pa_cons pe_int pa_nil))) (pa_cons (pe_call (ok_l_lowest T) (hr.mono (by decide)) rfl T.g_l_lowest T.F_l_lowest.kp T.b_l_lowest .nil pass0 (pa_cons (pe_op op_modN (pe_op op_fdivZ (pv 7) pe_int) pe_int) (pa_cons pe_int pa_nil))) (pa_cons (pe_tupN (pa_cons (pe_op op_pow pe_int pe_int) (pa_cons pe_int pa_nil))) pa_nil)))) (pe_op op_modN (pe_op op_fdivZ (pv 7) pe_int) pe_int) (fun _ _ => rfl)))
      (pss_cons (ps_set (i := 10) sc_law.nd rfl (.inl rfl) (pe_lstN (pa_cons (pe_call (ok_waited T) (hr.mono (by decide)) rfl T.g_waited T.F_waited.kp T.b_waited .nil pass0 (pa_cons (pv 6) pa_nil)) (pa_cons (pe_call (ok_put_back T) (hr.mono (by decide)) rfl T.g_put_back T.F_put_back.kp T.b_put_back .nil pass0 (pa_cons (pv 6) (pa_cons (pe_lstN (pa_cons (pv 8) pa_nil)) pa_nil))) (pa_cons (pe_call (ok_freed T) (hr.mono (by decide)) rfl T.g_freed T.F_freed.kp T.b_freed .nil pass0 (pa_cons (pv 6) (pa_cons (pv 8) pa_nil))) pa_nil)))))
      (pss_cons (ps_if (pt_not (pt_val (pe_callB (cr_all rfl) (by rfl) T.m_all (by decide +kernel) (pa_cons (lc_vs (vs := [17]) (pe_lc (own := [("_law_found", 17)]) (g := gName 17) (tt := tYes) rfl sc_law.nd (pi_listA (K := K) rfl (pv 10)) (blkOk_by (own := [("_law_found", 17)]) (N := ["_law_script", "_law_first", "_law_many", "_law_unit", "_law_values_here", "_law_zone", "_law_handed", "_law_cell", "_law_p", "_law_wait", "_law_told", "_law_one", "_law_after", "_law_other", "_law_both", "_law_row", "_law_value", "_law_found"]) (sc := defScope s_law) (by decide +kernel)) (fun _ _ _ _ _ => (pg_name (i := 17) sc_law.nd rfl (.inl rfl))) (fun _ _ _ _ _ => pts_nil) (fun _ _ _ _ _ => (pe_call (ok_l_is_narrow T) (hr.mono (by decide)) rfl T.g_l_is_narrow T.F_l_is_narrow.kp T.b_l_is_narrow .nil pass0 (pa_cons (pv 17) (pa_cons (pv 5) (pa_cons (pv 6) pa_nil)))))) rfl) pa_nil)))) (pss_one (ps_ret pe_bl)) pss_nil)
      (pss_cons (ps_for PassesOwn.never rfl (pi_listA (K := K) rfl (pe_op op_catN (pe_lstN (pa_cons (pv 4) pa_nil)) (pe_call (ok_l_near T) (hr.mono (by decide)) rfl T.g_l_near T.F_l_near.kp T.b_l_near .nil pass0 (pa_cons (pv 5) (pa_cons (pe_op op_fdivZ (pv 7) pe_int) pa_nil))))) (pg_name (i := 11) sc_law.nd rfl (.inl rfl)) (pss_cons (lc_vsS (vs := [16]) (ps_setLc (i := 12) (own := [("_law_value", 16)]) (g := gName 16) (tt := tYes) rfl sc_law.nd rfl rfl (sw_true rfl rfl rfl (by decide +kernel)) (pi_listA (K := K) rfl (pv 11)) (blkOk_by (own := [("_law_value", 16)]) (N := ["_law_script", "_law_first", "_law_many", "_law_unit", "_law_values_here", "_law_zone", "_law_handed", "_law_cell", "_law_p", "_law_wait", "_law_told", "_law_one", "_law_after", "_law_other", "_law_both", "_law_row", "_law_value", "_law_found"]) (sc := defScope s_law) (by decide +kernel)) (fun _ _ _ _ _ => (pg_name (i := 16) sc_law.nd rfl (.inl rfl))) (fun _ _ _ _ _ => pts_nil) (fun _ _ _ _ _ => (pe_call (ok_l_plus T) (hr.mono (by decide)) rfl T.g_l_plus T.F_l_plus.kp T.b_l_plus .nil pass0 (pa_cons (pv 16) (pa_cons (pv 9) pa_nil))))) rfl)
      (pss_cons (ps_if (PW.pt (pw_or (pt_not (pt_val (pe_call (ok_lies_in T) (hr.mono (by decide)) rfl T.g_lies_in T.F_lies_in.kp T.b_lies_in .nil pass0 (pa_cons (pe_ix (ix_listA (K := K) rfl) (pv 10) pe_int (fun _ _ => rfl)) (pa_cons (pv 12) pa_nil))))) (pw_or1 (pt_not (pt_val (pe_call (ok_lies_in T) (hr.mono (by decide)) rfl T.g_lies_in T.F_lies_in.kp T.b_lies_in .nil pass0 (pa_cons (pe_ix (ix_listA (K := K) rfl) (pv 10) pe_int (fun _ _ => rfl)) (pa_cons (pe_call (ok_l_changed T) (hr.mono (by decide)) rfl T.g_l_changed T.F_l_changed.kp T.b_l_changed .nil pass0 (pa_cons (pv 11) (pa_cons (pv 8) (pa_cons (pe_tupN (pa_cons pe_int (pa_cons pe_int pa_nil))) pa_nil)))) pa_nil)))))))) (pss_one (ps_ret pe_bl)) pss_nil)
      (pss_one (ps_if (pt_not (pt_val (pe_call (ok_lies_in T) (hr.mono (by decide)) rfl T.g_lies_in T.F_lies_in.kp T.b_lies_in .nil pass0 (pa_cons (pe_ix (ix_listA (K := K) rfl) (pv 10) pe_int (fun _ _ => rfl)) (pa_cons (pe_call (ok_l_changed T) (hr.mono (by decide)) rfl T.g_l_changed T.F_l_changed.kp T.b_l_changed .nil pass0 (pa_cons (pv 11) (pa_cons (pv 8) (pa_cons (pe_ix (ix_listA (K := K) rfl) (pv 12) (pe_op op_sub (pv 8) pe_int) (fun _ _ => rfl)) pa_nil)))) pa_nil))))) (pss_one (ps_ret pe_bl)) pss_nil)))))
      (pss_cons (ps_if (pt_not (pt_val (pe_callB (cr_all rfl) (by rfl) T.m_all (by decide +kernel) (pa_cons (lc_vs (vs := [11]) (pe_lc (own := [("_law_one", 11)]) (g := gName 11) (tt := tYes) rfl sc_law.nd (pi_listA (K := K) rfl (pe_call (ok_l_near T) (hr.mono (by decide)) rfl T.g_l_near T.F_l_near.kp T.b_l_near .nil pass0 (pa_cons (pe_ix (ix_listA (K := K) rfl) (pv 10) pe_int (fun _ _ => rfl)) (pa_cons (pe_op op_fdivZ (pv 7) pe_int) pa_nil)))) (blkOk_by (own := [("_law_one", 11)]) (N := ["_law_script", "_law_first", "_law_many", "_law_unit", "_law_values_here", "_law_zone", "_law_handed", "_law_cell", "_law_p", "_law_wait", "_law_told", "_law_one", "_law_after", "_law_other", "_law_both", "_law_row", "_law_value", "_law_found"]) (sc := defScope s_law) (by decide +kernel)) (fun _ _ _ _ _ => (pg_name (i := 11) sc_law.nd rfl (.inl rfl))) (fun _ _ _ _ _ => pts_nil) (fun _ _ _ _ _ => (pe_call (ok_l_some_wait T) (hr.mono (by decide)) rfl T.g_l_some_wait T.F_l_some_wait.kp T.b_l_some_wait .nil pass0 (pa_cons (pv 5) (pa_cons (pv 11) pa_nil))))) rfl) pa_nil)))) (pss_one (ps_ret pe_bl)) pss_nil)
      (pss_cons (ps_for PassesOwn.never rfl (pi_listA (K := K) rfl (pe_call (ok_l_near T) (hr.mono (by decide)) rfl T.g_l_near T.F_l_near.kp T.b_l_near .nil pass0 (pa_cons (pe_ix (ix_listA (K := K) rfl) (pv 10) pe_int (fun _ _ => rfl)) (pa_cons (pe_op op_fdivZ (pv 7) pe_int) pa_nil)))) (pg_name (i := 11) sc_law.nd rfl (.inl rfl)) (pss_one (ps_if (PW.pt (pw_or (pt_cmpR (op_neD hr.units) (pe_ix (ix_listA (K := K) rfl) (pv 11) (pe_op op_sub (pv 8) pe_int) (fun _ _ => rfl)) (pe_tupN (pa_cons pe_int (pa_cons pe_int pa_nil))) (nomark _)) (pw_or1 (pt_not (pt_val (pe_call (ok_l_some_value T) (hr.mono (by decide)) rfl T.g_l_some_value T.F_l_some_value.kp T.b_l_some_value .nil pass0 (pa_cons (pv 5) (pa_cons (pv 11) (pa_cons (pv 8) (pa_cons pe_non pa_nil)))))))))) (pss_one (ps_ret pe_bl)) pss_nil)))
      (pss_cons (ps_for PassesOwn.never rfl (pi_listA (K := K) rfl (pe_call (ok_l_near T) (hr.mono (by decide)) rfl T.g_l_near T.F_l_near.kp T.b_l_near .nil pass0 (pa_cons (pe_ix (ix_listA (K := K) rfl) (pv 10) pe_int (fun _ _ => rfl)) (pa_cons (pe_op op_fdivZ (pv 7) pe_int) pa_nil)))) (pg_name (i := 11) sc_law.nd rfl (.inl rfl)) (pss_one (ps_if (pt_not (pt_val (pe_call (ok_l_some_value T) (hr.mono (by decide)) rfl T.g_l_some_value T.F_l_some_value.kp T.b_l_some_value .nil pass0 (pa_cons (pv 5) (pa_cons (pv 11) (pa_cons (pv 8) (pa_cons (pe_ix (ix_listA (K := K) rfl) (pv 11) (pe_op op_sub (pv 8) pe_int) (fun _ _ => rfl)) pa_nil))))))) (pss_one (ps_ret pe_bl)) pss_nil)))
      (pss_cons (ps_set (i := 13) sc_law.nd rfl (.inl rfl) (pe_op op_add pe_int (pe_op op_modN (pe_op op_fdivZ (pv 7) pe_int) (pv 2))))
      (pss_cons (ps_set (i := 14) sc_law.nd rfl (.inl rfl) (pe_call (ok_put_back T) (hr.mono (by decide)) rfl T.g_put_back T.F_put_back.kp T.b_put_back .nil pass0 (pa_cons (pv 6) (pa_cons (pe_op op_catN (pe_lstN (pa_cons (pv 8) (pa_cons (pv 13) pa_nil))) (pe_op op_repN (pe_lstN (pa_cons (pv 8) pa_nil)) (pe_op op_modN (pv 7) pe_int))) pa_nil))))
      (pss_one (ps_ret (pe_and (pe_cmpR (op_eqD hr.units) (pv 14) (pe_call (ok_put_back T) (hr.mono (by decide)) rfl T.g_put_back T.F_put_back.kp T.b_put_back .nil pass0 (pa_cons (pe_ix (ix_listA (K := K) rfl) (pv 10) pe_int (fun _ _ => rfl)) (pa_cons (pe_lstN (pa_cons (pv 13) pa_nil)) pa_nil))) (nomark _)) (pe_one (pe_cmpR (op_eqD hr.units) (pe_call (ok_put_back T) (hr.mono (by decide)) rfl T.g_put_back T.F_put_back.kp T.b_put_back .nil pass0 (pa_cons (pv 6) (pa_cons (pe_lstN pa_nil) pa_nil))) (pv 5) (nomark _))))))))))))))))))))))), ?_⟩
    refine seq_step ?_
    walk_at "rd"
    refine ⟨a, ns, 0, rfl, hS, by decide, ?_⟩
    generalize ns.getD (Int.toNat 0) 0 = c0
    walk_at "rd"
    have f0 := fm_pos (c := c0) (m := 3) (by decide)
    obtain ⟨m, hm⟩ : ∃ m : Nat, 1 + c0.fmod 3 = (m : Int) := ⟨(1 + c0.fmod 3).toNat, by omega⟩
    have hm4 : 1 ≤ m ∧ m ≤ 3 := by omega
    refine seq_step ?_
    walk_at "rd"
    rw [hm]
    refine seq_step ?_
    walk_at "rd"
    intro p1 H1 s1 _ e1
    obtain ⟨unit, hun, hu0, hu1⟩ : ∃ unit : Int, ([.int 3, .int 1000000000000] : List V)[((c0.fdiv 3).fmod 2).toNat]? = some (.int unit) ∧ 0 < unit ∧ unit ≤ 1000000000000 := by
      rcases fm2 (c0.fdiv 3) with e | e <;> rw [e]
      · exact ⟨3, rfl, by decide, by decide⟩
      · exact ⟨_, rfl, by decide, by decide⟩
    refine ix_l (.of e1) (fm_pos (m := 2) (by decide)).1 hun ?_
    walk_at "rd"
    refine seq_step ?_
    walk_at "rd"
    refine ⟨a, ns, 1, rfl, s1.seq hS, by decide, ?_⟩
    walk_at "rd"
    refine ⟨_, 6, rfl, by decide, fun px H2 xs s2 _ e2 hx1 _ => ?_⟩
    walk_at "rd"
    refine ⟨px, xs, m, unit, rfl, e2, by omega, by omega, hu0, hu1, fun pvl H3 vals s3 _ hv hvl gv rv => ?_⟩
    have s13 := s1.trans (s2.trans s3)
    walk_at "rd"
    refine seq_step ?_
    walk_at "rd"
    refine ⟨a, ns, 2, rfl, s13.seq hS, by decide, ?_⟩
    walk_at "rd"
    refine ⟨_, 16, rfl, by decide, fun px2 H4 xs2 s4 _ e4 hx2 _ => ?_⟩
    walk_at "rd"
    have hn5 : vals.length + 1 ≤ 4 := by omega
    refine ⟨pvl, px2, vals, xs2, rfl, hv.keep s4, gv, by omega, e4, by rw [hx2]; exact Nat.mul_le_mul hn5 hn5, fun pz az M H5 s5 z5 fz faz sM hlies => ?_⟩
    have hv5 := hv.keep (s4.trans s5)
    have hS5 : SqL K H5 a (ns.map V.int) := (s13.trans (s4.trans s5)).seq hS
    rw [hvl] at z5 hlies
    clear s1 s2 s3 s4 s5 s13 e1 e2 e4 fz faz hx1 hx2 hv
    have hn : m + 1 ≤ 4 := by omega
    have cub := cube_le (n := m + 1) (by omega)
    have v0 : Vals0 (m + 1) (plc vals) := plc_vals gv (by decide) _
    have hposN : ∀ i, i < m + 1 → Pos (nrw (m + 1) M) i := fun i hi => lies_pos v0 hi (lies_nrw v0 hlies)
    have hnob : ¬ ∃ i d, i < m + 1 ∧ nrw (m + 1) M i i = some d ∧ d < 1 := fun ⟨i, d, hi, e, h⟩ => by
      rw [nrw_diag hi (hposN i hi)] at e; cases e; omega
    have RN := (Nar.of_nrw hposN).cut
    have sN : SzM 140 (cutM (m + 1) (nrw (m + 1) M)) := (nrw_sz2 hposN (by omega) sM).mono (by omega)
    have hliesN : Lies (m + 1) (cutM (m + 1) (nrw (m + 1) M)) (plc vals) := lies_cut.mpr (lies_nrw v0 hlies)
    walk_at "rd"
    refine ⟨pz, az, m + 1, M, 130, rfl, z5, by omega, by decide, sM, by omega, fun h => absurd h hnob, fun _ pf af H6 s6 zf0 _ _ => ?_⟩
    have zf := zf0.cut
    generalize cutM (m + 1) (nrw (m + 1) M) = N at *
    refine seq_step ?_
    walk_at "rd"
    refine lc_copy zf (by omega) rfl (by simp) fun ph ah H7 s7 zh _ _ => ?_
    have zf7 := zf.keep s7
    have hv7 := hv5.keep (s6.trans s7)
    have hS7 : SqL K H7 a (ns.map V.int) := (s6.trans s7).seq hS5
    clear z5 hS5 hv5 s6 s7 zf zf0 hnob hposN hlies
    refine seq_step ?_
    walk_at "rd"
    refine ⟨a, ns, 3, rfl, hS7, by decide, ?_⟩
    generalize ns.getD (Int.toNat 3) 0 = c3
    walk_at "rd"
    refine seq_step ?_
    walk_at "rd"
    generalize c3.fmod 1000000000000000000000000000000 = cell
    have fp := fm_pos (c := cell) (m := (m : Int)) (by omega)
    obtain ⟨p, hp⟩ : ∃ p : Nat, cell.fmod (m : Int) = (p : Int) := ⟨(cell.fmod (m : Int)).toNat, by omega⟩
    have hpm : p + 1 < m + 1 := by omega
    refine ⟨by omega, ?_⟩
    rw [hp, show (1 : Int) + (p : Int) = ((p + 1 : Nat) : Int) by omega]
    refine seq_step ?_
    walk_at "rd"
    intro q1 H8 s8 _ e8
    have f10 := fm_pos (c := cell.fdiv 3) (m := 10) (by decide)
    refine ⟨_, 2, rfl, by decide, by unfold Sz; decide, fun t1 u1 q2 H9 low1 s9 e9 => ?_⟩
    have R1 := low1.red (by decide)
    walk_at "rd"
    intro q3 H10 s10 _ e10 q4 H11 s11 _ e11
    have f3 := fm_pos (c := cell.fdiv 30) (m := 3) (by decide)
    have t1n : 0 ≤ t1 := (rq_nn (x := (t1, u1)) R1.pos).mp (by
      rw [rq_red (by decide) R1]
      exact (rq_nn (x := ((cell.fdiv 3).fmod 10, 2)) (show (0 : Int) < 2 by decide)).mpr f10.1)
    obtain ⟨pwt, wt, hwt, ewt, wt0, wt1, wz1, wz2⟩ : ∃ (pwt : Addr) (wt : Int × Int), ([V.ref q1, V.ref q2, V.ref q3])[((cell.fdiv 30).fmod 3).toNat]? = some (.ref pwt) ∧ H11 pwt = some (.tup [.int wt.1, .int wt.2]) ∧ 0 ≤ wt.1 ∧ 0 < wt.2 ∧ Sz 70 wt.1 ∧ Sz 70 wt.2 := by
      generalize (cell.fdiv 30).fmod 3 = c at *
      have h : c = 0 ∨ c = 1 ∨ c = 2 := by omega
      rcases h with h | h | h <;> subst h
      · exact ⟨q1, (0, 1), rfl, s11 _ _ (s10 _ _ (s9 _ _ e8)), by decide, by decide, by unfold Sz; decide, by unfold Sz; decide⟩
      · exact ⟨q2, (t1, u1), rfl, s11 _ _ (s10 _ _ e9), t1n, R1.pos, Sz.le R1.tle (by unfold Sz; omega), Sz.le R1.ule (by unfold Sz; decide)⟩
      · exact ⟨q3, (10 ^ 20, 1), rfl, s11 _ _ e10, by decide, by decide, by unfold Sz; decide, by unfold Sz; decide⟩
    refine ix_l (.of e11) f3.1 hwt ?_
    have s711 := s8.trans (s9.trans (s10.trans s11))
    have zf11 := zf7.keep s711
    have zh11 := zh.keep s711
    have hv11 := hv7.keep s711
    clear s8 s9 s10 s11 e8 e9 e10 e11 hwt zf7 zh hv7 R1 low1
    refine seq_step ?_
    walk_at "rd"
    refine ⟨ph, ah, m + 1, N, rfl, zh11, by omega, by omega, fun pW aW H12 s12 _ _ zW => ?_⟩
    intro pl H13 s13 _ el
    refine ⟨ph, pl, ah, m + 1, N, [p + 1], rfl, zh11.keep (s12.trans s13), el, by simp, (fun x h => by rw [List.mem_singleton.mp h]; exact hpm), by omega, by omega, fun pP aP H14 s14 _ _ zP => ?_⟩
    have zP : ZAt H14 pP aP (m + 1) (putM (p + 1) N) := zP
    refine ⟨ph, ah, m + 1, p + 1, N, rfl, zh11.keep (s12.trans (s13.trans s14)), hpm, by omega, fun pF aF H15 s15 _ _ zF => ?_⟩
    intro pT H16 s16 _ eT
    have s1116 := s12.trans (s13.trans (s14.trans (s15.trans s16)))
    have zW16 := zW.keep (s13.trans (s14.trans (s15.trans s16)))
    have zP16 := zP.keep (s15.trans s16)
    have zF16 := zF.keep s16
    have zf16 := zf11.keep s1116
    have zh16 := zh11.keep s1116
    have hv16 := hv11.keep s1116
    have ewt16 := s1116 _ _ ewt
    clear s12 s13 s14 s15 s16 s1116 el zW zP zF zf11 zh11 hv11 ewt
    have RW := wait_nar RN
    have RP := put_nar (p := p + 1) RN (by omega)
    have RF := free_nar (p := p + 1) RN (by omega)
    have sW := wait_sz sN
    have sP := put_sz (p := p + 1) sN
    have sF := free_sz (p := p + 1) sN
    refine seq_step ?_
    walk_at "rd"
    refine lc_src ?_
    walk_at "rd"
    refine ⟨⟨_, .of eT⟩, ?_⟩
    refine lcL_vals (xs := [.ref pW, .ref pP, .ref pF]) (f := fun _ => .bl true) eT (by simp) (by simp) (fun i x H17 Q1 hi s17 h => ?_) (fun D H17 s17 _ eD => ?_)
    · walk_at "rd"
      match i, hi with
      | 0, hi => cases hi; exact ⟨pW, pf, ph, aW, af, ah, m + 1, _, N, rfl, zW16.keep s17, zf16.keep s17, zh16.keep s17, RW, sW.mono (by omega), by omega, h⟩
      | 1, hi => cases hi; exact ⟨pP, pf, ph, aP, af, ah, m + 1, _, N, rfl, zP16.keep s17, zf16.keep s17, zh16.keep s17, RP, sP.mono (by omega), by omega, h⟩
      | 2, hi => cases hi; exact ⟨pF, pf, ph, aF, af, ah, m + 1, _, N, rfl, zF16.keep s17, zf16.keep s17, zh16.keep s17, RF, sF.mono (by omega), by omega, h⟩
      | i + 3, hi => cases hi
    refine ⟨D, [true, true, true], rfl, .of eD, ?_⟩
    walk_at "rd"
    have zW17 := zW16.keep s17
    have zP17 := zP16.keep s17
    have zF17 := zF16.keep s17
    have zf17 := zf16.keep s17
    have zh17 := zh16.keep s17
    have hv17 := hv16.keep s17
    have ewt17 := s17 _ _ ewt16
    have eT17 := s17 _ _ eT
    clear zW16 zP16 zF16 zf16 zh16 hv16 ewt16 eT eD s17
    refine if_f rfl ?_
    refine seq_step ?_
    refine for_li ?_
    walk_at "rd"
    intro p18 H18 s18 _ e18
    refine ⟨pf, af, m + 1, N, _, rfl, zf17.keep s18, RN, sN.mono (by omega), by omega, hn, fun pn ol H19 s19 _ eo hol hO => ?_⟩
    walk_at "rd"
    refine ⟨_, s19 _ _ e18, _, eo, small1000' (by simp; omega), fun pc H20 s20 _ ec => ?_⟩
    have s1720 := s18.trans (s19.trans s20)
    have ec : H20 pc = some (.lst ((pvl :: ol).map V.ref)) := ec
    have hO20 : ∀ o ∈ pvl :: ol, NV (m + 1) N H20 o := fun o h => by
      rcases List.mem_cons.mp h with h | h
      · rw [h]; exact ⟨vals, hv17.keep s1720, gv.mono (by omega), rv, by omega, hliesN⟩
      · exact (hO o h).keep s20
    have zW20 := zW17.keep s1720
    have zP20 := zP17.keep s1720
    have zF20 := zF17.keep s1720
    have zf20 := zf17.keep s1720
    have zh20 := zh17.keep s1720
    have ewt20 := s1720 _ _ ewt17
    have eT20 := s1720 _ _ eT17
    clear zW17 zP17 zF17 zf17 zh17 hv17 ewt17 eT17 s1720 s18 s19 s20 e18 eo hO
    refine forL_by (xs := (pvl :: ol).map V.ref) (LwI H20 [some (.ref a), some (.int c0), some (.int m), some (.int unit), some (.ref pvl), some (.ref pf), some (.ref ph), some (.int cell), some (.int ((p + 1 : Nat) : Int)), some (.ref pwt), some (.ref pT)]) ⟨_, _, rfl, Same.refl _⟩ (fun i σ H' _ ⟨_, _, _, s⟩ => .of (s _ _ ec)) ?_ ?_
    · rintro i x σ' H21 hi ⟨v11, v12, rfl, s21⟩
      obtain ⟨o1, ho1, rfl⟩ : ∃ o1, o1 ∈ pvl :: ol ∧ x = .ref o1 := by
        obtain ⟨o1, h1, h2⟩ := List.mem_map.mp (List.mem_of_getElem? hi)
        exact ⟨o1, h1, h2.symm⟩
      obtain ⟨xs1, hv1, gv1, rv1, hl1, lie1⟩ := (hO20 o1 ho1).keep s21
      have v1 : Vals0 (m + 1) (plc xs1) := plc_vals gv1 (by decide) _
      have hR1 : LiesR (m + 1) N (fun i => rq (plc xs1 i)) := (lies_rat v1.pos).mp lie1
      have ewt21 := s21 _ _ ewt20
      obtain ⟨qs, q1', q2', q3'⟩ := id hv1
      walk_at "rd"
      refine seq_step ?_
      walk_at "rd"
      refine lc_src ?_
      walk_at "rd"
      refine ⟨⟨_, .of q1'⟩, ?_⟩
      refine lcL_tups (xs := qs.map V.ref) (Pr := fun k o => ∃ (x y : Int × Int), xs1[k]? = some x ∧ o = [.int y.1, .int y.2] ∧ Red (x.1 * wt.2 + wt.1 * x.2) (x.2 * wt.2) y.1 y.2) q1' (by simp; omega) (by simp) (fun k x H22 Q1 hk s22 h => ?_) (fun D H22as H22 s22 _ eD hlD pr => ?_)
      · obtain ⟨qa, hqa, rfl⟩ : ∃ qa, qs[k]? = some qa ∧ x = .ref qa := by
          rw [List.getElem?_map] at hk
          obtain ⟨qa, h1, h2⟩ := Option.map_eq_some_iff.mp hk
          exact ⟨qa, h1, h2.symm⟩
        have hal := (List.getElem?_eq_some_iff.mp hqa).1
        have hxa := List.getElem?_eq_getElem (l := xs1) (i := k) (by omega)
        have e7 := s22 _ _ (q3' k qa _ hqa hxa)
        have ga := gv1 _ (List.mem_of_getElem? hxa)
        generalize xs1[k] = y at *
        walk_at "rd"
        exact ⟨y, wt, qa, pwt, rfl, e7, s22 _ _ ewt21, ga.2.1, wt1, ga.2.2.1.mono (by omega), ga.2.2.2.mono (by omega), wz1.mono (by omega), wz2.mono (by omega), fun t u p8 H8 R8 s8 e8 => h p8 _ H8 s8 e8 ⟨y, (t, u), hxa, rfl, R8⟩⟩
      obtain ⟨ys, hvy, hyl, hyp⟩ := vat_of (xs := xs1) (Pr := fun x y => Red (x.1 * wt.2 + wt.1 * x.2) (x.2 * wt.2) y.1 y.2) eD (by rw [hlD, List.length_map]; exact q2') pr
      have tn : 0 ≤ rq wt := (rq_nn wt1).mpr wt0
      have ry : ∀ k x y, xs1[k]? = some x → ys[k]? = some y → rq y = rq x + rq wt ∧ 0 < y.2 ∧ Sz 380 y.1 ∧ Sz 380 y.2 := fun k x y hx hy => by
        obtain ⟨y', h1, R⟩ := hyp k x hx
        rw [hy] at h1
        obtain rfl := Option.some.inj h1
        have gx := gv1 x (List.mem_of_getElem? hx)
        have pos := Int.mul_pos gx.2.1 wt1
        exact ⟨(rq_red pos R).trans (rq_sum gx.2.1 wt1), R.pos, Sz.le R.tle (((gx.2.2.1.mul wz2 (c := 375) (by omega)).add (wz1.mul gx.2.2.2 (c := 375) (by omega)) (c := 376) (by omega) (by omega)).mono (by omega)), Sz.le R.ule (gx.2.2.2.mul wz2 (by omega))⟩
      have gy : GoodV 400 ys := fun y hy => by
        obtain ⟨k, hk⟩ := List.getElem?_of_mem hy
        have hkl := (List.getElem?_eq_some_iff.mp hk).1
        have hx := List.getElem?_eq_getElem (l := xs1) (i := k) (by omega)
        have gx := gv1 _ (List.mem_of_getElem? hx)
        obtain ⟨e, pp, z1, z2⟩ := ry k _ y hx hk
        refine ⟨(rq_nn pp).mp ?_, pp, z1.mono (by omega), z2.mono (by omega)⟩
        have := (rq_nn gx.2.1).mpr gx.1
        rw [e]; grind
      have vy : Vals0 (m + 1) (plc ys) := plc_vals gy (by decide) _
      have rp : ∀ k, k < m + 1 → k ≠ 0 → rq (plc ys k) = rq (plc xs1 k) + rq wt := fun k hk h0 => by
        cases k with
        | zero => exact absurd rfl h0
        | succ k =>
          have hx := List.getElem?_eq_getElem (l := xs1) (i := k) (by omega)
          have hy := List.getElem?_eq_getElem (l := ys) (i := k) (by omega)
          rw [plc_at hx, plc_at hy]
          exact (ry k _ _ hx hy).1
      have s2022 := s21.trans s22
      have hv22 := hv1.keep s22
      refine seq_step ?_
      walk_at "rd"
      refine ix_l (.of (s2022 _ _ eT20)) (by decide) rfl ?_
      walk_at "rd"
      refine ⟨pW, D, aW, m + 1, waitM N, ys, rfl, zW20.keep s2022, hvy, gy, by omega, by omega, sW.mono (by omega), fun told H23 s23 ht => ?_⟩
      obtain rfl : told = true := ht.mpr ((lies_rat vy.pos).mpr (wait_lies hR1 tn rq0 rq0 rp))
      walk_at "rd"
      have s2023 := s2022.trans s23
      refine ix_l (.of (s2023 _ _ eT20)) (by decide) rfl ?_
      walk_at "rd"
      intro p24 H24 s24 _ e24
      refine ⟨o1, p24, p, xs1, (0, 1), rfl, hv22.keep (s23.trans s24), by omega, by omega, e24, fun oc H25 s25 hvc => ?_⟩
      have gc : GoodV 300 (xs1.set p (0, 1)) := gv1.set ⟨by decide, by decide, by unfold Sz; decide, by unfold Sz; exact Nat.one_lt_two_pow (by decide)⟩
      have vc : Vals0 (m + 1) (plc (xs1.set p (0, 1))) := plc_vals gc (by decide) _
      have s2025 := s2023.trans (s24.trans s25)
      walk_at "rd"
      refine ⟨pP, oc, aP, m + 1, putM (p + 1) N, xs1.set p (0, 1), rfl, zP20.keep s2025, hvc, gc.mono (by omega), by rw [List.length_set]; exact hl1, by omega, sP.mono (by omega), fun told H26 s26 ht => ?_⟩
      obtain rfl : told = true := ht.mpr ((lies_rat vc.pos).mpr (put_lies (p := p + 1) hR1 fun k hk => by
        show rq (plc (xs1.set p (0, 1)) k) = rq (plc xs1 (sg (p + 1) k))
        rw [plc_set (by omega)]
        unfold sg
        split <;> rfl))
      walk_at "rd"
      have s2026 := s2025.trans s26
      refine ix_l (.of (s2026 _ _ eT20)) (by decide) rfl ?_
      walk_at "rd"
      rw [show ((p + 1 : Nat) : Int) - 1 = (p : Int) by omega]
      have hy9 : ys[p]? = some ys[p] := List.getElem?_eq_getElem (by omega)
      have hx9 : xs1[p]? = some xs1[p] := List.getElem?_eq_getElem (by omega)
      have hv26 := hvy.keep (s23.trans (s24.trans (s25.trans s26)))
      have gy9 := gy _ (List.mem_of_getElem? hy9)
      have ry9 := (ry p _ _ hx9 hy9).1
      rw [← plc_at hx9] at ry9
      generalize ys[p] = yp at hy9 gy9 ry9
      refine hv26.get hy9 fun ay eay => ?_
      refine ⟨o1, ay, p, xs1, yp, rfl, hv22.keep (s23.trans (s24.trans (s25.trans s26))), by omega, by omega, eay, fun oc2 H27 s27 hvc2 => ?_⟩
      have gc2 : GoodV 400 (xs1.set p yp) := (gv1.mono (by omega)).set gy9
      have vc2 : Vals0 (m + 1) (plc (xs1.set p yp)) := plc_vals gc2 (by decide) _
      have s2027 := s2026.trans s27
      refine ⟨pF, oc2, aF, m + 1, freeM (p + 1) N, xs1.set p yp, rfl, zF20.keep s2027, hvc2, gc2, by rw [List.length_set]; exact hl1, by omega, sF.mono (by omega), fun told H28 s28 ht => ?_⟩
      obtain rfl : told = true := ht.mpr ((lies_rat vc2.pos).mpr (free_lies (p := p + 1) (t := rq wt) hR1 tn (by
        show rq (plc (xs1.set p yp) (p + 1)) = _
        rw [plc_set (by omega), if_pos rfl]; exact ry9) fun k hk c => by
        show rq (plc (xs1.set p yp) k) = _
        rw [plc_set (by omega), if_neg c]))
      walk_at "rd"
      exact ⟨_, _, rfl, s2027.trans s28⟩
    · rintro σ' H21 ⟨v11, v12, rfl, s21⟩
      have zW21 := zW20.keep s21
      have zP21 := zP20.keep s21
      have zF21 := zF20.keep s21
      have zf21 := zf20.keep s21
      have zh21 := zh20.keep s21
      have eT21 := s21 _ _ eT20
      clear zW20 zP20 zF20 zf20 zh20 ewt20 eT20 s21 hO20
      walk_at "rd"
      refine seq_step ?_
      walk_at "rd"
      refine lc_src ?_
      walk_at "rd"
      refine ix_l (.of eT21) (by decide) rfl ?_
      walk_at "rd"
      refine ⟨pW, aW, m + 1, waitM N, _, rfl, zW21, RW, sW.mono (by omega), by omega, hn, fun p30 ol1 H30 s30 _ eo1 hol1 hO1 => ?_⟩
      walk_at "rd"
      refine ⟨⟨_, .of eo1⟩, ?_⟩
      refine lcL_vals (xs := ol1.map V.ref) (f := fun _ => .bl true) eo1 (by simp; omega) (by simp) (fun i x H31 Q1 hi s31 h => ?_) (fun D1 H31 s31 _ eD1 => ?_)
      · obtain ⟨o1, ho1, rfl⟩ : ∃ o1, o1 ∈ ol1 ∧ x = .ref o1 := by
          obtain ⟨o1, h1, h2⟩ := List.mem_map.mp (List.mem_of_getElem? hi)
          exact ⟨o1, h1, h2.symm⟩
        obtain ⟨xs3, hv3, gv3, rv3, hl3, lie3⟩ := (hO1 o1 ho1).keep s31
        walk_at "rd"
        exact ⟨pf, o1, af, m, N, xs3, rfl, zf21.keep (s30.trans s31), RN, sN.mono (by omega), hv3, gv3, by omega, by omega, (lies_rat (plc_vals gv3 (by decide) _).pos).mp lie3, fun H32 s32 => h H32 s32⟩
      obtain ⟨w1, w2, w3, w4, rfl⟩ : ∃ a b c d, ol1 = [a, b, c, d] := by
        match ol1, hol1 with
        | [a, b, c, d], _ => exact ⟨a, b, c, d, rfl⟩
      refine ⟨D1, [true, true, true, true], rfl, .of eD1, ?_⟩
      walk_at "rd"
      have zP31 := zP21.keep (s30.trans s31)
      have zF31 := zF21.keep (s30.trans s31)
      have zf31 := zf21.keep (s30.trans s31)
      have zh31 := zh21.keep (s30.trans s31)
      have eT31 := (s30.trans s31) _ _ eT21
      clear zW21 zP21 zF21 zf21 zh21 eT21 s30 s31 eo1 eD1 hO1
      refine if_f rfl ?_
      refine seq_step ?_
      refine for_li ?_
      walk_at "rd"
      refine ix_l (.of eT31) (by decide) rfl ?_
      walk_at "rd"
      refine ⟨pP, aP, m + 1, putM (p + 1) N, _, rfl, zP31, RP, sP.mono (by omega), by omega, hn, fun p33 ol2 H33 s33 _ eo2 hol2 hO2 => ?_⟩
      have zP33 := zP31.keep s33
      have zF33 := zF31.keep s33
      have zf33 := zf31.keep s33
      have zh33 := zh31.keep s33
      have eT33 := s33 _ _ eT31
      clear zP31 zF31 zf31 zh31 eT31 s33
      walk_at "rd"
      refine forL_by (xs := ol2.map V.ref) (LwI H33 [some (.ref a), some (.int c0), some (.int m), some (.int unit), some (.ref pvl), some (.ref pf), some (.ref ph), some (.int cell), some (.int ((p + 1 : Nat) : Int)), some (.ref pwt), some (.ref pT)]) ⟨_, _, rfl, Same.refl _⟩ (fun i σ H' _ ⟨_, _, _, s⟩ => .of (s _ _ eo2)) ?_ ?_
      · rintro i x σ' H34 hi ⟨v11, v12, rfl, s34⟩
        obtain ⟨o1, ho1, rfl⟩ : ∃ o1, o1 ∈ ol2 ∧ x = .ref o1 := by
          obtain ⟨o1, h1, h2⟩ := List.mem_map.mp (List.mem_of_getElem? hi)
          exact ⟨o1, h1, h2.symm⟩
        obtain ⟨xs3, hv3, gv3, rv3, hl3, lie3⟩ := (hO2 o1 ho1).keep s34
        have v3 : Vals0 (m + 1) (plc xs3) := plc_vals gv3 (by decide) _
        have hR3 : LiesR (m + 1) (putM (p + 1) N) (fun i => rq (plc xs3 i)) := (lies_rat v3.pos).mp lie3
        have hx9 : xs3[p]? = some xs3[p] := List.getElem?_eq_getElem (by omega)
        have x01 : xs3[p] = (0, 1) := by
          have h1 := hR3 (p + 1) 0 hpm (by omega)
          have h2 : putM (p + 1) N (p + 1) 0 = some 1 := by
            unfold putM sg
            rw [if_pos rfl, if_neg (by omega)]
            exact RN.one 0 (by omega)
          rw [h2] at h1
          have g9 := gv3 _ (List.mem_of_getElem? hx9)
          have r9 := rv3 _ (List.mem_of_getElem? hx9)
          have h3 : rq (plc xs3 (p + 1)) - rq (plc xs3 0) ≤ 0 := by
            rcases h1 with h | ⟨h, _⟩
            · exact Std.le_of_lt h
            · rw [h]; decide
          rw [plc_at hx9, show plc xs3 0 = (0, 1) from rfl, rq0] at h3
          generalize xs3[p] = y at *
          have h4 : ¬ 0 < y.1 := fun h => by
            have := (rq_cross (x := (0, 1)) (y := y) (by decide) g9.2.1).mpr (by show 0 * y.2 < y.1 * 1; omega)
            rw [rq0] at this
            grind
          have h5 : y.1 = 0 := by omega
          rw [h5, Int.gcd_zero_left] at r9
          have h6 := g9.2.1
          exact Prod.ext h5 (by show y.2 = 1; omega)
        rw [x01] at hx9
        walk_at "rd"
        rw [show ((p + 1 : Nat) : Int) - 1 = (p : Int) by omega]
        refine hv3.get hx9 fun ay eay => ?_
        intro p35 H35 s35 _ e35
        refine ⟨.tuple [.int 0, .int 1], .tuple [.int 0, .int 1], .tup (.of (s35 _ _ eay)) (.cons (.int _) (.cons (.int _) .nil)), .tup (.of e35) (.cons (.int _) (.cons (.int _) .nil)), shaped_ii _ _, shaped_ii _ _, ?_⟩
        rw [SeqAt.eqv_refl _ rfl]
        walk_at "rd"
        have s3435 := s34.trans s35
        refine ⟨pf, o1, af, m, p + 1, N, xs3, none, rfl, zf33.keep s3435, RN, sN.mono (by omega), hv3.keep s35, gv3, by omega, by omega, hpm, by omega, fun i j hi hj ci cj => ?_, (fun x h => by cases h), fun H36 s36 => ?_⟩
        · have h1 := hR3 i j hi hj
          unfold putM sg at h1
          rw [if_neg ci, if_neg cj] at h1
          exact h1
        walk_at "rd"
        exact ⟨_, _, rfl, s3435.trans s36⟩
      · rintro σ' H34 ⟨v11, v12, rfl, s34⟩
        have zP34 := zP33.keep s34
        have zF34 := zF33.keep s34
        have zf34 := zf33.keep s34
        have zh34 := zh33.keep s34
        have eT34 := s34 _ _ eT33
        clear zP33 zF33 zf33 zh33 eT33 s34 hO2
        walk_at "rd"
        refine seq_step ?_
        refine for_li ?_
        walk_at "rd"
        refine ix_l (.of eT34) (by decide) rfl ?_
        walk_at "rd"
        refine ⟨pF, aF, m + 1, freeM (p + 1) N, _, rfl, zF34, RF, sF.mono (by omega), by omega, hn, fun p43 ol3 H43 s43 _ eo3 hol3 hO3 => ?_⟩
        have zP43 := zP34.keep s43
        have zF43 := zF34.keep s43
        have zf43 := zf34.keep s43
        have zh43 := zh34.keep s43
        have eT43 := s43 _ _ eT34
        clear zP34 zF34 zf34 zh34 eT34 s43
        walk_at "rd"
        refine forL_by (xs := ol3.map V.ref) (LwI H43 [some (.ref a), some (.int c0), some (.int m), some (.int unit), some (.ref pvl), some (.ref pf), some (.ref ph), some (.int cell), some (.int ((p + 1 : Nat) : Int)), some (.ref pwt), some (.ref pT)]) ⟨_, _, rfl, Same.refl _⟩ (fun i σ H' _ ⟨_, _, _, s⟩ => .of (s _ _ eo3)) ?_ ?_
        · rintro i x σ' H44 hi ⟨v11, v12, rfl, s44⟩
          obtain ⟨o1, ho1, rfl⟩ : ∃ o1, o1 ∈ ol3 ∧ x = .ref o1 := by
            obtain ⟨o1, h1, h2⟩ := List.mem_map.mp (List.mem_of_getElem? hi)
            exact ⟨o1, h1, h2.symm⟩
          obtain ⟨xs3, hv3, gv3, rv3, hl3, lie3⟩ := (hO3 o1 ho1).keep s44
          have v3 : Vals0 (m + 1) (plc xs3) := plc_vals gv3 (by decide) _
          have hR3 : LiesR (m + 1) (freeM (p + 1) N) (fun i => rq (plc xs3 i)) := (lies_rat v3.pos).mp lie3
          have hx9 : xs3[p]? = some xs3[p] := List.getElem?_eq_getElem (by omega)
          have g9 := gv3 _ (List.mem_of_getElem? hx9)
          generalize xs3[p] = y at *
          walk_at "rd"
          rw [show ((p + 1 : Nat) : Int) - 1 = (p : Int) by omega]
          refine hv3.get hx9 fun ay eay => ?_
          have fr : ∀ i j, i ≠ p + 1 → freeM (p + 1) N i j = N i j := fun i j c => by
            unfold freeM; rw [if_neg (by omega)]
          refine ⟨pf, o1, af, m, p + 1, N, xs3, some (ay, y), rfl, zf43.keep s44, RN, sN.mono (by omega), hv3, gv3, by omega, by omega, hpm, by omega, fun i j hi hj ci cj => ?_, fun x h => ?_, fun H46 s46 => ?_⟩
          · have h1 := hR3 i j hi hj
            rw [fr i j ci] at h1
            exact h1
          · obtain rfl := Option.some.inj h
            refine ⟨eay, g9.2.1, g9.2.2.1.mono (by omega), g9.2.2.2.mono (by omega), (rq_nn g9.2.1).mpr g9.1, fun i hi ci => ?_⟩
            have h1 := hR3 i (p + 1) hi hpm
            rw [fr i _ ci] at h1
            rw [← plc_at hx9]
            exact h1
          walk_at "rd"
          exact ⟨_, _, rfl, s44.trans s46⟩
        · rintro σ' H44 ⟨v11, v12, rfl, s44⟩
          have zP44 := zP43.keep s44
          have zf44 := zf43.keep s44
          have zh44 := zh43.keep s44
          have eT44 := s44 _ _ eT43
          clear zP43 zF43 zf43 zh43 eT43 s44 hO3
          walk_at "rd"
          refine seq_step ?_
          walk_at "rd"
          have fo := fm_pos (c := cell.fdiv 17) (m := (m : Int)) (by omega)
          obtain ⟨o, ho⟩ : ∃ o : Nat, (cell.fdiv 17).fmod (m : Int) = (o : Int) := ⟨((cell.fdiv 17).fmod (m : Int)).toNat, by omega⟩
          have hom : o + 1 < m + 1 := by omega
          refine ⟨by omega, ?_⟩
          rw [ho, show (1 : Int) + (o : Int) = ((o + 1 : Nat) : Int) by omega]
          refine seq_step ?_
          walk_at "rd"
          intro pa H51 s51 _ ea pb H52 s52 _ eb
          have f2 := fm_pos (c := cell) (m := 2) (by decide)
          obtain ⟨c, hc, hc1⟩ : ∃ c : Nat, cell.fmod 2 = (c : Int) ∧ c ≤ 1 := ⟨(cell.fmod 2).toNat, by omega, by omega⟩
          rw [hc]
          refine ⟨_, eb, by omega, by omega, ?_, fun pc2 H53 s53 _ ec2 => ?_⟩
          · refine small1000' ?_
            show 1 * (Int.toNat (c : Int)) ≤ 1000
            omega
          have ea53 := (s52.trans s53) _ _ ea
          refine ⟨_, ea53, _, ec2, ?_, fun pd H54 s54 _ ed => ?_⟩
          · refine small1000' ?_
            rcases (show c = 0 ∨ c = 1 by omega) with rfl | rfl
            · show 2 ≤ 1000; decide
            · show 3 ≤ 1000; decide
          have s5154 := s51.trans (s52.trans (s53.trans s54))
          have edd : H54 pd = some (.lst (([p + 1, o + 1] ++ List.replicate c (p + 1)).map fun p : Nat => V.int (p : Int))) := by
            rw [ed]
            rcases (show c = 0 ∨ c = 1 by omega) with rfl | rfl <;> rfl
          refine ⟨ph, pd, ah, m + 1, N, _, rfl, zh44.keep s5154, edd, ?_, ?_, by omega, by omega, fun pq aq H55 s55 _ _ zq => ?_⟩
          · simp; omega
          · intro x h
            rcases List.mem_append.mp h with h | h
            · rcases List.mem_cons.mp h with h | h
              · omega
              · rw [List.mem_singleton.mp h]; exact hom
            · rw [(List.mem_replicate.mp h).2]; exact hpm
          have pe : putsM N ([p + 1, o + 1] ++ List.replicate c (p + 1)) = putM (o + 1) (putM (p + 1) N) := by
            rcases (show c = 0 ∨ c = 1 by omega) with rfl | rfl
            · rfl
            · funext x y
              show N (sg (p + 1) (sg (o + 1) (sg (p + 1) x))) (sg (p + 1) (sg (o + 1) (sg (p + 1) y))) = N (sg (p + 1) (sg (o + 1) x)) (sg (p + 1) (sg (o + 1) y))
              rw [sg_sg, sg_sg]
          rw [pe] at zq
          have s5155 := s5154.trans s55
          walk_at "rd"
          refine ix_l (.of (s5155 _ _ eT44)) (by decide) rfl ?_
          walk_at "rd"
          intro pg H56 s56 _ eg
          refine ⟨pP, pg, aP, m + 1, putM (p + 1) N, [o + 1], rfl, zP44.keep (s5155.trans s56), eg, by simp, (fun x h => by rw [List.mem_singleton.mp h]; exact hom), by omega, by omega, fun ph2 ah2 H57 s57 _ _ zh2 => ?_⟩
          have zh2 : ZAt H57 ph2 ah2 (m + 1) (putM (o + 1) (putM (p + 1) N)) := zh2
          refine ⟨_, _, (zq.keep (s56.trans s57)).dp, zh2.dp, shaped_zone _ _, shaped_zone _ _, ?_⟩
          rw [SeqAt.eqv_refl _ (lay_zone _ _).1]
          walk_at "rd"
          intro pk H58 s58 _ ek
          have s5158 := s5155.trans (s56.trans (s57.trans s58))
          refine ⟨ph, pk, ah, m + 1, N, [], rfl, zh44.keep s5158, ek, by simp, (fun x h => by cases h), by omega, by omega, fun pm am H59 s59 _ _ zm => ?_⟩
          have zm : ZAt H59 pm am (m + 1) N := zm
          refine ⟨_, _, zm.dp, (zf44.keep (s5158.trans s59)).dp, shaped_zone _ _, shaped_zone _ _, ?_⟩
          rw [SeqAt.eqv_refl _ (lay_zone _ _).1]
          walk_at "rd"
          exact q _
end
/-! ### what the top has left -/
theorem all_mk {P : Program} {w : World} {K : PySem.W.Frag} {h : Heap} {mg : Str → Option Value} {fa : Addr} (X : K.In h) (G : h.Ns mainGlobals mg) (hfa : mg "law" = some (.ref fa))
    {f0 : Addr} {od0 an0 : Option Addr} {sl0 : Array (Option Value)} {oc0 kV0 dc0 pm0 cd0 ct0 : Value}
    {f1 : Addr} {od1 an1 : Option Addr} {sl1 : Array (Option Value)} {oc1 kV1 dc1 pm1 cd1 ct1 : Value}
    {f2 : Addr} {od2 an2 : Option Addr} {sl2 : Array (Option Value)} {oc2 kV2 dc2 pm2 cd2 ct2 : Value}
    {f3 : Addr} {od3 an3 : Option Addr} {sl3 : Array (Option Value)} {oc3 kV3 dc3 pm3 cd3 ct3 : Value}
    {f4 : Addr} {od4 an4 : Option Addr} {sl4 : Array (Option Value)} {oc4 kV4 dc4 pm4 cd4 ct4 : Value}
    {f5 : Addr} {od5 an5 : Option Addr} {sl5 : Array (Option Value)} {oc5 kV5 dc5 pm5 cd5 ct5 : Value}
    {f6 : Addr} {od6 an6 : Option Addr} {sl6 : Array (Option Value)} {oc6 kV6 dc6 pm6 cd6 ct6 : Value}
    {f7 : Addr} {od7 an7 : Option Addr} {sl7 : Array (Option Value)} {oc7 kV7 dc7 pm7 cd7 ct7 : Value}
    {f8 : Addr} {od8 an8 : Option Addr} {sl8 : Array (Option Value)} {oc8 kV8 dc8 pm8 cd8 ct8 : Value}
    {f9 : Addr} {od9 an9 : Option Addr} {sl9 : Array (Option Value)} {oc9 kV9 dc9 pm9 cd9 ct9 : Value}
    {t9 : Addr} {o9 : Obj} {n9 : Nat}
    {tk9 : Tok}
    {f10 : Addr} {od10 an10 : Option Addr} {sl10 : Array (Option Value)} {oc10 kV10 dc10 pm10 cd10 ct10 : Value}
    {f11 : Addr} {od11 an11 : Option Addr} {sl11 : Array (Option Value)} {oc11 kV11 dc11 pm11 cd11 ct11 : Value}
    {f12 : Addr} {od12 an12 : Option Addr} {sl12 : Array (Option Value)} {oc12 kV12 dc12 pm12 cd12 ct12 : Value}
    {f13 : Addr} {od13 an13 : Option Addr} {sl13 : Array (Option Value)} {oc13 kV13 dc13 pm13 cd13 ct13 : Value}
    {f14 : Addr} {od14 an14 : Option Addr} {sl14 : Array (Option Value)} {oc14 kV14 dc14 pm14 cd14 ct14 : Value}
    {f15 : Addr} {od15 an15 : Option Addr} {sl15 : Array (Option Value)} {oc15 kV15 dc15 pm15 cd15 ct15 : Value}
    {f16 : Addr} {od16 an16 : Option Addr} {sl16 : Array (Option Value)} {oc16 kV16 dc16 pm16 cd16 ct16 : Value}
    {f17 : Addr} {od17 an17 : Option Addr} {sl17 : Array (Option Value)} {oc17 kV17 dc17 pm17 cd17 ct17 : Value}
    {f18 : Addr} {od18 an18 : Option Addr} {sl18 : Array (Option Value)} {oc18 kV18 dc18 pm18 cd18 ct18 : Value}
    {f19 : Addr} {od19 an19 : Option Addr} {sl19 : Array (Option Value)} {oc19 kV19 dc19 pm19 cd19 ct19 : Value}
    {f20 : Addr} {od20 an20 : Option Addr} {sl20 : Array (Option Value)} {oc20 kV20 dc20 pm20 cd20 ct20 : Value}
    {f21 : Addr} {od21 an21 : Option Addr} {sl21 : Array (Option Value)} {oc21 kV21 dc21 pm21 cd21 ct21 : Value}
    {f22 : Addr} {od22 an22 : Option Addr} {sl22 : Array (Option Value)} {oc22 kV22 dc22 pm22 cd22 ct22 : Value}
    {f23 : Addr} {od23 an23 : Option Addr} {sl23 : Array (Option Value)} {oc23 kV23 dc23 pm23 cd23 ct23 : Value}
    {f24 : Addr} {od24 an24 : Option Addr} {sl24 : Array (Option Value)} {oc24 kV24 dc24 pm24 cd24 ct24 : Value}
    {f25 : Addr} {od25 an25 : Option Addr} {sl25 : Array (Option Value)} {oc25 kV25 dc25 pm25 cd25 ct25 : Value}
    {f26 : Addr} {od26 an26 : Option Addr} {sl26 : Array (Option Value)} {oc26 kV26 dc26 pm26 cd26 ct26 : Value}
    {f27 : Addr} {od27 an27 : Option Addr} {sl27 : Array (Option Value)} {oc27 kV27 dc27 pm27 cd27 ct27 : Value}
    {f28 : Addr} {od28 an28 : Option Addr} {sl28 : Array (Option Value)} {oc28 kV28 dc28 pm28 cd28 ct28 : Value}
    {f29 : Addr} {od29 an29 : Option Addr} {sl29 : Array (Option Value)} {oc29 kV29 dc29 pm29 cd29 ct29 : Value}
    {f30 : Addr} {od30 an30 : Option Addr} {sl30 : Array (Option Value)} {oc30 kV30 dc30 pm30 cd30 ct30 : Value}
    {f31 : Addr} {od31 an31 : Option Addr} {sl31 : Array (Option Value)} {oc31 kV31 dc31 pm31 cd31 ct31 : Value}
    {f32 : Addr} {od32 an32 : Option Addr} {sl32 : Array (Option Value)} {oc32 kV32 dc32 pm32 cd32 ct32 : Value}
    {f33 : Addr} {od33 an33 : Option Addr} {sl33 : Array (Option Value)} {oc33 kV33 dc33 pm33 cd33 ct33 : Value}
    {f34 : Addr} {od34 an34 : Option Addr} {sl34 : Array (Option Value)} {oc34 kV34 dc34 pm34 cd34 ct34 : Value}
    {f35 : Addr} {od35 an35 : Option Addr} {sl35 : Array (Option Value)} {oc35 kV35 dc35 pm35 cd35 ct35 : Value}
    {f36 : Addr} {od36 an36 : Option Addr} {sl36 : Array (Option Value)} {oc36 kV36 dc36 pm36 cd36 ct36 : Value}
    {f37 : Addr} {od37 an37 : Option Addr} {sl37 : Array (Option Value)} {oc37 kV37 dc37 pm37 cd37 ct37 : Value}
    {f38 : Addr} {od38 an38 : Option Addr} {sl38 : Array (Option Value)} {oc38 kV38 dc38 pm38 cd38 ct38 : Value}
    {f39 : Addr} {od39 an39 : Option Addr} {sl39 : Array (Option Value)} {oc39 kV39 dc39 pm39 cd39 ct39 : Value}
    {f40 : Addr} {od40 an40 : Option Addr} {sl40 : Array (Option Value)} {oc40 kV40 dc40 pm40 cd40 ct40 : Value}
    {f41 : Addr} {od41 an41 : Option Addr} {sl41 : Array (Option Value)} {oc41 kV41 dc41 pm41 cd41 ct41 : Value}
    {f42 : Addr} {od42 an42 : Option Addr} {sl42 : Array (Option Value)} {oc42 kV42 dc42 pm42 cd42 ct42 : Value}
    {CNoNumber : Addr}
    {uNOUGHT : Tok}
    (a0 : PySem.W.nsIn K mainGlobals "at_most" = some (some (.ref f0)))
    (l0 : K.lookup f0 = some ⟨oc0, od0, .func (PySem.W.fnOf "at_most" "at_most" (defArgs s_at_most) (defBody s_at_most) (defScope s_at_most) .none kV0 dc0 pm0 an0 cd0 ct0), sl0⟩)
    (c0 : PySem.W.codeIn K cd0 "at_most" = true)
    (k0 : PySem.W.keepIn K (.ref f0) = true)
    (a1 : PySem.W.nsIn K mainGlobals "below" = some (some (.ref f1)))
    (l1 : K.lookup f1 = some ⟨oc1, od1, .func (PySem.W.fnOf "below" "below" (defArgs s_below) (defBody s_below) (defScope s_below) .none kV1 dc1 pm1 an1 cd1 ct1), sl1⟩)
    (c1 : PySem.W.codeIn K cd1 "below" = true)
    (k1 : PySem.W.keepIn K (.ref f1) = true)
    (a2 : PySem.W.nsIn K mainGlobals "number_of" = some (some (.ref f2)))
    (l2 : K.lookup f2 = some ⟨oc2, od2, .func (PySem.W.fnOf "number_of" "number_of" (defArgs s_number_of) (defBody s_number_of) (defScope s_number_of) .none kV2 dc2 pm2 an2 cd2 ct2), sl2⟩)
    (c2 : PySem.W.codeIn K cd2 "number_of" = true)
    (k2 : PySem.W.keepIn K (.ref f2) = true)
    (a3 : PySem.W.nsIn K mainGlobals "is_open" = some (some (.ref f3)))
    (l3 : K.lookup f3 = some ⟨oc3, od3, .func (PySem.W.fnOf "is_open" "is_open" (defArgs s_is_open) (defBody s_is_open) (defScope s_is_open) .none kV3 dc3 pm3 an3 cd3 ct3), sl3⟩)
    (c3 : PySem.W.codeIn K cd3 "is_open" = true)
    (k3 : PySem.W.keepIn K (.ref f3) = true)
    (a4 : PySem.W.nsIn K mainGlobals "added" = some (some (.ref f4)))
    (l4 : K.lookup f4 = some ⟨oc4, od4, .func (PySem.W.fnOf "added" "added" (defArgs s_added) (defBody s_added) (defScope s_added) .none kV4 dc4 pm4 an4 cd4 ct4), sl4⟩)
    (c4 : PySem.W.codeIn K cd4 "added" = true)
    (k4 : PySem.W.keepIn K (.ref f4) = true)
    (a5 : PySem.W.nsIn K mainGlobals "narrower" = some (some (.ref f5)))
    (l5 : K.lookup f5 = some ⟨oc5, od5, .func (PySem.W.fnOf "narrower" "narrower" (defArgs s_narrower) (defBody s_narrower) (defScope s_narrower) .none kV5 dc5 pm5 an5 cd5 ct5), sl5⟩)
    (c5 : PySem.W.codeIn K cd5 "narrower" = true)
    (k5 : PySem.W.keepIn K (.ref f5) = true)
    (a6 : PySem.W.nsIn K mainGlobals "lets" = some (some (.ref f6)))
    (l6 : K.lookup f6 = some ⟨oc6, od6, .func (PySem.W.fnOf "lets" "lets" (defArgs s_lets) (defBody s_lets) (defScope s_lets) .none kV6 dc6 pm6 an6 cd6 ct6), sl6⟩)
    (c6 : PySem.W.codeIn K cd6 "lets" = true)
    (k6 : PySem.W.keepIn K (.ref f6) = true)
    (a7 : PySem.W.nsIn K mainGlobals "is_whole" = some (some (.ref f7)))
    (l7 : K.lookup f7 = some ⟨oc7, od7, .func (PySem.W.fnOf "is_whole" "is_whole" (defArgs s_is_whole) (defBody s_is_whole) (defScope s_is_whole) .none kV7 dc7 pm7 an7 cd7 ct7), sl7⟩)
    (c7 : PySem.W.codeIn K cd7 "is_whole" = true)
    (k7 : PySem.W.keepIn K (.ref f7) = true)
    (a8 : PySem.W.nsIn K mainGlobals "divisor" = some (some (.ref f8)))
    (l8 : K.lookup f8 = some ⟨oc8, od8, .func (PySem.W.fnOf "divisor" "divisor" (defArgs s_divisor) (defBody s_divisor) (defScope s_divisor) .none kV8 dc8 pm8 an8 cd8 ct8), sl8⟩)
    (c8 : PySem.W.codeIn K cd8 "divisor" = true)
    (k8 : PySem.W.keepIn K (.ref f8) = true)
    (a9 : PySem.W.nsIn K mainGlobals "fraction" = some (some (.ref f9)))
    (l9 : K.lookup f9 = some ⟨oc9, od9, .func (PySem.W.fnOf "fraction" "fraction" (defArgs s_fraction) (defBody s_fraction) (defScope s_fraction) (.ref t9) kV9 dc9 pm9 an9 cd9 ct9), sl9⟩)
    (c9 : PySem.W.codeIn K cd9 "fraction" = true)
    (k9 : PySem.W.keepIn K (.ref f9) = true)
    (lt9 : K.lookup t9 = some o9)
    (ld9 : o9.data = .seq ([Value.int 1 tk9] : List Value).toArray n9)
    (a10 : PySem.W.nsIn K mainGlobals "plus" = some (some (.ref f10)))
    (l10 : K.lookup f10 = some ⟨oc10, od10, .func (PySem.W.fnOf "plus" "plus" (defArgs s_plus) (defBody s_plus) (defScope s_plus) .none kV10 dc10 pm10 an10 cd10 ct10), sl10⟩)
    (c10 : PySem.W.codeIn K cd10 "plus" = true)
    (k10 : PySem.W.keepIn K (.ref f10) = true)
    (a11 : PySem.W.nsIn K mainGlobals "minus" = some (some (.ref f11)))
    (l11 : K.lookup f11 = some ⟨oc11, od11, .func (PySem.W.fnOf "minus" "minus" (defArgs s_minus) (defBody s_minus) (defScope s_minus) .none kV11 dc11 pm11 an11 cd11 ct11), sl11⟩)
    (c11 : PySem.W.codeIn K cd11 "minus" = true)
    (k11 : PySem.W.keepIn K (.ref f11) = true)
    (a12 : PySem.W.nsIn K mainGlobals "half" = some (some (.ref f12)))
    (l12 : K.lookup f12 = some ⟨oc12, od12, .func (PySem.W.fnOf "half" "half" (defArgs s_half) (defBody s_half) (defScope s_half) .none kV12 dc12 pm12 an12 cd12 ct12), sl12⟩)
    (c12 : PySem.W.codeIn K cd12 "half" = true)
    (k12 : PySem.W.keepIn K (.ref f12) = true)
    (a13 : PySem.W.nsIn K mainGlobals "under" = some (some (.ref f13)))
    (l13 : K.lookup f13 = some ⟨oc13, od13, .func (PySem.W.fnOf "under" "under" (defArgs s_under) (defBody s_under) (defScope s_under) .none kV13 dc13 pm13 an13 cd13 ct13), sl13⟩)
    (c13 : PySem.W.codeIn K cd13 "under" = true)
    (k13 : PySem.W.keepIn K (.ref f13) = true)
    (a14 : PySem.W.nsIn K mainGlobals "through" = some (some (.ref f14)))
    (l14 : K.lookup f14 = some ⟨oc14, od14, .func (PySem.W.fnOf "through" "through" (defArgs s_through) (defBody s_through) (defScope s_through) .none kV14 dc14 pm14 an14 cd14 ct14), sl14⟩)
    (c14 : PySem.W.codeIn K cd14 "through" = true)
    (k14 : PySem.W.keepIn K (.ref f14) = true)
    (a15 : PySem.W.nsIn K mainGlobals "narrowest" = some (some (.ref f15)))
    (l15 : K.lookup f15 = some ⟨oc15, od15, .func (PySem.W.fnOf "narrowest" "narrowest" (defArgs s_narrowest) (defBody s_narrowest) (defScope s_narrowest) .none kV15 dc15 pm15 an15 cd15 ct15), sl15⟩)
    (c15 : PySem.W.codeIn K cd15 "narrowest" = true)
    (k15 : PySem.W.keepIn K (.ref f15) = true)
    (a16 : PySem.W.nsIn K mainGlobals "lies_in" = some (some (.ref f16)))
    (l16 : K.lookup f16 = some ⟨oc16, od16, .func (PySem.W.fnOf "lies_in" "lies_in" (defArgs s_lies_in) (defBody s_lies_in) (defScope s_lies_in) .none kV16 dc16 pm16 an16 cd16 ct16), sl16⟩)
    (c16 : PySem.W.codeIn K cd16 "lies_in" = true)
    (k16 : PySem.W.keepIn K (.ref f16) = true)
    (a17 : PySem.W.nsIn K mainGlobals "copied" = some (some (.ref f17)))
    (l17 : K.lookup f17 = some ⟨oc17, od17, .func (PySem.W.fnOf "copied" "copied" (defArgs s_copied) (defBody s_copied) (defScope s_copied) .none kV17 dc17 pm17 an17 cd17 ct17), sl17⟩)
    (c17 : PySem.W.codeIn K cd17 "copied" = true)
    (k17 : PySem.W.keepIn K (.ref f17) = true)
    (a18 : PySem.W.nsIn K mainGlobals "waited" = some (some (.ref f18)))
    (l18 : K.lookup f18 = some ⟨oc18, od18, .func (PySem.W.fnOf "waited" "waited" (defArgs s_waited) (defBody s_waited) (defScope s_waited) .none kV18 dc18 pm18 an18 cd18 ct18), sl18⟩)
    (c18 : PySem.W.codeIn K cd18 "waited" = true)
    (k18 : PySem.W.keepIn K (.ref f18) = true)
    (a19 : PySem.W.nsIn K mainGlobals "put_back" = some (some (.ref f19)))
    (l19 : K.lookup f19 = some ⟨oc19, od19, .func (PySem.W.fnOf "put_back" "put_back" (defArgs s_put_back) (defBody s_put_back) (defScope s_put_back) .none kV19 dc19 pm19 an19 cd19 ct19), sl19⟩)
    (c19 : PySem.W.codeIn K cd19 "put_back" = true)
    (k19 : PySem.W.keepIn K (.ref f19) = true)
    (a20 : PySem.W.nsIn K mainGlobals "freed" = some (some (.ref f20)))
    (l20 : K.lookup f20 = some ⟨oc20, od20, .func (PySem.W.fnOf "freed" "freed" (defArgs s_freed) (defBody s_freed) (defScope s_freed) .none kV20 dc20 pm20 an20 cd20 ct20), sl20⟩)
    (c20 : PySem.W.codeIn K cd20 "freed" = true)
    (k20 : PySem.W.keepIn K (.ref f20) = true)
    (a21 : PySem.W.nsIn K mainGlobals "greater" = some (some (.ref f21)))
    (l21 : K.lookup f21 = some ⟨oc21, od21, .func (PySem.W.fnOf "greater" "greater" (defArgs s_greater) (defBody s_greater) (defScope s_greater) .none kV21 dc21 pm21 an21 cd21 ct21), sl21⟩)
    (c21 : PySem.W.codeIn K cd21 "greater" = true)
    (k21 : PySem.W.keepIn K (.ref f21) = true)
    (a22 : PySem.W.nsIn K mainGlobals "lowest" = some (some (.ref f22)))
    (l22 : K.lookup f22 = some ⟨oc22, od22, .func (PySem.W.fnOf "lowest" "lowest" (defArgs s_lowest) (defBody s_lowest) (defScope s_lowest) .none kV22 dc22 pm22 an22 cd22 ct22), sl22⟩)
    (c22 : PySem.W.codeIn K cd22 "lowest" = true)
    (k22 : PySem.W.keepIn K (.ref f22) = true)
    (a23 : PySem.W.nsIn K mainGlobals "highest" = some (some (.ref f23)))
    (l23 : K.lookup f23 = some ⟨oc23, od23, .func (PySem.W.fnOf "highest" "highest" (defArgs s_highest) (defBody s_highest) (defScope s_highest) .none kV23 dc23 pm23 an23 cd23 ct23), sl23⟩)
    (c23 : PySem.W.codeIn K cd23 "highest" = true)
    (k23 : PySem.W.keepIn K (.ref f23) = true)
    (a24 : PySem.W.nsIn K mainGlobals "filled" = some (some (.ref f24)))
    (l24 : K.lookup f24 = some ⟨oc24, od24, .func (PySem.W.fnOf "filled" "filled" (defArgs s_filled) (defBody s_filled) (defScope s_filled) .none kV24 dc24 pm24 an24 cd24 ct24), sl24⟩)
    (c24 : PySem.W.codeIn K cd24 "filled" = true)
    (k24 : PySem.W.keepIn K (.ref f24) = true)
    (a25 : PySem.W.nsIn K mainGlobals "scaled" = some (some (.ref f25)))
    (l25 : K.lookup f25 = some ⟨oc25, od25, .func (PySem.W.fnOf "scaled" "scaled" (defArgs s_scaled) (defBody s_scaled) (defScope s_scaled) .none kV25 dc25 pm25 an25 cd25 ct25), sl25⟩)
    (c25 : PySem.W.codeIn K cd25 "scaled" = true)
    (k25 : PySem.W.keepIn K (.ref f25) = true)
    (a26 : PySem.W.nsIn K mainGlobals "near_values" = some (some (.ref f26)))
    (l26 : K.lookup f26 = some ⟨oc26, od26, .func (PySem.W.fnOf "near_values" "near_values" (defArgs s_near_values) (defBody s_near_values) (defScope s_near_values) .none kV26 dc26 pm26 an26 cd26 ct26), sl26⟩)
    (c26 : PySem.W.codeIn K cd26 "near_values" = true)
    (k26 : PySem.W.keepIn K (.ref f26) = true)
    (a27 : PySem.W.nsIn K mainGlobals "_law_cell_at" = some (some (.ref f27)))
    (l27 : K.lookup f27 = some ⟨oc27, od27, .func (PySem.W.fnOf "_law_cell_at" "_law_cell_at" (defArgs s_l_cell_at) (defBody s_l_cell_at) (defScope s_l_cell_at) .none kV27 dc27 pm27 an27 cd27 ct27), sl27⟩)
    (c27 : PySem.W.codeIn K cd27 "_law_cell_at" = true)
    (k27 : PySem.W.keepIn K (.ref f27) = true)
    (a28 : PySem.W.nsIn K mainGlobals "_law_stream" = some (some (.ref f28)))
    (l28 : K.lookup f28 = some ⟨oc28, od28, .func (PySem.W.fnOf "_law_stream" "_law_stream" (defArgs s_l_stream) (defBody s_l_stream) (defScope s_l_stream) .none kV28 dc28 pm28 an28 cd28 ct28), sl28⟩)
    (c28 : PySem.W.codeIn K cd28 "_law_stream" = true)
    (k28 : PySem.W.keepIn K (.ref f28) = true)
    (a29 : PySem.W.nsIn K mainGlobals "_law_lowest" = some (some (.ref f29)))
    (l29 : K.lookup f29 = some ⟨oc29, od29, .func (PySem.W.fnOf "_law_lowest" "_law_lowest" (defArgs s_l_lowest) (defBody s_l_lowest) (defScope s_l_lowest) .none kV29 dc29 pm29 an29 cd29 ct29), sl29⟩)
    (c29 : PySem.W.codeIn K cd29 "_law_lowest" = true)
    (k29 : PySem.W.keepIn K (.ref f29) = true)
    (a30 : PySem.W.nsIn K mainGlobals "_law_values" = some (some (.ref f30)))
    (l30 : K.lookup f30 = some ⟨oc30, od30, .func (PySem.W.fnOf "_law_values" "_law_values" (defArgs s_l_values) (defBody s_l_values) (defScope s_l_values) .none kV30 dc30 pm30 an30 cd30 ct30), sl30⟩)
    (c30 : PySem.W.codeIn K cd30 "_law_values" = true)
    (k30 : PySem.W.keepIn K (.ref f30) = true)
    (a31 : PySem.W.nsIn K mainGlobals "_law_minus" = some (some (.ref f31)))
    (l31 : K.lookup f31 = some ⟨oc31, od31, .func (PySem.W.fnOf "_law_minus" "_law_minus" (defArgs s_l_minus) (defBody s_l_minus) (defScope s_l_minus) .none kV31 dc31 pm31 an31 cd31 ct31), sl31⟩)
    (c31 : PySem.W.codeIn K cd31 "_law_minus" = true)
    (k31 : PySem.W.keepIn K (.ref f31) = true)
    (a32 : PySem.W.nsIn K mainGlobals "_law_plus" = some (some (.ref f32)))
    (l32 : K.lookup f32 = some ⟨oc32, od32, .func (PySem.W.fnOf "_law_plus" "_law_plus" (defArgs s_l_plus) (defBody s_l_plus) (defScope s_l_plus) .none kV32 dc32 pm32 an32 cd32 ct32), sl32⟩)
    (c32 : PySem.W.codeIn K cd32 "_law_plus" = true)
    (k32 : PySem.W.keepIn K (.ref f32) = true)
    (a33 : PySem.W.nsIn K mainGlobals "_law_bound" = some (some (.ref f33)))
    (l33 : K.lookup f33 = some ⟨oc33, od33, .func (PySem.W.fnOf "_law_bound" "_law_bound" (defArgs s_l_bound) (defBody s_l_bound) (defScope s_l_bound) .none kV33 dc33 pm33 an33 cd33 ct33), sl33⟩)
    (c33 : PySem.W.codeIn K cd33 "_law_bound" = true)
    (k33 : PySem.W.keepIn K (.ref f33) = true)
    (a34 : PySem.W.nsIn K mainGlobals "_law_around" = some (some (.ref f34)))
    (l34 : K.lookup f34 = some ⟨oc34, od34, .func (PySem.W.fnOf "_law_around" "_law_around" (defArgs s_l_around) (defBody s_l_around) (defScope s_l_around) .none kV34 dc34 pm34 an34 cd34 ct34), sl34⟩)
    (c34 : PySem.W.codeIn K cd34 "_law_around" = true)
    (k34 : PySem.W.keepIn K (.ref f34) = true)
    (a35 : PySem.W.nsIn K mainGlobals "_law_lets" = some (some (.ref f35)))
    (l35 : K.lookup f35 = some ⟨oc35, od35, .func (PySem.W.fnOf "_law_lets" "_law_lets" (defArgs s_l_lets) (defBody s_l_lets) (defScope s_l_lets) .none kV35 dc35 pm35 an35 cd35 ct35), sl35⟩)
    (c35 : PySem.W.codeIn K cd35 "_law_lets" = true)
    (k35 : PySem.W.keepIn K (.ref f35) = true)
    (a36 : PySem.W.nsIn K mainGlobals "_law_meet" = some (some (.ref f36)))
    (l36 : K.lookup f36 = some ⟨oc36, od36, .func (PySem.W.fnOf "_law_meet" "_law_meet" (defArgs s_l_meet) (defBody s_l_meet) (defScope s_l_meet) .none kV36 dc36 pm36 an36 cd36 ct36), sl36⟩)
    (c36 : PySem.W.codeIn K cd36 "_law_meet" = true)
    (k36 : PySem.W.keepIn K (.ref f36) = true)
    (a37 : PySem.W.nsIn K mainGlobals "_law_some_value" = some (some (.ref f37)))
    (l37 : K.lookup f37 = some ⟨oc37, od37, .func (PySem.W.fnOf "_law_some_value" "_law_some_value" (defArgs s_l_some_value) (defBody s_l_some_value) (defScope s_l_some_value) .none kV37 dc37 pm37 an37 cd37 ct37), sl37⟩)
    (c37 : PySem.W.codeIn K cd37 "_law_some_value" = true)
    (k37 : PySem.W.keepIn K (.ref f37) = true)
    (a38 : PySem.W.nsIn K mainGlobals "_law_some_wait" = some (some (.ref f38)))
    (l38 : K.lookup f38 = some ⟨oc38, od38, .func (PySem.W.fnOf "_law_some_wait" "_law_some_wait" (defArgs s_l_some_wait) (defBody s_l_some_wait) (defScope s_l_some_wait) .none kV38 dc38 pm38 an38 cd38 ct38), sl38⟩)
    (c38 : PySem.W.codeIn K cd38 "_law_some_wait" = true)
    (k38 : PySem.W.keepIn K (.ref f38) = true)
    (a39 : PySem.W.nsIn K mainGlobals "_law_near" = some (some (.ref f39)))
    (l39 : K.lookup f39 = some ⟨oc39, od39, .func (PySem.W.fnOf "_law_near" "_law_near" (defArgs s_l_near) (defBody s_l_near) (defScope s_l_near) .none kV39 dc39 pm39 an39 cd39 ct39), sl39⟩)
    (c39 : PySem.W.codeIn K cd39 "_law_near" = true)
    (k39 : PySem.W.keepIn K (.ref f39) = true)
    (a40 : PySem.W.nsIn K mainGlobals "_law_is_narrow" = some (some (.ref f40)))
    (l40 : K.lookup f40 = some ⟨oc40, od40, .func (PySem.W.fnOf "_law_is_narrow" "_law_is_narrow" (defArgs s_l_is_narrow) (defBody s_l_is_narrow) (defScope s_l_is_narrow) .none kV40 dc40 pm40 an40 cd40 ct40), sl40⟩)
    (c40 : PySem.W.codeIn K cd40 "_law_is_narrow" = true)
    (k40 : PySem.W.keepIn K (.ref f40) = true)
    (a41 : PySem.W.nsIn K mainGlobals "_law_changed" = some (some (.ref f41)))
    (l41 : K.lookup f41 = some ⟨oc41, od41, .func (PySem.W.fnOf "_law_changed" "_law_changed" (defArgs s_l_changed) (defBody s_l_changed) (defScope s_l_changed) .none kV41 dc41 pm41 an41 cd41 ct41), sl41⟩)
    (c41 : PySem.W.codeIn K cd41 "_law_changed" = true)
    (k41 : PySem.W.keepIn K (.ref f41) = true)
    (a42 : PySem.W.nsIn K mainGlobals "law" = some (some (.ref f42)))
    (l42 : K.lookup f42 = some ⟨oc42, od42, .func (PySem.W.fnOf "law" "law" (defArgs s_law) (defBody s_law) (defScope s_law) .none kV42 dc42 pm42 an42 cd42 ct42), sl42⟩)
    (c42 : PySem.W.codeIn K cd42 "law" = true)
    (k42 : PySem.W.keepIn K (.ref f42) = true)
    (gNoNumber : PySem.W.nsIn K mainGlobals "NoNumber" = some (some (.ref CNoNumber)))
    (xNoNumber : PySem.W.excIn K CNoNumber [.type "ValueError", .type "Exception", .type "BaseException", .type "object"] "ValueError.__new__" = true)
    (kNoNumber : PySem.W.keepIn K (.ref CNoNumber) = true)
    (bNoNumber : PySem.W.subIn K (.ref CNoNumber) (.type "BaseException") = some true)
    (tNoNumber : PySem.W.typeIn K (.ref CNoNumber) = some (.type "type"))
    (iNoNumber : PySem.W.isClsIn K CNoNumber = true)
    (gNOUGHT : PySem.W.nsIn K mainGlobals "NOUGHT" = some (some (.int 1 uNOUGHT)))
    (zabs : PySem.W.nsIn K mainGlobals "abs" = some none)
    (zall : PySem.W.nsIn K mainGlobals "all" = some none)
    (zbool : PySem.W.nsIn K mainGlobals "bool" = some none)
    (zint : PySem.W.nsIn K mainGlobals "int" = some none)
    (zisinstance : PySem.W.nsIn K mainGlobals "isinstance" = some none)
    (zlen : PySem.W.nsIn K mainGlobals "len" = some none)
    (zlist : PySem.W.nsIn K mainGlobals "list" = some none)
    (zmin : PySem.W.nsIn K mainGlobals "min" = some none)
    (zrange : PySem.W.nsIn K mainGlobals "range" = some none) :
    ∃ fd : FuncData, (∀ (s : Shared) (v : Value), BindsTo s fd ⟨[v], []⟩ [("_law_script", v)]) ∧ ∀ base : Heap, K.In base → base.Ns mainGlobals mg → FnOk P w K mg base CX0 8 fa fd ["_law_script"] (spLaw K) := by
  have e := hfa.symm.trans (PySem.W.mg_of X G a42)
  cases e
  have F9 := funD_mk (st := s_fraction) (dvs := [.int 1]) l9 c9 k9 lt9 ld9 (.cons ⟨_, rfl⟩ .nil) (by simp)
  obtain ⟨dz9, vz9, bz9⟩ := F9.binds1 (ps := ["top", "bottom"]) 2 1 (by simp) rfl fun _ _ _ _ _ _ _ us its h1 h2 => match us, h1, its, h2 with | [_, _], _, [_], _ => ⟨_, rfl, rfl⟩
  cases vz9
  obtain ⟨dd9, vd9, bd9⟩ := F9.binds1 (ps := ["top", "bottom"]) 1 0 (by simp) rfl fun _ _ _ _ _ _ _ us its h1 h2 => match us, h1, its, h2 with | [_], _, [_], _ => ⟨_, rfl, rfl⟩
  let T : Top K mg := {
      f_at_most := f0,
      d_at_most := _,
      F_at_most := fun_mk (st := s_at_most) l0 c0 k0,
      g_at_most := PySem.W.mg_of X G a0,
      b_at_most := (fun_mk (st := s_at_most) l0 c0 k0).binds (ps := ["number"]) fun _ _ _ _ _ _ us hl => match us, hl with | [_], _ => rfl,
      f_below := f1,
      d_below := _,
      F_below := fun_mk (st := s_below) l1 c1 k1,
      g_below := PySem.W.mg_of X G a1,
      b_below := (fun_mk (st := s_below) l1 c1 k1).binds (ps := ["number"]) fun _ _ _ _ _ _ us hl => match us, hl with | [_], _ => rfl,
      f_number_of := f2,
      d_number_of := _,
      F_number_of := fun_mk (st := s_number_of) l2 c2 k2,
      g_number_of := PySem.W.mg_of X G a2,
      b_number_of := (fun_mk (st := s_number_of) l2 c2 k2).binds (ps := ["bound"]) fun _ _ _ _ _ _ us hl => match us, hl with | [_], _ => rfl,
      f_is_open := f3,
      d_is_open := _,
      F_is_open := fun_mk (st := s_is_open) l3 c3 k3,
      g_is_open := PySem.W.mg_of X G a3,
      b_is_open := (fun_mk (st := s_is_open) l3 c3 k3).binds (ps := ["bound"]) fun _ _ _ _ _ _ us hl => match us, hl with | [_], _ => rfl,
      f_added := f4,
      d_added := _,
      F_added := fun_mk (st := s_added) l4 c4 k4,
      g_added := PySem.W.mg_of X G a4,
      b_added := (fun_mk (st := s_added) l4 c4 k4).binds (ps := ["one", "other"]) fun _ _ _ _ _ _ us hl => match us, hl with | [_, _], _ => rfl,
      f_narrower := f5,
      d_narrower := _,
      F_narrower := fun_mk (st := s_narrower) l5 c5 k5,
      g_narrower := PySem.W.mg_of X G a5,
      b_narrower := (fun_mk (st := s_narrower) l5 c5 k5).binds (ps := ["one", "other"]) fun _ _ _ _ _ _ us hl => match us, hl with | [_, _], _ => rfl,
      f_lets := f6,
      d_lets := _,
      F_lets := fun_mk (st := s_lets) l6 c6 k6,
      g_lets := PySem.W.mg_of X G a6,
      b_lets := (fun_mk (st := s_lets) l6 c6 k6).binds (ps := ["bound", "value"]) fun _ _ _ _ _ _ us hl => match us, hl with | [_, _], _ => rfl,
      f_is_whole := f7,
      d_is_whole := _,
      F_is_whole := fun_mk (st := s_is_whole) l7 c7 k7,
      g_is_whole := PySem.W.mg_of X G a7,
      b_is_whole := (fun_mk (st := s_is_whole) l7 c7 k7).binds (ps := ["thing"]) fun _ _ _ _ _ _ us hl => match us, hl with | [_], _ => rfl,
      f_divisor := f8,
      d_divisor := _,
      F_divisor := fun_mk (st := s_divisor) l8 c8 k8,
      g_divisor := PySem.W.mg_of X G a8,
      b_divisor := (fun_mk (st := s_divisor) l8 c8 k8).binds (ps := ["one", "other"]) fun _ _ _ _ _ _ us hl => match us, hl with | [_, _], _ => rfl,
      f_fraction := f9,
      d_fraction := _,
      F_fraction := F9,
      g_fraction := PySem.W.mg_of X G a9,
      b_fraction := bz9,
      dv_fraction := dd9,
      v_fraction := vd9,
      bd_fraction := bd9,
      f_plus := f10,
      d_plus := _,
      F_plus := fun_mk (st := s_plus) l10 c10 k10,
      g_plus := PySem.W.mg_of X G a10,
      b_plus := (fun_mk (st := s_plus) l10 c10 k10).binds (ps := ["one", "other"]) fun _ _ _ _ _ _ us hl => match us, hl with | [_, _], _ => rfl,
      f_minus := f11,
      d_minus := _,
      F_minus := fun_mk (st := s_minus) l11 c11 k11,
      g_minus := PySem.W.mg_of X G a11,
      b_minus := (fun_mk (st := s_minus) l11 c11 k11).binds (ps := ["one", "other"]) fun _ _ _ _ _ _ us hl => match us, hl with | [_, _], _ => rfl,
      f_half := f12,
      d_half := _,
      F_half := fun_mk (st := s_half) l12 c12 k12,
      g_half := PySem.W.mg_of X G a12,
      b_half := (fun_mk (st := s_half) l12 c12 k12).binds (ps := ["one"]) fun _ _ _ _ _ _ us hl => match us, hl with | [_], _ => rfl,
      f_under := f13,
      d_under := _,
      F_under := fun_mk (st := s_under) l13 c13 k13,
      g_under := PySem.W.mg_of X G a13,
      b_under := (fun_mk (st := s_under) l13 c13 k13).binds (ps := ["one", "other"]) fun _ _ _ _ _ _ us hl => match us, hl with | [_, _], _ => rfl,
      f_through := f14,
      d_through := _,
      F_through := fun_mk (st := s_through) l14 c14 k14,
      g_through := PySem.W.mg_of X G a14,
      b_through := (fun_mk (st := s_through) l14 c14 k14).binds (ps := ["rows", "k"]) fun _ _ _ _ _ _ us hl => match us, hl with | [_, _], _ => rfl,
      f_narrowest := f15,
      d_narrowest := _,
      F_narrowest := fun_mk (st := s_narrowest) l15 c15 k15,
      g_narrowest := PySem.W.mg_of X G a15,
      b_narrowest := (fun_mk (st := s_narrowest) l15 c15 k15).binds (ps := ["zone"]) fun _ _ _ _ _ _ us hl => match us, hl with | [_], _ => rfl,
      f_lies_in := f16,
      d_lies_in := _,
      F_lies_in := fun_mk (st := s_lies_in) l16 c16 k16,
      g_lies_in := PySem.W.mg_of X G a16,
      b_lies_in := (fun_mk (st := s_lies_in) l16 c16 k16).binds (ps := ["zone", "values"]) fun _ _ _ _ _ _ us hl => match us, hl with | [_, _], _ => rfl,
      f_copied := f17,
      d_copied := _,
      F_copied := fun_mk (st := s_copied) l17 c17 k17,
      g_copied := PySem.W.mg_of X G a17,
      b_copied := (fun_mk (st := s_copied) l17 c17 k17).binds (ps := ["zone"]) fun _ _ _ _ _ _ us hl => match us, hl with | [_], _ => rfl,
      f_waited := f18,
      d_waited := _,
      F_waited := fun_mk (st := s_waited) l18 c18 k18,
      g_waited := PySem.W.mg_of X G a18,
      b_waited := (fun_mk (st := s_waited) l18 c18 k18).binds (ps := ["zone"]) fun _ _ _ _ _ _ us hl => match us, hl with | [_], _ => rfl,
      f_put_back := f19,
      d_put_back := _,
      F_put_back := fun_mk (st := s_put_back) l19 c19 k19,
      g_put_back := PySem.W.mg_of X G a19,
      b_put_back := (fun_mk (st := s_put_back) l19 c19 k19).binds (ps := ["zone", "places"]) fun _ _ _ _ _ _ us hl => match us, hl with | [_, _], _ => rfl,
      f_freed := f20,
      d_freed := _,
      F_freed := fun_mk (st := s_freed) l20 c20 k20,
      g_freed := PySem.W.mg_of X G a20,
      b_freed := (fun_mk (st := s_freed) l20 c20 k20).binds (ps := ["zone", "place"]) fun _ _ _ _ _ _ us hl => match us, hl with | [_, _], _ => rfl,
      f_greater := f21,
      d_greater := _,
      F_greater := fun_mk (st := s_greater) l21 c21 k21,
      g_greater := PySem.W.mg_of X G a21,
      b_greater := (fun_mk (st := s_greater) l21 c21 k21).binds (ps := ["one", "other"]) fun _ _ _ _ _ _ us hl => match us, hl with | [_, _], _ => rfl,
      f_lowest := f22,
      d_lowest := _,
      F_lowest := fun_mk (st := s_lowest) l22 c22 k22,
      g_lowest := PySem.W.mg_of X G a22,
      b_lowest := (fun_mk (st := s_lowest) l22 c22 k22).binds (ps := ["zone", "values", "k"]) fun _ _ _ _ _ _ us hl => match us, hl with | [_, _, _], _ => rfl,
      f_highest := f23,
      d_highest := _,
      F_highest := fun_mk (st := s_highest) l23 c23 k23,
      g_highest := PySem.W.mg_of X G a23,
      b_highest := (fun_mk (st := s_highest) l23 c23 k23).binds (ps := ["zone", "values", "k"]) fun _ _ _ _ _ _ us hl => match us, hl with | [_, _, _], _ => rfl,
      f_filled := f24,
      d_filled := _,
      F_filled := fun_mk (st := s_filled) l24 c24 k24,
      g_filled := PySem.W.mg_of X G a24,
      b_filled := (fun_mk (st := s_filled) l24 c24 k24).binds (ps := ["zone", "known"]) fun _ _ _ _ _ _ us hl => match us, hl with | [_, _], _ => rfl,
      f_scaled := f25,
      d_scaled := _,
      F_scaled := fun_mk (st := s_scaled) l25 c25 k25,
      g_scaled := PySem.W.mg_of X G a25,
      b_scaled := (fun_mk (st := s_scaled) l25 c25 k25).binds (ps := ["bound", "times"]) fun _ _ _ _ _ _ us hl => match us, hl with | [_, _], _ => rfl,
      f_near_values := f26,
      d_near_values := _,
      F_near_values := fun_mk (st := s_near_values) l26 c26 k26,
      g_near_values := PySem.W.mg_of X G a26,
      b_near_values := (fun_mk (st := s_near_values) l26 c26 k26).binds (ps := ["zone", "i", "j", "near"]) fun _ _ _ _ _ _ us hl => match us, hl with | [_, _, _, _], _ => rfl,
      f_l_cell_at := f27,
      d_l_cell_at := _,
      F_l_cell_at := fun_mk (st := s_l_cell_at) l27 c27 k27,
      g_l_cell_at := PySem.W.mg_of X G a27,
      b_l_cell_at := (fun_mk (st := s_l_cell_at) l27 c27 k27).binds (ps := ["_law_script", "_law_k"]) fun _ _ _ _ _ _ us hl => match us, hl with | [_, _], _ => rfl,
      f_l_stream := f28,
      d_l_stream := _,
      F_l_stream := fun_mk (st := s_l_stream) l28 c28 k28,
      g_l_stream := PySem.W.mg_of X G a28,
      b_l_stream := (fun_mk (st := s_l_stream) l28 c28 k28).binds (ps := ["_law_cell", "_law_many"]) fun _ _ _ _ _ _ us hl => match us, hl with | [_, _], _ => rfl,
      f_l_lowest := f29,
      d_l_lowest := _,
      F_l_lowest := fun_mk (st := s_l_lowest) l29 c29 k29,
      g_l_lowest := PySem.W.mg_of X G a29,
      b_l_lowest := (fun_mk (st := s_l_lowest) l29 c29 k29).binds (ps := ["_law_top", "_law_bottom"]) fun _ _ _ _ _ _ us hl => match us, hl with | [_, _], _ => rfl,
      f_l_values := f30,
      d_l_values := _,
      F_l_values := fun_mk (st := s_l_values) l30 c30 k30,
      g_l_values := PySem.W.mg_of X G a30,
      b_l_values := (fun_mk (st := s_l_values) l30 c30 k30).binds (ps := ["_law_xs", "_law_many", "_law_unit"]) fun _ _ _ _ _ _ us hl => match us, hl with | [_, _, _], _ => rfl,
      f_l_minus := f31,
      d_l_minus := _,
      F_l_minus := fun_mk (st := s_l_minus) l31 c31 k31,
      g_l_minus := PySem.W.mg_of X G a31,
      b_l_minus := (fun_mk (st := s_l_minus) l31 c31 k31).binds (ps := ["_law_one", "_law_other"]) fun _ _ _ _ _ _ us hl => match us, hl with | [_, _], _ => rfl,
      f_l_plus := f32,
      d_l_plus := _,
      F_l_plus := fun_mk (st := s_l_plus) l32 c32 k32,
      g_l_plus := PySem.W.mg_of X G a32,
      b_l_plus := (fun_mk (st := s_l_plus) l32 c32 k32).binds (ps := ["_law_one", "_law_other"]) fun _ _ _ _ _ _ us hl => match us, hl with | [_, _], _ => rfl,
      f_l_bound := f33,
      d_l_bound := _,
      F_l_bound := fun_mk (st := s_l_bound) l33 c33 k33,
      g_l_bound := PySem.W.mg_of X G a33,
      b_l_bound := (fun_mk (st := s_l_bound) l33 c33 k33).binds (ps := ["_law_value", "_law_x"]) fun _ _ _ _ _ _ us hl => match us, hl with | [_, _], _ => rfl,
      f_l_around := f34,
      d_l_around := _,
      F_l_around := fun_mk (st := s_l_around) l34 c34 k34,
      g_l_around := PySem.W.mg_of X G a34,
      b_l_around := (fun_mk (st := s_l_around) l34 c34 k34).binds (ps := ["_law_values_here", "_law_xs"]) fun _ _ _ _ _ _ us hl => match us, hl with | [_, _], _ => rfl,
      f_l_lets := f35,
      d_l_lets := _,
      F_l_lets := fun_mk (st := s_l_lets) l35 c35 k35,
      g_l_lets := PySem.W.mg_of X G a35,
      b_l_lets := (fun_mk (st := s_l_lets) l35 c35 k35).binds (ps := ["_law_bound_here", "_law_value"]) fun _ _ _ _ _ _ us hl => match us, hl with | [_, _], _ => rfl,
      f_l_meet := f36,
      d_l_meet := _,
      F_l_meet := fun_mk (st := s_l_meet) l36 c36 k36,
      g_l_meet := PySem.W.mg_of X G a36,
      b_l_meet := (fun_mk (st := s_l_meet) l36 c36 k36).binds (ps := ["_law_lows", "_law_highs"]) fun _ _ _ _ _ _ us hl => match us, hl with | [_, _], _ => rfl,
      f_l_some_value := f37,
      d_l_some_value := _,
      F_l_some_value := fun_mk (st := s_l_some_value) l37 c37 k37,
      g_l_some_value := PySem.W.mg_of X G a37,
      b_l_some_value := (fun_mk (st := s_l_some_value) l37 c37 k37).binds (ps := ["_law_zone", "_law_values_here", "_law_p", "_law_most"]) fun _ _ _ _ _ _ us hl => match us, hl with | [_, _, _, _], _ => rfl,
      f_l_some_wait := f38,
      d_l_some_wait := _,
      F_l_some_wait := fun_mk (st := s_l_some_wait) l38 c38 k38,
      g_l_some_wait := PySem.W.mg_of X G a38,
      b_l_some_wait := (fun_mk (st := s_l_some_wait) l38 c38 k38).binds (ps := ["_law_zone", "_law_values_here"]) fun _ _ _ _ _ _ us hl => match us, hl with | [_, _], _ => rfl,
      f_l_near := f39,
      d_l_near := _,
      F_l_near := fun_mk (st := s_l_near) l39 c39 k39,
      g_l_near := PySem.W.mg_of X G a39,
      b_l_near := (fun_mk (st := s_l_near) l39 c39 k39).binds (ps := ["_law_zone", "_law_cell"]) fun _ _ _ _ _ _ us hl => match us, hl with | [_, _], _ => rfl,
      f_l_is_narrow := f40,
      d_l_is_narrow := _,
      F_l_is_narrow := fun_mk (st := s_l_is_narrow) l40 c40 k40,
      g_l_is_narrow := PySem.W.mg_of X G a40,
      b_l_is_narrow := (fun_mk (st := s_l_is_narrow) l40 c40 k40).binds (ps := ["_law_found", "_law_zone", "_law_handed"]) fun _ _ _ _ _ _ us hl => match us, hl with | [_, _, _], _ => rfl,
      f_l_changed := f41,
      d_l_changed := _,
      F_l_changed := fun_mk (st := s_l_changed) l41 c41 k41,
      g_l_changed := PySem.W.mg_of X G a41,
      b_l_changed := (fun_mk (st := s_l_changed) l41 c41 k41).binds (ps := ["_law_values_here", "_law_p", "_law_value"]) fun _ _ _ _ _ _ us hl => match us, hl with | [_, _, _], _ => rfl,
      f_law := fa,
      d_law := _,
      F_law := fun_mk (st := s_law) l42 c42 k42,
      g_law := PySem.W.mg_of X G a42,
      b_law := (fun_mk (st := s_law) l42 c42 k42).binds (ps := ["_law_script"]) fun _ _ _ _ _ _ us hl => match us, hl with | [_], _ => rfl,
      C_NoNumber := CNoNumber,
      g_NoNumber := PySem.W.mg_of X G gNoNumber,
      x_NoNumber := xNoNumber,
      k_NoNumber := kNoNumber,
      b_NoNumber := bNoNumber,
      t_NoNumber := tNoNumber,
      i_NoNumber := iNoNumber,
      t_NOUGHT := uNOUGHT,
      g_NOUGHT := PySem.W.mg_of X G gNOUGHT,
      m_abs := PySem.W.mg_none_of X G zabs,
      m_all := PySem.W.mg_none_of X G zall,
      m_bool := PySem.W.mg_none_of X G zbool,
      m_int := PySem.W.mg_none_of X G zint,
      m_isinstance := PySem.W.mg_none_of X G zisinstance,
      m_len := PySem.W.mg_none_of X G zlen,
      m_list := PySem.W.mg_none_of X G zlist,
      m_min := PySem.W.mg_none_of X G zmin,
      m_range := PySem.W.mg_none_of X G zrange }
  exact ⟨_, fun s v => .of_eq rfl, fun base _ _ => ok_law T⟩
end ZW
open PySem PySem.W PyProof.Rows
set_option maxRecDepth 100000 in
set_option maxHeartbeats 0 in
theorem PySem.Challenge.cw_zonewalk_k18_moves_there_and_back_holds : PySem.Challenge.rw_zonewalk_k18_moves_there_and_back.Holds := by
  w_on; o_law; k_head; (case hw => w_witness2)
  k_fill
  refine L2.walk_of (l := PySem.Challenge.rw_zonewalk_k18_moves_there_and_back) (n := 63) (k := 8) (x := "_law_script") (CX := fun _ => L2.CX0) (sp := fun w => ZW.spLaw _) rfl (by decide) rfl ⟨rfl, by decide, by decide⟩ (fun w h Y => PySem.W.kIn_of Y) ?F (fun _ _ a ns hl _ hS => ⟨a, ns, rfl, hS, hl, fun _ => rfl⟩) (fun _ _ _ _ _ h => h)
  case F =>
    intro w mg fa h KX G hmg
    refine' ZW.all_mk KX G hmg ?a0 ?l0 ?c0 ?k0 ?a1 ?l1 ?c1 ?k1 ?a2 ?l2 ?c2 ?k2 ?a3 ?l3 ?c3 ?k3 ?a4 ?l4 ?c4 ?k4 ?a5 ?l5 ?c5 ?k5 ?a6 ?l6 ?c6 ?k6 ?a7 ?l7 ?c7 ?k7 ?a8 ?l8 ?c8 ?k8 ?a9 ?l9 ?c9 ?k9 ?lt9 ?ld9 ?a10 ?l10 ?c10 ?k10 ?a11 ?l11 ?c11 ?k11 ?a12 ?l12 ?c12 ?k12 ?a13 ?l13 ?c13 ?k13 ?a14 ?l14 ?c14 ?k14 ?a15 ?l15 ?c15 ?k15 ?a16 ?l16 ?c16 ?k16 ?a17 ?l17 ?c17 ?k17 ?a18 ?l18 ?c18 ?k18 ?a19 ?l19 ?c19 ?k19 ?a20 ?l20 ?c20 ?k20 ?a21 ?l21 ?c21 ?k21 ?a22 ?l22 ?c22 ?k22 ?a23 ?l23 ?c23 ?k23 ?a24 ?l24 ?c24 ?k24 ?a25 ?l25 ?c25 ?k25 ?a26 ?l26 ?c26 ?k26 ?a27 ?l27 ?c27 ?k27 ?a28 ?l28 ?c28 ?k28 ?a29 ?l29 ?c29 ?k29 ?a30 ?l30 ?c30 ?k30 ?a31 ?l31 ?c31 ?k31 ?a32 ?l32 ?c32 ?k32 ?a33 ?l33 ?c33 ?k33 ?a34 ?l34 ?c34 ?k34 ?a35 ?l35 ?c35 ?k35 ?a36 ?l36 ?c36 ?k36 ?a37 ?l37 ?c37 ?k37 ?a38 ?l38 ?c38 ?k38 ?a39 ?l39 ?c39 ?k39 ?a40 ?l40 ?c40 ?k40 ?a41 ?l41 ?c41 ?k41 ?a42 ?l42 ?c42 ?k42 ?gNoNumber ?xNoNumber ?kNoNumber ?bNoNumber ?tNoNumber ?iNoNumber ?gNOUGHT ?zabs ?zall ?zbool ?zint ?zisinstance ?zlen ?zlist ?zmin ?zrange
    (case a0 => first | k_is | k_exc | rfl)
    (case l0 => first | k_is | k_exc | rfl)
    (case c0 => first | k_is | k_exc | rfl)
    (case k0 => first | k_is | k_exc | rfl)
    (case a1 => first | k_is | k_exc | rfl)
    (case l1 => first | k_is | k_exc | rfl)
    (case c1 => first | k_is | k_exc | rfl)
    (case k1 => first | k_is | k_exc | rfl)
    (case a2 => first | k_is | k_exc | rfl)
    (case l2 => first | k_is | k_exc | rfl)
    (case c2 => first | k_is | k_exc | rfl)
    (case k2 => first | k_is | k_exc | rfl)
    (case a3 => first | k_is | k_exc | rfl)
    (case l3 => first | k_is | k_exc | rfl)
    (case c3 => first | k_is | k_exc | rfl)
    (case k3 => first | k_is | k_exc | rfl)
    (case a4 => first | k_is | k_exc | rfl)
    (case l4 => first | k_is | k_exc | rfl)
    (case c4 => first | k_is | k_exc | rfl)
    (case k4 => first | k_is | k_exc | rfl)
    (case a5 => first | k_is | k_exc | rfl)
    (case l5 => first | k_is | k_exc | rfl)
    (case c5 => first | k_is | k_exc | rfl)
    (case k5 => first | k_is | k_exc | rfl)
    (case a6 => first | k_is | k_exc | rfl)
    (case l6 => first | k_is | k_exc | rfl)
    (case c6 => first | k_is | k_exc | rfl)
    (case k6 => first | k_is | k_exc | rfl)
    (case a7 => first | k_is | k_exc | rfl)
    (case l7 => first | k_is | k_exc | rfl)
    (case c7 => first | k_is | k_exc | rfl)
    (case k7 => first | k_is | k_exc | rfl)
    (case a8 => first | k_is | k_exc | rfl)
    (case l8 => first | k_is | k_exc | rfl)
    (case c8 => first | k_is | k_exc | rfl)
    (case k8 => first | k_is | k_exc | rfl)
    (case a9 => first | k_is | k_exc | rfl)
    (case l9 => first | k_is | k_exc | rfl)
    (case c9 => first | k_is | k_exc | rfl)
    (case k9 => first | k_is | k_exc | rfl)
    (case lt9 => first | k_is | k_exc | rfl)
    (case ld9 => first | k_is | k_exc | rfl)
    (case a10 => first | k_is | k_exc | rfl)
    (case l10 => first | k_is | k_exc | rfl)
    (case c10 => first | k_is | k_exc | rfl)
    (case k10 => first | k_is | k_exc | rfl)
    (case a11 => first | k_is | k_exc | rfl)
    (case l11 => first | k_is | k_exc | rfl)
    (case c11 => first | k_is | k_exc | rfl)
    (case k11 => first | k_is | k_exc | rfl)
    (case a12 => first | k_is | k_exc | rfl)
    (case l12 => first | k_is | k_exc | rfl)
    (case c12 => first | k_is | k_exc | rfl)
    (case k12 => first | k_is | k_exc | rfl)
    (case a13 => first | k_is | k_exc | rfl)
    (case l13 => first | k_is | k_exc | rfl)
    (case c13 => first | k_is | k_exc | rfl)
    (case k13 => first | k_is | k_exc | rfl)
    (case a14 => first | k_is | k_exc | rfl)
    (case l14 => first | k_is | k_exc | rfl)
    (case c14 => first | k_is | k_exc | rfl)
    (case k14 => first | k_is | k_exc | rfl)
    (case a15 => first | k_is | k_exc | rfl)
    (case l15 => first | k_is | k_exc | rfl)
    (case c15 => first | k_is | k_exc | rfl)
    (case k15 => first | k_is | k_exc | rfl)
    (case a16 => first | k_is | k_exc | rfl)
    (case l16 => first | k_is | k_exc | rfl)
    (case c16 => first | k_is | k_exc | rfl)
    (case k16 => first | k_is | k_exc | rfl)
    (case a17 => first | k_is | k_exc | rfl)
    (case l17 => first | k_is | k_exc | rfl)
    (case c17 => first | k_is | k_exc | rfl)
    (case k17 => first | k_is | k_exc | rfl)
    (case a18 => first | k_is | k_exc | rfl)
    (case l18 => first | k_is | k_exc | rfl)
    (case c18 => first | k_is | k_exc | rfl)
    (case k18 => first | k_is | k_exc | rfl)
    (case a19 => first | k_is | k_exc | rfl)
    (case l19 => first | k_is | k_exc | rfl)
    (case c19 => first | k_is | k_exc | rfl)
    (case k19 => first | k_is | k_exc | rfl)
    (case a20 => first | k_is | k_exc | rfl)
    (case l20 => first | k_is | k_exc | rfl)
    (case c20 => first | k_is | k_exc | rfl)
    (case k20 => first | k_is | k_exc | rfl)
    (case a21 => first | k_is | k_exc | rfl)
    (case l21 => first | k_is | k_exc | rfl)
    (case c21 => first | k_is | k_exc | rfl)
    (case k21 => first | k_is | k_exc | rfl)
    (case a22 => first | k_is | k_exc | rfl)
    (case l22 => first | k_is | k_exc | rfl)
    (case c22 => first | k_is | k_exc | rfl)
    (case k22 => first | k_is | k_exc | rfl)
    (case a23 => first | k_is | k_exc | rfl)
    (case l23 => first | k_is | k_exc | rfl)
    (case c23 => first | k_is | k_exc | rfl)
    (case k23 => first | k_is | k_exc | rfl)
    (case a24 => first | k_is | k_exc | rfl)
    (case l24 => first | k_is | k_exc | rfl)
    (case c24 => first | k_is | k_exc | rfl)
    (case k24 => first | k_is | k_exc | rfl)
    (case a25 => first | k_is | k_exc | rfl)
    (case l25 => first | k_is | k_exc | rfl)
    (case c25 => first | k_is | k_exc | rfl)
    (case k25 => first | k_is | k_exc | rfl)
    (case a26 => first | k_is | k_exc | rfl)
    (case l26 => first | k_is | k_exc | rfl)
    (case c26 => first | k_is | k_exc | rfl)
    (case k26 => first | k_is | k_exc | rfl)
    (case a27 => first | k_is | k_exc | rfl)
    (case l27 => first | k_is | k_exc | rfl)
    (case c27 => first | k_is | k_exc | rfl)
    (case k27 => first | k_is | k_exc | rfl)
    (case a28 => first | k_is | k_exc | rfl)
    (case l28 => first | k_is | k_exc | rfl)
    (case c28 => first | k_is | k_exc | rfl)
    (case k28 => first | k_is | k_exc | rfl)
    (case a29 => first | k_is | k_exc | rfl)
    (case l29 => first | k_is | k_exc | rfl)
    (case c29 => first | k_is | k_exc | rfl)
    (case k29 => first | k_is | k_exc | rfl)
    (case a30 => first | k_is | k_exc | rfl)
    (case l30 => first | k_is | k_exc | rfl)
    (case c30 => first | k_is | k_exc | rfl)
    (case k30 => first | k_is | k_exc | rfl)
    (case a31 => first | k_is | k_exc | rfl)
    (case l31 => first | k_is | k_exc | rfl)
    (case c31 => first | k_is | k_exc | rfl)
    (case k31 => first | k_is | k_exc | rfl)
    (case a32 => first | k_is | k_exc | rfl)
    (case l32 => first | k_is | k_exc | rfl)
    (case c32 => first | k_is | k_exc | rfl)
    (case k32 => first | k_is | k_exc | rfl)
    (case a33 => first | k_is | k_exc | rfl)
    (case l33 => first | k_is | k_exc | rfl)
    (case c33 => first | k_is | k_exc | rfl)
    (case k33 => first | k_is | k_exc | rfl)
    (case a34 => first | k_is | k_exc | rfl)
    (case l34 => first | k_is | k_exc | rfl)
    (case c34 => first | k_is | k_exc | rfl)
    (case k34 => first | k_is | k_exc | rfl)
    (case a35 => first | k_is | k_exc | rfl)
    (case l35 => first | k_is | k_exc | rfl)
    (case c35 => first | k_is | k_exc | rfl)
    (case k35 => first | k_is | k_exc | rfl)
    (case a36 => first | k_is | k_exc | rfl)
    (case l36 => first | k_is | k_exc | rfl)
    (case c36 => first | k_is | k_exc | rfl)
    (case k36 => first | k_is | k_exc | rfl)
    (case a37 => first | k_is | k_exc | rfl)
    (case l37 => first | k_is | k_exc | rfl)
    (case c37 => first | k_is | k_exc | rfl)
    (case k37 => first | k_is | k_exc | rfl)
    (case a38 => first | k_is | k_exc | rfl)
    (case l38 => first | k_is | k_exc | rfl)
    (case c38 => first | k_is | k_exc | rfl)
    (case k38 => first | k_is | k_exc | rfl)
    (case a39 => first | k_is | k_exc | rfl)
    (case l39 => first | k_is | k_exc | rfl)
    (case c39 => first | k_is | k_exc | rfl)
    (case k39 => first | k_is | k_exc | rfl)
    (case a40 => first | k_is | k_exc | rfl)
    (case l40 => first | k_is | k_exc | rfl)
    (case c40 => first | k_is | k_exc | rfl)
    (case k40 => first | k_is | k_exc | rfl)
    (case a41 => first | k_is | k_exc | rfl)
    (case l41 => first | k_is | k_exc | rfl)
    (case c41 => first | k_is | k_exc | rfl)
    (case k41 => first | k_is | k_exc | rfl)
    (case a42 => first | k_is | k_exc | rfl)
    (case l42 => first | k_is | k_exc | rfl)
    (case c42 => first | k_is | k_exc | rfl)
    (case k42 => first | k_is | k_exc | rfl)
    (case gNoNumber => first | k_is | k_exc | rfl)
    (case xNoNumber => first | k_is | k_exc | rfl)
    (case kNoNumber => first | k_is | k_exc | rfl)
    (case bNoNumber => first | k_is | k_exc | rfl)
    (case tNoNumber => first | k_is | k_exc | rfl)
    (case iNoNumber => first | k_is | k_exc | rfl)
    (case gNOUGHT => first | k_is | k_exc | rfl)
    (case zabs => first | k_is | k_exc | rfl)
    (case zall => first | k_is | k_exc | rfl)
    (case zbool => first | k_is | k_exc | rfl)
    (case zint => first | k_is | k_exc | rfl)
    (case zisinstance => first | k_is | k_exc | rfl)
    (case zlen => first | k_is | k_exc | rfl)
    (case zlist => first | k_is | k_exc | rfl)
    (case zmin => first | k_is | k_exc | rfl)
    (case zrange => first | k_is | k_exc | rfl)
