import PyProof.Rows.All
import Wide.All
import OpenK.AllK
import Wide.FinOn
import HandS.ForMost
import HandS.ForExc
import HandS.Wide
import HandS.WideBits
import HandS.IsInst
import HandS.TupLe
import HandS.TupAny
import KE.BitLaws
import HandS.Defaults
import HandS.ExcIs
import HandS.Conv
import HandS.Zip
import HandS.More
import HandS.SetKeys
import HandS.Strs
import KE.KxAffix
import HandS.Style
import PySem.Challenge.RW_zonewalk_k25_whole_doors_and_shares
set_option Elab.async false
set_option linter.all false
set_option maxRecDepth 100000
set_option maxHeartbeats 4000000

namespace ZW
theorem fmod_gcd (a b : Int) : Int.gcd b (a.fmod b) = Int.gcd a b := by
  rw [Int.fmod_def, Int.gcd_comm a b]
  exact Int.gcd_sub_mul_left_right b a (a.fdiv b)
theorem fmod_lt (a b : Int) (hb : b ≠ 0) : (a.fmod b).natAbs < b.natAbs := by
  rcases Int.lt_or_lt_of_ne hb with h | h
  · have h1 := Int.fmod_def a b
    have e : a.fmod b = -((-a).fmod (-b)) := by simp
    rw [e, Int.fmod_eq_emod_of_nonneg _ (by omega)]
    have := Int.emod_lt_of_pos (-a) (b := -b) (by omega)
    have := Int.emod_nonneg (-a) (b := -b) (by omega)
    omega
  · rw [Int.fmod_eq_emod_of_nonneg a (by omega)]
    have := Int.emod_lt_of_pos a h
    have := Int.emod_nonneg a hb
    omega
theorem gcd_pos_right {a b : Int} (hb : b ≠ 0) : (0 : Int) < Int.gcd a b := by
  have := Int.gcd_pos_of_ne_zero_right a hb
  omega
/-- both divided by their gcd -/
structure Low (a b t u : Int) : Prop where
  pos : 0 < b → 0 < u
  top : t * Int.gcd a b = a
  bot : u * Int.gcd a b = b
  eq : t * b = a * u
  one : Int.gcd t u = 1
theorem low_of {a b : Int} (hb : b ≠ 0) : Low a b (a.fdiv (Int.gcd a b)) (b.fdiv (Int.gcd a b)) := by
  have g := gcd_pos_right (a := a) hb
  have d1 : (Int.gcd a b : Int) ∣ a := Int.gcd_dvd_left ..
  have d2 : (Int.gcd a b : Int) ∣ b := Int.gcd_dvd_right ..
  rw [Int.fdiv_eq_ediv_of_nonneg _ (by omega), Int.fdiv_eq_ediv_of_nonneg _ (by omega)]
  have e1 := Int.ediv_mul_cancel d1
  have e2 := Int.ediv_mul_cancel d2
  generalize hx : a / (Int.gcd a b : Int) = x at *
  generalize hy : b / (Int.gcd a b : Int) = y at *
  generalize hg : (Int.gcd a b : Int) = G at *
  refine ⟨fun h => ?_, ?_, ?_, ?_, ?_⟩
  · rcases Int.lt_or_le 0 y with z | z
    · exact z
    · have := Int.mul_nonpos_of_nonpos_of_nonneg z (Int.le_of_lt g)
      omega
  · rw [hg]; exact e1
  · rw [hg]; exact e2
  · rw [← e2, ← e1]; rw [Int.mul_comm y G, ← Int.mul_assoc]
  · have q : Int.gcd (x * G) (y * G) = Int.gcd x y * G.natAbs := Int.gcd_mul_right ..
    rw [e1, e2] at q
    have hG : G.natAbs = Int.gcd a b := by omega
    rw [hG] at q
    have gp : 0 < Int.gcd a b := by omega
    exact Nat.eq_of_mul_eq_mul_right gp (by rw [Nat.one_mul]; exact q.symm)
theorem quo_le {t G a : Int} (h : t * G = a) (hG : 0 < G) : t.natAbs ≤ a.natAbs := by
  rw [← h, Int.natAbs_mul]
  exact Nat.le_mul_of_pos_right _ (by omega)
/-- the fraction t / u, in lowest terms, that stands so to a and b -/
structure Red (a b t u : Int) : Prop where
  pos : 0 < u
  eq : t * b = a * u
  one : Int.gcd t u = 1
  tle : t.natAbs ≤ a.natAbs
  ule : u.natAbs ≤ b.natAbs
theorem Low.red {a b t u : Int} (l : Low a b t u) (h : 0 < b) : Red a b t u := ⟨l.pos h, l.eq, l.one, quo_le l.top (gcd_pos_right (by omega)), quo_le l.bot (gcd_pos_right (by omega))⟩
theorem red_neg {a b : Int} (hb : b < 0) : Red a b (a.fdiv (0 - (Int.gcd a b : Int))) (b.fdiv (0 - (Int.gcd a b : Int))) := by
  have l := low_of (a := a) (b := b) (by omega)
  have g := gcd_pos_right (a := a) (b := b) (by omega)
  have k : ∀ x t : Int, t * (Int.gcd a b : Int) = x → x.fdiv (0 - (Int.gcd a b : Int)) = - t := by
    intro x t e
    rw [Int.zero_sub, show x = (-(Int.gcd a b : Int)) * (-t) by rw [Int.neg_mul_neg, Int.mul_comm, e], Int.mul_fdiv_cancel_left _ (by omega)]
  rw [k _ _ l.top, k _ _ l.bot]
  have hu : b.fdiv (Int.gcd a b) < 0 := by
    rcases Int.lt_or_le (b.fdiv (Int.gcd a b)) 0 with z | z
    · exact z
    · have := Int.mul_nonneg z (Int.le_of_lt g); rw [l.bot] at this; omega
  refine ⟨by omega, by rw [Int.neg_mul, Int.mul_neg, l.eq], by rw [Int.gcd_neg, Int.neg_gcd]; exact l.one, by rw [Int.natAbs_neg]; exact quo_le l.top g, by rw [Int.natAbs_neg]; exact quo_le l.bot g⟩
theorem dvd_cop {u t v : Int} (h : u ∣ t * v) (c : Int.gcd t u = 1) : u ∣ v := by
  have h1 : u.natAbs ∣ t.natAbs * v.natAbs := by rw [← Int.natAbs_mul]; exact Int.natAbs_dvd_natAbs.mpr h
  have h2 : Nat.Coprime u.natAbs t.natAbs := by rw [Nat.coprime_comm]; exact c
  exact Int.natAbs_dvd_natAbs.mp (h2.dvd_of_dvd_mul_left h1)
theorem cop_uniq {t u t' u' : Int} (hu : 0 < u) (hu' : 0 < u') (c : Int.gcd t u = 1) (c' : Int.gcd t' u' = 1) (e : t * u' = t' * u) : t = t' ∧ u = u' := by
  have d1 : u ∣ u' := by
    have : u ∣ t * u' := ⟨t', by rw [e, Int.mul_comm]⟩
    exact dvd_cop this c
  have d2 : u' ∣ u := by
    have : u' ∣ t' * u := ⟨t, by rw [← e, Int.mul_comm]⟩
    exact dvd_cop this c'
  have eu : u = u' := by
    have h1 := Int.le_of_dvd hu' d1
    have h2 := Int.le_of_dvd hu d2
    omega
  subst eu
  exact ⟨Int.eq_of_mul_eq_mul_right (by omega) e, rfl⟩
theorem Red.uniq {a b t u t' u' : Int} (hb : b ≠ 0) (h : Red a b t u) (k : Red a b t' u') : t = t' ∧ u = u' := by
  refine cop_uniq h.pos k.pos h.one k.one ?_
  have : t * u' * b = t' * u * b := by
    rw [Int.mul_right_comm, h.eq, Int.mul_right_comm t', k.eq]; ac_rfl
  exact Int.eq_of_mul_eq_mul_right hb this
/-- fractions that stand so to the same two numbers, told by cross products -/
theorem red_cross {a b a' b' t u t' u' : Int} (hb : b ≠ 0) (hb' : b' ≠ 0) (x : a * b' = a' * b) (h : Red a b t u) (k : Red a' b' t' u') : t = t' ∧ u = u' := by
  refine cop_uniq h.pos k.pos h.one k.one ?_
  have e : t * u' * (b * b') = t' * u * (b * b') := by
    rw [show t * u' * (b * b') = (t * b) * (u' * b') by ac_rfl, show t' * u * (b * b') = (t' * b') * (u * b) by ac_rfl, h.eq, k.eq,
      show a * u * (u' * b') = (a * b') * (u * u') by ac_rfl, show a' * u' * (u * b) = (a' * b) * (u * u') by ac_rfl, x]
  exact Int.eq_of_mul_eq_mul_right (Int.mul_ne_zero hb hb') e
theorem gcd_le_size {a b : Int} (hb : b ≠ 0) : (Int.gcd a b) ≤ b.natAbs := by
  have := Int.gcd_dvd_right (a := a) (b := b)
  exact Nat.le_of_dvd (by omega) (by simpa using Int.natAbs_dvd_natAbs.mpr this)
theorem log_lt {i : Int} {n m : Nat} (h : i.natAbs < 2 ^ n) (h0 : 0 < n) (hm : n ≤ m) : i.natAbs.log2 < m := by
  by_cases e : i.natAbs = 0
  · rw [e]; simp; omega
  · exact Nat.lt_of_lt_of_le ((Nat.log2_lt e).mpr h) hm
open PySem PySem.Spec PyProof.Rows L2
theorem upd_keep {H : Hp} {p : Addr} {o : HO} (h : H p = none) : Same H (upd H p o) := fun b x e => by
  rw [upd_ne (ne_of_none e h)]
  exact e
theorem Same.to {H H' : Hp} (s : Same H H') {a : Addr} {o : HO} (h : H a = some o) : H' a = some o := s a o h
theorem seq_step {t u : TS} {D : Ends} {σ : L2.St} {H : Hp} (h : t { D with nx := u D } σ H) : tSeq t u D σ H := h
theorem ite_d {c : Prop} [Decidable c] {A B : Prop} (h1 : c → A) (h2 : ¬ c → B) : if decide c = true then A else B := by
  by_cases h : c
  · rw [if_pos (decide_eq_true h)]; exact h1 h
  · rw [if_neg (by rw [decide_eq_false h]; exact Bool.false_ne_true)]; exact h2 h
theorem shl1 {i : Int} {n : Nat} (h : i.natAbs < 2 ^ n) (hn : n ≤ 100000) : CShl i 1 := shl_ok (j := 1) h (by omega)
theorem one_ne : ((1 : Int) = 0) = False := by simp
theorem pow_lit (i : Int) : i ^ (1 : Nat) = i := Int.pow_one i
theorem cxK {CX : CXT} {P : Program} {w : World} {K : PySem.W.Frag} {mg : Str → Option Value} {base : Heap} {N : List Str} {qual : Str} {scope : Scope} {f : Addr} {cd : Value} {A : Around} {outer : List Env} {s : Shared} {H : Hp} {E : XK} :
    (cxOf CX P w K mg base N qual scope f cd A outer s H E).K = K := rfl
theorem ix_l {K : PySem.W.Frag} {H : Hp} {p : Addr} {xs : List V} {i : Int} {v : V} {Q : VK} (h : SqL K H p xs) (hi : 0 ≤ i) (hv : xs[i.toNat]? = some v) (q : Q v H) : rIxL K (.ref p) (.int i) H Q :=
  ⟨p, xs, i, v, rfl, rfl, h, at_of (j := i.toNat) (by omega) hv, q⟩
theorem ix_t {K : PySem.W.Frag} {H : Hp} {p : Addr} {xs : List V} {i : Int} {v : V} {Q : VK} (h : SqT K H p xs) (hi : 0 ≤ i) (hv : xs[i.toNat]? = some v) (q : Q v H) : rIxT K (.ref p) (.int i) H Q :=
  ⟨p, xs, i, v, rfl, rfl, h, at_of (j := i.toNat) (by omega) hv, q⟩
theorem sqL_upd {K : PySem.W.Frag} {H : Hp} {p : Addr} {xs : List V} : SqL K (upd H p (.lst xs)) p xs := SqL.of upd_same
theorem fm2 (c : Int) : c.fmod 2 = 0 ∨ c.fmod 2 = 1 := by
  rw [Int.fmod_eq_emod_of_nonneg _ (by omega)]; omega
theorem fm_pos {c m : Int} (h : 0 < m) : 0 ≤ c.fmod m ∧ c.fmod m < m := by
  rw [Int.fmod_eq_emod_of_nonneg _ (by omega)]
  exact ⟨Int.emod_nonneg _ (by omega), Int.emod_lt_of_pos _ h⟩
/-- a number of at most n bits -/
def Sz (n : Nat) (i : Int) : Prop := i.natAbs < 2 ^ n
theorem Sz.mono {i : Int} {a c : Nat} (ha : Sz a i) (h : a ≤ c) : Sz c i := Nat.lt_of_lt_of_le ha (Nat.pow_le_pow_right (by decide) h)
theorem Sz.mulW {i j : Int} {a b : Nat} (ha : Sz a i) (hb : Sz b j) (h : a + b ≤ 999998) : CMulW i j :=
  wide_mul (a := a + 1) (b := b + 1) (Sz.mono ha (by omega)) (Sz.mono hb (by omega)) (by omega) (by omega) (by omega)
theorem Sz.mul {i j : Int} {a b c : Nat} (ha : Sz a i) (hb : Sz b j) (h : a + b ≤ c) : Sz c (i * j) := Sz.mono (wide_lt ha hb) h
theorem Sz.add {i j : Int} {a b c : Nat} (ha : Sz a i) (hb : Sz b j) (h1 : a + 1 ≤ c) (h2 : b + 1 ≤ c) : Sz c (i + j) := by
  have x : Sz (c - 1) i := ha.mono (by omega)
  have y : Sz (c - 1) j := hb.mono (by omega)
  have e : (2 : Nat) ^ c = 2 ^ (c - 1) * 2 := by rw [← Nat.pow_succ]; congr 1; omega
  unfold Sz at x y ⊢
  omega
theorem Sz.sub {i j : Int} {a b c : Nat} (ha : Sz a i) (hb : Sz b j) (h1 : a + 1 ≤ c) (h2 : b + 1 ≤ c) : Sz c (i - j) := by
  have x : Sz (c - 1) i := ha.mono (by omega)
  have y : Sz (c - 1) j := hb.mono (by omega)
  have e : (2 : Nat) ^ c = 2 ^ (c - 1) * 2 := by rw [← Nat.pow_succ]; congr 1; omega
  unfold Sz at x y ⊢
  omega
theorem Sz.le {i j : Int} {a : Nat} (h : i.natAbs ≤ j.natAbs) (hj : Sz a j) : Sz a i := Nat.lt_of_le_of_lt h hj
theorem Sz.nn {i j : Int} {a : Nat} (h0 : 0 ≤ i) (h : i ≤ j) (hj : Sz a j) : Sz a i := Sz.le (by omega) hj
theorem Sz.rg {i j : Int} {a : Nat} (h0 : -j ≤ i) (h : i ≤ j) (hj : Sz a j) : Sz a i := Sz.le (by omega) hj
/-- a divisor that the rule takes -/
def DivOk (j : Int) : Prop := j ≠ 0 ∧ j.natAbs.log2 < 9000
theorem DivOk.of {j : Int} {n : Nat} (h : j ≠ 0) (hs : Sz n j) (hn : n ≤ 8000) : DivOk j := ⟨h, log_lt (n := 8000) (hs.mono hn) (by omega) (by omega)⟩
theorem sz_line {n : Nat} (h : n ≤ 1000) : (n ≤ sizeLine) = True := eq_true (Nat.le_of_lt (small1000 h))
section
variable {X : Cx}
theorem op_fdivZ : OpR X (binaryOp .FloorDiv) (rI (fun _ j => DivOk j) fun i j => .int (i.fdiv j)) := opI fun _ _ _ _ _ _ _ hc q =>
  floordiv_int hc.1 q (.inl (PyProof.noPylong_of_log2 hc.2))
end
theorem gTup_of {K : PySem.W.Frag} {a : Addr} {xs : List V} {n : Nat} {t : TGs} {σ : L2.St} {H : Hp} {Q : L2.St → Hp → Prop} (h : SqT K H a xs) (hn : xs.length = n) (q : t xs σ H Q) : gTup K n t (.ref a) σ H Q := ⟨a, xs, rfl, h, hn, q⟩
theorem sqt {K : PySem.W.Frag} {H : Hp} {a : Addr} {xs : List V} (h : H a = some (.tup xs)) : SqT K H a xs := SqT.of h
theorem Low.top_le {a b t u : Int} (l : Low a b t u) (hb : b ≠ 0) : t.natAbs ≤ a.natAbs := quo_le l.top (gcd_pos_right hb)
theorem Low.bot_le {a b t u : Int} (l : Low a b t u) (hb : b ≠ 0) : u.natAbs ≤ b.natAbs := quo_le l.bot (gcd_pos_right hb)
theorem ite_and {a : Bool} {c : Prop} [Decidable c] {A R : Prop} (h1 : a = true → c → A) (h2 : ¬ (a = true ∧ c) → R) : if a = true then (if decide c = true then A else R) else R := by
  by_cases ha : a = true
  · rw [if_pos ha]; exact ite_d (h1 ha) fun z => h2 fun q => z q.2
  · rw [if_neg ha]; exact h2 fun q => ha q.1
section
variable {X : Cx} {e : Expr} {es : List Expr} {t t' : TE} {ta : TA} {pos : Pos}
theorem pe_imp (h : PE X e t) (k : ∀ σ H Q, t' σ H Q → t σ H Q) : PE X e t' := ⟨fun pins s σ H Q I q => h.run pins s σ H Q I (k σ H Q q)⟩
def tWk (ta : TA) : TA := fun σ H Q => ∃ Q0 : List V → Hp → Prop, ta σ H Q0 ∧ ∀ xs H1, Q0 xs H1 → Q xs H1
theorem pa_wk (h : PA X es ta) : PA X es (tWk ta) := ⟨fun pos pins s σ H _ I ⟨Q0, a, k⟩ => thn (h.run pos pins s σ H Q0 I a) fun _ _ ⟨xs, H1, I1, r, q⟩ => ⟨xs, H1, I1, r, k _ _ q⟩⟩
/-- a new tuple, a new list: nothing but what is tracked is told of the heap behind -/
def tTupN (ta : TA) : TE := fun σ H Q => ta σ H fun xs H1 => xs.length ≤ sizeLine ∧ ∀ p H2, Same H1 H2 → H1 p = none → H2 p = some (.tup xs) → Q (.ref p) H2
def tLstN (ta : TA) : TE := fun σ H Q => ta σ H fun xs H1 => xs.length ≤ sizeLine ∧ ∀ p H2, Same H1 H2 → H1 p = none → H2 p = some (.lst xs) → Q (.ref p) H2
theorem pe_tupN {x1} (h : PA X es ta) : PE X (.Tuple es x1 pos) (tTupN ta) :=
  pe_imp (pe_tup (pa_wk h)) fun _ _ _ q => ⟨_, q, fun _ _ ⟨z, k⟩ => ⟨z, fun p hp => k p _ (upd_keep hp) hp upd_same⟩⟩
theorem pe_lstN (h : PA X es ta) : PE X (.List es pos) (tLstN ta) :=
  pe_imp (pe_lst (pa_wk h)) fun _ _ _ q => ⟨_, q, fun _ _ ⟨z, k⟩ => ⟨z, fun p hp => k p _ (upd_keep hp) hp upd_same⟩⟩
def rSlN (K : PySem.W.Frag) : V → Option Int → Option Int → Hp → VK → Prop := fun x lo hi H Q => ∃ a xs, x = .ref a ∧ SqL K H a xs ∧ ∀ p H2, Same H H2 → H p = none → H2 p = some (.lst (cutV xs lo hi)) → Q (.ref p) H2
theorem sl_listN : SlR X (rSlN X.K) := fun pins s σ H x v vl vu lo hi sl Q I rx hs p1 p2 ⟨a, xs, e, h, q⟩ =>
  sl_list pins s σ H x v vl vu lo hi sl Q I rx hs p1 p2 ⟨a, xs, e, h, fun p hp => q p _ (upd_keep hp) hp upd_same⟩
theorem op_imp {f : Value → Value → Sem Value} {r r' : R2} (h : OpR X f r) (k : ∀ x y H Q, r' x y H Q → r x y H Q) : OpR X f r' := fun pins s σ H x y v u Q I rx ry q => h pins s σ H x y v u Q I rx ry (k x y H Q q)
def rCatN : R2 := fun x y H Q => ∃ l b xs zs, x = .ref l ∧ y = .ref b ∧ H l = some (.lst xs) ∧ H b = some (.lst zs) ∧ xs.length + zs.length ≤ sizeLine ∧ ∀ p H2, Same H H2 → H p = none → H2 p = some (.lst (xs ++ zs)) → Q (.ref p) H2
theorem op_catN : OpR X (binaryOp .Add) rCatN := op_imp op_cat fun _ _ _ _ ⟨l, b, xs, zs, e1, e2, h1, h2, z, q⟩ => ⟨l, b, xs, zs, e1, e2, h1, h2, z, fun p hp => q p _ (upd_keep hp) hp upd_same⟩
def rRepN : R2 := fun x y H Q => ∃ l k xs, x = .ref l ∧ y = .int k ∧ H l = some (.lst xs) ∧ -(2 ^ 63) ≤ k ∧ k < 2 ^ 63 ∧ xs.length * k.toNat ≤ sizeLine ∧ ∀ p H2, Same H H2 → H p = none → H2 p = some (.lst (List.replicate k.toNat xs).flatten) → Q (.ref p) H2
theorem op_repN : OpR X (binaryOp .Mult) rRepN := op_imp op_rep fun _ _ _ _ ⟨l, k, xs, e1, e2, h, a, b, z, q⟩ => ⟨l, k, xs, e1, e2, h, a, b, z, fun p hp => q p _ (upd_keep hp) hp upd_same⟩
theorem small1000' {n : Nat} (h : n ≤ 1000) : n ≤ sizeLine := Nat.le_of_lt (small1000 h)
theorem call_imp {f : Value} {r r' : List V → Hp → VK → Prop} (h : CallR X f r) (k : ∀ x H Q, r' x H Q → r x H Q) : CallR X f r' := fun pins s σ H xs us Q I r q => h pins s σ H xs us Q I r (k xs H Q q)
def rListN (K : PySem.W.Frag) : List V → Hp → VK → Prop := fun xs H Q => ∃ p ys, xs = [.ref p] ∧ (SqL K H p ys ∨ SqT K H p ys) ∧ ∀ l H2, Same H H2 → H l = none → H2 l = some (.lst ys) → Q (.ref l) H2
theorem call_listN : CallR X (.type "list") (rListN X.K) := call_imp call_list_of fun _ _ _ ⟨p, ys, e, h, q⟩ => ⟨p, ys, e, h, fun l hl => q l _ (upd_keep hl) hl upd_same⟩
def rIntB : List V → Hp → VK → Prop := fun xs H Q => ∃ k, xs = [.bl k] ∧ Q (.int (if k then 1 else 0)) H
theorem call_intB : CallR X (.type "int") rIntB := call_imp call_int1 fun _ _ _ h => .inr h
end
theorem nat_and_mod (x y : Nat) : (x &&& y) % 2 = (x % 2) * (y % 2) := by
  have h := Nat.and_mod_two_pow (a := x) (b := y) (n := 1)
  have h1 : x % 2 = 0 ∨ x % 2 = 1 := by omega
  have h2 : y % 2 = 0 ∨ y % 2 = 1 := by omega
  rw [Nat.pow_one] at h
  rcases h1 with e | e <;> rcases h2 with f | f <;> rw [h, e, f] <;> rfl
theorem nat_or_mod (x y : Nat) : (x ||| y) % 2 = if x % 2 = 0 ∧ y % 2 = 0 then 0 else 1 := by
  have h := Nat.or_mod_two_pow (a := x) (b := y) (n := 1)
  have h1 : x % 2 = 0 ∨ x % 2 = 1 := by omega
  have h2 : y % 2 = 0 ∨ y % 2 = 1 := by omega
  rw [Nat.pow_one] at h
  rcases h1 with e | e <;> rcases h2 with f | f <;> rw [h, e, f] <;> rfl
theorem and_bit (a b : Int) : Builtin.bitAnd a b % 2 = (if a % 2 = 1 ∧ b % 2 = 1 then 1 else 0) := by
  have key : ∀ x y : Nat, x % 2 = 0 ∨ x % 2 = 1 := by omega
  have nn : ∀ x, Builtin.bitNot x = - x - 1 := by intro x; unfold Builtin.bitNot; omega
  by_cases ha : 0 ≤ a <;> by_cases hb : 0 ≤ b
  · rw [bitAnd_pp ha hb]
    have h := nat_and_mod a.toNat b.toNat
    have h1 : a.toNat % 2 = 0 ∨ a.toNat % 2 = 1 := by omega
    have h2 : b.toNat % 2 = 0 ∨ b.toNat % 2 = 1 := by omega
    rcases h1 with e | e <;> rcases h2 with f | f <;> rw [e, f] at h <;> split <;> omega
  · rw [bitAnd_pn ha hb, nn]
    have h := nat_and_mod a.toNat (-b-1).toNat
    have h1 : a.toNat % 2 = 0 ∨ a.toNat % 2 = 1 := by omega
    have h2 : (-b-1).toNat % 2 = 0 ∨ (-b-1).toNat % 2 = 1 := by omega
    rcases h1 with e | e <;> rcases h2 with f | f <;> rw [e, f] at h <;> split <;> omega
  · rw [bitAnd_np ha hb, nn]
    have h := nat_and_mod b.toNat (-a-1).toNat
    have h1 : b.toNat % 2 = 0 ∨ b.toNat % 2 = 1 := by omega
    have h2 : (-a-1).toNat % 2 = 0 ∨ (-a-1).toNat % 2 = 1 := by omega
    rcases h1 with e | e <;> rcases h2 with f | f <;> rw [e, f] at h <;> split <;> omega
  · rw [bitAnd_nn ha hb, nn, nn, nn]
    have h := nat_or_mod (-a-1).toNat (-b-1).toNat
    have h1 : (-a-1).toNat % 2 = 0 ∨ (-a-1).toNat % 2 = 1 := by omega
    have h2 : (-b-1).toNat % 2 = 0 ∨ (-b-1).toNat % 2 = 1 := by omega
    rcases h1 with e | e <;> rcases h2 with f | f <;> rw [e, f] at h <;> split at h <;> split <;> omega

theorem bit_sum (a b : Int) : Builtin.bitOr ((a / 2 + b / 2) * 2) (Builtin.bitAnd (Builtin.bitAnd a b) 1) = 2 * (a / 2 + b / 2) + (if a % 2 = 1 ∧ b % 2 = 1 then 1 else 0) := by
  rw [bitAnd_m1, and_bit, bitOr_and]
  split
  · rw [bitAnd_m1]; omega
  · rw [bitAnd_zero]; omega
theorem isi {K : PySem.W.Frag} {H : Hp} {x : V} {a b : String} {r : Bool} {Q : VK} (h : TyX K H x (.type a)) (k : kitB a b = some r) (q : Q (.bl r) H) : rIsi K [x, .ty b] H Q := ⟨x, .ty b, _, _, r, rfl, .ty b, h, kit_ty k, q⟩
theorem if_t {b : Bool} {A B : Prop} (h : b = true) (q : A) : if b = true then A else B := by rw [if_pos h]; exact q
theorem if_f {b : Bool} {A B : Prop} (h : b = false) (q : B) : if b = true then A else B := by rw [h, if_neg Bool.false_ne_true]; exact q
/-- a bound, as a value -/
def oV : Option Int → V
  | none => .non
  | some i => .int i
theorem oV_none : oV none = .non := rfl
theorem oV_some (i : Int) : oV (some i) = .int i := rfl
theorem funD_mk {K : PySem.W.Frag} {x qual : Str} {st : Stmt} {f t : Addr} {oc kV doc pm cdv ct : Value} {od an : Option Addr} {osl : Array (Option Value)} {o : Obj} {n : Nat} {its : List Value} {dvs : List V}
    (l : K.lookup f = some ⟨oc, od, .func (PySem.W.fnOf x qual (defArgs st) (defBody st) (defScope st) (.ref t) kV doc pm an cdv ct), osl⟩) (c : PySem.W.codeIn K cdv qual = true) (k : PySem.W.keepIn K (.ref f) = true)
    (lt : K.lookup t = some o) (ld : o.data = .seq its.toArray n) (hv : Vals dvs its) (hd : dvs ≠ []) : FunD K x qual (defArgs st) (defBody st) (defScope st) dvs [] f (PySem.W.fnOf x qual (defArgs st) (defBody st) (defScope st) (.ref t) kV doc pm an cdv ct) :=
  ⟨⟨oc, od, .ref t, kV, doc, pm, an, cdv, ct, osl, rfl, l, c, .inr ⟨hd, t, o, its, n, rfl, lt, ld, hv⟩, .inl rfl⟩, k⟩
section
variable {X : Cx} {D a : Addr} {cls : Value} {d : Option Addr} {oe : Obj} {pn : List (Addr × Obj)}
/-- isinstance of the caught error: its class is told in the reading -/
theorem call_isE2 (hz : Zc cls d oe) (hf : ∃ vs, oe.data = .fields vs) : CallR (X.suite a ((a, oe) :: pn)) (.builtin "isinstance") (fun xs H Q => ∃ D, cls = .ref D ∧ d = none ∧ ExcC X.K D ∧ rIsE X.K D a xs H Q) := by
  intro pins s σ H xs us Q I r ⟨D, h1, h2, C, h⟩
  subst h1; subst h2
  exact call_isE C hz hf pins s σ H xs us Q I r h
end
theorem cut_int {ns : List Int} {lo hi : Option Int} {i : Nat} {x : V} (h : (cutV (ns.map V.int) lo hi)[i]? = some x) : ∃ z, x = .int z := by
  have m := List.mem_of_mem_drop (List.mem_of_mem_take (List.mem_of_getElem? h))
  obtain ⟨z, _, e⟩ := List.mem_map.mp m
  exact ⟨z, e.symm⟩
def kinds : List String := ["int", "bool", "NoneType", "str", "list", "tuple", "dict"]
/-- whether a thing is a whole number -/
def spWhole (K : PySem.W.Frag) : Sp := fun vs H Q _ => ∃ (x : V) (t : String), vs = [x] ∧ TyX K H x (.type t) ∧ t ∈ kinds ∧ Q (.bl (decide (t = "int"))) H
/-- two numbers in lowest terms, as a new tuple -/
def LowT (a b : Int) (H : Hp) (Q : VK) : Prop := ∀ (t u : Int) (p : Addr) (H' : Hp), Low a b t u → Same H H' → H' p = some (.tup [.int t, .int u]) → Q (.ref p) H'
/-- two numbers in lowest terms with a bottom above 0, as a new tuple -/
def RedT (a b : Int) (H : Hp) (Q : VK) : Prop := ∀ (t u : Int) (p : Addr) (H' : Hp), Red a b t u → Same H H' → H' p = some (.tup [.int t, .int u]) → Q (.ref p) H'
theorem ncast (n : Nat) : ((no_index (OfNat.ofNat n) : Nat) : Int) = OfNat.ofNat n := rfl
theorem exm_two {K : PySem.W.Frag} {C : Addr} {cls : Value} {b : Bool} (h1 : PySem.W.subIn K (.ref C) (.type "BaseException") = some true) (h2 : PySem.W.hasDictIn K C = true) (h3 : PySem.W.typeIn K (.ref C) = some (.type "type")) (h4 : PySem.W.subIn K cls (.ref C) = some b) : PySem.W.exmOne K cls (.ref C) = some b := PySem.W.exm_ref h1 h2 h3 h4
/-- isinstance(e, c) of a caught error -/
theorem isE {K : PySem.W.Frag} {D a : Addr} {c : V} {cv : Value} {b : Bool} {H : Hp} {Q : VK} (X : ExcC K D) (hc : ∀ u, RelV c u → u = cv) (k : PySem.W.kitOne K (.ref D) cv = some b) (q : Q (.bl b) H) : ∃ D', Value.ref D = Value.ref D' ∧ (Option.none : Option Addr) = Option.none ∧ ExcC K D' ∧ rIsE K D' a [.ref a, c] H Q :=
  ⟨D, rfl, rfl, X, c, cv, b, rfl, hc, k, q⟩
theorem tyx_same {K : PySem.W.Frag} {H H2 : Hp} (s : Same H H2) {x : V} {t : Value} (h : TyX K H x t) : TyX K H2 x t := by
  cases h with
  | base b =>
    refine .base ?_
    cases b with
    | non => exact .non
    | bl y => exact .bl y
    | int i => exact .int i
    | str y => exact .str y
    | flt y => exact .flt y
    | lst e => exact .lst (s _ _ e)
    | frz e => exact .frz (s _ _ e)
    | tup e => exact .tup (s _ _ e)
    | dK e => exact .dK (s _ _ e)
    | dT e => exact .dT (s _ _ e)
    | ins e cl a b c d => exact .ins (s _ _ e) cl a b c d
  | byt b => exact .byt b
  | set e => exact .set (s _ _ e)
  | kList e c => exact .kList e c
  | kTuple e c => exact .kTuple e c
  | kDict e c => exact .kDict e c
  | fTuple e => exact .fTuple (s _ _ e)
  | fDict e => exact .fDict (s _ _ e)
/-- what stands behind a statement is shown once, for all its ways -/
theorem join_if {t R : TS} {D : Ends} {σ : L2.St} {H : Hp} (P : L2.St → Hp → Prop) (h2 : ∀ σ' H', P σ' H' → R D σ' H') (h1 : (∀ σ' H', P σ' H' → R D σ' H') → tSeq t R D σ H) : tSeq t R D σ H := h1 h2
theorem red_zero {b t u : Int} (R : Red 0 b t u) : Red 0 1 t u := by
  have h1 := R.tle
  have h2 : t = 0 := by simp at h1; exact h1
  subst h2
  have h3 := R.one
  rw [Int.gcd_zero_left] at h3
  exact ⟨R.pos, by simp, R.one, h1, by omega⟩
theorem shaped_ii (a b : Int) : SeqAt.shaped (.tuple [.int a, .int b]) = true := rfl
section
variable {X : Cx} {K : PySem.W.Frag}
theorem call_isiA (h : X.K = K) : CallR X (.builtin "isinstance") (rIsi K) := by subst h; exact call_isi
theorem ix_listA (h : X.K = K) : IxR X (rIxL K) := by subst h; exact ix_list
theorem ix_tupA (h : X.K = K) : IxR X (rIxT K) := by subst h; exact ix_tup
theorem call_tupleLA (h : X.K = K) : CallR X (.type "tuple") (fun xs H Q => ∃ p ys, xs = [.ref p] ∧ SqL K H p ys ∧ ∀ l H2, Same H H2 → H l = none → H2 l = some (.tup ys) → Q (.ref l) H2) := by
  subst h
  exact call_imp call_tuple_of fun _ _ _ ⟨p, ys, e, h, q⟩ => ⟨p, ys, e, .inl ⟨h, fun l hl => q l _ (upd_keep hl) hl upd_same⟩⟩
def tRevN (K : PySem.W.Frag) (te : TE) : TE := fun σ H Q => te σ H fun x H1 => ∃ a xs, x = .ref a ∧ SqL K H1 a xs ∧ ∀ p H2, Same H1 H2 → H1 p = none → H2 p = some (.lst xs.reverse) → Q (.ref p) H2
theorem op_mulOk : OpR X (binaryOp .Mult) (rI IntMulOk fun i j => .int (i * j)) := opI fun _ _ _ _ _ _ _ hc q => mul_int q hc
theorem op_in_seqA (h : X.K = K) : OpR X (compareOp .In) (rIn K false) := by subst h; exact op_in_seq
theorem op_notIn_seqA (h : X.K = K) : OpR X (compareOp .NotIn) (rIn K true) := by subst h; exact op_notIn_seq
theorem pe_indexA {o e : Expr} {to : TE} {t : TA} {apos cpos : PySem.Pos} (h : X.K = K) (ho : PE X o to) (ha : PA X [e] t)
    (hbase : attributeBase o "index" X.env (eval o X.env) = eval o X.env := by rfl)
    (hfew : ((backTo cpos (starEach [e] X.env)).all (fun x => !x.1) && (backToKw cpos (keywordEach [] X.env)).all (fun x => x.1.isSome)
      && decide (([e] : List Expr).length + ([] : List Keyword).length + (if ([] : List Keyword).isEmpty then 0 else 1) < 30)) = true := by rfl)
    (hline : (apos.endLine == cpos.line) = true := by rfl) (hs : starEach [e] X.env = (false, eval e X.env) :: starEach [] X.env := by rfl) (hplain : (backTo cpos (starEach [] X.env)).any (·.1) = false := by rfl) :
    PE X (.Call (.Attribute o "index" apos) [e] [] cpos) (tBM K "list" (rIndex K) to t) := by subst h; exact pe_bm PySem.F.plainAttrs_list PySem.F.slot_list_index PySem.F.type_list_index mt_index ho ha hbase hfew hline hs hplain
theorem pg_tupA {es : List Expr} {k : Nat} {t : TGs} {n : Nat} (h' : X.K = K) (hc : X.calm = true) (h : PGs X es t)
    (hn : (assignEach es X.env).length = n := by rfl) (hst : (assignEach es X.env).findIdx? (·.1) = none := by rfl) {pos : PySem.Pos} : PG X (.Tuple es k pos) (gTup K n t) := by subst h'; exact pg_tup hc h hn hst
theorem pe_fldA {o : Expr} {f : Str} {pos : PySem.Pos} {ta : TE} (h' : X.K = K) (he : PE X o ta) (hb : attributeBase o f X.env (eval o X.env) = eval o X.env) : PE X (.Attribute o f pos) (tFld K ta f) := by subst h'; exact pe_fld he hb
theorem call_len_seqA (h : X.K = K) : CallR X (.builtin "len") (fun xs H Q => ∃ p ys, xs = [.ref p] ∧ (SqL K H p ys ∨ SqT K H p ys) ∧ Q (.int ys.length) H) := by subst h; exact call_len_seq
theorem sl_listA (h : X.K = K) : SlR X (rSlN K) := by subst h; exact sl_listN
theorem call_listA (h : X.K = K) : CallR X (.type "list") (rListN K) := by subst h; exact call_listN
theorem pi_listA {tg l : Expr} {tl : TE} (h : X.K = K) (hl : PE X l tl) : PI X tg l (iList K tl) := by subst h; exact pi_list hl
end
theorem lc_vs {X : Cx} {e : Expr} {wi : TI} {g : TG} {tt : TT} {te : TE} {own : List (Str × Nat)} {vs : List Nat} (h : PE X e (tLc wi g tt te (own.map (·.2)))) (hv : own.map (·.2) = vs) : PE X e (tLc wi g tt te vs) := hv ▸ h
theorem lc_vsS {X : Cx} {e : Stmt} {wi : TI} {g k : TG} {tt : TT} {te : TE} {own : List (Str × Nat)} {vs : List Nat} (h : PS X e (tAsg (tLc wi g tt te (own.map (·.2))) k)) (hv : own.map (·.2) = vs) : PS X e (tAsg (tLc wi g tt te vs) k) := hv ▸ h
theorem same_updN {H H2 : Hp} {D : Addr} {o : HO} (hD : H D = none) (s : Same H H2) : Same H (upd H2 D o) := fun b x e => by
  rw [upd_ne (ne_of_none e hD)]
  exact s b x e
theorem sql_keep {K : PySem.W.Frag} {H H' : Hp} {a : Addr} {xs : List V} (h : SqL K H a xs) (k : ∀ b o, H b = some o → H' b = some o) : SqL K H' a xs := Same.seq (show Same H H' from k) h
theorem dpall_of {K : PySem.W.Frag} {H : Hp} : ∀ {vs : List V} {ds : List PyData}, vs.length = ds.length → (∀ (k : Nat) (v : V) (d : PyData), vs[k]? = some v → ds[k]? = some d → Dp K H v d) → DpAll K H vs ds
  | [], [], _, _ => .nil
  | [], _ :: _, h, _ => by cases h
  | _ :: _, [], h, _ => by cases h
  | v :: vs, d :: ds, h, k => .cons (k 0 v d rfl rfl) (dpall_of (Nat.succ.inj h) fun j v' d' h1 h2 => k (j + 1) v' d' h1 h2)
theorem shaped_list {ds : List PyData} (h : ∀ d ∈ ds, d.canLay0 = true ∧ d.depth ≤ 60) : SeqAt.shaped (.list ds) = true := by
  have key : ∀ ds : List PyData, (∀ d ∈ ds, d.canLay0 = true ∧ d.depth ≤ 60) → PyData.canLayAll0 ds = true ∧ PyData.depthAll ds ≤ 60 := by
    intro ds
    induction ds with
    | nil => intro _; exact ⟨rfl, Nat.zero_le _⟩
    | cons d ds ih =>
      intro h
      have h1 := h d (List.mem_cons_self ..)
      have h2 := ih fun x hx => h x (List.mem_cons_of_mem _ hx)
      refine ⟨by show (d.canLay0 && PyData.canLayAll0 ds) = true; rw [h1.1, h2.1]; rfl, ?_⟩
      show max d.depth (PyData.depthAll ds) ≤ 60
      omega
  have z := key ds h
  refine Bool.and_eq_true_iff.mpr ⟨z.1, decide_eq_true ?_⟩
  show PyData.depthAll ds + 1 ≤ 64
  omega
/-- whether a fraction is let by a bound -/
def letsO : Option Int → Int → Int → Bool
  | none, _, _ => true
  | some b, t, u => decide (t < b / 2 * u ∨ (t = b / 2 * u ∧ b % 2 = 1))
def narO : Option Int → Option Int → Option Int
  | none, y => y
  | some a, none => some a
  | some a, some b => some (if b < a then b else a)
/-- a fraction's tuple -/
def FracAt (n : Nat) (H : Hp) (v : V) : Prop := ∃ (q : Addr) (t u : Int), v = .ref q ∧ H q = some (.tup [.int t, .int u]) ∧ 0 < u ∧ Sz n t ∧ Sz n u
theorem FracAt.keep {n : Nat} {H H' : Hp} {v : V} (s : Same H H') (h : FracAt n H v) : FracAt n H' v := by
  obtain ⟨q, t, u, e, e2, r⟩ := h
  exact ⟨q, t, u, e, s _ _ e2, r⟩
theorem join_bl {b : Bool} {P : Prop} (h1 : b = true → P) (h2 : b = false → P) : P := by cases b; exact h2 rfl; exact h1 rfl
/-- a for over a list, behind its iterable's reading -/
def ForL (K : PySem.W.Frag) (a : Addr) (g : TG) (tb : TS) (D : Ends) (σ : L2.St) (H : Hp) : Prop := ∃ W : Nat → Nat → L2.St → Hp → Prop, (∃ m, W 0 m σ H) ∧ ∀ i m σ H, W i m σ H →
  ((Itl K a).stop i H ∧ D.nx σ H) ∨ ((Itl K a).go i H ∧ ∃ N : L2.St → Hp → Prop, (∀ σ' H', N σ' H' → ∃ m', m' < m ∧ W (i + 1) m' σ' H') ∧ ∀ x H', (Itl K a).yld i H x H' → g x σ H' fun σ2 H2 => tb { D with nx := N, ct := N, bk := D.nx } σ2 H2)
theorem for_li {K : PySem.W.Frag} {te : TE} {g : TG} {tb : TS} {D : Ends} {σ : L2.St} {H : Hp} (h : te σ H fun x H1 => ∃ a, x = .ref a ∧ (∃ xs, SqL K H1 a xs) ∧ ForL K a g tb D σ H1) : tFor (iList K te) g tb D σ H := h
theorem forL_by {K : PySem.W.Frag} {a : Addr} {xs : List V} {g : TG} {tb : TS} {D : Ends} {σ : L2.St} {H : Hp} (Pv : Nat → L2.St → Hp → Prop) (h0 : Pv 0 σ H) (hl : ∀ i σ H, i ≤ xs.length → Pv i σ H → SqL K H a xs)
    (hs : ∀ i x σ H, xs[i]? = some x → Pv i σ H → g x σ H fun σ2 H2 => tb { D with nx := Pv (i + 1), ct := Pv (i + 1), bk := D.nx } σ2 H2) (hd : ∀ σ H, Pv xs.length σ H → D.nx σ H) : (∃ ys, SqL K H a ys) ∧ ForL K a g tb D σ H :=
  ⟨⟨xs, hl 0 σ H (Nat.zero_le _) h0⟩, for_list (K := K) (a := a) (xs := xs) Pv h0 hl hs hd⟩
/-- what is asked whether it is a fraction, and the answer -/
inductive FrIn (K : PySem.W.Frag) (H : Hp) : V → Bool → Prop where
  | other {x : V} {t : String} (h : TyX K H x (.type t)) (k : t ∈ kinds) (n : t ≠ "tuple") : FrIn K H x false
  | len {p : Addr} {xs : List V} (h : H p = some (.tup xs)) (n : xs.length ≠ 2) : FrIn K H (.ref p) false
  | odd {p : Addr} {v0 v1 : V} {t0 t1 : String} (h : H p = some (.tup [v0, v1])) (h0 : TyX K H v0 (.type t0)) (h1 : TyX K H v1 (.type t1)) (k0 : t0 ∈ kinds) (k1 : t1 ∈ kinds) (n : t0 ≠ "int" ∨ t1 ≠ "int") : FrIn K H (.ref p) false
  | num {p : Addr} {a b : Int} (h : H p = some (.tup [.int a, .int b])) : FrIn K H (.ref p) (decide (1 ≤ b ∧ Int.gcd a b = 1))
theorem FrIn.keep {K : PySem.W.Frag} {H H' : Hp} {x : V} {b : Bool} (s : Same H H') (h : FrIn K H x b) : FrIn K H' x b := by
  cases h with
  | other h k n => exact .other (tyx_same s h) k n
  | len h n => exact .len (s _ _ h) n
  | odd h h0 h1 k0 k1 n => exact .odd (s _ _ h) (tyx_same s h0) (tyx_same s h1) k0 k1 n
  | num h => exact .num (s _ _ h)
def tDictN : TE := fun _ H Q => ∀ p H2, Same H H2 → H p = none → H2 p = some (.dK []) → Q (.ref p) H2
theorem pe_dnewN {X : Cx} {pos : Pos} : PE X (.Dict [] [] pos) tDictN := pe_imp pe_dnewK fun _ _ _ q p hp => q p _ (upd_keep hp) hp upd_same
theorem fr_no {K : PySem.W.Frag} {H : Hp} {p : Addr} {a b : Int} (h : H p = some (.tup [.int a, .int b])) (n : ¬ (1 ≤ b ∧ Int.gcd a b = 1)) : FrIn K H (.ref p) false := by
  have z := FrIn.num (K := K) h
  rw [decide_eq_false n] at z
  exact z
def addO : Option Int → Option Int → Option Int
  | some a, some b => some (2 * (a / 2 + b / 2) + (if a % 2 = 1 ∧ b % 2 = 1 then 1 else 0))
  | _, _ => none
/-- a for over a range, behind its bound's reading -/
def ForR (n : Nat) (g : TG) (tb : TS) (D : Ends) (σ : L2.St) (H : Hp) : Prop := ∃ W : Nat → Nat → L2.St → Hp → Prop, (∃ m, W 0 m σ H) ∧ ∀ i m σ H, W i m σ H →
  ((Itr 0 n).stop i H ∧ D.nx σ H) ∨ ((Itr 0 n).go i H ∧ ∃ N : L2.St → Hp → Prop, (∀ σ' H', N σ' H' → ∃ m', m' < m ∧ W (i + 1) m' σ' H') ∧ ∀ x H', (Itr 0 n).yld i H x H' → g x σ H' fun σ2 H2 => tb { D with nx := N, ct := N, bk := D.nx } σ2 H2)
theorem for_rg {ta : TA} {g : TG} {tb : TS} {D : Ends} {σ : L2.St} {H : Hp} (h : ta σ H fun vs H1 => ∃ j : Int, vs = [.int j] ∧ -(2 ^ 62) ≤ j ∧ j < 2 ^ 62 ∧ ForR j.toNat g tb D σ H1) : tFor (iRng1 ta) g tb D σ H := h
theorem forR_by {n : Nat} {g : TG} {tb : TS} {D : Ends} {σ : L2.St} {H : Hp} (Pv : Nat → L2.St → Hp → Prop) (h0 : Pv 0 σ H)
    (hs : ∀ i σ H, i < n → Pv i σ H → g (.int (0 + i)) σ H fun σ2 H2 => tb { D with nx := Pv (i + 1), ct := Pv (i + 1), bk := D.nx } σ2 H2) (hd : ∀ σ H, Pv n σ H → D.nx σ H) : ForR n g tb D σ H := for_range (lo := 0) (n := n) Pv h0 hs hd
theorem rg_ok {n : Nat} (h : n ≤ 100000) : -(2 ^ 62) ≤ ((n : Nat) : Int) ∧ ((n : Nat) : Int) < 2 ^ 62 := by constructor <;> omega
theorem cut_from {xs : List V} {k : Nat} (h : k ≤ xs.length) : cutV xs (some (k : Int)) none = xs.drop k := by
  unfold cutV
  rw [HT.sIx_none, HT.sIx_nat, Nat.min_eq_left h]
  exact List.take_of_length_le (by rw [List.length_drop]; exact Nat.le_refl _)
/-- xs.append(v) -/
theorem app_at {H : Hp} {l : Addr} {xs : List V} {v : V} {Q : VK} (h : H l = some (.lst xs)) (hl : xs.length ≤ 1000) (q : Q .non (upd H l (.lst (xs ++ [v])))) : rAppend (.ref l) [v] H Q := ⟨l, xs, v, rfl, rfl, h, small1000 hl, q⟩
/-- the same, what stands behind kept closed -/
theorem join_op {t R : TS} {D : Ends} {σ : L2.St} {H : Hp} (P : L2.St → Hp → Prop) (h2 : ∀ σ' H', P σ' H' → R D σ' H') (h1 : ∀ R' : TS, (∀ σ' H', P σ' H' → R' D σ' H') → tSeq t R' D σ H) : tSeq t R D σ H := h1 R h2
theorem ex_int {i : Int} {P : Int → Prop} (h : P i) : ∃ j, V.int i = V.int j ∧ P j := ⟨i, rfl, h⟩
theorem pi_tupA {X : Cx} {K : PySem.W.Frag} {tg l : Expr} {tl : TE} (h : X.K = K) (hl : PE X l tl) : PI X tg l (iTup K tl) := by subst h; exact pi_tup hl
/-- a for over a tuple, behind its iterable's reading -/
def ForT (K : PySem.W.Frag) (a : Addr) (g : TG) (tb : TS) (D : Ends) (σ : L2.St) (H : Hp) : Prop := ∃ W : Nat → Nat → L2.St → Hp → Prop, (∃ m, W 0 m σ H) ∧ ∀ i m σ H, W i m σ H →
  ((Itt K a).stop i H ∧ D.nx σ H) ∨ ((Itt K a).go i H ∧ ∃ N : L2.St → Hp → Prop, (∀ σ' H', N σ' H' → ∃ m', m' < m ∧ W (i + 1) m' σ' H') ∧ ∀ x H', (Itt K a).yld i H x H' → g x σ H' fun σ2 H2 => tb { D with nx := N, ct := N, bk := D.nx } σ2 H2)
theorem for_tp {K : PySem.W.Frag} {te : TE} {g : TG} {tb : TS} {D : Ends} {σ : L2.St} {H : Hp} (h : te σ H fun x H1 => ∃ a, x = .ref a ∧ (∃ xs, SqT K H1 a xs) ∧ ForT K a g tb D σ H1) : tFor (iTup K te) g tb D σ H := h
theorem forT_by {K : PySem.W.Frag} {a : Addr} {xs : List V} {g : TG} {tb : TS} {D : Ends} {σ : L2.St} {H : Hp} (Pv : Nat → L2.St → Hp → Prop) (h0 : Pv 0 σ H) (hl : ∀ i σ H, i ≤ xs.length → Pv i σ H → SqT K H a xs)
    (hs : ∀ i x σ H, xs[i]? = some x → Pv i σ H → g x σ H fun σ2 H2 => tb { D with nx := Pv (i + 1), ct := Pv (i + 1), bk := D.nx } σ2 H2) (hd : ∀ σ H, Pv xs.length σ H → D.nx σ H) : (∃ ys, SqT K H a ys) ∧ ForT K a g tb D σ H :=
  ⟨⟨xs, hl 0 σ H (Nat.zero_le _) h0⟩, for_tup (K := K) (a := a) (xs := xs) Pv h0 hl hs hd⟩
/-! ### own classes -/
/-- what isinstance asks of an own class -/
structure OwnCls (K : PySem.W.Frag) (C : Addr) : Prop where
  hc : PySem.W.findIn K (.ref C) "__class__" = some (some (.builtin "object.__class__"))
  hn : PySem.W.specialIn K (.builtin "object.__class__") "__get__" = some (some (.builtin "getset_descriptor.__get__"))
  ht : PySem.W.takesIn K (.builtin "object.__class__") = some true
  hm : PySem.W.mroIn K C (.type "object") = some true
/-- isinstance of an own instance and its class -/
theorem is_own {K : PySem.W.Frag} {H : Hp} {p C dx : Addr} {fs : List (Str × V)} {Q : VK} (h : H p = some (.ins C dx fs)) (c : Cls K C) (o : OwnCls K C) (q : Q (.bl true) H) : rIsi K [.ref p, .ref C] H Q :=
  ⟨.ref p, .ref C, _, _, true, rfl, .own C, .base (.ins h c o.hc o.hn o.ht o.hm), by unfold PySem.W.kitOne; simp, q⟩
/-- a new instance: nothing but what is tracked is told of the heap behind -/
def tMakeN (C : Addr) (sp : Sp) (dvs : List V) (E : XK) (t : TA) : TE := fun σ H Q => t σ H fun vs H1 => ∀ x dx H2, Same H1 H2 → H1 x = none → H2 x = some (.ins C dx []) → sp (.ref x :: (vs ++ dvs)) H2 (fun v H3 => v = .non ∧ Q (.ref x) H3) E
section
variable {X : Cx} {CX : CXT} {k : Nat} {f C : Addr} {fd : FuncData} {ps : List Str} {ds : List Value} {dvs : List V} {sp : Sp} {E : XK} {x : Str} {e : Expr} {es : List Expr} {t : TA} {p pos : Pos}
theorem pe_makeN (M : Mk X.K C f) (F : FnOk X.prog X.w X.K X.mg X.base CX k f fd ps sp) (hr : Room (k + 1) X.A) (hg : Gl X x) (hm : X.mg x = some (.ref C)) (hb : Binds X.K fd ps ds) (hd : Vals dvs ds) (hx : Passes CX X E)
    (ha : PA X (e :: es) t) (hdb : (x == ("__debug__" : Str)) = false := by decide) (he : starEach (e :: es) X.env = (false, eval e X.env) :: starEach es X.env := by rfl) (hpl : (backTo pos (starEach es X.env)).any (·.1) = false := by rfl) :
    PE X (.Call (.Name x p) (e :: es) [] pos) (tMakeN C sp dvs E t) :=
  pe_imp (pe_make M F hr hg hm hb hd hx (pa_wk ha) hdb he hpl) fun σ H Q q => ⟨_, q, fun vs H1 q2 a dx h1 h2 ne => q2 a dx _ (fun b o z => by rw [upd_ne (ne_of_none z h1), upd_ne (ne_of_none z h2)]; exact z) h1 upd_same⟩
end
/-- what simp leaves alone -/
def Kp (p : Prop) : Prop := p
theorem Kp.of {p : Prop} (h : p) : Kp p := h
end ZW

namespace ZW
open PySem PySem.Spec PyProof.Rows L2
theorem dvl_2 : DivOk 2 = True := eq_true ⟨by decide, by decide +kernel⟩
theorem dvl_3 : DivOk 3 = True := eq_true ⟨by decide, by decide +kernel⟩
theorem dvl_4 : DivOk 4 = True := eq_true ⟨by decide, by decide +kernel⟩
theorem dvl_5 : DivOk 5 = True := eq_true ⟨by decide, by decide +kernel⟩
theorem dvl_6 : DivOk 6 = True := eq_true ⟨by decide, by decide +kernel⟩
theorem dvl_7 : DivOk 7 = True := eq_true ⟨by decide, by decide +kernel⟩
theorem dvl_8 : DivOk 8 = True := eq_true ⟨by decide, by decide +kernel⟩
theorem dvl_18 : DivOk 18 = True := eq_true ⟨by decide, by decide +kernel⟩
theorem dvl_25 : DivOk 25 = True := eq_true ⟨by decide, by decide +kernel⟩
theorem dvl_26 : DivOk 26 = True := eq_true ⟨by decide, by decide +kernel⟩
theorem dvl_35 : DivOk 35 = True := eq_true ⟨by decide, by decide +kernel⟩
theorem dvl_90 : DivOk 90 = True := eq_true ⟨by decide, by decide +kernel⟩
theorem dvl_140 : DivOk 140 = True := eq_true ⟨by decide, by decide +kernel⟩
theorem dvl_840 : DivOk 840 = True := eq_true ⟨by decide, by decide +kernel⟩
theorem dvl_6720 : DivOk 6720 = True := eq_true ⟨by decide, by decide +kernel⟩
theorem dvl_1000003 : DivOk 1000003 = True := eq_true ⟨by decide, by decide +kernel⟩
theorem dvl_2147483647 : DivOk 2147483647 = True := eq_true ⟨by decide, by decide +kernel⟩
theorem dvl_10000000000000000000000000000000000000000 : DivOk 10000000000000000000000000000000000000000 = True := eq_true ⟨by decide, by decide +kernel⟩
theorem pwl_10_30 : CPow 10 30 = True := eq_true ⟨by decide, by decide, by decide +kernel⟩
theorem pwl_10_40 : CPow 10 40 = True := eq_true ⟨by decide, by decide, by decide +kernel⟩
end ZW
local macro_rules | `(tactic| walk_at "rd") => `(tactic| ((try simp only [L2.start, List.map_cons, List.map_nil, List.length_cons, List.length_nil, Nat.reduceAdd, Nat.zero_add, Nat.reduceSub, Nat.sub_self, List.replicate, List.cons_append, List.nil_append, List.append_nil]); try simp only [L2.tIfS, L2.tTest, L2.tB, L2.tOp, L2.tUn, L2.tVar, L2.tC, L2.tRet, L2.tRetN, L2.tNext, L2.tAsg, L2.tPar, L2.gName, L2.tCons, L2.tNil, L2.tCall, L2.tCB, L2.tAnd, L2.tOr, L2.tNot, L2.tAndV, L2.tOrV, L2.tNotV, L2.tIf, L2.rI0, L2.rI, L2.rU, L2.rAdd, L2.rSub, L2.rEq, L2.rNe, L2.scal, L2.tTup, L2.tLst, ZW.tTupN, ZW.tLstN, L2.tSl, L2.tPart, L2.tNoPart, ZW.rSlN, ZW.rCatN, ZW.rRepN, ZW.rListN, ZW.rIntB,  L2.tDrop, L2.tIsN, L2.tNotN, L2.tCmp, L2.t2I,
  List.map_cons, List.map_nil, List.length_cons, List.length_nil, List.append_nil, List.nil_append, List.cons_append, List.getElem?_cons_zero, List.getElem?_cons_succ, List.set_cons_zero, List.set_cons_succ, Nat.reduceSub, Nat.reduceAdd, Nat.sub_self, Nat.zero_add, List.getElem?_nil, List.append_eq,
  Option.some.injEq, L2.V.int.injEq, L2.V.bl.injEq, L2.V.ref.injEq, reduceCtorEq, exists_eq_left', exists_eq_left, exists_eq, true_and, and_true, exists_and_left, exists_eq_right, exists_eq_right', decide_true, decide_false, Bool.not_true, Bool.not_false, if_true, if_false, ite_true, ite_false, Bool.false_eq_true, List.cons.injEq, ite_self, and_self, and_assoc, L2.gCons, L2.gNil, Int.reduceToNat, Int.reduceMul, Int.reduceSub, Int.reduceAdd, Int.reduceNe, Int.reduceLE, Int.reduceLT, Int.reduceNeg, Int.reduceEq, ZW.dvl_2, ZW.dvl_3, ZW.dvl_4, ZW.dvl_5, ZW.dvl_6, ZW.dvl_7, ZW.dvl_8, ZW.dvl_18, ZW.dvl_25, ZW.dvl_26, ZW.dvl_35, ZW.dvl_90, ZW.dvl_140, ZW.dvl_840, ZW.dvl_6720, ZW.dvl_1000003, ZW.dvl_2147483647, ZW.dvl_10000000000000000000000000000000000000000, ZW.pwl_10_30, ZW.pwl_10_40, ZW.sz_line, Nat.reduceLT, Nat.reduceLeDiff, Nat.reduceLeDiff, ne_eq, not_false_eq_true, Int.reducePow, Int.pow_one,  forall_const, implies_true, ZW.cxK, ZW.ncast, L2.tCallS, L2.tYes, L2.gSub, Int.zero_add, ZW.tDictN, L2.wipe, L2.tDGet, L2.tDIn, L2.tDNotIn, L2.sDPut]))
local macro_rules | `(tactic| walk_at "ix") => `(tactic| (walk_at "rd"; first | refine ZW.ix_l (L2.SqL.of (by assumption)) (by decide) rfl ?_ | refine ZW.ix_t (L2.SqT.of (by assumption)) (by decide) rfl ?_))
local macro_rules | `(tactic| walk_at "sq") => `(tactic| (walk_at "rd"; refine ZW.seq_step ?_; walk_at "rd"))
local macro_rules | `(tactic| walk_at "isT") => `(tactic| (walk_at "rd"; refine ZW.isi (r := true) (by first | exact .base (.int _) | exact .base (.bl _) | exact .base .non | exact .base (.str _) | exact .base (.tup (by assumption)) | exact .base (.lst (by assumption)) | exact .base (.dK (by assumption))) (by decide +kernel) ?_; walk_at "rd"))
local macro_rules | `(tactic| walk_at "isF") => `(tactic| (walk_at "rd"; refine ZW.isi (r := false) (by first | exact .base (.int _) | exact .base (.bl _) | exact .base .non | exact .base (.str _) | exact .base (.tup (by assumption)) | exact .base (.lst (by assumption)) | exact .base (.dK (by assumption))) (by decide +kernel) ?_; walk_at "rd"))
local macro_rules | `(tactic| walk_at "rt") => `(tactic| (walk_at "rd"; (try simp only [L2.V.str.injEq, L2.tChain, exists_eq_left', exists_eq_left, exists_eq_right', true_and, and_true, exists_and_left]); (try walk_at "rd"); (try simp only [L2.V.str.injEq, exists_eq_left', exists_eq_left, exists_eq_right', true_and, and_true, exists_and_left])))

namespace ZW
open PySem PySem.Spec PyProof.Rows L2
def topS (i : Nat) : Stmt := PySem.Challenge.pw_zonewalk_k25_whole_doors_and_shares.main.body.getD i (.Pass ⟨0, 0, 0, 0⟩)
abbrev s_is_whole : Stmt := topS 6
theorem sc_is_whole : FnScope ["thing"] ["thing"] (defScope s_is_whole) := ⟨rfl, rfl, rfl, by decide +kernel, rfl, by decide +kernel, by decide +kernel⟩
abbrev s_of_signs : Stmt := topS 14
theorem sc_of_signs : FnScope ["thing", "signs", "most", "sign"] ["thing", "signs", "most"] (defScope s_of_signs) := ⟨rfl, rfl, rfl, by decide +kernel, rfl, by decide +kernel, by decide +kernel⟩
abbrev s_is_name : Stmt := topS 15
theorem sc_is_name : FnScope ["thing"] ["thing"] (defScope s_is_name) := ⟨rfl, rfl, rfl, by decide +kernel, rfl, by decide +kernel, by decide +kernel⟩
abbrev s_is_watch_name : Stmt := topS 16
theorem sc_is_watch_name : FnScope ["thing"] ["thing"] (defScope s_is_watch_name) := ⟨rfl, rfl, rfl, by decide +kernel, rfl, by decide +kernel, by decide +kernel⟩
abbrev s_is_sign : Stmt := topS 17
theorem sc_is_sign : FnScope ["thing"] ["thing"] (defScope s_is_sign) := ⟨rfl, rfl, rfl, by decide +kernel, rfl, by decide +kernel, by decide +kernel⟩
abbrev s_is_look : Stmt := topS 18
theorem sc_is_look : FnScope ["thing", "words", "watches"] ["thing", "words", "watches"] (defScope s_is_look) := ⟨rfl, rfl, rfl, by decide +kernel, rfl, by decide +kernel, by decide +kernel⟩
abbrev s_is_guard : Stmt := topS 19
theorem sc_is_guard : FnScope ["thing", "words", "watches", "look"] ["thing", "words", "watches"] (defScope s_is_guard) := ⟨rfl, rfl, rfl, by decide +kernel, rfl, by decide +kernel, by decide +kernel⟩
abbrev s_unlike : Stmt := topS 20
theorem sc_unlike : FnScope ["things"] ["things"] (defScope s_unlike) := ⟨rfl, rfl, rfl, by decide +kernel, rfl, by decide +kernel, by decide +kernel⟩
abbrev s_own : Stmt := topS 21
theorem sc_own : FnScope ["thing"] ["thing"] (defScope s_own) := ⟨rfl, rfl, rfl, by decide +kernel, rfl, by decide +kernel, by decide +kernel⟩
abbrev s_Door_init : Stmt := inClass (topS 22) 0
theorem sc_Door_init : FnScope ["self", "start", "end", "guard", "noughts", "sign"] ["self", "start", "end", "guard", "noughts", "sign"] (defScope s_Door_init) := ⟨rfl, rfl, rfl, by decide +kernel, rfl, by decide +kernel, by decide +kernel⟩
abbrev s_Door_asks : Stmt := inClass (topS 22) 1
theorem sc_Door_asks : FnScope ["self"] ["self"] (defScope s_Door_asks) := ⟨rfl, rfl, rfl, by decide +kernel, rfl, by decide +kernel, by decide +kernel⟩
abbrev s_Door_sets : Stmt := inClass (topS 22) 2
theorem sc_Door_sets : FnScope ["self"] ["self"] (defScope s_Door_sets) := ⟨rfl, rfl, rfl, by decide +kernel, rfl, by decide +kernel, by decide +kernel⟩
abbrev s_are_watches : Stmt := topS 23
theorem sc_are_watches : FnScope ["thing", "watch"] ["thing"] (defScope s_are_watches) := ⟨rfl, rfl, rfl, by decide +kernel, rfl, by decide +kernel, by decide +kernel⟩
abbrev s_is_room : Stmt := topS 24
theorem sc_is_room : FnScope ["thing", "watches"] ["thing", "watches"] (defScope s_is_room) := ⟨rfl, rfl, rfl, by decide +kernel, rfl, by decide +kernel, by decide +kernel⟩
abbrev s_are_rooms : Stmt := topS 25
theorem sc_are_rooms : FnScope ["thing", "watches", "room"] ["thing", "watches"] (defScope s_are_rooms) := ⟨rfl, rfl, rfl, by decide +kernel, rfl, by decide +kernel, by decide +kernel⟩
abbrev s_is_door : Stmt := topS 26
theorem sc_is_door : FnScope ["thing", "watches", "names", "name", "noughts", "watch"] ["thing", "watches", "names"] (defScope s_is_door) := ⟨rfl, rfl, rfl, by decide +kernel, rfl, by decide +kernel, by decide +kernel⟩
abbrev s_Machine_init : Stmt := inClass (topS 27) 0
theorem sc_Machine_init : FnScope ["self", "watches", "rooms", "doors", "names", "room", "door"] ["self", "watches", "rooms", "doors"] (defScope s_Machine_init) := ⟨rfl, rfl, rfl, by decide +kernel, rfl, by decide +kernel, by decide +kernel⟩
abbrev s_Machine_watches : Stmt := inClass (topS 27) 1
theorem sc_Machine_watches : FnScope ["self"] ["self"] (defScope s_Machine_watches) := ⟨rfl, rfl, rfl, by decide +kernel, rfl, by decide +kernel, by decide +kernel⟩
abbrev s_Machine_rooms : Stmt := inClass (topS 27) 2
theorem sc_Machine_rooms : FnScope ["self"] ["self"] (defScope s_Machine_rooms) := ⟨rfl, rfl, rfl, by decide +kernel, rfl, by decide +kernel, by decide +kernel⟩
abbrev s_Machine_doors : Stmt := inClass (topS 27) 3
theorem sc_Machine_doors : FnScope ["self"] ["self"] (defScope s_Machine_doors) := ⟨rfl, rfl, rfl, by decide +kernel, rfl, by decide +kernel, by decide +kernel⟩
abbrev s_Machine_stay : Stmt := inClass (topS 27) 4
theorem sc_Machine_stay : FnScope ["self", "room"] ["self", "room"] (defScope s_Machine_stay) := ⟨rfl, rfl, rfl, by decide +kernel, rfl, by decide +kernel, by decide +kernel⟩
abbrev s_watches_of : Stmt := topS 30
theorem sc_watches_of : FnScope ["machines", "watches", "machine"] ["machines"] (defScope s_watches_of) := ⟨rfl, rfl, rfl, by decide +kernel, rfl, by decide +kernel, by decide +kernel⟩
abbrev s_rooms_of : Stmt := topS 31
theorem sc_rooms_of : FnScope ["machines", "many", "machine", "rooms", "longer", "room", "name"] ["machines"] (defScope s_rooms_of) := ⟨rfl, rfl, rfl, by decide +kernel, rfl, by decide +kernel, by decide +kernel⟩
abbrev s_stay_of : Stmt := topS 32
theorem sc_stay_of : FnScope ["machines", "room", "looks", "machine", "name"] ["machines", "room"] (defScope s_stay_of) := ⟨rfl, rfl, rfl, by decide +kernel, rfl, by decide +kernel, by decide +kernel⟩
abbrev s_answers_to : Stmt := topS 33
theorem sc_answers_to : FnScope ["machines", "number", "sign", "found", "other", "machine", "at", "door"] ["machines", "number", "sign"] (defScope s_answers_to) := ⟨rfl, rfl, rfl, by decide +kernel, rfl, by decide +kernel, by decide +kernel⟩
abbrev s_goers : Stmt := topS 34
theorem sc_goers : FnScope ["machines", "number", "at", "sign", "other"] ["machines", "number", "at"] (defScope s_goers) := ⟨rfl, rfl, rfl, by decide +kernel, rfl, by decide +kernel, by decide +kernel⟩
abbrev s_moved : Stmt := topS 35
theorem sc_moved : FnScope ["room", "number", "name"] ["room", "number", "name"] (defScope s_moved) := ⟨rfl, rfl, rfl, by decide +kernel, rfl, by decide +kernel, by decide +kernel⟩
abbrev s_door_of : Stmt := topS 36
theorem sc_door_of : FnScope ["machines", "share", "room", "end", "guard", "noughts", "number", "at", "door"] ["machines", "share", "room"] (defScope s_door_of) := ⟨rfl, rfl, rfl, by decide +kernel, rfl, by decide +kernel, by decide +kernel⟩
abbrev s_doors_of : Stmt := topS 37
theorem sc_doors_of : FnScope ["machines", "rooms", "found", "number", "machine", "at", "share", "room", "door"] ["machines", "rooms"] (defScope s_doors_of) := ⟨rfl, rfl, rfl, by decide +kernel, rfl, by decide +kernel, by decide +kernel⟩
abbrev s_joined : Stmt := topS 38
theorem sc_joined : FnScope ["machines", "watches", "rooms", "named", "doors", "room", "door", "share"] ["machines"] (defScope s_joined) := ⟨rfl, rfl, rfl, by decide +kernel, rfl, by decide +kernel, by decide +kernel⟩
abbrev s_together : Stmt := topS 39
theorem sc_together : FnScope ["machines"] ["machines"] (defScope s_together) := ⟨rfl, rfl, rfl, by decide +kernel, rfl, by decide +kernel, by decide +kernel⟩
abbrev s_shares : Stmt := topS 40
theorem sc_shares : FnScope ["machines"] ["machines"] (defScope s_shares) := ⟨rfl, rfl, rfl, by decide +kernel, rfl, by decide +kernel, by decide +kernel⟩
abbrev s_l_cell_at : Stmt := topS 42
theorem sc_l_cell_at : FnScope ["_law_script", "_law_k"] ["_law_script", "_law_k"] (defScope s_l_cell_at) := ⟨rfl, rfl, rfl, by decide +kernel, rfl, by decide +kernel, by decide +kernel⟩
abbrev s_l_stream : Stmt := topS 43
theorem sc_l_stream : FnScope ["_law_cell", "_law_many_here", "_law_found", "_law_rest", "_law_k", "_law_number"] ["_law_cell", "_law_many_here"] (defScope s_l_stream) := ⟨rfl, rfl, rfl, by decide +kernel, rfl, by decide +kernel, by decide +kernel⟩
abbrev s_l_draws : Stmt := topS 44
theorem sc_l_draws : FnScope ["_law_cell", "_law_k", "_law_many_here"] ["_law_cell", "_law_k", "_law_many_here"] (defScope s_l_draws) := ⟨rfl, rfl, rfl, by decide +kernel, rfl, by decide +kernel, by decide +kernel⟩
abbrev s_l_names : Stmt := topS 45
theorem sc_l_names : FnScope ["_law_cell", "_law_many_here", "_law_letters", "_law_size", "_law_at", "_law_names_here", "_law_k", "_law_name", "_law_j", "_law_sign"] ["_law_cell", "_law_many_here"] (defScope s_l_names) := ⟨rfl, rfl, rfl, by decide +kernel, rfl, by decide +kernel, by decide +kernel⟩
abbrev s_l_guard : Stmt := topS 46
theorem sc_l_guard : FnScope ["_law_number", "_law_watches", "_law_unit", "_law_looks", "_law_k", "_law_one", "_law_word"] ["_law_number", "_law_watches", "_law_unit"] (defScope s_l_guard) := ⟨rfl, rfl, rfl, by decide +kernel, rfl, by decide +kernel, by decide +kernel⟩
abbrev s_l_door : Stmt := topS 47
theorem sc_l_door : FnScope ["_law_number", "_law_k", "_law_rooms", "_law_watches", "_law_names_here", "_law_unit", "_law_xs", "_law_sign", "_law_noughts", "_law_j"] ["_law_number", "_law_k", "_law_rooms", "_law_watches", "_law_names_here", "_law_unit"] (defScope s_l_door) := ⟨rfl, rfl, rfl, by decide +kernel, rfl, by decide +kernel, by decide +kernel⟩
abbrev s_l_parts : Stmt := topS 48
theorem sc_l_parts : FnScope ["_law_script", "_law_names_here", "_law_unit", "_law_parts_here", "_law_i", "_law_cell", "_law_watches", "_law_first", "_law_rooms", "_law_doors", "_law_k"] ["_law_script"] (defScope s_l_parts) := ⟨rfl, rfl, rfl, by decide +kernel, rfl, by decide +kernel, by decide +kernel⟩
abbrev s_l_machine : Stmt := topS 49
theorem sc_l_machine : FnScope ["_law_part", "_law_watches", "_law_rooms", "_law_doors", "_law_made", "_law_one", "_law_name"] ["_law_part"] (defScope s_l_machine) := ⟨rfl, rfl, rfl, by decide +kernel, rfl, by decide +kernel, by decide +kernel⟩
abbrev s_l_ways : Stmt := topS 50
theorem sc_l_ways : FnScope ["_law_parts_here", "_law_ways_here", "_law_watches", "_law_rooms", "_law_doors", "_law_longer", "_law_way", "_law_name"] ["_law_parts_here"] (defScope s_l_ways) := ⟨rfl, rfl, rfl, by decide +kernel, rfl, by decide +kernel, by decide +kernel⟩
abbrev s_l_goers : Stmt := topS 51
theorem sc_l_goers : FnScope ["_law_parts_here", "_law_i", "_law_k", "_law_sign", "_law_found", "_law_j", "_law_m"] ["_law_parts_here", "_law_i", "_law_k"] (defScope s_l_goers) := ⟨rfl, rfl, rfl, by decide +kernel, rfl, by decide +kernel, by decide +kernel⟩
abbrev s_l_due : Stmt := topS 52
theorem sc_l_due : FnScope ["_law_parts_here", "_law_due_here", "_law_ways_here", "_law_i", "_law_k", "_law_share", "_law_way", "_law_j", "_law_m", "_law_end", "_law_looks", "_law_noughts"] ["_law_parts_here"] (defScope s_l_due) := ⟨rfl, rfl, rfl, by decide +kernel, rfl, by decide +kernel, by decide +kernel⟩
abbrev s_l_many : Stmt := topS 53
theorem sc_l_many : FnScope ["_law_machines", "_law_way", "e"] ["_law_machines", "_law_way"] (defScope s_l_many) := ⟨rfl, rfl, rfl, by decide +kernel, rfl, by decide +kernel, by decide +kernel⟩
abbrev s_l_same : Stmt := topS 54
theorem sc_l_same : FnScope ["_law_door_here", "_law_one"] ["_law_door_here", "_law_one"] (defScope s_l_same) := ⟨rfl, rfl, rfl, by decide +kernel, rfl, by decide +kernel, by decide +kernel⟩
abbrev s_law : Stmt := topS 55
theorem sc_law : FnScope ["_law_script", "_law_parts_here", "_law_machines", "_law_due_here", "_law_whole", "_law_told", "_law_doors", "_law_share", "_law_part", "_law_door_here", "_law_one"] ["_law_script"] (defScope s_law) := ⟨rfl, rfl, rfl, by decide +kernel, rfl, by decide +kernel, by decide +kernel⟩
structure Top (K : PySem.W.Frag) (mg : Str → Option Value) where
  C_Door : Addr
  g_Door : mg "Door" = some (.ref C_Door)
  cl_Door : Cls K C_Door
  ty_Door : OwnCls K C_Door
  n_Door_backs : NoAttr K C_Door "backs"
  n_Door_end : NoAttr K C_Door "end"
  n_Door_looks : NoAttr K C_Door "looks"
  n_Door_sign : NoAttr K C_Door "sign"
  n_Door_start : NoAttr K C_Door "start"
  C_Machine : Addr
  g_Machine : mg "Machine" = some (.ref C_Machine)
  cl_Machine : Cls K C_Machine
  ty_Machine : OwnCls K C_Machine
  n_Machine_door_list : NoAttr K C_Machine "door_list"
  n_Machine_room_names : NoAttr K C_Machine "room_names"
  n_Machine_stay_looks : NoAttr K C_Machine "stay_looks"
  n_Machine_watch_names : NoAttr K C_Machine "watch_names"
  t_BELOW : Addr
  g_BELOW : mg "BELOW" = some (.ref t_BELOW)
  q_BELOW : ∀ H, SqT K H t_BELOW ((["<", "<="] : List Str).map V.str)
  t_WORDS : Addr
  g_WORDS : mg "WORDS" = some (.ref t_WORDS)
  q_WORDS : ∀ H, SqT K H t_WORDS ((["<", "<=", ">", ">=", "="] : List Str).map V.str)
  f_is_whole : Addr
  d_is_whole : FuncData
  F_is_whole : Fun K "is_whole" "is_whole" s_is_whole f_is_whole d_is_whole
  b_is_whole : Binds K d_is_whole ["thing"] []
  g_is_whole : mg "is_whole" = some (.ref f_is_whole)
  f_of_signs : Addr
  d_of_signs : FuncData
  F_of_signs : Fun K "of_signs" "of_signs" s_of_signs f_of_signs d_of_signs
  b_of_signs : Binds K d_of_signs ["thing", "signs", "most"] []
  g_of_signs : mg "of_signs" = some (.ref f_of_signs)
  f_is_name : Addr
  d_is_name : FuncData
  F_is_name : Fun K "is_name" "is_name" s_is_name f_is_name d_is_name
  b_is_name : Binds K d_is_name ["thing"] []
  g_is_name : mg "is_name" = some (.ref f_is_name)
  f_is_watch_name : Addr
  d_is_watch_name : FuncData
  F_is_watch_name : Fun K "is_watch_name" "is_watch_name" s_is_watch_name f_is_watch_name d_is_watch_name
  b_is_watch_name : Binds K d_is_watch_name ["thing"] []
  g_is_watch_name : mg "is_watch_name" = some (.ref f_is_watch_name)
  f_is_sign : Addr
  d_is_sign : FuncData
  F_is_sign : Fun K "is_sign" "is_sign" s_is_sign f_is_sign d_is_sign
  b_is_sign : Binds K d_is_sign ["thing"] []
  g_is_sign : mg "is_sign" = some (.ref f_is_sign)
  f_is_look : Addr
  d_is_look : FuncData
  F_is_look : Fun K "is_look" "is_look" s_is_look f_is_look d_is_look
  b_is_look : Binds K d_is_look ["thing", "words", "watches"] []
  g_is_look : mg "is_look" = some (.ref f_is_look)
  f_is_guard : Addr
  d_is_guard : FuncData
  F_is_guard : Fun K "is_guard" "is_guard" s_is_guard f_is_guard d_is_guard
  b_is_guard : Binds K d_is_guard ["thing", "words", "watches"] []
  g_is_guard : mg "is_guard" = some (.ref f_is_guard)
  f_unlike : Addr
  d_unlike : FuncData
  F_unlike : Fun K "unlike" "unlike" s_unlike f_unlike d_unlike
  b_unlike : Binds K d_unlike ["things"] []
  g_unlike : mg "unlike" = some (.ref f_unlike)
  f_own : Addr
  d_own : FuncData
  F_own : Fun K "own" "own" s_own f_own d_own
  b_own : Binds K d_own ["thing"] []
  g_own : mg "own" = some (.ref f_own)
  f_Door_init : Addr
  d_Door_init : FuncData
  F_Door_init : FunD K "__init__" "Door.__init__" (defArgs s_Door_init) (defBody s_Door_init) (defScope s_Door_init) [.str ""] [] f_Door_init d_Door_init
  b_Door_init : Binds K d_Door_init ["self", "start", "end", "guard", "noughts", "sign"] []
  mk_Door : Mk K C_Door f_Door_init
  dv_Door_init : List Value
  v_Door_init : Vals [.str ""] dv_Door_init
  bd_Door_init : Binds K d_Door_init ["self", "start", "end", "guard", "noughts", "sign"] dv_Door_init
  f_Door_asks : Addr
  d_Door_asks : FuncData
  F_Door_asks : Fun K "asks" "Door.asks" s_Door_asks f_Door_asks d_Door_asks
  b_Door_asks : Binds K d_Door_asks ["self"] []
  m_Door_asks : Meth K C_Door "asks" f_Door_asks
  f_Door_sets : Addr
  d_Door_sets : FuncData
  F_Door_sets : Fun K "sets" "Door.sets" s_Door_sets f_Door_sets d_Door_sets
  b_Door_sets : Binds K d_Door_sets ["self"] []
  m_Door_sets : Meth K C_Door "sets" f_Door_sets
  f_are_watches : Addr
  d_are_watches : FuncData
  F_are_watches : Fun K "are_watches" "are_watches" s_are_watches f_are_watches d_are_watches
  b_are_watches : Binds K d_are_watches ["thing"] []
  g_are_watches : mg "are_watches" = some (.ref f_are_watches)
  f_is_room : Addr
  d_is_room : FuncData
  F_is_room : Fun K "is_room" "is_room" s_is_room f_is_room d_is_room
  b_is_room : Binds K d_is_room ["thing", "watches"] []
  g_is_room : mg "is_room" = some (.ref f_is_room)
  f_are_rooms : Addr
  d_are_rooms : FuncData
  F_are_rooms : Fun K "are_rooms" "are_rooms" s_are_rooms f_are_rooms d_are_rooms
  b_are_rooms : Binds K d_are_rooms ["thing", "watches"] []
  g_are_rooms : mg "are_rooms" = some (.ref f_are_rooms)
  f_is_door : Addr
  d_is_door : FuncData
  F_is_door : Fun K "is_door" "is_door" s_is_door f_is_door d_is_door
  b_is_door : Binds K d_is_door ["thing", "watches", "names"] []
  g_is_door : mg "is_door" = some (.ref f_is_door)
  f_Machine_init : Addr
  d_Machine_init : FuncData
  F_Machine_init : Fun K "__init__" "Machine.__init__" s_Machine_init f_Machine_init d_Machine_init
  b_Machine_init : Binds K d_Machine_init ["self", "watches", "rooms", "doors"] []
  mk_Machine : Mk K C_Machine f_Machine_init
  f_Machine_watches : Addr
  d_Machine_watches : FuncData
  F_Machine_watches : Fun K "watches" "Machine.watches" s_Machine_watches f_Machine_watches d_Machine_watches
  b_Machine_watches : Binds K d_Machine_watches ["self"] []
  m_Machine_watches : Meth K C_Machine "watches" f_Machine_watches
  f_Machine_rooms : Addr
  d_Machine_rooms : FuncData
  F_Machine_rooms : Fun K "rooms" "Machine.rooms" s_Machine_rooms f_Machine_rooms d_Machine_rooms
  b_Machine_rooms : Binds K d_Machine_rooms ["self"] []
  m_Machine_rooms : Meth K C_Machine "rooms" f_Machine_rooms
  f_Machine_doors : Addr
  d_Machine_doors : FuncData
  F_Machine_doors : Fun K "doors" "Machine.doors" s_Machine_doors f_Machine_doors d_Machine_doors
  b_Machine_doors : Binds K d_Machine_doors ["self"] []
  m_Machine_doors : Meth K C_Machine "doors" f_Machine_doors
  f_Machine_stay : Addr
  d_Machine_stay : FuncData
  F_Machine_stay : Fun K "stay" "Machine.stay" s_Machine_stay f_Machine_stay d_Machine_stay
  b_Machine_stay : Binds K d_Machine_stay ["self", "room"] []
  m_Machine_stay : Meth K C_Machine "stay" f_Machine_stay
  f_watches_of : Addr
  d_watches_of : FuncData
  F_watches_of : Fun K "watches_of" "watches_of" s_watches_of f_watches_of d_watches_of
  b_watches_of : Binds K d_watches_of ["machines"] []
  g_watches_of : mg "watches_of" = some (.ref f_watches_of)
  f_rooms_of : Addr
  d_rooms_of : FuncData
  F_rooms_of : Fun K "rooms_of" "rooms_of" s_rooms_of f_rooms_of d_rooms_of
  b_rooms_of : Binds K d_rooms_of ["machines"] []
  g_rooms_of : mg "rooms_of" = some (.ref f_rooms_of)
  f_stay_of : Addr
  d_stay_of : FuncData
  F_stay_of : Fun K "stay_of" "stay_of" s_stay_of f_stay_of d_stay_of
  b_stay_of : Binds K d_stay_of ["machines", "room"] []
  g_stay_of : mg "stay_of" = some (.ref f_stay_of)
  f_answers_to : Addr
  d_answers_to : FuncData
  F_answers_to : Fun K "answers_to" "answers_to" s_answers_to f_answers_to d_answers_to
  b_answers_to : Binds K d_answers_to ["machines", "number", "sign"] []
  g_answers_to : mg "answers_to" = some (.ref f_answers_to)
  f_goers : Addr
  d_goers : FuncData
  F_goers : Fun K "goers" "goers" s_goers f_goers d_goers
  b_goers : Binds K d_goers ["machines", "number", "at"] []
  g_goers : mg "goers" = some (.ref f_goers)
  f_moved : Addr
  d_moved : FuncData
  F_moved : Fun K "moved" "moved" s_moved f_moved d_moved
  b_moved : Binds K d_moved ["room", "number", "name"] []
  g_moved : mg "moved" = some (.ref f_moved)
  f_door_of : Addr
  d_door_of : FuncData
  F_door_of : Fun K "door_of" "door_of" s_door_of f_door_of d_door_of
  b_door_of : Binds K d_door_of ["machines", "share", "room"] []
  g_door_of : mg "door_of" = some (.ref f_door_of)
  f_doors_of : Addr
  d_doors_of : FuncData
  F_doors_of : Fun K "doors_of" "doors_of" s_doors_of f_doors_of d_doors_of
  b_doors_of : Binds K d_doors_of ["machines", "rooms"] []
  g_doors_of : mg "doors_of" = some (.ref f_doors_of)
  f_joined : Addr
  d_joined : FuncData
  F_joined : Fun K "joined" "joined" s_joined f_joined d_joined
  b_joined : Binds K d_joined ["machines"] []
  g_joined : mg "joined" = some (.ref f_joined)
  f_together : Addr
  d_together : FuncData
  F_together : Fun K "together" "together" s_together f_together d_together
  b_together : Binds K d_together ["machines"] []
  g_together : mg "together" = some (.ref f_together)
  f_shares : Addr
  d_shares : FuncData
  F_shares : Fun K "shares" "shares" s_shares f_shares d_shares
  b_shares : Binds K d_shares ["machines"] []
  g_shares : mg "shares" = some (.ref f_shares)
  f_l_cell_at : Addr
  d_l_cell_at : FuncData
  F_l_cell_at : Fun K "_law_cell_at" "_law_cell_at" s_l_cell_at f_l_cell_at d_l_cell_at
  b_l_cell_at : Binds K d_l_cell_at ["_law_script", "_law_k"] []
  g_l_cell_at : mg "_law_cell_at" = some (.ref f_l_cell_at)
  f_l_stream : Addr
  d_l_stream : FuncData
  F_l_stream : Fun K "_law_stream" "_law_stream" s_l_stream f_l_stream d_l_stream
  b_l_stream : Binds K d_l_stream ["_law_cell", "_law_many_here"] []
  g_l_stream : mg "_law_stream" = some (.ref f_l_stream)
  f_l_draws : Addr
  d_l_draws : FuncData
  F_l_draws : Fun K "_law_draws" "_law_draws" s_l_draws f_l_draws d_l_draws
  b_l_draws : Binds K d_l_draws ["_law_cell", "_law_k", "_law_many_here"] []
  g_l_draws : mg "_law_draws" = some (.ref f_l_draws)
  f_l_names : Addr
  d_l_names : FuncData
  F_l_names : Fun K "_law_names" "_law_names" s_l_names f_l_names d_l_names
  b_l_names : Binds K d_l_names ["_law_cell", "_law_many_here"] []
  g_l_names : mg "_law_names" = some (.ref f_l_names)
  f_l_guard : Addr
  d_l_guard : FuncData
  F_l_guard : Fun K "_law_guard" "_law_guard" s_l_guard f_l_guard d_l_guard
  b_l_guard : Binds K d_l_guard ["_law_number", "_law_watches", "_law_unit"] []
  g_l_guard : mg "_law_guard" = some (.ref f_l_guard)
  f_l_door : Addr
  d_l_door : FuncData
  F_l_door : Fun K "_law_door" "_law_door" s_l_door f_l_door d_l_door
  b_l_door : Binds K d_l_door ["_law_number", "_law_k", "_law_rooms", "_law_watches", "_law_names_here", "_law_unit"] []
  g_l_door : mg "_law_door" = some (.ref f_l_door)
  f_l_parts : Addr
  d_l_parts : FuncData
  F_l_parts : Fun K "_law_parts" "_law_parts" s_l_parts f_l_parts d_l_parts
  b_l_parts : Binds K d_l_parts ["_law_script"] []
  g_l_parts : mg "_law_parts" = some (.ref f_l_parts)
  f_l_machine : Addr
  d_l_machine : FuncData
  F_l_machine : Fun K "_law_machine" "_law_machine" s_l_machine f_l_machine d_l_machine
  b_l_machine : Binds K d_l_machine ["_law_part"] []
  g_l_machine : mg "_law_machine" = some (.ref f_l_machine)
  f_l_ways : Addr
  d_l_ways : FuncData
  F_l_ways : Fun K "_law_ways" "_law_ways" s_l_ways f_l_ways d_l_ways
  b_l_ways : Binds K d_l_ways ["_law_parts_here"] []
  g_l_ways : mg "_law_ways" = some (.ref f_l_ways)
  f_l_goers : Addr
  d_l_goers : FuncData
  F_l_goers : Fun K "_law_goers" "_law_goers" s_l_goers f_l_goers d_l_goers
  b_l_goers : Binds K d_l_goers ["_law_parts_here", "_law_i", "_law_k"] []
  g_l_goers : mg "_law_goers" = some (.ref f_l_goers)
  f_l_due : Addr
  d_l_due : FuncData
  F_l_due : Fun K "_law_due" "_law_due" s_l_due f_l_due d_l_due
  b_l_due : Binds K d_l_due ["_law_parts_here"] []
  g_l_due : mg "_law_due" = some (.ref f_l_due)
  f_l_many : Addr
  d_l_many : FuncData
  F_l_many : Fun K "_law_many" "_law_many" s_l_many f_l_many d_l_many
  b_l_many : Binds K d_l_many ["_law_machines", "_law_way"] []
  g_l_many : mg "_law_many" = some (.ref f_l_many)
  f_l_same : Addr
  d_l_same : FuncData
  F_l_same : Fun K "_law_same" "_law_same" s_l_same f_l_same d_l_same
  b_l_same : Binds K d_l_same ["_law_door_here", "_law_one"] []
  g_l_same : mg "_law_same" = some (.ref f_l_same)
  f_law : Addr
  d_law : FuncData
  F_law : Fun K "law" "law" s_law f_law d_law
  b_law : Binds K d_law ["_law_script"] []
  g_law : mg "law" = some (.ref f_law)
  C_BadMachine : Addr
  g_BadMachine : mg "BadMachine" = some (.ref C_BadMachine)
  x_BadMachine : PySem.W.excIn K C_BadMachine [.type "ValueError", .type "Exception", .type "BaseException", .type "object"] "ValueError.__new__" = true
  k_BadMachine : PySem.W.keepIn K (.ref C_BadMachine) = true
  b_BadMachine : PySem.W.subIn K (.ref C_BadMachine) (.type "BaseException") = some true
  t_BadMachine : PySem.W.typeIn K (.ref C_BadMachine) = some (.type "type")
  i_BadMachine : PySem.W.isClsIn K C_BadMachine = true
  C_TooMany : Addr
  g_TooMany : mg "TooMany" = some (.ref C_TooMany)
  x_TooMany : PySem.W.excIn K C_TooMany [.type "ValueError", .type "Exception", .type "BaseException", .type "object"] "ValueError.__new__" = true
  k_TooMany : PySem.W.keepIn K (.ref C_TooMany) = true
  b_TooMany : PySem.W.subIn K (.ref C_TooMany) (.type "BaseException") = some true
  t_TooMany : PySem.W.typeIn K (.ref C_TooMany) = some (.type "type")
  i_TooMany : PySem.W.isClsIn K C_TooMany = true
  t_LETTERS : Tok
  g_LETTERS : mg "LETTERS" = some (.str "abcdefghijklmnopqrstuvwxyz" t_LETTERS)
  t_MOST_DOORS : Tok
  g_MOST_DOORS : mg "MOST_DOORS" = some (.int 200 t_MOST_DOORS)
  t_MOST_PARTS : Tok
  g_MOST_PARTS : mg "MOST_PARTS" = some (.int 6 t_MOST_PARTS)
  t_MOST_ROOMS : Tok
  g_MOST_ROOMS : mg "MOST_ROOMS" = some (.int 64 t_MOST_ROOMS)
  t_MOST_WATCHES : Tok
  g_MOST_WATCHES : mg "MOST_WATCHES" = some (.int 7 t_MOST_WATCHES)
  m_ValueError : mg "ValueError" = none
  m_all : mg "all" = none
  m_bool : mg "bool" = none
  m_enumerate : mg "enumerate" = none
  m_int : mg "int" = none
  m_isinstance : mg "isinstance" = none
  m_len : mg "len" = none
  m_list : mg "list" = none
  m_range : mg "range" = none
  m_set : mg "set" = none
  m_str : mg "str" = none
  m_tuple : mg "tuple" = none
  m_zip : mg "zip" = none
  e1_TooMany : PySem.W.findIn K (.ref C_TooMany) "__getattribute__" = some (some (.builtin "BaseException.__getattribute__"))
  e2_TooMany : PySem.W.findIn K (.ref C_TooMany) "__getattr__" = some none
  e4_TooMany : PySem.W.hasDictIn K C_TooMany = true
  e5_TooMany : PySem.W.findIn K (.ref C_TooMany) "__class__" = some (some (.builtin "object.__class__"))
  e8_TooMany : PySem.W.mroIn K C_TooMany (.type "object") = some true
  s_TooMany_TooMany : PySem.W.subIn K (.ref C_TooMany) (.ref C_TooMany) = some true
  e6_ : PySem.W.specialIn K (.builtin "object.__class__") "__get__" = some (some (.builtin "getset_descriptor.__get__"))
  e7_ : PySem.W.takesIn K (.builtin "object.__class__") = some true
  k_TooMany_v : PySem.W.kitOne K (.ref C_TooMany) (.type "ValueError") = some true
/-! ### len(set(xs)) of a list of texts -/
/-- the set at a holds the first i texts: it has i members just where no two of these are one -/
def SetUp (P : Program) (w : World) (h : Heap) (a : Addr) (xs : List Str) (i : Nat) : Prop :=
  ∃ c, c ≤ i ∧ (c = i ↔ (xs.take i).Nodup) ∧ h.SetOf (PySem.strKind P w) a (fun k => decide (k ∈ xs.take i)) c
section
variable {P : Program} {w : World} {A : Around} {h h' : Heap} {a it : Addr} {xs : List Str} {i n : Nat}
theorem SetUp.keep (U : SetUp P w h a xs i) (k : ∀ o, h.get? a = some o → h'.get? a = some o) : SetUp P w h' a xs i := by
  obtain ⟨c, hc, hd, o, es, ep, t, ho, r⟩ := U
  exact ⟨c, hc, hd, o, es, ep, t, k o ho, r⟩
theorem nodup_snoc {l : List Str} {x : Str} : (l ++ [x]).Nodup ↔ l.Nodup ∧ x ∉ l := by
  rw [List.nodup_append]
  constructor
  · rintro ⟨p, _, q⟩
    exact ⟨p, fun hx => q x hx x (List.mem_singleton.mpr rfl) rfl⟩
  · rintro ⟨p, q⟩
    exact ⟨p, by simp, fun y hy z hz e => q (by rw [← List.mem_singleton.mp hz, ← e]; exact hy)⟩
theorem setUp_add {c : Nat} {x : Str} (hx : xs[i]? = some x) (hc : c ≤ i) (hd : c = i ↔ (xs.take i).Nodup)
    (S : h.SetOf (PySem.strKind P w) a (fun k => decide (k ∈ xs.take i) || decide (k = x)) (if decide (x ∈ xs.take i) = true then c else c + 1)) : SetUp P w h a xs (i + 1) := by
  have e : xs.take (i + 1) = xs.take i ++ [x] := by rw [List.take_add_one, hx]; rfl
  refine ⟨_, ?_, ?_, PyProof.Rows.SetOf_congr S (fun k => by rw [e]; simp) rfl⟩
  · split <;> omega
  · rw [e, nodup_snoc, ← hd]
    by_cases m : x ∈ xs.take i
    · rw [if_pos (decide_eq_true m)]
      exact ⟨fun z => by omega, fun z => absurd m z.2⟩
    · rw [if_neg (by simpa using m)]
      exact ⟨fun z => ⟨by omega, m⟩, fun z => by omega⟩
theorem setUp_loop {R : Result → Shared → Prop} {fp wr : List Addr} {G : Array GenState → Array GenState → Prop} {Pv : Nat → Value → Prop} {St : Nat → Shared → Prop} (W : WalksS P w A.in1 it fp wr G n Pv St) (ha : a ∉ fp)
    (few : n + 1 < scanBound) (hv : ∀ i v, Pv i v → ∃ x t, xs[i]? = some x ∧ v = Value.str x t) (k : Nat) : ∀ (i : Nat) (s : Shared), i + k = n → St i s → SetUp P w s.heap a xs i →
    (∀ z, Moved (a :: wr) G s z → SetUp P w z.heap a xs n → R (.ok (.ret .none)) z) → codeAny (model P w) A (.builtin "set.update.loop" ⟨[.ref a, .ref it], []⟩) R s := by
  have aw : a ∉ wr := fun z => ha (W.sub _ z)
  have up : ∀ b ∈ wr, b ∈ a :: wr := fun b z => List.mem_cons_of_mem _ z
  induction k with
  | zero =>
    intro i s hk st U fin
    obtain rfl : i = n := by omega
    refine codeAny_builtin PyProof.Rows.F.entry_set_update_loop (by rw [Around.under_plainId PyProof.Rows.F.plain_set_update_loop _]; exact wpAny_bind (W.done s _ _ st fun z m => wpAny_pure (fin z (m.mono up) (U.keep fun o e => m.heap a o aw e))))
  | succ k ih =>
    intro i s hk st U fin
    refine codeAny_builtin PyProof.Rows.F.entry_set_update_loop ?_; rw [Around.under_plainId PyProof.Rows.F.plain_set_update_loop _]
    refine wpAny_bind (m := pyNext (.ref it)) (W.item i s _ _ (by omega) st fun v z pv sz m => ?_)
    obtain ⟨x, t, hx, rfl⟩ := hv i v pv
    obtain ⟨c, hc, hd, S⟩ := U.keep fun o e => m.heap a o aw e
    refine wpAny_bind (m := holding [Value.str x t] (setAdd a (.str x t))) (wpAny_holding ?_)
    unfold setAdd
    refine wpAny_holding (wpAny_bind ((PySem.strKind P w).pyHash (k := x) (strKind_is _ _ _ _) ?_))
    refine wpAny_setAddHashed_of (knd := PySem.strKind P w) (s := { z with toks := z.toks + 1 }) (strKind_is _ _ _ _) rfl S (by omega) fun g sb S2 => wpAny_pure ⟨plainId_quiet PyProof.Rows.F.plain_set_update_loop _, ?_⟩
    refine ih (i + 1) _ (by omega) (W.frame _ z _ _ sz (Nat.le_succ _) fun b hb o e => ?_) (setUp_add hx hc hd S2) fun y m2 U2 => fin y (Moved.trans W.gtrans ((m.mono up).then_heap (Nat.le_succ _) fun b o hb e => ?_) m2) U2
    · exact (sb.2 b fun q => ha (q ▸ hb)).trans e
    · exact (sb.2 b fun q => hb (q ▸ List.mem_cons_self)).trans e
end
/-- a set that was just made -/
abbrev rawSet (led : Bool) : Obj := { cls := .type "set", dict := none, data := .set #[] 0 (.fresh 0 0 led) }
section
variable {P : Program} {w : World} {A : Around} {E : Value → Shared → Prop}
theorem setUp_init {s : Shared} {l a : Addr} {items : Array Value} {xs : List Str} {led : Bool} {Q : Value → Shared → Prop} (hh : A.handled = none) (hl : s.heap.IsList l items) (hn : items.size = xs.length) (few : xs.length + 1 < scanBound)
    (hv : ∀ (i : Nat) (v : Value), items[i]? = some v → ∃ (x : Str) (t : Tok), xs[i]? = some x ∧ v = Value.str x t) (ho : s.heap.get? a = some (rawSet led)) (al : a ≠ l)
    (fin : ∀ g tk, SetUp P w g a xs xs.length → (∀ b o, b ≠ a → s.heap.get? b = some o → g.get? b = some o) → Q .none { s with heap := g, toks := tk }) :
    wpAny (model P w) A.in1 (Builtin.«set.__init__» ⟨[.ref a, .ref l], []⟩) (fun r z => ∃ v, r = .done (.ret v) ∧ Q v z) E s := by
  obtain ⟨⟨ocls, odict, odata, oslots⟩, eo, ec, nl, ed⟩ := hl
  simp only at ec ed
  subst ec; subst ed
  have lst : s.heap.IsList l items := ⟨_, eo, rfl, nl, rfl⟩
  have f1 := PySem.F.sub_list_set
  have f2 := PySem.F.sub_list_frozenset
  have f3 : (Value.type "list" == Value.type "dict") = false := by decide
  unfold Builtin.«set.__init__» noKeywords Builtin.Frozenset.updateFrom
  generalize hp : pyIter = PI
  wp_walk
  subst hp
  refine wpAny_pyIter_list lst (wpAny_bind (wpAny_runValue ?_))
  have la : a < s.heap.objs.size := Heap.lt_size ho
  have ll : l < s.heap.objs.size := Heap.lt_size eo
  refine setUp_loop ((Walks.list (by simp [hh]) _ l (Nat.ne_of_lt ll) items).toS) ?_ (n := items.size) (by omega) hv items.size 0 _ (by omega) ⟨⟨_, Heap.get?_push_size _ rfl, rfl, rfl⟩, lst.push _⟩ ?_ fun z m U => ?_
  · intro z
    rcases List.mem_cons.mp z with z | z
    · exact absurd z (Nat.ne_of_lt la)
    · exact al (List.mem_singleton.mp z)
  · exact ⟨0, Nat.le_refl 0, by simp, PyProof.Rows.SetOf_congr ((PyProof.Rows.setObjOf_fresh (knd := PySem.strKind P w) led).setOf (Heap.get?_push_of_some _ ho) (by decide)) (fun k => by simp) rfl⟩
  · obtain ⟨g, gs, dr, tk, os⟩ := z
    obtain rfl : gs = s.gens := m.gens
    obtain rfl : dr = s.drawn := m.drawn
    obtain rfl : os = s.os := m.os
    rw [hn] at U
    refine wpAny_pure (wpAny_pure ⟨.none, rfl, fin g tk U fun b o hb e => m.heap b o (fun z => ?_) (Heap.get?_push_of_some _ e)⟩)
    have := Heap.lt_size e
    rcases List.mem_cons.mp z with z | z
    · exact hb z
    · exact absurd (List.mem_singleton.mp z) (Nat.ne_of_lt this)
end
section
variable {P : Program} {w : World} {A : Around} {E : Value → Shared → Prop}
theorem set_texts {s : Shared} {l : Addr} {items : Array Value} {xs : List Str} {Q : Value → Shared → Prop} (hh : A.handled = none) (hl : s.heap.IsList l items) (hn : items.size = xs.length) (few : xs.length + 1 < scanBound)
    (hv : ∀ (i : Nat) (v : Value), items[i]? = some v → ∃ (x : Str) (t : Tok), xs[i]? = some x ∧ v = Value.str x t)
    (fin : ∀ g tk, SetUp P w g s.heap.objs.size xs xs.length → (∀ b o, s.heap.get? b = some o → g.get? b = some o) → Q (.ref s.heap.objs.size) { s with heap := g, toks := tk }) :
    wpAny (model P w) A (call (.type "set") [.ref l]) Q E s := by
  obtain ⟨cs, tl, f0⟩ := PySem.F.called_set.mro
  have f1 := PySem.F.called_set.made
  have f2 := PySem.F.called_set.sub
  have f3 := PySem.F.called_set.notType
  have f4 := PySem.F.called_set.canCreate
  have f5 := PySem.F.typeCall_set_1 (.ref l)
  refine wpAny_call (codeAny_of_tree (wpAny_pure ⟨Code.quiet_builtin _ (by decide +kernel), codeAny_builtin PySem.F.entry_type_call ?_⟩))
  rw [Around.under_plain (weight_type_call_type "set" [.ref l] []) rfl]
  repeat (any_goals (first | assumption | wp_step))
  refine codeAny_mono (code_set_new_1 (.ref l) (E := E) (Q₁ := fun v z => ∃ led : Bool, v = .ref s.heap.objs.size ∧ z = { s with heap := s.heap.push (rawSet led) }) fun led => ⟨led, rfl, rfl⟩) fun r z hr => ?_
  rcases r with e | f
  · exact hr
  cases f with
  | ret v =>
    obtain ⟨led, rfl, rfl⟩ := hr
    have ho : (s.heap.push (rawSet led)).get? s.heap.objs.size = some (rawSet led) := Heap.get?_push_size _ rfl
    have ty : Shared.TypeIs { s with heap := s.heap.push (rawSet led) } (.ref s.heap.objs.size) "set" := ⟨_, ho, rfl⟩
    have f6 := PySem.F.called_set.init.lookup
    have f7 := PySem.F.called_set.init.bind (.ref s.heap.objs.size)
    repeat (any_goals (first | assumption | wp_step))
    obtain ⟨ol, eo, _⟩ := id hl
    have ll : l < s.heap.objs.size := Heap.lt_size eo
    have body := setUp_init (P := P) (w := w) (A := A.in1) (E := E) (s := { s with heap := s.heap.push (rawSet led) }) (led := led) (Q := fun v z => v = .none ∧ ∃ g tk, z = { s with heap := g, toks := tk } ∧ SetUp P w g s.heap.objs.size xs xs.length ∧ ∀ b o, s.heap.get? b = some o → g.get? b = some o) (by simp [hh]) (hl.push _) hn few hv ho (Nat.ne_of_gt ll)
      fun g tk U k => ⟨rfl, g, tk, rfl, U, fun b o e => k b o (Nat.ne_of_lt (Heap.lt_size e)) (Heap.get?_push_of_some _ e)⟩
    refine codeAny_call_builtin PySem.F.called_set.init.plain PySem.F.entry_set_init (check_set_init_1 ty (wpAny_mono body (fun r z hr => ?_) (fun e z he => he)))
    obtain ⟨v, rfl, rfl, g, tk, rfl, U, k⟩ := hr
    repeat (any_goals (first | assumption | wp_step))
    exact fin g tk U k
  | _ => exact hr.elim
end
def tLenSetN (K : PySem.W.Frag) (ta : TE) : TE := fun σ H Q => ta σ H fun x H1 => ∃ l, ∃ xs : List Str, x = .ref l ∧ SqL K H1 l (xs.map V.str) ∧ xs.length + 1 < scanBound ∧ ∀ c : Nat, c ≤ xs.length → (c = xs.length ↔ xs.Nodup) → Q (.int c) H1
section
variable {X : Cx}
theorem pe_lenSetN {a : Expr} {ta : TE} {p p2 q pos : Pos} (hc : X.calm = true) (hg : Gl X "len") (hm : X.mg "len" = none) (hg2 : Gl X "set") (hm2 : X.mg "set" = none) (ha : PE X a ta)
    (na : starEach [a] X.env = (false, eval a X.env) :: starEach [] X.env := by rfl) : PE X (.Call (.Name "len" p) [.Call (.Name "set" p2) [a] [] q] [] pos) (tLenSetN X.K ta) := by
  refine ⟨fun pins s σ H Q I h => Call_ (ld_blt I hg hm boot_len (PyProof.Rows.callWith_builtin1 (PyProof.Rows.args_cons (Call_ (ld_blt I hg2 hm2 boot_set ?_)) rfl) rfl rfl))⟩
  refine PyProof.Rows.callWith_type1 (PyProof.Rows.args_cons (thn (ha.run pins s σ H _ I h) fun v z ⟨x, H1, J, r, t⟩ => PyProof.Rows.args_nil ?_) na) na rfl
  obtain ⟨l, xs, rfl, hq, few, t⟩ := t
  cases r
  obtain ⟨its, rv, pl, _⟩ := J.list hq
  have hl : its.toArray.size = xs.length := by rw [List.size_toArray, ← rv.length, List.length_map]
  refine set_texts (J.ok.hd hc) pl.isList hl few (fun i v hv => ?_) fun g tk U k => PyProof.Rows.args_nil ?_
  · have hi : i < xs.length := by rw [← hl]; exact (Array.getElem?_eq_some_iff.mp hv).1
    have hx := List.getElem?_eq_getElem hi
    obtain ⟨u, hu, t, rfl⟩ := rv.get (i := i) (x := .str xs[i]) (by rw [List.getElem?_map, hx]; rfl)
    rw [List.getElem?_toArray, hu] at hv
    exact ⟨xs[i], t, hx, (Option.some.inj hv).symm⟩
  · obtain ⟨c, hc, hd, o, es, ep, tb, ho, he, hd2, _, _, _, hf, hs⟩ := U
    rw [List.take_length] at hd
    have J2 : Inv X pins σ H1 { z with heap := g, toks := tk } := J.kept k
    refine call_len_set ho he hd2 hf (by rw [hs]; unfold scanBound at few; omega) ⟨.int c, H1, J2.tok _, ⟨_, by rw [hs]⟩, t c hc hd⟩
end
/-! ### comprehensions over a list -/
/-- what stands behind the source of a comprehension -/
def LcL (K : PySem.W.Frag) (a : Addr) (c : Nat) (te : TE) (σ : L2.St) (H1 : Hp) (Q : VK) : Prop := ∀ D, H1 D = none → ∃ W : Nat → Nat → Hp → Prop, (∃ m, W 0 m (upd H1 D (.lst []))) ∧ ∀ i m H, W i m H →
  ((Itl K a).stop i H ∧ Q (.ref D) H) ∨ ((Itl K a).go i H ∧ ∃ Nx : Hp → Prop, (∀ H', Nx H' → ∃ m', m' < m ∧ W (i + 1) m' H') ∧ ∀ x H', (Itl K a).yld i H x H' → gName c x (wipe σ [c]) H' fun σ2 H2 => wipe σ2 [c] = wipe σ [c] ∧ tYes σ2 H2 fun b H3 =>
    if b = true then te σ2 H3 fun y H4 => ∃ acc, H4 D = some (.lst acc) ∧ acc.length < sizeLine ∧ Nx (upd H4 D (.lst (acc ++ [y]))) else Nx H3)
theorem lc_src {K : PySem.W.Frag} {ts te : TE} {c : Nat} {σ : L2.St} {H : Hp} {Q : VK} (h : ts σ H fun x H1 => ∃ a, x = .ref a ∧ (∃ xs, SqL K H1 a xs) ∧ LcL K a c te σ H1 Q) : tLc (iList K ts) (gName c) tYes te [c] σ H Q := h
/-- each value turned into a value -/
theorem lcL_vals {K : PySem.W.Frag} {a : Addr} {c : Nat} {te : TE} {σ : L2.St} {H : Hp} {Q : VK} {xs : List V} {f : Nat → V} (hx : H a = some (.lst xs)) (hn : xs.length ≤ 900) (hc : c < σ.length)
    (ht : ∀ i x H2 (Q1 : VK), xs[i]? = some x → Same H H2 → (∀ H3, Same H2 H3 → Q1 (f i) H3) → te ((σ.set c none).set c (some x)) H2 Q1)
    (q : ∀ D H', Same H H' → H D = none → H' D = some (.lst ((List.range xs.length).map f)) → Q (.ref D) H') : LcL K a c te σ H Q := fun D hD => by
  refine lc_list (K := K) (a := a) (xs := xs) (fun i H' => Same H H' ∧ H' D = some (.lst ((List.range i).map f))) ⟨upd_keep hD, upd_same⟩ (fun i H' _ ⟨s, _⟩ => .of (s _ _ hx)) ?_ ?_
  · rintro i x H' hi ⟨sm, eD⟩
    have hin := (List.getElem?_eq_some_iff.mp hi).1
    refine ⟨?_, ?_⟩
    · show ((σ.set c none).set c (some x)).set c none = σ.set c none
      rw [List.set_set, List.set_set]
    refine ht i x H' _ hi sm fun H3 s3 => ?_
    refine ⟨(List.range i).map f, s3 _ _ eD, by rw [List.length_map, List.length_range]; exact small1000 (by omega), same_updN hD (sm.trans s3), ?_⟩
    rw [upd_same, List.range_succ, List.map_append]
    rfl
  · rintro H' ⟨sm, eD⟩
    exact q D H' sm hD eD
/-- each value turned into a new object -/
theorem lcL_objs {K : PySem.W.Frag} {a : Addr} {c : Nat} {te : TE} {σ : L2.St} {H : Hp} {Q : VK} {xs : List V} {Pr : Nat → HO → Prop} (hx : H a = some (.lst xs)) (hn : xs.length ≤ 900) (hc : c < σ.length)
    (ht : ∀ i x H2 (Q1 : VK), xs[i]? = some x → Same H H2 → (∀ r o H3, Same H2 H3 → H2 r = none → H3 r = some o → Pr i o → Q1 (.ref r) H3) → te ((σ.set c none).set c (some x)) H2 Q1)
    (q : ∀ D (as : List Addr) H', Same H H' → H D = none → H' D = some (.lst (as.map V.ref)) → as.length = xs.length → as.Nodup → (∀ a ∈ as, H a = none) → (∀ (i : Nat) (a : Addr), as[i]? = some a → ∃ o, H' a = some o ∧ Pr i o) → Q (.ref D) H') : LcL K a c te σ H Q := fun D hD => by
  refine lc_list (K := K) (a := a) (xs := xs) (fun i H' => ∃ as' : List Addr, Same H H' ∧ H' D = some (.lst (as'.map V.ref)) ∧ as'.length = i ∧ as'.Nodup ∧ (∀ a ∈ as', H a = none ∧ a ≠ D) ∧ ∀ (j : Nat) (a : Addr), as'[j]? = some a → ∃ o, H' a = some o ∧ Pr j o)
    ⟨[], upd_keep hD, upd_same, rfl, List.nodup_nil, (fun a h => by cases h), (fun j a h => by cases h)⟩ (fun i H' _ ⟨_, s, _⟩ => .of (s _ _ hx)) ?_ ?_
  · rintro i x H' hi ⟨as', sm, eD, hl, nd, hf, hr⟩
    have hin := (List.getElem?_eq_some_iff.mp hi).1
    refine ⟨?_, ?_⟩
    · show ((σ.set c none).set c (some x)).set c none = σ.set c none
      rw [List.set_set, List.set_set]
    refine ht i x H' _ hi sm fun l o H2 s2 fl e2 po => ?_
    have nD : l ≠ D := fun e => by rw [e, eD] at fl; cases fl
    have nl : l ∉ as' := fun hm => by
      obtain ⟨j, hj, e⟩ := List.mem_iff_getElem.mp hm
      obtain ⟨o', h', _⟩ := hr j l (by rw [List.getElem?_eq_getElem hj, e])
      rw [fl] at h'; cases h'
    refine ⟨as'.map V.ref, s2 _ _ eD, by rw [List.length_map, hl]; exact small1000 (by omega), as' ++ [l], same_updN hD (sm.trans s2), ?_, by simp [hl], ?_, ?_, ?_⟩
    · rw [upd_same, List.map_append]; rfl
    · rw [List.nodup_append]
      refine ⟨nd, by simp, fun a ha b hb e => ?_⟩
      have : b = l := by simpa using hb
      exact nl (by rw [← this, ← e]; exact ha)
    · intro a ha
      rcases List.mem_append.mp ha with h | h
      · exact hf a h
      · have : a = l := by simpa using h
        subst this
        exact ⟨sm.free fl, nD⟩
    · intro j a hj
      by_cases c1 : j < as'.length
      · rw [List.getElem?_append_left c1] at hj
        rw [upd_ne (hf a (List.mem_of_getElem? hj)).2]
        obtain ⟨o', h', p'⟩ := hr j a hj
        exact ⟨o', s2 _ _ h', p'⟩
      · have hlt := (List.getElem?_eq_some_iff.mp hj).1
        rw [List.length_append, List.length_singleton] at hlt
        obtain rfl : j = as'.length := by omega
        rw [List.getElem?_append_right (Nat.le_refl _), Nat.sub_self] at hj
        have : l = a := by simpa using hj
        subst this
        rw [upd_ne nD, hl]
        exact ⟨o, e2, po⟩
  · rintro H' ⟨as', sm, eD, hl, nd, hf, hr⟩
    exact q D as' H' sm hD eD hl nd (fun a ha => (hf a ha).1) hr
/-- each value turned into a tuple -/
theorem lcL_tups {K : PySem.W.Frag} {a : Addr} {c : Nat} {te : TE} {σ : L2.St} {H : Hp} {Q : VK} {xs : List V} {Pr : Nat → List V → Prop} (hx : H a = some (.lst xs)) (hn : xs.length ≤ 900) (hc : c < σ.length)
    (ht : ∀ i x H2 (Q1 : VK), xs[i]? = some x → Same H H2 → (∀ r o H3, Same H2 H3 → H3 r = some (.tup o) → Pr i o → Q1 (.ref r) H3) → te ((σ.set c none).set c (some x)) H2 Q1)
    (q : ∀ D (as : List Addr) H', Same H H' → H D = none → H' D = some (.lst (as.map V.ref)) → as.length = xs.length → (∀ (i : Nat) (a : Addr), as[i]? = some a → ∃ o, H' a = some (.tup o) ∧ Pr i o) → Q (.ref D) H') : LcL K a c te σ H Q := fun D hD => by
  refine lc_list (K := K) (a := a) (xs := xs) (fun i H' => ∃ as' : List Addr, Same H H' ∧ H' D = some (.lst (as'.map V.ref)) ∧ as'.length = i ∧ ∀ (j : Nat) (a : Addr), as'[j]? = some a → ∃ o, H' a = some (.tup o) ∧ Pr j o)
    ⟨[], upd_keep hD, upd_same, rfl, (fun j a h => by cases h)⟩ (fun i H' _ ⟨_, s, _⟩ => .of (s _ _ hx)) ?_ ?_
  · rintro i x H' hi ⟨as', sm, eD, hl, hr⟩
    have hin := (List.getElem?_eq_some_iff.mp hi).1
    refine ⟨?_, ?_⟩
    · show ((σ.set c none).set c (some x)).set c none = σ.set c none
      rw [List.set_set, List.set_set]
    refine ht i x H' _ hi sm fun l o H2 s2 e2 po => ?_
    have eD2 := s2 _ _ eD
    refine ⟨as'.map V.ref, eD2, by rw [List.length_map, hl]; exact small1000 (by omega), as' ++ [l], same_updN hD (sm.trans s2), ?_, by simp [hl], ?_⟩
    · rw [upd_same, List.map_append]; rfl
    · intro j a hj
      by_cases c1 : j < as'.length
      · rw [List.getElem?_append_left c1] at hj
        obtain ⟨o', h', p'⟩ := hr j a hj
        refine ⟨o', ?_, p'⟩
        have h2 := s2 _ _ h'
        rw [upd_ne (ne_of h2 eD2 (by intro z; cases z))]; exact h2
      · have hlt := (List.getElem?_eq_some_iff.mp hj).1
        rw [List.length_append, List.length_singleton] at hlt
        obtain rfl : j = as'.length := by omega
        rw [List.getElem?_append_right (Nat.le_refl _), Nat.sub_self] at hj
        have : l = a := by simpa using hj
        subst this
        rw [upd_ne (ne_of e2 eD2 (by intro z; cases z)), hl]
        exact ⟨o, e2, po⟩
  · rintro H' ⟨as', sm, eD, hl, hr⟩
    exact q D as' H' sm hD eD hl hr
/-! ### looks, guards, rooms, doors, machines on the heap -/
theorem tFor_str {te : TE} {g : TG} {tb : TS} {D : Ends} {σ : L2.St} {H : Hp} (h : te σ H fun x H1 => ∃ z : Str, x = .str z ∧ ∃ Pv : Nat → L2.St → Hp → Prop, Pv 0 σ H1 ∧
    (∀ i σ H c, z.cps.toList[i]? = some c → Pv i σ H → g (.str ⟨#[c]⟩) σ H fun σ2 H2 => tb { D with nx := Pv (i + 1), ct := Pv (i + 1), bk := D.nx } σ2 H2) ∧ ∀ σ H, Pv z.cps.toList.length σ H → D.nx σ H) (mono : ∀ (Q R : VK), (∀ v H, Q v H → R v H) → te σ H Q → te σ H R) : tFor (iStr te) g tb D σ H := by
  refine mono _ _ (fun v H1 ⟨z, hz, Pv, h0, hs, hd⟩ => ⟨z, hz, fun i m σ H => m = z.cps.toList.length - i ∧ i ≤ z.cps.toList.length ∧ Pv i σ H, ⟨_, rfl, Nat.zero_le _, h0⟩, ?_⟩) h
  rintro i m σ H ⟨rfl, hi, p⟩
  rw [Array.length_toList] at hi
  by_cases c : i < z.cps.size
  · refine .inr ⟨c, Pv (i + 1), fun σ' H' p' => ⟨z.cps.toList.length - (i + 1), by rw [Array.length_toList]; omega, rfl, by rw [Array.length_toList]; omega, p'⟩, ?_⟩
    rintro x H' ⟨rfl, c, hc, rfl⟩
    exact hs i σ H' c (by rw [Array.getElem?_toList]; exact hc) p
  · have e : i = z.cps.toList.length := by rw [Array.length_toList]; omega
    exact .inl ⟨by show z.cps.size ≤ i; omega, hd σ H (e ▸ p)⟩
/-- a text's look by its signs: one to most of some signs -/
def okT (x signs : Str) (most : Int) : Bool := decide (1 ≤ (x.length : Int)) && decide ((x.length : Int) ≤ most) && x.cps.toList.all fun c => decide (c ∈ signs.cps.toList)
abbrev letters : Str := "abcdefghijklmnopqrstuvwxyz"
def okName (x : Str) : Bool := okT x letters 8
def okWatch (x : Str) : Bool := decide (x = "/") || okName x
def okSign (x : Str) : Bool := decide (x = "") || (match x.cps.toList.getLast? with | some c => decide (c ∈ ("!?" : Str).cps.toList) && okName (cutS x none (some (-1))) | none => false)
/-- a look as it is told: a watch, a word, some value -/
abbrev Lq := Str × Str × V
/-- flat values with their kind -/
def kindV : V → Option String
  | .non => some "NoneType"
  | .bl _ => some "bool"
  | .int _ => some "int"
  | .str _ => some "str"
  | _ => none
def numOk : V → Bool
  | .int n => decide (0 ≤ n)
  | _ => false
def lookOk (ws watches : List Str) (l : Lq) : Bool := decide (l.1 ∈ watches) && decide (l.2.1 ∈ ws) && numOk l.2.2
def lookD : V → PyData
  | .bl b => .bool b
  | .int i => .int i
  | .str x => .str x
  | _ => .none
def LqAt (H : Hp) (q : Addr) (l : Lq) : Prop := H q = some (.tup [.str l.1, .str l.2.1, l.2.2]) ∧ (kindV l.2.2).isSome = true
/-- a list of things at new or old addresses -/
def SeqOf {α : Type} (R : Hp → Addr → α → Prop) (H : Hp) (p : Addr) (xs : List α) : Prop := ∃ qs : List Addr, H p = some (.lst (qs.map V.ref)) ∧ qs.length = xs.length ∧ ∀ (i : Nat) (q : Addr) (x : α), qs[i]? = some q → xs[i]? = some x → R H q x
theorem SeqOf.keep {α : Type} {R : Hp → Addr → α → Prop} {H H' : Hp} {p : Addr} {xs : List α} (k : ∀ q x, R H q x → R H' q x) (s : Same H H') (h : SeqOf R H p xs) : SeqOf R H' p xs := by
  obtain ⟨qs, a, b, c⟩ := h
  exact ⟨qs, s _ _ a, b, fun i q x h1 h2 => k q x (c i q x h1 h2)⟩
theorem LqAt.keep {H H' : Hp} {q : Addr} {l : Lq} (s : Same H H') (h : LqAt H q l) : LqAt H' q l := ⟨s _ _ h.1, h.2⟩
abbrev LsAt (H : Hp) (p : Addr) (ls : List Lq) : Prop := SeqOf LqAt H p ls
theorem LsAt.keep {H H' : Hp} {p : Addr} {ls : List Lq} (h : LsAt H p ls) (s : Same H H') : LsAt H' p ls := SeqOf.keep (fun _ _ => LqAt.keep s) s h
/-- a room with its stay; a mark -/
abbrev Rq := Str × List Lq
def RqAt (H : Hp) (q : Addr) (r : Rq) : Prop := ∃ g, H q = some (.tup [.str r.1, .ref g]) ∧ LsAt H g r.2
theorem RqAt.keep {H H' : Hp} {q : Addr} {r : Rq} (s : Same H H') (h : RqAt H q r) : RqAt H' q r := by
  obtain ⟨g, a, b⟩ := h
  exact ⟨g, s _ _ a, b.keep s⟩
abbrev RsAt (H : Hp) (p : Addr) (rs : List Rq) : Prop := SeqOf RqAt H p rs
theorem RsAt.keep {H H' : Hp} {p : Addr} {rs : List Rq} (h : RsAt H p rs) (s : Same H H') : RsAt H' p rs := SeqOf.keep (fun _ _ => RqAt.keep s) s h
structure DoorD where
  st : Str
  en : Str
  sg : Str
  looks : List Lq
  backs : List Str
def doorF (st en sg : Str) (g n : Addr) : List (Str × V) := putF "backs" (.ref n) (putF "looks" (.ref g) (putF "sign" (.str sg) (putF "end" (.str en) (putF "start" (.str st) []))))
def DoorAt (C : Addr) (H : Hp) (p : Addr) (d : DoorD) : Prop := ∃ dx g n, H p = some (.ins C dx (doorF d.st d.en d.sg g n)) ∧ LsAt H g d.looks ∧ H n = some (.lst (d.backs.map V.str))
theorem DoorAt.keep {C : Addr} {H H' : Hp} {p : Addr} {d : DoorD} (s : Same H H') (h : DoorAt C H p d) : DoorAt C H' p d := by
  obtain ⟨dx, g, n, a, b, c⟩ := h
  exact ⟨dx, g, n, s _ _ a, b.keep s, s _ _ c⟩
abbrev DsAt (C : Addr) (H : Hp) (p : Addr) (ds : List DoorD) : Prop := SeqOf (DoorAt C) H p ds
theorem DsAt.keep {C : Addr} {H H' : Hp} {p : Addr} {ds : List DoorD} (h : DsAt C H p ds) (s : Same H H') : DsAt C H' p ds := SeqOf.keep (fun _ _ => DoorAt.keep s) s h
local macro_rules | `(tactic| walk_at "lk") => `(tactic| repeat (first | rw [lookup_putF, if_pos rfl] | rw [lookup_putF, if_neg (by decide +kernel)]))
section
variable {st en sg : Str} {g n : Addr}
theorem door_start : (doorF st en sg g n).lookup ("start" : Str) = some (V.str st) := by unfold doorF; walk_at "lk"
theorem door_end : (doorF st en sg g n).lookup ("end" : Str) = some (V.str en) := by unfold doorF; walk_at "lk"
theorem door_sign : (doorF st en sg g n).lookup ("sign" : Str) = some (V.str sg) := by unfold doorF; walk_at "lk"
theorem door_looks : (doorF st en sg g n).lookup ("looks" : Str) = some (V.ref g) := by unfold doorF; walk_at "lk"
theorem door_backs : (doorF st en sg g n).lookup ("backs" : Str) = some (V.ref n) := by unfold doorF; walk_at "lk"
theorem door_no {m : Str} (h1 : ¬ m = "start") (h2 : ¬ m = "end") (h3 : ¬ m = "sign") (h4 : ¬ m = "looks") (h5 : ¬ m = "backs") : (doorF st en sg g n).lookup m = none := by
  unfold doorF
  rw [lookup_putF, if_neg h5, lookup_putF, if_neg h4, lookup_putF, if_neg h3, lookup_putF, if_neg h2, lookup_putF, if_neg h1]; rfl
end
structure MachD where
  watches : List Str
  rooms : List Rq
  doors : List DoorD
def machF (wn rn sl dl : Addr) : List (Str × V) := putF "door_list" (.ref dl) (putF "stay_looks" (.ref sl) (putF "room_names" (.ref rn) (putF "watch_names" (.ref wn) [])))
def MachAt (CM CD : Addr) (H : Hp) (p : Addr) (M : MachD) : Prop := ∃ dx wn rn sl dl, H p = some (.ins CM dx (machF wn rn sl dl)) ∧ H wn = some (.lst (M.watches.map V.str)) ∧ H rn = some (.lst ((M.rooms.map (·.1)).map V.str)) ∧ SeqOf LsAt H sl (M.rooms.map (·.2)) ∧ DsAt CD H dl M.doors
theorem MachAt.keep {CM CD : Addr} {H H' : Hp} {p : Addr} {M : MachD} (s : Same H H') (h : MachAt CM CD H p M) : MachAt CM CD H' p M := by
  obtain ⟨dx, wn, rn, sl, dl, a, b, c, d, e⟩ := h
  exact ⟨dx, wn, rn, sl, dl, s _ _ a, s _ _ b, s _ _ c, SeqOf.keep (fun _ _ h => LsAt.keep h s) s d, e.keep s⟩
section
variable {wn rn sl dl : Addr}
theorem mach_watch : (machF wn rn sl dl).lookup ("watch_names" : Str) = some (V.ref wn) := by unfold machF; walk_at "lk"
theorem mach_room : (machF wn rn sl dl).lookup ("room_names" : Str) = some (V.ref rn) := by unfold machF; walk_at "lk"
theorem mach_stay : (machF wn rn sl dl).lookup ("stay_looks" : Str) = some (V.ref sl) := by unfold machF; walk_at "lk"
theorem mach_door : (machF wn rn sl dl).lookup ("door_list" : Str) = some (V.ref dl) := by unfold machF; walk_at "lk"
theorem mach_no {m : Str} (h1 : ¬ m = "watch_names") (h2 : ¬ m = "room_names") (h3 : ¬ m = "stay_looks") (h4 : ¬ m = "door_list") : (machF wn rn sl dl).lookup m = none := by
  unfold machF
  rw [lookup_putF, if_neg h4, lookup_putF, if_neg h3, lookup_putF, if_neg h2, lookup_putF, if_neg h1]; rfl
end
def guardOk (ws watches : List Str) (ls : List Lq) : Bool := ls.all (lookOk ws watches)
def roomOk (watches : List Str) (r : Rq) : Bool := okT r.1 (letters ++ ("/" : Str)) 60 && guardOk ["<", "<="] watches r.2
def doorOk (watches names : List Str) (d : DoorD) : Bool :=
  okSign d.sg && decide (d.st ∈ names) && decide (d.en ∈ names) && guardOk ["<", "<=", ">", ">=", "="] watches d.looks && d.backs.all (fun b => decide (b ∈ watches)) && decide d.backs.Nodup
theorem inV_str {a : Str} {xs : List Str} : inV (.str a) (xs.map V.str) = decide (a ∈ xs) := by
  unfold inV
  rw [List.any_map, Bool.eq_iff_iff, List.any_eq_true, decide_eq_true_iff]
  constructor
  · rintro ⟨y, hy, e⟩
    have : y = a := by simpa [eqV] using e
    exact this ▸ hy
  · intro h
    exact ⟨a, h, by simp [eqV]⟩
theorem flat_of {xs : List Str} : (xs.map V.str).all flatV = true := L2.flat_strs xs
theorem ty_kind {K : PySem.W.Frag} {H : Hp} {v : V} (h : (kindV v).isSome = true) : ∃ t, t ∈ kinds ∧ TyX K H v (.type t) ∧ (t = "int" ↔ ∃ n, v = .int n) := by
  cases v with
  | non => exact ⟨_, by decide, .base .non, by simp⟩
  | bl b => exact ⟨_, by decide, .base (.bl b), by simp⟩
  | int i => exact ⟨_, by decide, .base (.int i), by simp⟩
  | str x => exact ⟨_, by decide, .base (.str x), by simp⟩
  | _ => cases h
def pick {α : Type} (ls : List α) (g : α → V) (d : V) (i : Nat) : V := match ls[i]? with | some l => g l | none => d
theorem pick_at {α : Type} {ls : List α} {g : α → V} {d : V} {i : Nat} {l : α} (h : ls[i]? = some l) : pick ls g d i = g l := by unfold pick; rw [h]
theorem range_map {α : Type} (ls : List α) (g : α → V) (d : V) : (List.range ls.length).map (pick ls g d) = ls.map g := by
  refine List.ext_getElem? fun k => ?_
  rw [List.getElem?_map, List.getElem?_map]
  by_cases h : k < ls.length
  · rw [List.getElem?_range h, List.getElem?_eq_getElem h]
    exact congrArg some (pick_at (List.getElem?_eq_getElem h))
  · rw [List.getElem?_eq_none (by rw [List.length_range]; omega), List.getElem?_eq_none (by omega)]; rfl
/-! ### looks and rooms as data -/
def ldat (l : Lq) : PyData := .tuple [.str l.1, .str l.2.1, lookD l.2.2]
def rdat (r : Rq) : PyData := .tuple [.str r.1, .list (r.2.map ldat)]
def TxOk (x : Str) : Prop := PyData.canLay0 (.str x) = true
def LqOk (l : Lq) : Prop := TxOk l.1 ∧ TxOk l.2.1 ∧ PyData.canLay0 (lookD l.2.2) = true
def RqOk (r : Rq) : Prop := TxOk r.1 ∧ ∀ l ∈ r.2, LqOk l
theorem lay_listM {ds : List PyData} {k : Nat} (h : ∀ d ∈ ds, d.canLay0 = true ∧ d.depth ≤ k) : (PyData.list ds).canLay0 = true ∧ (PyData.list ds).depth ≤ k + 1 := by
  have key : ∀ ds : List PyData, (∀ d ∈ ds, d.canLay0 = true ∧ d.depth ≤ k) → PyData.canLayAll0 ds = true ∧ PyData.depthAll ds ≤ k := by
    intro ds
    induction ds with
    | nil => intro _; exact ⟨rfl, Nat.zero_le _⟩
    | cons d ds ih =>
      intro h
      have h1 := h d (List.mem_cons_self ..)
      have h2 := ih fun x hx => h x (List.mem_cons_of_mem _ hx)
      refine ⟨by show (d.canLay0 && PyData.canLayAll0 ds) = true; rw [h1.1, h2.1]; rfl, ?_⟩
      show max d.depth (PyData.depthAll ds) ≤ k
      omega
  have z := key ds h
  exact ⟨z.1, by show PyData.depthAll ds + 1 ≤ k + 1; omega⟩
theorem lay_tup {ds : List PyData} {k : Nat} (h : ∀ d ∈ ds, d.canLay0 = true ∧ d.depth ≤ k) : (PyData.tuple ds).canLay0 = true ∧ (PyData.tuple ds).depth ≤ k + 1 := lay_listM h
theorem lay_flat {v : V} (h : PyData.canLay0 (lookD v) = true) : (lookD v).canLay0 = true ∧ (lookD v).depth ≤ 1 := ⟨h, by cases v <;> exact Nat.zero_le _⟩
theorem lay_str {x : Str} (h : TxOk x) : (PyData.str x).canLay0 = true ∧ (PyData.str x).depth ≤ 1 := ⟨h, Nat.zero_le _⟩
theorem lay_ldat {l : Lq} (h : LqOk l) : (ldat l).canLay0 = true ∧ (ldat l).depth ≤ 2 := lay_tup (k := 1) fun d hd => by
  simp only [List.mem_cons, List.not_mem_nil, or_false] at hd
  rcases hd with rfl | rfl | rfl
  · exact lay_str h.1
  · exact lay_str h.2.1
  · exact lay_flat h.2.2
theorem lay_ldats {ls : List Lq} (h : ∀ l ∈ ls, LqOk l) : (PyData.list (ls.map ldat)).canLay0 = true ∧ (PyData.list (ls.map ldat)).depth ≤ 3 := lay_listM fun d hd => by
  obtain ⟨l, hl, rfl⟩ := List.mem_map.mp hd
  exact lay_ldat (h l hl)
theorem lay_rdat {r : Rq} (h : RqOk r) : (rdat r).canLay0 = true ∧ (rdat r).depth ≤ 4 := lay_tup (k := 3) fun d hd => by
  simp only [List.mem_cons, List.not_mem_nil, or_false] at hd
  rcases hd with rfl | rfl
  · exact ⟨(lay_str h.1).1, Nat.le_trans (lay_str h.1).2 (by decide)⟩
  · exact lay_ldats h.2
theorem lay_rdats {rs : List Rq} (h : ∀ r ∈ rs, RqOk r) : (PyData.list (rs.map rdat)).canLay0 = true ∧ (PyData.list (rs.map rdat)).depth ≤ 5 := lay_listM fun d hd => by
  obtain ⟨l, hl, rfl⟩ := List.mem_map.mp hd
  exact lay_rdat (h l hl)
theorem shaped_ls {ls : List Lq} (h : ∀ l ∈ ls, LqOk l) : SeqAt.shaped (.list (ls.map ldat)) = true := Bool.and_eq_true_iff.mpr ⟨(lay_ldats h).1, decide_eq_true (by have := (lay_ldats h).2; omega)⟩
theorem shaped_rs {rs : List Rq} (h : ∀ r ∈ rs, RqOk r) : SeqAt.shaped (.list (rs.map rdat)) = true := Bool.and_eq_true_iff.mpr ⟨(lay_rdats h).1, decide_eq_true (by have := (lay_rdats h).2; omega)⟩
theorem shaped_xs {xs : List Str} (h : ∀ x ∈ xs, TxOk x) : SeqAt.shaped (.list (xs.map PyData.str)) = true := shaped_list fun d hd => by
  obtain ⟨x, hx, rfl⟩ := List.mem_map.mp hd
  exact ⟨h x hx, Nat.zero_le _⟩
section
variable {K : PySem.W.Frag} {H : Hp} {p : Addr}
theorem dp_flat {v : V} (h : (kindV v).isSome = true) : Dp K H v (lookD v) := by
  cases v with
  | non => exact .non
  | bl b => exact .bl b
  | int i => exact .int i
  | str x => exact .str x
  | _ => cases h
theorem dp_seq {α : Type} {R : Hp → Addr → α → Prop} {g : α → PyData} (k : ∀ q x, R H q x → Dp K H (.ref q) (g x)) {xs : List α} (h : SeqOf R H p xs) : Dp K H (.ref p) (.list (xs.map g)) := by
  obtain ⟨qs, a, b, c⟩ := h
  refine .lst (.of a) (dpall_of (by simp [b]) fun i v d h1 h2 => ?_)
  rw [List.getElem?_map] at h1 h2
  obtain ⟨q, hq, rfl⟩ := Option.map_eq_some_iff.mp h1
  obtain ⟨x, hx, rfl⟩ := Option.map_eq_some_iff.mp h2
  exact k q x (c i q x hq hx)
theorem dp_ls {ls : List Lq} (h : LsAt H p ls) : Dp K H (.ref p) (.list (ls.map ldat)) := dp_seq (fun q l h => .tup (.of h.1) (.cons (.str _) (.cons (.str _) (.cons (dp_flat h.2) .nil)))) h
theorem dp_rs {rs : List Rq} (h : RsAt H p rs) : Dp K H (.ref p) (.list (rs.map rdat)) := dp_seq (fun q r ⟨g, h1, h2⟩ => .tup (.of h1) (.cons (.str _) (.cons (dp_ls h2) .nil))) h
end
theorem ints_dp {K : PySem.W.Frag} {H : Hp} {p : Addr} {xs : List Int} (h : H p = some (.lst (xs.map V.int))) : Dp K H (.ref p) (.list (xs.map PyData.int)) :=
  .lst (.of h) (dpall_of (by simp) fun k v d h1 h2 => by
    rw [List.getElem?_map] at h1 h2
    obtain ⟨x, hx, rfl⟩ := Option.map_eq_some_iff.mp h1
    rw [hx] at h2; cases h2
    exact .int x)
theorem lay_ints (xs : List Int) : (PyData.list (xs.map PyData.int)).canLay0 = true ∧ (PyData.list (xs.map PyData.int)).depth ≤ 2 := lay_listM fun d hd => by
  obtain ⟨x, _, rfl⟩ := List.mem_map.mp hd
  exact ⟨rfl, Nat.zero_le _⟩
theorem shaped_ints (xs : List Int) : SeqAt.shaped (.list (xs.map PyData.int)) = true := Bool.and_eq_true_iff.mpr ⟨(lay_ints xs).1, decide_eq_true (by have := (lay_ints xs).2; omega)⟩
/-! ### comprehensions over a list: any target, a test, new objects -/
def LcG (K : PySem.W.Frag) (a : Addr) (g : TG) (tt : TT) (te : TE) (vs : List Nat) (σ : L2.St) (H1 : Hp) (Q : VK) : Prop := ∀ D, H1 D = none → ∃ W : Nat → Nat → Hp → Prop, (∃ m, W 0 m (upd H1 D (.lst []))) ∧ ∀ i m H, W i m H →
  ((Itl K a).stop i H ∧ Q (.ref D) H) ∨ ((Itl K a).go i H ∧ ∃ Nx : Hp → Prop, (∀ H', Nx H' → ∃ m', m' < m ∧ W (i + 1) m' H') ∧ ∀ x H', (Itl K a).yld i H x H' → g x (wipe σ vs) H' fun σ2 H2 => wipe σ2 vs = wipe σ vs ∧ tt σ2 H2 fun b H3 =>
    if b = true then te σ2 H3 fun y H4 => ∃ acc, H4 D = some (.lst acc) ∧ acc.length < sizeLine ∧ Nx (upd H4 D (.lst (acc ++ [y]))) else Nx H3)
theorem lcg_src {K : PySem.W.Frag} {ts te : TE} {g : TG} {tt : TT} {vs : List Nat} {σ : L2.St} {H : Hp} {Q : VK} (h : ts σ H fun x H1 => ∃ a, x = .ref a ∧ (∃ xs, SqL K H1 a xs) ∧ LcG K a g tt te vs σ H1 Q) : tLc (iList K ts) g tt te vs σ H Q := h
/-- H3 without what is new between H and H2 -/
noncomputable def cutH (H H2 H3 : Hp) : Hp := open Classical in fun b => if H b = none ∧ H2 b ≠ none then none else H3 b
theorem cut_same {H H2 H3 : Hp} (s : Same H H3) : Same H (cutH H H2 H3) := fun b o e => by
  unfold cutH; rw [if_neg (fun z => by rw [e] at z; cases z.1)]; exact s _ _ e
theorem cut_new {H H2 H3 : Hp} {r : Addr} {o : HO} (f : H2 r = none) (e : H3 r = some o) : cutH H H2 H3 r = some o := by
  unfold cutH; rw [if_neg (fun z => z.2 f)]; exact e
theorem cut_sub {H H2 H3 : Hp} : Same (cutH H H2 H3) H3 := fun b o e => by
  unfold cutH at e; split at e
  · cases e
  · exact e
open Classical in
noncomputable def delH (D : Addr) (H : Hp) : Hp := fun b => if b = D then none else H b
theorem del_at {D : Addr} {H : Hp} {b : Addr} {o : HO} (n : b ≠ D) (e : H b = some o) : delH D H b = some o := by unfold delH; rw [if_neg n]; exact e
theorem del_of {D : Addr} {H : Hp} {b : Addr} {o : HO} (e : delH D H b = some o) : b ≠ D ∧ H b = some o := by
  unfold delH at e
  by_cases h : b = D
  · rw [if_pos h] at e; cases e
  · rw [if_neg h] at e; exact ⟨h, e⟩
theorem cut_del {D : Addr} {H H2 H3 : Hp} {o : HO} (f : H D = none) (e : H2 D = some o) : Same (cutH H H2 H3) (delH D H3) := fun b o' h => by
  have hb : b ≠ D := fun z => by
    unfold cutH at h
    rw [z, if_pos ⟨f, by rw [e]; simp⟩] at h
    cases h
  exact del_at hb (cut_sub _ _ h)
def SeqV {α : Type} (R : Hp → V → α → Prop) (H : Hp) (p : Addr) (xs : List α) : Prop := ∃ ys : List V, H p = some (.lst ys) ∧ ys.length = xs.length ∧ ∀ (i : Nat) (y : V) (x : α), ys[i]? = some y → xs[i]? = some x → R H y x
/-- a list of new things that is still being made: what they are stands without it -/
def SeqD {α : Type} (R : Hp → Addr → α → Prop) (H : Hp) (p : Addr) (xs : List α) : Prop := ∃ qs : List Addr, H p = some (.lst (qs.map V.ref)) ∧ qs.length = xs.length ∧ ∀ (i : Nat) (q : Addr) (x : α), qs[i]? = some q → xs[i]? = some x → R (delH p H) q x
theorem del_same {p : Addr} {H H' : Hp} (s : Same H H') : Same (delH p H) (delH p H') := fun b o e => by
  have := del_of e
  exact del_at this.1 (s _ _ this.2)
theorem del_sub {p : Addr} {H : Hp} : Same (delH p H) H := fun b o e => (del_of e).2
theorem del_upd {p : Addr} {H : Hp} {o : HO} : Same (delH p H) (delH p (upd H p o)) := fun b o' e => by
  have := del_of e
  exact del_at this.1 (by rw [upd_ne this.1]; exact this.2)
section
variable {α : Type} {R : Hp → Addr → α → Prop} {H H' : Hp} {p : Addr} {xs : List α}
theorem SeqD.keep (k : ∀ H H' q x, Same H H' → R H q x → R H' q x) (s : Same H H') (h : SeqD R H p xs) : SeqD R H' p xs := by
  obtain ⟨qs, a, b, c⟩ := h
  exact ⟨qs, s _ _ a, b, fun i q x h1 h2 => k _ _ q x (del_same s) (c i q x h1 h2)⟩
theorem SeqD.seq (k : ∀ H H' q x, Same H H' → R H q x → R H' q x) (h : SeqD R H p xs) : SeqOf R H p xs := by
  obtain ⟨qs, a, b, c⟩ := h
  exact ⟨qs, a, b, fun i q x h1 h2 => k _ _ q x del_sub (c i q x h1 h2)⟩
theorem SeqD.nil (e : H p = some (.lst [])) : SeqD R H p [] := ⟨[], e, rfl, fun i q x h => by simp at h⟩
theorem SeqD.app (k : ∀ H H' q x, Same H H' → R H q x → R H' q x) (h : SeqD R H p xs) {q : Addr} {x : α} (hq : R (delH p H) q x) : ∃ items, H p = some (.lst items) ∧ items.length = xs.length ∧ SeqD R (upd H p (.lst (items ++ [.ref q]))) p (xs ++ [x]) := by
  obtain ⟨qs, a, b, c⟩ := h
  refine ⟨_, a, by rw [List.length_map]; exact b, qs ++ [q], by rw [upd_same, List.map_append]; rfl, by simp [b], fun i q' x' h1 h2 => ?_⟩
  refine k _ _ _ _ del_upd ?_
  by_cases c1 : i < qs.length
  · rw [List.getElem?_append_left c1] at h1
    rw [List.getElem?_append_left (by omega)] at h2
    exact c i q' x' h1 h2
  · have hlt := (List.getElem?_eq_some_iff.mp h1).1
    rw [List.length_append, List.length_singleton] at hlt
    obtain rfl : i = qs.length := by omega
    rw [List.getElem?_append_right (Nat.le_refl _), Nat.sub_self] at h1
    rw [b, List.getElem?_append_right (Nat.le_refl _), Nat.sub_self] at h2
    have a1 : q = q' := by simpa using h1
    have a2 : x = x' := by simpa using h2
    subst a1; subst a2
    exact hq
end
def SeqVD {α : Type} (R : Hp → V → α → Prop) (H : Hp) (p : Addr) (xs : List α) : Prop := ∃ ys : List V, H p = some (.lst ys) ∧ ys.length = xs.length ∧ ∀ (i : Nat) (y : V) (x : α), ys[i]? = some y → xs[i]? = some x → R (delH p H) y x
theorem seqVD_of {α : Type} {R : Hp → Addr → α → Prop} {H : Hp} {p : Addr} {xs : List α} (h : SeqVD (fun H y x => ∃ q, y = .ref q ∧ R H q x) H p xs) : SeqD R H p xs := by
  obtain ⟨ys, a, b, c⟩ := h
  have key : ∀ (ys : List V) (xs : List α), ys.length = xs.length → (∀ (i : Nat) (y : V) (x : α), ys[i]? = some y → xs[i]? = some x → ∃ q, y = .ref q ∧ R (delH p H) q x) → ∃ qs : List Addr, ys = qs.map V.ref ∧ qs.length = xs.length ∧ ∀ (i : Nat) (q : Addr) (x : α), qs[i]? = some q → xs[i]? = some x → R (delH p H) q x := by
    intro ys
    induction ys with
    | nil => intro xs hl _; exact ⟨[], rfl, hl, fun i q x h => by simp at h⟩
    | cons y ys ih =>
      intro xs hl h
      cases xs with
      | nil => simp at hl
      | cons x xs =>
        obtain ⟨q, e, r⟩ := h 0 y x rfl rfl
        obtain ⟨qs, e2, l2, r2⟩ := ih xs (by simpa using hl) fun i y x h1 h2 => h (i + 1) y x h1 h2
        refine ⟨q :: qs, by rw [e, e2]; rfl, by simp [l2], fun i q' x' h1 h2 => ?_⟩
        cases i with
        | zero => cases h1; cases h2; exact r
        | succ i => exact r2 i q' x' h1 h2
  obtain ⟨qs, e, l, r⟩ := key ys xs b c
  exact ⟨qs, e ▸ a, l, r⟩
theorem seqV_vals {α : Type} {f : α → V} {H : Hp} {p : Addr} {xs : List α} (h : SeqV (fun _ y x => y = f x) H p xs) : H p = some (.lst (xs.map f)) := by
  obtain ⟨ys, a, b, c⟩ := h
  rw [a]
  refine congrArg (fun z => some (HO.lst z)) (List.ext_getElem? fun i => ?_)
  rw [List.getElem?_map]
  by_cases hi : i < xs.length
  · have h1 := List.getElem?_eq_getElem (l := ys) (i := i) (by omega)
    have h2 := List.getElem?_eq_getElem hi
    rw [h1, h2, c i _ _ h1 h2]; rfl
  · rw [List.getElem?_eq_none (by omega), List.getElem?_eq_none (by omega)]; rfl
theorem lcG {K : PySem.W.Frag} {α β : Type} {RV : Hp → V → β → Prop} (keep : ∀ H H' y x, Same H H' → RV H y x → RV H' y x) {F : α → Option β} {a : Addr} {g : TG} {tt : TT} {te : TE} {vs : List Nat} {σ : L2.St} {H : Hp} {Q : VK} {xs : List V} {zs : List α}
    (hx : H a = some (.lst xs)) (hz : xs.length = zs.length) (hn : xs.length ≤ 900)
    (ht : ∀ (i : Nat) (x : V) (z : α) (H2 : Hp) (Yes : VK) (No : Hp → Prop), xs[i]? = some x → zs[i]? = some z → Same H H2 → (∀ y H5, Same H2 H5 → (∃ o, F z = some o ∧ ∀ D acc, H D = none → H2 D = some (.lst acc) → RV (delH D H5) y o) → Yes y H5) → (∀ H5, Same H2 H5 → F z = none → No H5) →
      g x (wipe σ vs) H2 fun σ2 H3 => wipe σ2 vs = wipe σ vs ∧ tt σ2 H3 fun b H4 => if b = true then te σ2 H4 Yes else No H4)
    (q : ∀ D H', Same H H' → H D = none → SeqVD RV H' D (zs.filterMap F) → Q (.ref D) H') : LcG K a g tt te vs σ H Q := fun D hD => by
  refine lc_list (K := K) (a := a) (xs := xs) (fun i H' => Same H H' ∧ ∃ acc : List V, H' D = some (.lst acc) ∧ acc.length = ((zs.take i).filterMap F).length ∧ ∀ (j : Nat) (y : V) (o : β), acc[j]? = some y → ((zs.take i).filterMap F)[j]? = some o → RV (delH D H') y o)
    ⟨upd_keep hD, [], upd_same, rfl, fun j y o h => by simp at h⟩ (fun i H' _ ⟨s, _⟩ => .of (s _ _ hx)) ?_ ?_
  · rintro i x H2 hi ⟨sm, acc, eD, hl, hr⟩
    have hin := (List.getElem?_eq_some_iff.mp hi).1
    have hzi := List.getElem?_eq_getElem (l := zs) (i := i) (by omega)
    have la : acc.length ≤ 900 := by
      have h1 := List.length_filterMap_le F (zs.take i)
      have h2 := List.length_take_le i zs
      have : (zs.take i).length ≤ i := by rw [List.length_take]; omega
      omega
    have tk : (zs.take (i + 1)).filterMap F = (zs.take i).filterMap F ++ (match F zs[i] with | some o => [o] | none => []) := by
      rw [List.take_add_one, hzi, List.filterMap_append]
      congr 1
      cases h : F zs[i] <;> simp [h]
    refine ht i x zs[i] H2 _ _ hi hzi sm ?yes ?no
    case yes =>
      rintro y H5 s5 ⟨o, ho, rv⟩
      refine ⟨acc, s5 _ _ eD, small1000 (by omega), same_updN hD (sm.trans s5), acc ++ [y], upd_same, ?_, ?_⟩
      · rw [tk, ho]; simp [hl]
      · intro j y' o' h1 h2
        rw [tk, ho] at h2
        by_cases c : j < acc.length
        · rw [List.getElem?_append_left c] at h1
          rw [List.getElem?_append_left (by omega)] at h2
          refine keep _ _ _ _ (fun b o e => ?_) (hr j y' o' h1 h2)
          have hb := del_of e
          exact del_at hb.1 (by rw [upd_ne hb.1]; exact s5 _ _ hb.2)
        · have hlt := (List.getElem?_eq_some_iff.mp h1).1
          rw [List.length_append, List.length_singleton] at hlt
          obtain rfl : j = acc.length := by omega
          rw [List.getElem?_append_right (Nat.le_refl _), Nat.sub_self] at h1
          rw [hl, List.getElem?_append_right (Nat.le_refl _), Nat.sub_self] at h2
          have h1 : y = y' := by simpa using h1
          have h2 : o = o' := by simpa using h2
          subst h1 h2
          refine keep _ _ _ _ (fun b o e => ?_) (rv D acc hD eD)
          have hb := del_of e
          exact del_at hb.1 (by rw [upd_ne hb.1]; exact hb.2)
    case no =>
      intro H5 s5 ho
      refine ⟨sm.trans s5, acc, s5 _ _ eD, ?_, ?_⟩
      · rw [tk, ho]; simp [hl]
      · intro j y' o' h1 h2
        rw [tk, ho, List.append_nil] at h2
        refine keep _ _ _ _ (fun b o e => ?_) (hr j y' o' h1 h2)
        have hb := del_of e
        exact del_at hb.1 (s5 _ _ hb.2)
  · rintro H' ⟨sm, acc, eD, hl, hr⟩
    rw [List.take_of_length_le (by omega)] at hl hr
    exact q D H' sm hD ⟨acc, eD, hl, hr⟩
/-- the same without a test: each turned into a new thing -/
theorem lcMD {K : PySem.W.Frag} {α β : Type} {R : Hp → Addr → β → Prop} (keep : ∀ H H' q x, Same H H' → R H q x → R H' q x) {F : α → β} {a : Addr} {g : TG} {te : TE} {vs : List Nat} {σ : L2.St} {H : Hp} {Q : VK} {xs : List V} {zs : List α}
    (hx : H a = some (.lst xs)) (hz : xs.length = zs.length) (hn : xs.length ≤ 900)
    (ht : ∀ (i : Nat) (x : V) (z : α) (H2 : Hp) (Yes : VK), xs[i]? = some x → zs[i]? = some z → Same H H2 → (∀ r H5, Same H2 H5 → (∀ D acc, H D = none → H2 D = some (.lst acc) → R (delH D H5) r (F z)) → Yes (.ref r) H5) → g x (wipe σ vs) H2 fun σ2 H3 => wipe σ2 vs = wipe σ vs ∧ te σ2 H3 Yes)
    (q : ∀ D H', Same H H' → H D = none → SeqD R H' D (zs.map F) → Q (.ref D) H') : LcG K a g tYes te vs σ H Q :=
  lcG (RV := fun H y x => ∃ q, y = .ref q ∧ R H q x) (fun _ _ _ _ s ⟨q, e, r⟩ => ⟨q, e, keep _ _ _ _ s r⟩) (F := fun z => some (F z)) hx hz hn
    (fun i x z H2 Yes No h1 h2 s hy hno => by
      have := ht i x z H2 Yes h1 h2 s fun r H5 s5 hr => hy _ _ s5 ⟨_, rfl, fun D acc f e => ⟨r, rfl, hr D acc f e⟩⟩
      simpa only [tYes, if_true] using this)
    (fun D H' s f h => q D H' s f (seqVD_of (by rw [show zs.map F = zs.filterMap (fun z => some (F z)) from (congrFun (List.filterMap_eq_map (f := F)) zs).symm]; exact h)))
theorem lcM {K : PySem.W.Frag} {α β : Type} {R : Hp → Addr → β → Prop} (keep : ∀ H H' q x, Same H H' → R H q x → R H' q x) {F : α → β} {a : Addr} {g : TG} {te : TE} {vs : List Nat} {σ : L2.St} {H : Hp} {Q : VK} {xs : List V} {zs : List α}
    (hx : H a = some (.lst xs)) (hz : xs.length = zs.length) (hn : xs.length ≤ 900)
    (ht : ∀ (i : Nat) (x : V) (z : α) (H2 : Hp) (Yes : VK), xs[i]? = some x → zs[i]? = some z → Same H H2 → (∀ r H5, Same H2 H5 → R (cutH H H2 H5) r (F z) → Yes (.ref r) H5) → g x (wipe σ vs) H2 fun σ2 H3 => wipe σ2 vs = wipe σ vs ∧ te σ2 H3 Yes)
    (q : ∀ D H', Same H H' → H D = none → SeqOf R H' D (zs.map F) → Q (.ref D) H') : LcG K a g tYes te vs σ H Q :=
  lcMD keep hx hz hn (fun i x z H2 Yes h1 h2 s hy => ht i x z H2 Yes h1 h2 s fun r H5 s5 hr => hy r H5 s5 fun D acc f e => keep _ _ _ _ (cut_del f e) hr) fun D H' s f h => q D H' s f (h.seq keep)
/-- each turned into a new thing that is drawn -/
theorem choose_refs {α β : Type} {R : Addr → β → Prop} {P : α → β → Prop} : ∀ (vs : List V) (zs : List α), vs.length = zs.length → (∀ (i : Nat) (v : V) (z : α), vs[i]? = some v → zs[i]? = some z → ∃ q y, v = .ref q ∧ P z y ∧ R q y) →
    ∃ (qs : List Addr) (ys : List β), vs = qs.map V.ref ∧ qs.length = ys.length ∧ ys.length = zs.length ∧ (∀ (i : Nat) (q : Addr) (y : β), qs[i]? = some q → ys[i]? = some y → R q y) ∧ ∀ (i : Nat) (z : α) (y : β), zs[i]? = some z → ys[i]? = some y → P z y := by
  intro vs
  induction vs with
  | nil =>
    intro zs hl _
    have : zs = [] := List.length_eq_zero_iff.mp hl.symm
    subst this
    exact ⟨[], [], rfl, rfl, rfl, (fun i q y h => by simp at h), (fun i z y h => by simp at h)⟩
  | cons v vs ih =>
    intro zs hl h
    cases zs with
    | nil => simp at hl
    | cons z zs =>
      obtain ⟨q, y, e, p, r⟩ := h 0 v z rfl rfl
      obtain ⟨qs, ys, e2, l2, l3, r2, p2⟩ := ih zs (by simpa using hl) fun i v z h1 h2 => h (i + 1) v z h1 h2
      refine ⟨q :: qs, y :: ys, by rw [e, e2]; rfl, by simp [l2], by simp [l3], fun i q' y' h1 h2 => ?_, fun i z' y' h1 h2 => ?_⟩
      · cases i with
        | zero => cases h1; cases h2; exact r
        | succ i => exact r2 i q' y' h1 h2
      · cases i with
        | zero => cases h1; cases h2; exact p
        | succ i => exact p2 i z' y' h1 h2
theorem lcMP {K : PySem.W.Frag} {α β : Type} {R : Hp → Addr → β → Prop} {P : α → β → Prop} (keep : ∀ H H' q x, Same H H' → R H q x → R H' q x) {a : Addr} {g : TG} {te : TE} {vs : List Nat} {σ : L2.St} {H : Hp} {Q : VK} {xs : List V} {zs : List α}
    (hx : H a = some (.lst xs)) (hz : xs.length = zs.length) (hn : xs.length ≤ 900)
    (ht : ∀ (i : Nat) (x : V) (z : α) (H2 : Hp) (Yes : VK), xs[i]? = some x → zs[i]? = some z → Same H H2 → (∀ r H5 y, Same H2 H5 → P z y → (∀ D acc, H D = none → H2 D = some (.lst acc) → R (delH D H5) r y) → Yes (.ref r) H5) → g x (wipe σ vs) H2 fun σ2 H3 => wipe σ2 vs = wipe σ vs ∧ te σ2 H3 Yes)
    (q : ∀ D H' ys, Same H H' → H D = none → SeqD R H' D ys → ys.length = zs.length → (∀ (i : Nat) (z : α) (y : β), zs[i]? = some z → ys[i]? = some y → P z y) → Q (.ref D) H') : LcG K a g tYes te vs σ H Q :=
  lcG (RV := fun H y z => ∃ q x, y = .ref q ∧ P z x ∧ R H q x) (fun _ _ _ _ s ⟨q, x, e, p, r⟩ => ⟨q, x, e, p, keep _ _ _ _ s r⟩) (F := fun z => some z) hx hz hn
    (fun i x z H2 Yes No h1 h2 s hy hno => by
      have := ht i x z H2 Yes h1 h2 s fun r H5 y s5 p hr => hy _ _ s5 ⟨_, rfl, fun D acc f e => ⟨r, y, rfl, p, hr D acc f e⟩⟩
      simpa only [tYes, if_true] using this)
    (fun D H' s f ⟨ys, a, b, c⟩ => by
      rw [show zs.filterMap (fun z => some z) = zs by simp] at b c
      obtain ⟨qs, ys', e, l1, l2, r, p⟩ := choose_refs (R := fun q y => R (delH D H') q y) (P := P) ys zs b (fun i v z h1 h2 => c i v z h1 h2)
      exact q D H' ys' s f ⟨qs, e ▸ a, l1, r⟩ l2 p)
/-- each turned into a value -/
theorem lcF {K : PySem.W.Frag} {α : Type} {F : α → V} {a : Addr} {g : TG} {te : TE} {vs : List Nat} {σ : L2.St} {H : Hp} {Q : VK} {xs : List V} {zs : List α}
    (hx : H a = some (.lst xs)) (hz : xs.length = zs.length) (hn : xs.length ≤ 900)
    (ht : ∀ (i : Nat) (x : V) (z : α) (H2 : Hp) (Yes : VK), xs[i]? = some x → zs[i]? = some z → Same H H2 → (∀ H5, Same H2 H5 → Yes (F z) H5) → g x (wipe σ vs) H2 fun σ2 H3 => wipe σ2 vs = wipe σ vs ∧ te σ2 H3 Yes)
    (q : ∀ D H', Same H H' → H D = none → H' D = some (.lst (zs.map F)) → Q (.ref D) H') : LcG K a g tYes te vs σ H Q :=
  lcG (RV := fun _ y x => y = F x) (fun _ _ _ _ _ e => e) (F := fun z => some z) hx hz hn
    (fun i x z H2 Yes No h1 h2 s hy hno => by
      have := ht i x z H2 Yes h1 h2 s fun H5 s5 => hy _ _ s5 ⟨_, rfl, fun _ _ _ _ => rfl⟩
      simpa only [tYes, if_true] using this)
    (fun D H' s f ⟨ys, a, b, c⟩ => q D H' s f (seqV_vals ⟨ys, a, by simpa using b, fun i y x h1 h2 => c i y x h1 (by simpa using h2)⟩))
theorem LsAt.del {H : Hp} {D r : Addr} {ls : List Lq} {acc : List V} (h : LsAt H r ls) (n : r ≠ D) (e : H D = some (.lst acc)) : LsAt (delH D H) r ls := by
  obtain ⟨qs, a, b, c⟩ := h
  exact ⟨qs, del_at n a, b, fun i q x h1 h2 => ⟨del_at (ne_of (c i q x h1 h2).1 e (by intro z; cases z)) (c i q x h1 h2).1, (c i q x h1 h2).2⟩⟩
/-! ### the same over a range: values, a test -/
def LcGR (n : Nat) (g : TG) (tt : TT) (te : TE) (vs : List Nat) (σ : L2.St) (H1 : Hp) (Q : VK) : Prop := ∀ D, H1 D = none → ∃ W : Nat → Nat → Hp → Prop, (∃ m, W 0 m (upd H1 D (.lst []))) ∧ ∀ i m H, W i m H →
  ((Itr 0 n).stop i H ∧ Q (.ref D) H) ∨ ((Itr 0 n).go i H ∧ ∃ Nx : Hp → Prop, (∀ H', Nx H' → ∃ m', m' < m ∧ W (i + 1) m' H') ∧ ∀ x H', (Itr 0 n).yld i H x H' → g x (wipe σ vs) H' fun σ2 H2 => wipe σ2 vs = wipe σ vs ∧ tt σ2 H2 fun b H3 =>
    if b = true then te σ2 H3 fun y H4 => ∃ acc, H4 D = some (.lst acc) ∧ acc.length < sizeLine ∧ Nx (upd H4 D (.lst (acc ++ [y]))) else Nx H3)
theorem lcr_src {ta : TA} {g : TG} {tt : TT} {te : TE} {vs : List Nat} {σ : L2.St} {H : Hp} {Q : VK} (h : ta σ H fun us H1 => ∃ j : Int, us = [.int j] ∧ -(2 ^ 62) ≤ j ∧ j < 2 ^ 62 ∧ LcGR j.toNat g tt te vs σ H1 Q) : tLc (iRng1 ta) g tt te vs σ H Q := h
theorem lcR {n : Nat} {F : Nat → Option V} {g : TG} {tt : TT} {te : TE} {vs : List Nat} {σ : L2.St} {H : Hp} {Q : VK} (hn : n ≤ 900)
    (ht : ∀ (j : Nat) (H2 : Hp) (Yes : VK) (No : Hp → Prop), j < n → Same H H2 → (∀ y H5, Same H2 H5 → F j = some y → Yes y H5) → (∀ H5, Same H2 H5 → F j = none → No H5) →
      g (.int (0 + (j : Int))) (wipe σ vs) H2 fun σ2 H3 => wipe σ2 vs = wipe σ vs ∧ tt σ2 H3 fun b H4 => if b = true then te σ2 H4 Yes else No H4)
    (q : ∀ D H', Same H H' → H D = none → H' D = some (.lst ((List.range n).filterMap F)) → Q (.ref D) H') : LcGR n g tt te vs σ H Q := fun D hD => by
  refine lc_range (lo := 0) (n := n) (fun i H' => Same H H' ∧ H' D = some (.lst ((List.range i).filterMap F))) ⟨upd_keep hD, upd_same⟩ ?_ ?_
  · rintro i H2 hi ⟨sm, eD⟩
    have la : ((List.range i).filterMap F).length ≤ 900 := by
      have h1 := List.length_filterMap_le F (List.range i)
      rw [List.length_range] at h1
      omega
    have tk : (List.range (i + 1)).filterMap F = (List.range i).filterMap F ++ (match F i with | some o => [o] | none => []) := by
      rw [List.range_succ, List.filterMap_append]
      congr 1
      cases h : F i <;> simp [h]
    refine ht i H2 _ _ hi sm ?yes ?no
    case yes =>
      intro y H5 s5 ho
      refine ⟨_, s5 _ _ eD, small1000 (by omega), same_updN hD (sm.trans s5), ?_⟩
      rw [upd_same, tk, ho]
    case no =>
      intro H5 s5 ho
      refine ⟨sm.trans s5, ?_⟩
      rw [s5 _ _ eD, tk, ho, List.append_nil]
  · rintro H' ⟨sm, eD⟩
    exact q D H' sm hD eD
/-- no test -/
theorem lcRM {n : Nat} {F : Nat → V} {g : TG} {te : TE} {vs : List Nat} {σ : L2.St} {H : Hp} {Q : VK} (hn : n ≤ 900)
    (ht : ∀ (j : Nat) (H2 : Hp) (Yes : VK), j < n → Same H H2 → (∀ H5, Same H2 H5 → Yes (F j) H5) → g (.int (0 + (j : Int))) (wipe σ vs) H2 fun σ2 H3 => wipe σ2 vs = wipe σ vs ∧ te σ2 H3 Yes)
    (q : ∀ D H', Same H H' → H D = none → H' D = some (.lst ((List.range n).map F)) → Q (.ref D) H') : LcGR n g tYes te vs σ H Q :=
  lcR (F := fun j => some (F j)) hn (fun j H2 Yes No hj s hy hno => by
    have := ht j H2 Yes hj s fun H5 s5 => hy _ H5 s5 rfl
    simpa only [tYes, if_true] using this) (fun D H' s f e => q D H' s f (e.trans (by rw [show (List.range n).filterMap (fun j => some (F j)) = (List.range n).map F from congrFun (List.filterMap_eq_map (f := F)) _])))
/-- over a range, each turned into a new thing that is drawn -/
theorem lcRP {n : Nat} {β : Type} {R : Hp → Addr → β → Prop} {P : Nat → β → Prop} (keep : ∀ H H' q x, Same H H' → R H q x → R H' q x) {g : TG} {te : TE} {vs : List Nat} {σ : L2.St} {H : Hp} {Q : VK} (hn : n ≤ 900)
    (ht : ∀ (j : Nat) (H2 : Hp) (Yes : VK), j < n → Same H H2 → (∀ r H5 y, Same H2 H5 → P j y → (∀ D acc, H D = none → H2 D = some (.lst acc) → R (delH D H5) r y) → Yes (.ref r) H5) → g (.int (0 + (j : Int))) (wipe σ vs) H2 fun σ2 H3 => wipe σ2 vs = wipe σ vs ∧ te σ2 H3 Yes)
    (q : ∀ D H' ys, Same H H' → H D = none → SeqD R H' D ys → ys.length = n → (∀ (i : Nat) (y : β), ys[i]? = some y → P i y) → Q (.ref D) H') : LcGR n g tYes te vs σ H Q := fun D hD => by
  refine lc_range (lo := 0) (n := n) (fun i H' => Same H H' ∧ ∃ ys : List β, SeqD R H' D ys ∧ ys.length = i ∧ ∀ (j : Nat) (y : β), ys[j]? = some y → P j y) ⟨upd_keep hD, [], SeqD.nil upd_same, rfl, fun j y h => by simp at h⟩ ?_ ?_
  · rintro i H2 hi ⟨sm, ys, sd, yl, yp⟩
    obtain ⟨qs, w1, w2, w3⟩ := id sd
    have key : ∀ r H5 y, Same H2 H5 → P i y → (∀ D acc, H D = none → H2 D = some (.lst acc) → R (delH D H5) r y) → ∃ acc, H5 D = some (.lst acc) ∧ acc.length < sizeLine ∧ (Same H (upd H5 D (.lst (acc ++ [.ref r]))) ∧ ∃ ys : List β, SeqD R (upd H5 D (.lst (acc ++ [.ref r]))) D ys ∧ ys.length = i + 1 ∧ ∀ (j : Nat) (y : β), ys[j]? = some y → P j y) := by
      intro r H5 y s5 p hr
      obtain ⟨items, it1, it2, it3⟩ := (sd.keep keep s5).app keep (hr D _ hD w1)
      refine ⟨items, it1, small1000 (by omega), same_updN hD (sm.trans s5), ys ++ [y], it3, by simp [yl], fun j y' h => ?_⟩
      by_cases c : j < ys.length
      · rw [List.getElem?_append_left c] at h; exact yp j y' h
      · have hlt := (List.getElem?_eq_some_iff.mp h).1
        rw [List.length_append, List.length_singleton] at hlt
        obtain rfl : j = ys.length := by omega
        rw [List.getElem?_append_right (Nat.le_refl _), Nat.sub_self] at h
        have : y = y' := by simpa using h
        rw [← this, yl]; exact p
    have := ht i H2 (fun v H5 => ∃ acc, H5 D = some (.lst acc) ∧ acc.length < sizeLine ∧ (Same H (upd H5 D (.lst (acc ++ [v]))) ∧ ∃ ys : List β, SeqD R (upd H5 D (.lst (acc ++ [v]))) D ys ∧ ys.length = i + 1 ∧ ∀ (j : Nat) (y : β), ys[j]? = some y → P j y)) hi sm key
    simpa only [tYes, if_true] using this
  · rintro H' ⟨sm, ys, sd, yl, yp⟩
    exact q D H' ys sm hD sd yl yp
/-! ### right machines: plain facts -/
theorem okT_len {x s : Str} {m : Int} (h : okT x s m = true) : (x.length : Int) ≤ m := by
  unfold okT at h
  rw [Bool.and_eq_true, Bool.and_eq_true] at h
  exact of_decide_eq_true h.1.2
theorem txok_of {x : Str} (h : ∀ c ∈ x.cps.toList, c < 0x110000) : TxOk x := by
  show PyData.strOk x = true
  unfold PyData.strOk
  rw [← Array.all_toList, List.all_eq_true]
  exact fun c hc => decide_eq_true (h c hc)
theorem okT_tx {x s : Str} {m : Int} (hs : ∀ c ∈ s.cps.toList, c < 0x110000) (h : okT x s m = true) : TxOk x := by
  unfold okT at h
  rw [Bool.and_eq_true, List.all_eq_true] at h
  exact txok_of fun c hc => hs c (of_decide_eq_true (h.2 c hc))
theorem letters_lt : ∀ c ∈ letters.cps.toList, c < 0x110000 := by decide +kernel
theorem letters_lt2 : ∀ c ∈ (letters ++ ("/" : Str)).cps.toList, c < 0x110000 := by decide +kernel
theorem okName_len {x : Str} (h : okName x = true) : x.length ≤ 8 := by have := okT_len (show okT x letters 8 = true from h); omega
theorem okName_tx {x : Str} (h : okName x = true) : TxOk x := okT_tx letters_lt (show okT x letters 8 = true from h)
theorem okWatch_len {x : Str} (h : okWatch x = true) : x.length ≤ 8 := by
  unfold okWatch at h
  rw [Bool.or_eq_true] at h
  rcases h with h | h
  · rw [of_decide_eq_true h]; decide +kernel
  · exact okName_len h
theorem okWatch_tx {x : Str} (h : okWatch x = true) : TxOk x := by
  unfold okWatch at h
  rw [Bool.or_eq_true] at h
  rcases h with h | h
  · rw [of_decide_eq_true h]; show PyData.strOk _ = true; decide +kernel
  · exact okName_tx h
theorem words_tx {ws : List Str} {x : Str} (h : x ∈ ws) (hw : ws.all (fun y => PyData.strOk y) = true) : TxOk x := List.all_eq_true.mp hw x h
theorem look_ok {ws watches : List Str} {l : Lq} (hw : ws.all (fun y => PyData.strOk y) = true) (ha : ∀ x ∈ watches, okWatch x = true) (h : lookOk ws watches l = true) : LqOk l := by
  unfold lookOk at h
  rw [Bool.and_eq_true, Bool.and_eq_true] at h
  refine ⟨okWatch_tx (ha _ (of_decide_eq_true h.1.1)), words_tx (of_decide_eq_true h.1.2) hw, ?_⟩
  have := h.2
  cases hv : l.2.2 <;> rw [hv] at this <;> first | rfl | cases this
theorem room_ok {watches : List Str} {r : Rq} (ha : ∀ x ∈ watches, okWatch x = true) (h : roomOk watches r = true) : r.1.length ≤ 60 ∧ RqOk r := by
  unfold roomOk at h
  rw [Bool.and_eq_true] at h
  refine ⟨by have := okT_len h.1; omega, okT_tx letters_lt2 h.1, fun l hl => look_ok (ws := ["<", "<="]) (by decide +kernel) ha (List.all_eq_true.mp h.2 l hl)⟩
theorem okSign_len {x : Str} (h : okSign x = true) : x.length ≤ 9 := by
  unfold okSign at h
  rw [Bool.or_eq_true] at h
  rcases h with h | h
  · rw [of_decide_eq_true h]; decide +kernel
  · cases e : x.cps.toList.getLast? with
    | none => rw [e] at h; cases h
    | some c =>
      rw [e] at h
      have h2 := (Bool.and_eq_true_iff.mp h).2
      have l8 := okName_len h2
      unfold cutS Str.length at l8
      simp only [List.size_toArray, List.length_take, List.length_drop] at l8
      unfold Str.length
      rw [← Array.length_toList]
      have s0 : HT.sIx x.length 0 none = 0 := rfl
      have s1 : HT.sIx x.length x.length (some (-1)) = x.length - 1 := by
        unfold HT.sIx
        simp only [show ((-1 : Int) < 0) from by decide, if_true]
        omega
      have s2 : x.length = x.cps.toList.length := by unfold Str.length; exact Array.length_toList.symm
      unfold Str.length at s0 s1 s2
      rw [s0, s1] at l8
      omega
def numOf : V → Int
  | .int n => n
  | _ => 0
structure MachOk (M : MachD) : Prop where
  w7 : M.watches.length ≤ 7
  wok : M.watches.all okWatch = true
  wnd : M.watches.Nodup
  rok : M.rooms.all (roomOk M.watches) = true
  rnd : (M.rooms.map (·.1)).Nodup
  rne : M.rooms ≠ []
  r64 : M.rooms.length ≤ 64
  dok : M.doors.all (doorOk M.watches (M.rooms.map (·.1))) = true
  d200 : M.doors.length ≤ 200
  rsz : ∀ r ∈ M.rooms, r.2.length ≤ 60
  dsz : ∀ d ∈ M.doors, d.looks.length ≤ 60
theorem nodup_len {α : Type} [DecidableEq α] : ∀ {xs ys : List α}, xs.Nodup → (∀ x ∈ xs, x ∈ ys) → xs.length ≤ ys.length := by
  intro xs
  induction xs with
  | nil => intro ys _ _; exact Nat.zero_le _
  | cons x xs ih =>
    intro ys h1 h2
    obtain ⟨n1, n2⟩ := List.nodup_cons.mp h1
    have hx := h2 x (List.mem_cons_self ..)
    have := ih (ys := ys.erase x) n2 fun y hy => (List.mem_erase_of_ne (show y ≠ x from fun e => n1 (by rw [← e]; exact hy))).mpr (h2 y (List.mem_cons_of_mem _ hy))
    rw [List.length_erase_of_mem hx] at this
    have hp := List.length_pos_of_mem hx
    simp only [List.length_cons]
    omega
section
variable {M : MachD}
theorem MachOk.watch (h : MachOk M) : ∀ x ∈ M.watches, okWatch x = true := List.all_eq_true.mp h.wok
theorem MachOk.room (h : MachOk M) {r : Rq} (hr : r ∈ M.rooms) : r.1.length ≤ 1000 ∧ r.2.length ≤ 60 ∧ RqOk r := by
  have := room_ok h.watch (List.all_eq_true.mp h.rok r hr)
  exact ⟨by omega, h.rsz r hr, this.2⟩
theorem MachOk.door (h : MachOk M) {d : DoorD} (hd : d ∈ M.doors) : okSign d.sg = true ∧ d.st ∈ M.rooms.map (·.1) ∧ d.en ∈ M.rooms.map (·.1) ∧ guardOk ["<", "<=", ">", ">=", "="] M.watches d.looks = true ∧ (∀ b ∈ d.backs, b ∈ M.watches) ∧ d.backs.Nodup ∧ d.backs.length ≤ 7 := by
  have := List.all_eq_true.mp h.dok d hd
  unfold doorOk at this
  rw [Bool.and_eq_true, Bool.and_eq_true, Bool.and_eq_true, Bool.and_eq_true, Bool.and_eq_true, List.all_eq_true] at this
  obtain ⟨⟨⟨⟨⟨a, b⟩, c⟩, d'⟩, e⟩, f⟩ := this
  have e' : ∀ b ∈ d.backs, b ∈ M.watches := fun b hb => of_decide_eq_true (e b hb)
  have n := of_decide_eq_true f
  exact ⟨a, of_decide_eq_true b, of_decide_eq_true c, d', e', n, Nat.le_trans (nodup_len n e') h.w7⟩
end
/-! ### heaps that differ at a new instance alone -/
def OffI (p : Addr) (H H' : Hp) : Prop := (∃ C dx fs, H p = some (.ins C dx fs)) ∧ ∀ b o, H b = some o → b ≠ p → H' b = some o
def OffN (p : Addr) (H H' : Hp) : Prop := (∃ C dx, H p = some (.ins C dx [])) ∧ ∀ b o, H b = some o → b ≠ p → H' b = some o
section
variable {p : Addr} {H H' : Hp}
theorem OffN.i (h : OffN p H H') : OffI p H H' := by
  obtain ⟨⟨C, dx, hp⟩, k⟩ := h
  exact ⟨⟨C, dx, _, hp⟩, k⟩
theorem OffI.lst (h : OffI p H H') {q : Addr} {xs : List V} (e : H q = some (.lst xs)) : H' q = some (.lst xs) := by
  obtain ⟨⟨C, dx, fs, hp⟩, k⟩ := h
  exact k _ _ e (ne_of e hp (by intro z; cases z))
theorem OffI.tup (h : OffI p H H') {q : Addr} {xs : List V} (e : H q = some (.tup xs)) : H' q = some (.tup xs) := by
  obtain ⟨⟨C, dx, fs, hp⟩, k⟩ := h
  exact k _ _ e (ne_of e hp (by intro z; cases z))
theorem OffI.seq {α : Type} {R : Hp → Addr → α → Prop} (h : OffI p H H') (k : ∀ q x, R H q x → R H' q x) {q : Addr} {xs : List α} (v : SeqOf R H q xs) : SeqOf R H' q xs := by
  obtain ⟨qs, a, b, c⟩ := v
  exact ⟨qs, h.lst a, b, fun i q x h1 h2 => k q x (c i q x h1 h2)⟩
theorem OffI.ls (h : OffI p H H') {q : Addr} {ls : List Lq} (v : LsAt H q ls) : LsAt H' q ls := h.seq (fun _ _ z => ⟨h.tup z.1, z.2⟩) v
theorem OffI.rs (h : OffI p H H') {q : Addr} {rs : List Rq} (v : RsAt H q rs) : RsAt H' q rs := h.seq (fun _ _ ⟨g, a, b⟩ => ⟨g, h.tup a, h.ls b⟩) v
theorem OffN.door (h : OffN p H H') {C q : Addr} {d : DoorD} (v : DoorAt C H q d) : DoorAt C H' q d := by
  obtain ⟨dx, g, n, a, b, c⟩ := v
  refine ⟨dx, g, n, h.2 _ _ a (fun z => ?_), h.i.ls b, h.i.lst c⟩
  obtain ⟨⟨C', dx', hp⟩, _⟩ := h
  rw [z, hp] at a
  have l := door_start (st := d.st) (en := d.en) (sg := d.sg) (g := g) (n := n)
  have e : ([] : List (Str × V)) = doorF d.st d.en d.sg g n := by injection a with a; injection a
  rw [← e] at l
  cases l
theorem OffN.ds (h : OffN p H H') {C q : Addr} {ds : List DoorD} (v : DsAt C H q ds) : DsAt C H' q ds := h.i.seq (fun _ _ z => h.door z) v
end
theorem refs_inj {xs ys : List Addr} (h : xs.map V.ref = ys.map V.ref) : xs = ys := (List.map_inj_right (f := V.ref) (fun a b e => by cases e; rfl)).mp h
theorem lst_inj {H : Hp} {p : Addr} {xs ys : List Addr} (h : H p = some (.lst (xs.map V.ref))) (k : H p = some (.lst (ys.map V.ref))) : xs = ys := refs_inj (by rw [h] at k; simpa using k)
theorem machF_inj {wn rn sl dl wn' rn' sl' dl' : Addr} (h : machF wn rn sl dl = machF wn' rn' sl' dl') : wn = wn' ∧ rn = rn' ∧ sl = sl' ∧ dl = dl' := by
  have a := mach_watch (wn := wn) (rn := rn) (sl := sl) (dl := dl)
  have b := mach_room (wn := wn) (rn := rn) (sl := sl) (dl := dl)
  have c := mach_stay (wn := wn) (rn := rn) (sl := sl) (dl := dl)
  have d := mach_door (wn := wn) (rn := rn) (sl := sl) (dl := dl)
  rw [h, mach_watch] at a; rw [h, mach_room] at b; rw [h, mach_stay] at c; rw [h, mach_door] at d
  simp only [Option.some.injEq, V.ref.injEq] at a b c d
  exact ⟨a.symm, b.symm, c.symm, d.symm⟩
/-! ### heaps without some lists -/
open Classical in
noncomputable def remU (U : Addr → Prop) (H : Hp) : Hp := fun b => if U b then none else H b
theorem rem_at {U : Addr → Prop} {H : Hp} {b : Addr} {o : HO} (n : ¬ U b) (e : H b = some o) : remU U H b = some o := by unfold remU; rw [if_neg n]; exact e
theorem rem_of {U : Addr → Prop} {H : Hp} {b : Addr} {o : HO} (e : remU U H b = some o) : ¬ U b ∧ H b = some o := by
  unfold remU at e
  by_cases h : U b
  · rw [if_pos h] at e; cases e
  · rw [if_neg h] at e; exact ⟨h, e⟩
theorem rem_sub {U : Addr → Prop} {H : Hp} : Same (remU U H) H := fun b o e => (rem_of e).2
theorem rem_same {U : Addr → Prop} {H H' : Hp} (s : Same H H') : Same (remU U H) (remU U H') := fun b o e => rem_at (rem_of e).1 (s _ _ (rem_of e).2)
/-- U holds lists of H alone -/
def ListsU (U : Addr → Prop) (H : Hp) : Prop := ∀ b, U b → ∃ xs, H b = some (.lst xs)
theorem ListsU.tup {U : Addr → Prop} {H H' : Hp} (u : ListsU U H) (s : ∀ b xs, H b = some (.lst xs) → H' b = some (.lst xs)) {q : Addr} {ys : List V} (e : H' q = some (.tup ys)) : ¬ U q := fun h => by
  obtain ⟨xs, hx⟩ := u q h
  have := s q xs hx
  rw [e] at this; cases this
theorem LsAt.rem {U : Addr → Prop} {H H' : Hp} (u : ListsU U H) (s : ∀ b xs, H b = some (.lst xs) → H' b = some (.lst xs)) {q : Addr} {ls : List Lq} (h : LsAt H' q ls) (n : ¬ U q) : LsAt (remU U H') q ls := by
  obtain ⟨qs, a, b, c⟩ := h
  exact ⟨qs, rem_at n a, b, fun i q x h1 h2 => ⟨rem_at (u.tup s (c i q x h1 h2).1) (c i q x h1 h2).1, (c i q x h1 h2).2⟩⟩
/-! ### drawn names -/
def lett (i : Int) : Nat := letters.cps.toList.getD i.toNat 0
def idx26 (i : Int) : Prop := 0 ≤ i ∧ i < 26
theorem letters_len : letters.cps.toList.length = 26 := by decide +kernel
theorem lett_get {i : Int} (h : 0 ≤ i ∧ i < 26) : letters.cps.toList[i.toNat]? = some (lett i) := by
  have h1 : i.toNat < letters.cps.toList.length := by rw [letters_len]; omega
  unfold lett
  rw [List.getD_eq_getElem?_getD, List.getElem?_eq_getElem h1]; rfl
theorem lett_at {i : Int} (h : 0 ≤ i ∧ i < 26) : atI letters.cps.toList i = some (lett i) := by
  have := atI_nat (lett_get h)
  rwa [Int.toNat_of_nonneg h.1] at this
theorem lett_mem {i : Int} (h : 0 ≤ i ∧ i < 26) : lett i ∈ letters.cps.toList := List.mem_of_getElem? (lett_get h)
theorem lett_inj : ∀ i j : Fin 26, lett (i.val : Int) = lett (j.val : Int) → i = j := by decide +kernel
theorem lett_inj' {i j : Int} (hi : 0 ≤ i ∧ i < 26) (hj : 0 ≤ j ∧ j < 26) (h : lett i = lett j) : i = j := by
  have := lett_inj ⟨i.toNat, by omega⟩ ⟨j.toNat, by omega⟩ (by
    show lett ((i.toNat : Nat) : Int) = lett ((j.toNat : Nat) : Int)
    rw [Int.toNat_of_nonneg hi.1, Int.toNat_of_nonneg hj.1]; exact h)
  have : i.toNat = j.toNat := by simpa using congrArg Fin.val this
  omega
def one (c : Nat) : Str := ⟨#[c]⟩
def txt (cs : List Nat) : Str := ⟨cs.toArray⟩
theorem join_one (cs : List Nat) : Txt.join ("" : Str) (cs.map one) = txt cs := by
  have key : ∀ (cs : List Nat) (acc : Array Nat), (cs.map one).foldl (fun acc p => acc ++ ("" : Str).cps ++ p.cps) acc = acc ++ cs.toArray := by
    intro cs
    induction cs with
    | nil => intro acc; simp
    | cons c cs ih =>
      intro acc
      rw [List.map_cons, List.foldl_cons, ih]
      have e : ("" : Str).cps = #[] := by decide +kernel
      rw [e]
      unfold one
      simp
  cases cs with
  | nil => decide +kernel
  | cons c cs =>
    show (⟨(((c :: cs).map one).drop 1).foldl (fun acc p => acc ++ ("" : Str).cps ++ p.cps) (((c :: cs).map one).headD Str.empty).cps⟩ : Str) = _
    rw [List.map_cons, List.drop_succ_cons, List.drop_zero, key]
    unfold txt one
    simp
theorem txt_inj {a b : List Nat} (h : txt a = txt b) : a = b := by
  unfold txt at h
  have := congrArg (fun s : Str => s.cps.toList) h
  simpa using this
/-- the letters of a drawn name -/
def nmL (size : Nat) (f : Nat → Int) : List Nat := (List.range size).map fun j => lett (f j)
theorem nm_ok {size : Nat} {cs : List Nat} (hl : cs.length = size) (h1 : 1 ≤ size) (h8 : size ≤ 8) (hc : ∀ c ∈ cs, c ∈ letters.cps.toList) : okName (txt cs) = true := by
  have e : (txt cs).length = size := by unfold txt Str.length; simpa using hl
  unfold okName okT
  rw [e, decide_eq_true (by omega), decide_eq_true (by omega)]
  simp only [Bool.true_and]
  rw [List.all_eq_true]
  intro c h
  exact decide_eq_true (hc c (by unfold txt at h; simpa using h))
/-- names drawn: what is told of them -/
def NamesOk (xs : List Str) (many : Nat) : Prop := xs.length = many ∧ (∀ x ∈ xs, okName x = true) ∧ xs.Nodup ∧ ∃ n, ∀ x ∈ xs, x.length = n
/-- the letters of the k-th name -/
def nmC (size at' : Nat) (f : Nat → Int) (g : Int) : List Nat := ((List.range size).map fun j => lett (f j)).set at' (lett g)
theorem nmC_len {size at' : Nat} {f : Nat → Int} {g : Int} : (nmC size at' f g).length = size := by unfold nmC; simp
theorem nmC_ok {size at' : Nat} {f : Nat → Int} {g : Int} (h1 : 1 ≤ size) (h8 : size ≤ 8) (hf : ∀ j, 0 ≤ f j ∧ f j < 26) (hg : 0 ≤ g ∧ g < 26) : okName (txt (nmC size at' f g)) = true := by
  refine nm_ok nmC_len h1 h8 fun c hc => ?_
  unfold nmC at hc
  rcases List.mem_or_eq_of_mem_set hc with h | h
  · obtain ⟨j, _, rfl⟩ := List.mem_map.mp h
    exact lett_mem (hf j)
  · rw [h]; exact lett_mem hg
theorem nmC_inj {size at' : Nat} {f : Nat → Int} {g g' : Int} (ha : at' < size) (hg : 0 ≤ g ∧ g < 26) (hg' : 0 ≤ g' ∧ g' < 26) (h : txt (nmC size at' f g) = txt (nmC size at' f g')) : g = g' := by
  have e := congrArg (fun l : List Nat => l[at']?) (txt_inj h)
  unfold nmC at e
  simp only [List.getElem?_set_self', List.getElem?_map] at e
  rw [List.getElem?_range ha] at e
  exact lett_inj' hg hg' (by simpa using e)
theorem names_ok {size at' : Nat} {f : Nat → Int} {c : Int} {many : Nat} (h1 : 1 ≤ size) (h8 : size ≤ 8) (ha : at' < size) (hm : many ≤ 26) (hf : ∀ j, 0 ≤ f j ∧ f j < 26) : NamesOk ((List.range many).map fun k : Nat => txt (nmC size at' f ((c + (k : Int)).fmod 26))) many := by
  have fm : ∀ k : Nat, 0 ≤ (c + (k : Int)).fmod 26 ∧ (c + (k : Int)).fmod 26 < 26 := fun k => fm_pos (by decide)
  refine ⟨by simp, fun x hx => ?_, ?_, size, fun x hx => ?_⟩
  · obtain ⟨k, _, rfl⟩ := List.mem_map.mp hx
    exact nmC_ok h1 h8 hf (fm k)
  · unfold List.Nodup
    rw [List.pairwise_map]
    refine List.Pairwise.imp_of_mem (fun {a b} ha' hb' hne he => hne ?_) List.nodup_range
    have := nmC_inj ha (fm a) (fm b) he
    rw [List.mem_range] at ha' hb'
    rw [Int.fmod_eq_emod_of_nonneg _ (by decide), Int.fmod_eq_emod_of_nonneg _ (by decide)] at this
    omega
  · obtain ⟨k, _, rfl⟩ := List.mem_map.mp hx
    unfold txt Str.length
    simp [nmC_len]
theorem sum_one (cs : List Nat) : ((cs.map one).map (·.length)).sum = cs.length := by
  induction cs with
  | nil => rfl
  | cons c cs ih =>
    rw [List.map_cons, List.map_cons, List.sum_cons, ih, List.length_cons]
    show 1 + cs.length = _
    omega
theorem nmC_vals {size at' : Nat} {f : Nat → Int} {g : Int} : ((List.range size).map fun j => V.str (one (lett (f j)))).set at' (V.str (one (lett g))) = ((nmC size at' f g).map one).map V.str := by
  unfold nmC
  rw [List.map_set, List.map_set, List.map_map, List.map_map]
  rfl
/-! ### names by sums -/
theorem txt_snoc (cs : List Nat) (c : Nat) : txt cs ++ one c = txt (cs ++ [c]) := by
  show (⟨cs.toArray ++ #[c]⟩ : Str) = ⟨(cs ++ [c]).toArray⟩
  simp

def nmI (b st : Int) (at' k : Nat) (j : Nat) : Nat := lett ((b + (j : Int) * st + (k : Int) * (if j = at' then 1 else 0)).fmod 26)
def nm2 (b st : Int) (size at' k : Nat) : List Nat := (List.range size).map (nmI b st at' k)
theorem names2_ok {b st : Int} {size at' many : Nat} (h1 : 1 ≤ size) (h8 : size ≤ 8) (ha : at' < size) (hm : many ≤ 26) : NamesOk ((List.range many).map fun k => txt (nm2 b st size at' k)) many := by
  have len : ∀ k, (nm2 b st size at' k).length = size := fun k => by unfold nm2; simp
  refine ⟨by simp, fun x hx => ?_, ?_, size, fun x hx => ?_⟩
  · obtain ⟨k, _, rfl⟩ := List.mem_map.mp hx
    refine nm_ok (len k) h1 h8 fun c hc => ?_
    unfold nm2 at hc
    obtain ⟨j, _, rfl⟩ := List.mem_map.mp hc
    exact lett_mem (fm_pos (by decide))
  · unfold List.Nodup
    rw [List.pairwise_map]
    refine List.Pairwise.imp_of_mem (fun {x y} hx hy hne he => hne ?_) List.nodup_range
    have e := congrArg (fun l : List Nat => l[at']?) (txt_inj he)
    unfold nm2 at e
    simp only [List.getElem?_map] at e
    rw [List.getElem?_range ha] at e
    have e2 : nmI b st at' x at' = nmI b st at' y at' := by simpa using e
    unfold nmI at e2
    rw [if_pos rfl] at e2
    have e3 := lett_inj' (fm_pos (by decide)) (fm_pos (by decide)) e2
    rw [Int.fmod_eq_emod_of_nonneg _ (by decide), Int.fmod_eq_emod_of_nonneg _ (by decide)] at e3
    rw [List.mem_range] at hx hy
    omega
  · obtain ⟨k, _, rfl⟩ := List.mem_map.mp hx
    unfold txt Str.length
    simp [len]
def spNames : Sp := fun vs H Q _ => ∃ (cell : Int) (many : Nat), vs = [.int cell, .int many] ∧ many ≤ 26 ∧ ∀ (p : Addr) (H' : Hp) (xs : List Str), Same H H' → H p = none → H' p = some (.lst (xs.map V.str)) → NamesOk xs many → Q (.ref p) H'
/-! ### zip of two lists -/
theorem pi_zipK {X : Cx} {K : PySem.W.Frag} {e e2 : Expr} {ta : TA} {p pos tpos : PySem.Pos} {elts : List Expr} {kk : Nat} (h : X.K = K) (hg : Gl X "zip") (hm : X.mg "zip" = none) (ha : PA X [e, e2] ta)
    (hs : starEach [e, e2] X.env = (false, eval e X.env) :: starEach [e2] X.env := by rfl) (hpl : (backTo pos (starEach [e2] X.env)).any (·.1) = false := by rfl) :
    PI X (.Tuple elts kk tpos) (.Call (.Name "zip" p) [e, e2] [] pos) (iZip K ta) := by subst h; exact pi_zip hg hm ha hs hpl
def ForZ (K : PySem.W.Frag) (a b : Addr) (g : TG) (tb : TS) (D : Ends) (σ : L2.St) (H : Hp) : Prop := ∃ W : Nat → Nat → L2.St → Hp → Prop, (∃ m, W 0 m σ H) ∧ ∀ i m σ H, W i m σ H →
  ((Itz K a b).stop i H ∧ D.nx σ H) ∨ ((Itz K a b).go i H ∧ ∃ N : L2.St → Hp → Prop, (∀ σ' H', N σ' H' → ∃ m', m' < m ∧ W (i + 1) m' σ' H') ∧ ∀ v H', (Itz K a b).yld i H v H' → g v σ H' fun σ2 H2 => tb { D with nx := N, ct := N, bk := D.nx } σ2 H2)
theorem for_zp {K : PySem.W.Frag} {ta : TA} {g : TG} {tb : TS} {D : Ends} {σ : L2.St} {H : Hp} (h : ta σ H fun vs H1 => ∃ a b, vs = [.ref a, .ref b] ∧ ∃ xs, SqL K H1 a xs ∧ ∃ ys, SqL K H1 b ys ∧ ForZ K a b g tb D σ H1) : tFor (iZip K (tWk ta)) g tb D σ H :=
  ⟨_, h, fun _ _ ⟨a, b, e, xs, h1, ys, h2, h3⟩ => ⟨a, b, xs, ys, e, h1, h2, h3⟩⟩
theorem forZ_by {K : PySem.W.Frag} {a b : Addr} {xs ys : List V} {g : TG} {tb : TS} {D : Ends} {σ : L2.St} {H : Hp} (h1 : SqL K H a xs) (h2 : SqL K H b ys) (hl : xs.length = ys.length) (Pv : Nat → L2.St → Hp → Prop) (h0 : Pv 0 σ H) (hq : ∀ i σ H, Pv i σ H → SqL K H a xs ∧ SqL K H b ys)
    (hs : ∀ (i : Nat) (x y : V) (T : Addr) (σ : L2.St) (H : Hp) (H2 : Hp), xs[i]? = some x → ys[i]? = some y → Pv i σ H → Same H H2 → H2 T = some (.tup [x, y]) → g (.ref T) σ H2 fun σ2 H2 => tb { D with nx := Pv (i + 1), ct := Pv (i + 1), bk := D.nx } σ2 H2) (hd : ∀ σ H, Pv xs.length σ H → D.nx σ H) : ∃ xs, SqL K H a xs ∧ ∃ ys, SqL K H b ys ∧ ForZ K a b g tb D σ H :=
  ⟨xs, h1, ys, h2, RZ.for_zipL hl Pv h0 hq (fun i x y T σ H hx hy p hT => hs i x y T σ H _ hx hy p (upd_keep hT) upd_same) hd⟩
/-! ### comprehensions over a zip of two lists -/
def LcZ (K : PySem.W.Frag) (a b : Addr) (g : TG) (tt : TT) (te : TE) (vs : List Nat) (σ : L2.St) (H1 : Hp) (Q : VK) : Prop := ∀ D, H1 D = none → ∃ W : Nat → Nat → Hp → Prop, (∃ m, W 0 m (upd H1 D (.lst []))) ∧ ∀ i m H, W i m H →
  ((Itz K a b).stop i H ∧ Q (.ref D) H) ∨ ((Itz K a b).go i H ∧ ∃ Nx : Hp → Prop, (∀ H', Nx H' → ∃ m', m' < m ∧ W (i + 1) m' H') ∧ ∀ x H', (Itz K a b).yld i H x H' → g x (wipe σ vs) H' fun σ2 H2 => wipe σ2 vs = wipe σ vs ∧ tt σ2 H2 fun b H3 =>
    if b = true then te σ2 H3 fun y H4 => ∃ acc, H4 D = some (.lst acc) ∧ acc.length < sizeLine ∧ Nx (upd H4 D (.lst (acc ++ [y]))) else Nx H3)
theorem lcz_src {K : PySem.W.Frag} {ta : TA} {g : TG} {tt : TT} {te : TE} {vs : List Nat} {σ : L2.St} {H : Hp} {Q : VK} (h : ta σ H fun us H1 => ∃ a b, us = [.ref a, .ref b] ∧ ∃ xs, SqL K H1 a xs ∧ ∃ ys, SqL K H1 b ys ∧ LcZ K a b g tt te vs σ H1 Q) : tLc (iZip K (tWk ta)) g tt te vs σ H Q :=
  ⟨_, h, fun _ _ ⟨a, b, e, xs, h1, ys, h2, h3⟩ => ⟨a, b, xs, ys, e, h1, h2, h3⟩⟩
theorem lcZ_vals {K : PySem.W.Frag} {a b : Addr} {xs ys : List V} {F : Nat → V} {g : TG} {te : TE} {vs : List Nat} {σ : L2.St} {H : Hp} {Q : VK} (hx : H a = some (.lst xs)) (hy : H b = some (.lst ys)) (hl : xs.length = ys.length) (hn : xs.length ≤ 900)
    (ht : ∀ (i : Nat) (x y : V) (T : Addr) (H2 : Hp) (Yes : VK), xs[i]? = some x → ys[i]? = some y → Same H H2 → H2 T = some (.tup [x, y]) → (∀ H3, Same H2 H3 → Yes (F i) H3) → g (.ref T) (wipe σ vs) H2 fun σ2 H3 => wipe σ2 vs = wipe σ vs ∧ te σ2 H3 Yes)
    (q : ∀ D H', Same H H' → H D = none → H' D = some (.lst ((List.range xs.length).map F)) → Q (.ref D) H') : LcZ K a b g tYes te vs σ H Q := fun D hD => by
  refine ⟨fun i m H' => m = xs.length - i ∧ i ≤ xs.length ∧ Same H H' ∧ H' D = some (.lst ((List.range i).map F)), ⟨xs.length, rfl, Nat.zero_le _, upd_keep hD, upd_same⟩, ?_⟩
  rintro i m H' ⟨rfl, hi, sm, eD⟩
  by_cases c : i < xs.length
  · have h1 := List.getElem?_eq_getElem c
    have h2 := List.getElem?_eq_getElem (l := ys) (i := i) (by omega)
    refine .inr ⟨⟨xs, ys, _, _, .of (sm _ _ hx), .of (sm _ _ hy), h1, h2⟩, fun H2 => i + 1 ≤ xs.length ∧ Same H H2 ∧ H2 D = some (.lst ((List.range (i + 1)).map F)), fun H2 ⟨p1, p2, p3⟩ => ⟨_, by omega, rfl, p1, p2, p3⟩, ?_⟩
    rintro v H2 ⟨T, x, y, rfl, fT, rfl, hx', hy'⟩
    have ex := hx' xs (.of (sm _ _ hx))
    have ey := hy' ys (.of (sm _ _ hy))
    have s2 : Same H' (upd H' T (.tup [x, y])) := upd_keep fT
    have := ht i x y T (upd H' T (.tup [x, y])) (fun v H5 => ∃ acc, H5 D = some (.lst acc) ∧ acc.length < sizeLine ∧ (i + 1 ≤ xs.length ∧ Same H (upd H5 D (.lst (acc ++ [v]))) ∧ upd H5 D (.lst (acc ++ [v])) D = some (.lst ((List.range (i + 1)).map F)))) ex ey (sm.trans s2) upd_same (fun H3 s3 => by
      refine ⟨_, s3 _ _ (s2 _ _ eD), by rw [List.length_map, List.length_range]; exact small1000 (by omega), by omega, same_updN hD (sm.trans (s2.trans s3)), ?_⟩
      rw [upd_same, List.range_succ, List.map_append]; rfl)
    simpa only [tYes, if_true] using this
  · have e : i = xs.length := by omega
    subst e
    exact .inl ⟨⟨xs, ys, .of (sm _ _ hx), .of (sm _ _ hy), .inl (Nat.le_refl _)⟩, q D H' sm hD eD⟩
/-! ### zip of a list and a tuple -/
section
open PySem PySem.Spec PyProof.Rows L2 RZ
open PySem.Sem (wp)
variable {prog : Program} {w : World} {A : Around} {E : Value → Shared → Prop} {s : Shared}
def MzSt (z TI TO i1 i2 l1 l2 : Addr) (k : Nat) (h : Heap) : Prop := IsZip h z TI TO .none ∧ IsPair h TI (.ref i1) (.ref i2) ∧ (∃ x y, IsPair h TO x y) ∧ h.IsListIter i1 l1 k ∧ h.IsTupleIter i2 l2 k
theorem mz_item {z TI TO i1 i2 l1 l2 : Addr} {k : Nat} {xs ys : Array Value} {x y a b : Value} {Q : Value → Shared → Prop} (ap : ZipApart z TI TO i1 i2 l1 l2) (oz : IsZip s.heap z TI TO .none) (oI : IsPair s.heap TI (.ref i1) (.ref i2)) (oO : IsPair s.heap TO a b)
    (n1 : s.heap.IsListIter i1 l1 k) (n2 : s.heap.IsTupleIter i2 l2 k) (c1 : s.heap.IsList l1 xs) (c2 : s.heap.IsTuple l2 ys) (ex : xs[k]? = some x) (ey : ys[k]? = some y)
    (go : ∀ h', IsZip h' z TI TO (rawInt s.heap.objs.size) → IsPair h' TO x y → h'.IsListIter i1 l1 (k + 1) → h'.IsTupleIter i2 l2 (k + 1) → IsPair h' s.heap.objs.size x y → h'.objs.size = s.heap.objs.size + 1 → (∀ c o, c ≠ z → c ≠ TO → c ≠ i1 → c ≠ i2 → s.heap.get? c = some o → h'.get? c = some o) → Q (.ref s.heap.objs.size) { s with heap := h' }) :
    wpAny (model prog w) A (Builtin.«zip.__next__» ⟨[.ref z], []⟩) (fun fin t => ∃ v, fin = .done (.ret v) ∧ Q v t) E s := by
  show wpAny _ A (field (.ref z) 2 >>= _) _ E s
  refine wpAny_bind (wpAny_field oz rfl (x := .bool false) rfl (?_ : wpAny _ A (field (.ref z) 3 >>= _) _ E s))
  refine wpAny_bind (wpAny_field oz rfl (x := .ref TI) rfl (wpAny_bind (wpAny_seqItems oI rfl (?_ : wpAny _ A (Builtin.SmallTypes.ownedTupleIsFree (.ref z) >>= _) _ E s))))
  refine wpAny_bind ?_
  unfold Builtin.SmallTypes.ownedTupleIsFree
  refine wpAny_bind (wpAny_field oz rfl (x := .none) rfl (wpAny_pure ?_))
  simp only [if_true]
  refine wpAny_bind (wpAny_rule (wpAny_bind (wpAny_field oz rfl (x := .ref TO) rfl (wpAny_bind (wpAny_setField_rec oz (by simp) fun g1 oz1 b1 => ?_)))))
  have oz1 : IsZip g1 z TI TO .ellipsis := oz1
  refine wpAny_bind ?_
  simp only [List.zipIdx_cons, List.zipIdx_nil, List.forIn_cons, List.forIn_nil]
  refine wpAny_bind (wpAny_bind (wpAny_onRaise (?_ : wpAny _ A (Builtin.SmallTypes.nextOf (.ref i1) >>= _) _ _ _)))
  refine wpAny_bind (wpAny_nextOf_list_item (n1.extBut b1.extBut ap.i1z) (c1.extBut b1.extBut ap.l1z) ex fun g2 n12 b2 => wpAny_pure ?_)
  have oO2 : IsPair g2 TO a b := b2.extBut _ _ ap.TOi1 (b1.extBut _ _ ap.TOz oO)
  refine wpAny_bind (wpAny_seqItems oO2 rfl (wpAny_bind (wpAny_updateSeq_pair oO2 fun g3 oO3 b3 => ?_)))
  have oO3 : IsPair g3 TO x b := oO3
  refine wpAny_bind (wpAny_letGo (wpAny_pure ?_))
  refine wpAny_bind (wpAny_bind (wpAny_onRaise (?_ : wpAny _ A (Builtin.SmallTypes.nextOf (.ref i2) >>= _) _ _ _)))
  refine wpAny_bind (nextOf_tuple_item (((n2.extBut b1.extBut ap.i2z).extBut b2.extBut ap.i12.symm).extBut b3.extBut ap.TOi2.symm) (((c2.extBut b1.extBut ap.l2z).extBut b2.extBut ap.l2i1).extBut b3.extBut ap.l2TO) ey fun g4 n24 b4 => wpAny_pure ?_)
  have oO4 : IsPair g4 TO x b := b4.extBut _ _ ap.TOi2 oO3
  refine wpAny_bind (wpAny_seqItems oO4 rfl (wpAny_bind (wpAny_updateSeq_pair oO4 fun g5 oO5 b5 => ?_)))
  have oO5 : IsPair g5 TO x y := oO5
  refine wpAny_bind (wpAny_letGo (wpAny_pure (wpAny_pure (wpAny_bind (wpAny_seqItems oO5 rfl (wpAny_bind (wpAny_newTuple ?_)))))))
  have size5 : g5.objs.size = s.heap.objs.size := by rw [b5.1, b4.1, b3.1, b2.1, b1.1]
  have oz5 : IsZip g5 z TI TO .ellipsis := b5.extBut _ _ ap.TOz.symm (b4.extBut _ _ ap.i2z.symm (b3.extBut _ _ ap.TOz.symm (b2.extBut _ _ ap.i1z.symm oz1)))
  have stay5 : ∀ c o, c ≠ z → c ≠ TO → c ≠ i1 → c ≠ i2 → s.heap.get? c = some o → g5.get? c = some o := fun c o d1 d2 d3 d4 e => b5.extBut _ _ d2 (b4.extBut _ _ d4 (b3.extBut _ _ d2 (b2.extBut _ _ d3 (b1.extBut _ _ d1 e))))
  have n15 : g5.IsListIter i1 l1 (k + 1) := ((n12.extBut b3.extBut ap.TOi1.symm).extBut b4.extBut ap.i12).extBut b5.extBut ap.TOi1.symm
  have n25 : g5.IsTupleIter i2 l2 (k + 1) := n24.extBut b5.extBut ap.TOi2.symm
  have zl : z < g5.objs.size := Heap.lt_size oz5
  show wpAny _ A (Builtin.SmallTypes.ownedTupleHandOut (.ref z) (.ref g5.objs.size) >>= _) _ E _
  refine wpAny_bind ?_
  unfold Builtin.SmallTypes.ownedTupleHandOut
  have oz6 : IsZip (g5.push { cls := .type "tuple", data := .seq #[x, y] }) z TI TO .ellipsis := Heap.get?_push_of_some _ oz5
  refine wpAny_bind (wpAny_setField_rec oz6 (by simp) fun g7 oz7 b7 => ?_)
  have oz7 : IsZip g7 z TI TO (rawInt g5.objs.size) := oz7
  refine wpAny_setField_rec oz7 (by simp) fun g8 oz8 b8 => ?_
  have oz8 : IsZip g8 z TI TO (rawInt g5.objs.size) := oz8
  have stay8 : ∀ c o, c ≠ z → g5.get? c = some o → g8.get? c = some o := fun c o d e => b8.extBut _ _ d (b7.extBut _ _ d (Heap.get?_push_of_some _ e))
  have new8 : IsPair g8 g5.objs.size x y := b8.extBut _ _ (Nat.ne_of_gt zl) (b7.extBut _ _ (Nat.ne_of_gt zl) (Heap.get?_push_size _ rfl))
  have size8 : g8.objs.size = g5.objs.size + 1 := by rw [b8.1, b7.1, Heap.size_push]
  rw [size5] at oz8 new8 size8
  refine wpAny_pure ⟨_, rfl, (?_ : Q (.ref g5.objs.size) _)⟩
  rw [size5]
  exact go g8 oz8 (stay8 _ _ ap.TOz oO5) (n15.at fun o e => stay8 _ o ap.i1z e) (n25.at fun o e => stay8 _ o ap.i2z e) new8 size8 fun c o d1 d2 d3 d4 e => stay8 c o d1 (stay5 c o d1 d2 d3 d4 e)
theorem mz_end {z TI TO i1 i2 l1 l2 : Addr} {k : Nat} {xs ys : Array Value} {a b : Value} {Q : Fin → Shared → Prop} (hh : A.handled = none) (ap : ZipApart z TI TO i1 i2 l1 l2) (oz : IsZip s.heap z TI TO .none) (oI : IsPair s.heap TI (.ref i1) (.ref i2)) (oO : IsPair s.heap TO a b)
    (n1 : s.heap.IsListIter i1 l1 k) (n2 : s.heap.IsTupleIter i2 l2 k) (c1 : s.heap.IsList l1 xs) (c2 : s.heap.IsTuple l2 ys) (fin : xs[k]? = none ∨ ys[k]? = none)
    (go : ∀ h' e, (∀ c o, c ≠ z → c ≠ TO → c ≠ i1 → c ≠ i2 → s.heap.get? c = some o → h'.get? c = some o) → (∃ o, h'.get? e = some o ∧ o.cls = .type "StopIteration") → E (.ref e) { s with heap := h' }) : wpAny (model prog w) A (Builtin.«zip.__next__» ⟨[.ref z], []⟩) Q E s := by
  show wpAny _ A (field (.ref z) 2 >>= _) _ E s
  refine wpAny_bind (wpAny_field oz rfl (x := .bool false) rfl (?_ : wpAny _ A (field (.ref z) 3 >>= _) _ E s))
  refine wpAny_bind (wpAny_field oz rfl (x := .ref TI) rfl (wpAny_bind (wpAny_seqItems oI rfl (?_ : wpAny _ A (Builtin.SmallTypes.ownedTupleIsFree (.ref z) >>= _) _ E s))))
  refine wpAny_bind ?_
  unfold Builtin.SmallTypes.ownedTupleIsFree
  refine wpAny_bind (wpAny_field oz rfl (x := .none) rfl (wpAny_pure ?_))
  simp only [if_true]
  refine wpAny_bind (wpAny_rule (wpAny_bind (wpAny_field oz rfl (x := .ref TO) rfl (wpAny_bind (wpAny_setField_rec oz (by simp) fun g1 oz1 b1 => ?_)))))
  have oz1 : IsZip g1 z TI TO .ellipsis := oz1
  refine wpAny_bind ?_
  simp only [List.zipIdx_cons, List.zipIdx_nil, List.forIn_cons, List.forIn_nil]
  refine wpAny_bind (wpAny_bind (wpAny_onRaise (?_ : wpAny _ A (Builtin.SmallTypes.nextOf (.ref i1) >>= _) _ _ _)))
  have last : ∀ {g : Heap} {e : Addr}, (∀ c o, c ≠ z → c ≠ TO → c ≠ i1 → c ≠ i2 → s.heap.get? c = some o → g.get? c = some o) → IsZip g z TI TO .ellipsis → (∃ o, g.get? e = some o ∧ o.cls = .type "StopIteration") → ∀ g', Heap.SameBut z g g' → E (.ref e) { s with heap := g' } := fun {g e} k oz ⟨o, q1, q2⟩ g' sb => by
    have ne : e ≠ z := fun q => by rw [q, oz] at q1; cases q1; simp at q2
    exact go g' e (fun c o d1 d2 d3 d4 q => sb.extBut _ _ d1 (k c o d1 d2 d3 d4 q)) ⟨o, sb.extBut _ _ ne q1, q2⟩
  cases ex : xs[k]? with
  | none =>
    refine wpAny_bind (wpAny_nextOf_list_end hh (n1.extBut b1.extBut ap.i1z) (c1.extBut b1.extBut ap.l1z) ex fun g2 e b2 he => ?_)
    have oz2 : IsZip g2 z TI TO .ellipsis := b2 _ _ ap.i1z.symm oz1
    exact wpAny_setField_rec oz2 (by simp) fun g3 _ b3 => last (fun c o d1 _ d3 _ q => b2 _ _ d3 (b1.extBut _ _ d1 q)) oz2 he g3 b3
  | some x =>
    have ey : ys[k]? = none := fin.resolve_left fun q => by rw [ex] at q; cases q
    refine wpAny_bind (wpAny_nextOf_list_item (n1.extBut b1.extBut ap.i1z) (c1.extBut b1.extBut ap.l1z) ex fun g2 n12 b2 => wpAny_pure ?_)
    have oO2 : IsPair g2 TO a b := b2.extBut _ _ ap.TOi1 (b1.extBut _ _ ap.TOz oO)
    refine wpAny_bind (wpAny_seqItems oO2 rfl (wpAny_bind (wpAny_updateSeq_pair oO2 fun g3 oO3 b3 => wpAny_bind (wpAny_letGo (wpAny_pure ?_)))))
    refine wpAny_bind (wpAny_bind (wpAny_onRaise (?_ : wpAny _ A (Builtin.SmallTypes.nextOf (.ref i2) >>= _) _ _ _)))
    refine wpAny_bind (nextOf_tuple_end hh (((n2.extBut b1.extBut ap.i2z).extBut b2.extBut ap.i12.symm).extBut b3.extBut ap.TOi2.symm) (((c2.extBut b1.extBut ap.l2z).extBut b2.extBut ap.l2i1).extBut b3.extBut ap.l2TO) ey fun g4 e b4 he => ?_)
    have oz4 : IsZip g4 z TI TO .ellipsis := b4 _ _ ap.i2z.symm (b3.extBut _ _ ap.TOz.symm (b2.extBut _ _ ap.i1z.symm oz1))
    exact wpAny_setField_rec oz4 (by simp) fun g5 _ b5 => last (fun c o d1 d2 d3 d4 q => b4 _ _ d4 (b3.extBut _ _ d2 (b2.extBut _ _ d3 (b1.extBut _ _ d1 q)))) oz4 he g5 b5
theorem mz_new (l1 l2 : Addr) (xs ys : Array Value) : Meets (Builtin.«zip.__new__» ⟨[.type "zip", .ref l1, .ref l2], []⟩) (fun _ R s => s.heap.IsList l1 xs ∧ s.heap.IsTuple l2 ys ∧
    let h1 := s.heap.push { cls := .type "list_iterator", data := .fields #[.ref l1, .int 0 0] }
    let h2 := h1.push { cls := .type "tuple_iterator", data := .fields #[.ref l2, .int 0 0] }
    let h3 := h2.push { cls := .type "tuple", data := .seq #[.ref s.heap.objs.size, .ref h1.objs.size] }
    let h4 := h3.push { cls := .type "tuple", data := .seq #[.none, .none] }
    R (.ok (.ret (.ref h4.objs.size))) { s with heap := h4.push { cls := .type "zip", data := .fields #[.none, .bool false, .bool false, .ref h2.objs.size, .ref h3.objs.size] } }) :=
  .of_wp fun prog w A R s h => by
    obtain ⟨hp, g, d, tk, os⟩ := s
    obtain ⟨i1, i2, h⟩ := h
    have zsub := sub_zip
    have L1 : Heap.IsList (Shared.heap ⟨hp, g, d, tk, os⟩) l1 xs := i1
    have T2 : Heap.IsTuple (Shared.heap ⟨hp.push { cls := .type "list_iterator", data := .fields #[.ref l1, .int 0 0] }, g, d, tk, os⟩) l2 ys := Heap.IsTuple.push i2 _
    wp_walk using wpAny_pyIter_list L1, wpAny_pyIter_tuple T2
    exact ⟨_, rfl, h⟩
end
section
open PySem PySem.Spec PyProof.Rows L2 RZ
theorem mz_call {prog : Program} {w : World} {A : Around} {E : Value → Shared → Prop} {s : Shared} {l1 l2 : Addr} {xs ys : Array Value} {Q : Value → Shared → Prop} (c1 : s.heap.IsList l1 xs) (c2 : s.heap.IsTuple l2 ys)
    (go : ∀ h', MzSt (s.heap.objs.size + 4) (s.heap.objs.size + 2) (s.heap.objs.size + 3) s.heap.objs.size (s.heap.objs.size + 1) l1 l2 0 h' → h'.objs.size = s.heap.objs.size + 5 → (∀ c o, s.heap.get? c = some o → h'.get? c = some o) → Q (.ref (s.heap.objs.size + 4)) { s with heap := h' }) :
    wpAny (model prog w) A (call (.type "zip") [.ref l1, .ref l2]) Q E s := by
  refine callType_new F.called_zip (by decide) (F.typeCall_zip_2 _ _) (F.newCall_zip_2 _ _) (fun obj => F.args_object_init_3 obj _ _) F.entry_zip_new (mz_new l1 l2 xs ys) ⟨c1, c2, ?_⟩
  intro h1 h2 h3 h4
  have e1 : h1.objs.size = s.heap.objs.size + 1 := Heap.size_push ..
  have e2 : h2.objs.size = s.heap.objs.size + 2 := (Heap.size_push ..).trans (by rw [e1])
  have e3 : h3.objs.size = s.heap.objs.size + 3 := (Heap.size_push ..).trans (by rw [e2])
  have e4 : h4.objs.size = s.heap.objs.size + 4 := (Heap.size_push ..).trans (by rw [e3])
  generalize hz : h4.push { cls := .type "zip", data := .fields #[.none, .bool false, .bool false, .ref h2.objs.size, .ref h3.objs.size] } = h5
  have k4 : ∀ c o, h4.get? c = some o → h5.get? c = some o := fun c o e => hz ▸ Heap.get?_push_of_some _ e
  have k3 : ∀ c o, h3.get? c = some o → h5.get? c = some o := fun c o e => k4 c o (Heap.get?_push_of_some _ e)
  have k2 : ∀ c o, h2.get? c = some o → h5.get? c = some o := fun c o e => k3 c o (Heap.get?_push_of_some _ e)
  have k1 : ∀ c o, h1.get? c = some o → h5.get? c = some o := fun c o e => k2 c o (Heap.get?_push_of_some _ e)
  have p5 : h5.get? h4.objs.size = some _ := hz ▸ Heap.get?_push_size _ rfl
  have p4 : h5.get? h3.objs.size = some _ := k4 _ _ (Heap.get?_push_size _ rfl)
  have p3 : h5.get? h2.objs.size = some _ := k3 _ _ (Heap.get?_push_size _ rfl)
  have p2 : h5.get? h1.objs.size = some _ := k2 _ _ (Heap.get?_push_size _ rfl)
  have p1 : h5.get? s.heap.objs.size = some _ := k1 _ _ (Heap.get?_push_size _ rfl)
  have e5 : h5.objs.size = s.heap.objs.size + 5 := by rw [← hz, Heap.size_push, e4]
  rw [e1] at p2 p3
  rw [e2] at p3 p5
  rw [e3] at p4 p5
  rw [e4] at p5
  show (∃ o, Heap.get? h5 h4.objs.size = some o ∧ _) ∧ Q (.ref h4.objs.size) _
  rw [e4]
  exact ⟨⟨_, p5, rfl⟩, go h5 ⟨p5, p3, ⟨_, _, p4⟩, ⟨_, p1, rfl, rfl⟩, ⟨_, p2, rfl, rfl⟩⟩ e5 fun c o e => k1 c o (Heap.get?_push_of_some _ e)⟩
/-- what is walked: the list at a, the tuple at b -/
def ItzM (K : PySem.W.Frag) (a b : Addr) : It :=
  ⟨fun i H => ∃ (xs ys : List V) (x y : V), SqL K H a xs ∧ SqT K H b ys ∧ xs[i]? = some x ∧ ys[i]? = some y,
   fun i H v H' => ∃ T x y, v = .ref T ∧ H T = none ∧ H' = upd H T (.tup [x, y]) ∧ (∀ xs, SqL K H a xs → xs[i]? = some x) ∧ ∀ ys, SqT K H b ys → ys[i]? = some y,
   fun i H => ∃ xs ys : List V, SqL K H a xs ∧ SqT K H b ys ∧ (xs.length ≤ i ∨ ys.length ≤ i)⟩
theorem five {c z TI TO i1 i2 : Addr} (h : c ∈ [z, TI, TO, i1, i2]) {Pr : Addr → Prop} (h1 : Pr z) (h2 : Pr TI) (h3 : Pr TO) (h4 : Pr i1) (h5 : Pr i2) : Pr c := by
  simp only [List.mem_cons, List.not_mem_nil, or_false] at h
  rcases h with rfl | rfl | rfl | rfl | rfl <;> assumption
theorem turn_mz {P : Program} {w : World} {K : PySem.W.Frag} {elts : List Expr} {kk : Nat} {tpos : Pos} {a b z TI TO i1 i2 : Addr} (ap : ZipApart z TI TO i1 i2 a b) : Turn P w K (.Tuple elts kk tpos) (ItzM K a b) [z, TI, TO, i1, i2] z (fun i h => MzSt z TI TO i1 i2 a b i h) where
  mem := List.mem_cons_self
  obj := fun i h ⟨oz, oI, ⟨x, y, oO⟩, ⟨o1, e1, _, d1⟩, ⟨o2, e2, _, d2⟩⟩ c hc => five (Pr := fun c => ∃ o, h.get? c = some o ∧ ∀ v, o.data ≠ .cell v) hc ⟨_, oz, fun v q => nomatch q⟩ ⟨_, oI, fun v q => nomatch q⟩ ⟨_, oO, fun v q => nomatch q⟩ ⟨o1, e1, fun v q => by rw [d1] at q; cases q⟩ ⟨o2, e2, fun v q => by rw [d2] at q; cases q⟩
  keep := fun i h h' ⟨oz, oI, ⟨x, y, oO⟩, n1, n2⟩ k => ⟨k z (by simp) _ oz, k TI (by simp) _ oI, ⟨x, y, k TO (by simp) _ oO⟩, n1.at fun o q => k i1 (by simp) o q, n2.at fun o q => k i2 (by simp) o q⟩
  item := by
    intro X eP ew eK hc i pins s σ H E I hf st hg
    subst eP; subst ew; subst eK
    obtain ⟨oz, oI, ⟨x0, y0, oO⟩, n1, n2⟩ := st
    obtain ⟨xs, ys, x, y, qx, qy, hx, hy⟩ := hg
    obtain ⟨us, ru, pl, _⟩ := I.list qx
    obtain ⟨us2, ru2, pt, _⟩ := I.tuple qy
    obtain ⟨u, hu, rx⟩ := ru.get hx
    obtain ⟨v, hv, ry⟩ := ru2.get hy
    have zl : z < s.heap.objs.size := Heap.lt_size oz
    have lt5 : ∀ c ∈ [z, TI, TO, i1, i2], c < s.heap.objs.size := fun c hc => five (Pr := fun c => c < s.heap.objs.size) hc zl (Heap.lt_size oI) (Heap.lt_size oO) (by obtain ⟨_, e, _⟩ := n1; exact Heap.lt_size e) (by obtain ⟨_, e, _⟩ := n2; exact Heap.lt_size e)
    have TT : s.TypeIs (.ref z) "zip" := ⟨_, oz, rfl⟩
    unfold pyNext
    refine wpAny_bind (wpAny_attempt (wpAny_callSpecial?_slot (name := Str.ofString "__next__") TT F.slot_zip_next (wpAny_call_entry F.slot_zip_next TT F.entry_zip_next (mz_item ap oz oI oO n1 n2 pl.isList pt (x := u) (y := v) (by simpa using hu) (by simpa using hv) fun g gz gO m1 m2 gT gs gk => wpAny_pure ?_) (F.args_zip_next_1 _))))
    refine ⟨_, rfl, wpAny_letOwnedTupleGo_zip (s := { s with heap := g }) gz fun g' gz' sb => ?_⟩
    have gT' : g'.get? s.heap.objs.size = some { cls := .type "tuple", data := .seq #[u, v] } := (sb.2 _ (Nat.ne_of_gt zl)).trans gT
    have nw : ObjOk X.prog X.w (upd H s.heap.objs.size (.tup [x, y])) g' s.heap.objs.size (.tup [x, y]) := ⟨by show 2 ≤ sizeLine; decide, [u, v], .cons rx (.cons ry .nil), ⟨_, gT', rfl, _, rfl⟩⟩
    have I' : Inv X pins σ (upd H s.heap.objs.size (.tup [x, y])) { s with heap := g' } := I.turnedNew (t' := s.toks) (ch := [z, TI, TO, i1, i2]) (fun c o hb q => (sb.2 c (fun e => hb (by simp [e]))).trans (gk c o (fun e => hb (by simp [e])) (fun e => hb (by simp [e])) (fun e => hb (by simp [e])) (fun e => hb (by simp [e])) q)) hf (Nat.le_refl _) nw
    refine ⟨.ref s.heap.objs.size, _, I', rfl, ⟨_, x, y, rfl, I.hok.fresh (Nat.le_refl _), rfl, fun l hl => by rw [I.list_inj hl qx]; exact hx, fun l hl => by rw [I.tuple_inj hl qy]; exact hy⟩, ⟨gz', (sb.2 _ ap.TIz).trans (gk _ _ ap.TIz ap.TITO ap.TIi1 ap.TIi2 oI), ⟨u, v, (sb.2 _ ap.TOz).trans gO⟩, m1.at fun o q => (sb.2 _ ap.i1z).trans q, m2.at fun o q => (sb.2 _ ap.i2z).trans q⟩, fun c hcm => ?_⟩
    rw [upd_ne (Nat.ne_of_lt (lt5 c hcm))]
    exact (hf c hcm).1
  done := by
    intro X eP ew eK hc i pins s σ H E I hf st hg
    subst eP; subst ew; subst eK
    obtain ⟨oz, oI, ⟨x0, y0, oO⟩, n1, n2⟩ := st
    obtain ⟨xs, ys, qx, qy, he⟩ := hg
    obtain ⟨us, ru, pl, _⟩ := I.list qx
    obtain ⟨us2, ru2, pt, _⟩ := I.tuple qy
    have l1 := ru.length
    have l2 := ru2.length
    have none2 : us.toArray[i]? = none ∨ us2.toArray[i]? = none := he.imp (fun q => by simp; omega) (fun q => by simp; omega)
    have TT : s.TypeIs (.ref z) "zip" := ⟨_, oz, rfl⟩
    unfold pyNext
    refine wpAny_bind (wpAny_attempt (wpAny_callSpecial?_slot (name := Str.ofString "__next__") TT F.slot_zip_next (wpAny_call_entry F.slot_zip_next TT F.entry_zip_next (mz_end (I.ok.hd hc) ap oz oI oO n1 n2 pl.isList pt none2 fun g e gk he => ?_) (F.args_zip_next_1 _))))
    obtain ⟨o, ho, hcl⟩ := he
    refine wpAny_bind (wpAny_isInstance (T := "StopIteration") (b := true) ⟨o, ho, hcl⟩ isSubtype_stop (wpAny_pure ⟨rfl, I.turnedL (t' := s.toks) (ch := [z, TI, TO, i1, i2]) (fun c o hb q => gk c o (fun e => hb (by simp [e])) (fun e => hb (by simp [e])) (fun e => hb (by simp [e])) (fun e => hb (by simp [e])) q) hf⟩))
  self := fun A i s Q E st h => wpAny_pyIter_zip st.1 h
def iZipM (K : PySem.W.Frag) (ta : TA) : TI := fun σ H R => ta σ H fun vs H1 => ∃ a b xs ys, vs = [.ref a, .ref b] ∧ SqL K H1 a xs ∧ SqT K H1 b ys ∧ R (ItzM K a b) H1
theorem pi_zipM {X : Cx} {K : PySem.W.Frag} {e e2 : Expr} {ta : TA} {p pos tpos : Pos} {elts : List Expr} {kk : Nat} (hK : X.K = K) (hg : Gl X "zip") (hm : X.mg "zip" = none) (ha : PA X [e, e2] ta)
    (hs : starEach [e, e2] X.env = (false, eval e X.env) :: starEach [e2] X.env := by rfl) (hpl : (backTo pos (starEach [e2] X.env)).any (·.1) = false := by rfl) : PI X (.Tuple elts kk tpos) (.Call (.Name "zip" p) [e, e2] [] pos) (iZipM K ta) := by
  subst hK
  refine ⟨fun pins s σ H R I h => Call_ (ld_blt I hg hm PyProof.Rows.boot_zip (PyProof.Rows.callWith_type1 (thn (ha.run pos pins s σ H _ I h) fun us t ⟨vs, H1, I1, r1, a, b, xs, ys, ev, qx, qy, q⟩ => ?_) hs hpl))⟩
  subst ev
  obtain ⟨u1, u2, rfl, r1, r2⟩ := vals2 r1
  cases (show u1 = Value.ref a from r1)
  cases (show u2 = Value.ref b from r2)
  obtain ⟨us, ru, pl, _⟩ := I1.list qx
  obtain ⟨us2, ru2, pt, _⟩ := I1.tuple qy
  obtain ⟨o2, ho2, _⟩ := id pt
  have free5 : ∀ c, c ∈ [t.heap.objs.size + 4, t.heap.objs.size + 2, t.heap.objs.size + 3, t.heap.objs.size, t.heap.objs.size + 1] → FpOk X pins H1 c := fun c hc => by
    have le : t.heap.objs.size ≤ c := five (Pr := fun c => t.heap.objs.size ≤ c) hc (by omega) (by omega) (by omega) (by omega) (by omega)
    exact I1.fpOk le (I1.hok.fresh le)
  refine mz_call pl.isList pt fun g st gs gk => wpAny_pyIter_zip st.1 ?_
  exact ⟨_, [t.heap.objs.size + 4, t.heap.objs.size + 2, t.heap.objs.size + 3, t.heap.objs.size, t.heap.objs.size + 1], _, _, H1, rfl, I1.kept (t' := t.toks) gk, turn_mz (PySem.W.ktu_apart t.heap.objs.size a b pl.lt (Heap.lt_size ho2)), st, free5, q⟩
def ForM (K : PySem.W.Frag) (a b : Addr) (g : TG) (tb : TS) (D : Ends) (σ : L2.St) (H : Hp) : Prop := ∃ W : Nat → Nat → L2.St → Hp → Prop, (∃ m, W 0 m σ H) ∧ ∀ i m σ H, W i m σ H →
  ((ItzM K a b).stop i H ∧ D.nx σ H) ∨ ((ItzM K a b).go i H ∧ ∃ N : L2.St → Hp → Prop, (∀ σ' H', N σ' H' → ∃ m', m' < m ∧ W (i + 1) m' σ' H') ∧ ∀ v H', (ItzM K a b).yld i H v H' → g v σ H' fun σ2 H2 => tb { D with nx := N, ct := N, bk := D.nx } σ2 H2)
theorem for_zm {K : PySem.W.Frag} {ta : TA} {g : TG} {tb : TS} {D : Ends} {σ : L2.St} {H : Hp} (h : ta σ H fun vs H1 => ∃ a b, vs = [.ref a, .ref b] ∧ ∃ xs, SqL K H1 a xs ∧ ∃ ys, SqT K H1 b ys ∧ ForM K a b g tb D σ H1) : tFor (iZipM K (tWk ta)) g tb D σ H :=
  ⟨_, h, fun _ _ ⟨a, b, e, xs, h1, ys, h2, h3⟩ => ⟨a, b, xs, ys, e, h1, h2, h3⟩⟩
theorem forM_by {K : PySem.W.Frag} {a b : Addr} {xs ys : List V} {g : TG} {tb : TS} {D : Ends} {σ : L2.St} {H : Hp} (h1 : SqL K H a xs) (h2 : SqT K H b ys) (hl : xs.length = ys.length) (Pv : Nat → L2.St → Hp → Prop) (h0 : Pv 0 σ H) (hq : ∀ i σ H, Pv i σ H → SqL K H a xs ∧ SqT K H b ys)
    (hs : ∀ (i : Nat) (x y : V) (T : Addr) (σ : L2.St) (H : Hp) (H2 : Hp), xs[i]? = some x → ys[i]? = some y → Pv i σ H → Same H H2 → H2 T = some (.tup [x, y]) → g (.ref T) σ H2 fun σ2 H2 => tb { D with nx := Pv (i + 1), ct := Pv (i + 1), bk := D.nx } σ2 H2) (hd : ∀ σ H, Pv xs.length σ H → D.nx σ H) : ∃ xs, SqL K H a xs ∧ ∃ ys, SqT K H b ys ∧ ForM K a b g tb D σ H := by
  refine ⟨xs, h1, ys, h2, fun i m σ H => m = xs.length - i ∧ i ≤ xs.length ∧ Pv i σ H, ⟨_, rfl, Nat.zero_le _, h0⟩, ?_⟩
  rintro i m σ H ⟨rfl, hi, p⟩
  obtain ⟨qx, qy⟩ := hq i σ H p
  by_cases c : i < xs.length
  · refine .inr ⟨⟨xs, ys, _, _, qx, qy, List.getElem?_eq_getElem c, List.getElem?_eq_getElem (by omega)⟩, Pv (i + 1), fun σ' H' p' => ⟨_, by omega, rfl, c, p'⟩, ?_⟩
    rintro v H' ⟨T, x', y', rfl, hT, rfl, f1, f2⟩
    exact hs i x' y' T σ H _ (f1 xs qx) (f2 ys qy) p (upd_keep hT) upd_same
  · obtain rfl : i = xs.length := by omega
    exact .inl ⟨⟨xs, ys, qx, qy, .inl (Nat.le_refl _)⟩, hd σ H p⟩
end
/-! ### several except clauses, each with the same name -/
section
open PySem PySem.Spec PyProof.Rows L2
abbrev Clause := Value × (Addr → Value → Option Addr → TS)
def wNamed (K : PySem.W.Frag) (i : Nat) (Wo : WX) (D : Ends) : List Clause → WX
  | [] => Wo
  | z :: zs => wAs K z.1 i z.2 (wNamed K i Wo D zs) D
inductive NamedCl (X : Cx) (n : Str) : List ExceptHandler → List Clause → Prop
  | nil : NamedCl X n [] []
  | cons {y : Str} {c : Value} {ts : Addr → Value → Option Addr → TS} {st : Stmt} {sts : List Stmt} {q1 q2 : Pos} {hs : List ExceptHandler} {zs : List Clause} (nm : Names X y c)
      (su : ∀ (a : Addr) (oe : Obj) (cls : Value) (d : Option Addr) (pn : List (Addr × Obj)), Zc cls d oe → (∃ vs, oe.data = .fields vs) → PSs (X.suite a ((a, oe) :: pn)) (st :: sts) (ts a cls d)) (r : NamedCl X n hs zs) : NamedCl X n (.ExceptHandler (some (.Name y q1)) (some n) (st :: sts) q2 :: hs) ((c, ts) :: zs)
variable {X : Cx} {n : Str} {i : Nat} {body : List Stmt} {hd : ExceptHandler} {hds : List ExceptHandler} {zs : List Clause} {pos : Pos} {tb : WX → TS} {Wo : WX}
theorem ps_try_named (e1 : X.stack = X.env :: X.outer) (e2 : X.env.frame = some X.env.locals) (e3 : X.N.Nodup) (e4 : X.N[i]? = some n) (e5 : X.env.kindOf n = some .local) (tk : Takes X Wo)
    (bo : ∀ (W : WX) (pn : List (Addr × Obj)) (xe : Value → Shared → Prop), Takes (X.tr pn xe) W → PassesOwn (model X.prog X.w) X.A X.env xe → PSs (X.tr pn xe) body (tb W)) (cl : NamedCl X n (hd :: hds) zs) :
    PS X (.Try body (hd :: hds) [] [] pos) (fun D σ H => tb (wNamed X.K i Wo D zs) D σ H) := by
  refine ⟨fun pins s σ H D inv wish => ?_⟩
  have okay := inv.ok
  have frm : X.A.frames = some (X.env :: X.outer) := by rw [okay.frames, e1]
  have lcl : Loc X.env.scope n := .inl e5
  refine wpAny_Try_except (wpAny_mono ((bo (wNamed X.K i Wo D zs) (X.pn ++ pins) (fun ex t1 => wpAny (model X.prog X.w) X.A (noteFrame ex X.env) (fun _ t2 => wpAny (model X.prog X.w) X.A (setFlight ex none) (fun _ t3 => wpAny (model X.prog X.w) X.A (handleBy ex X.env (hd :: hds)) (SP X pins D) X.xe t3) X.xe t2) X.xe t1) (fun u t hx => ?_) PassesOwn.looking).run [] s σ H D (inv.toTry _) wish) (fun fl t hsp => ?_) fun _ _ hx => hx)
  · obtain ⟨a, B, tI, pins', σ', H', cls, d, rfl, inv1, nb, up, sky, na, os, ag, w⟩ := hx
    have inv2 : Inv X pins σ' H' tI := inv1.ofTry okay
    have sky2 : Sky B (X.env :: X.outer) a (Zc cls d) X.env.locals t.heap := by rw [← e1]; exact sky
    show wpAny (model X.prog X.w) X.A (noteFrame (.ref a) X.env) _ _ t
    refine Sky.land Zc.steady frm e2 sky2 fun g3 land3 up3 => ?_
    have inv3 : Inv X pins σ' H' { t with heap := g3 } := inv2.landed nb land3.1 (up.trans up3) os ag
    obtain ⟨ob, vals, got, hz3, dat⟩ := land3.there
    have away : a ∉ frs (X.env :: X.outer) := fun mem => by
      obtain ⟨_, ob', got', nf⟩ := land3.2.2.1.mem mem
      rw [got] at got'; cases got'
      exact nf _ dat
    have awayL : a ≠ X.env.locals := fun z => away (List.mem_filterMap.mpr ⟨X.env, List.mem_cons_self, by rw [e2, z]⟩)
    have awayF : a ∉ X.fs := fun mem => by
      obtain ⟨ev, he, q⟩ := List.mem_filterMap.mp mem
      exact away (List.mem_filterMap.mpr ⟨ev, List.mem_cons_of_mem _ he, q⟩)
    have invS := inv3.suite got dat na awayL awayF
    have run : ∀ {hs' : List ExceptHandler} {zs' : List Clause}, NamedCl X n hs' zs' → wNamed X.K i Wo D zs' cls d σ' H' → wpAny (model X.prog X.w) X.A (handleBy (.ref a) X.env hs') (SP X pins D) X.xe { t with heap := g3 } := by
      intro hs' zs' k
      induction k with
      | nil =>
        intro w
        have fin : wpAny (model X.prog X.w) X.A (setFlight (.ref a) X.env.frame) (fun _ t4 => wpAny (model X.prog X.w) X.A (throw (.ref a) : Sem Flow) (SP X pins D) X.xe t4) X.xe { t with heap := g3 } := by
          rw [e2]
          exact HandSPX.setFlight_upZ land3 fun g4 k4 up4 => wpAny_throw (tk _ _ ⟨a, B, tI, pins, σ', H', cls, d, rfl, inv2, nb, (up.trans up3).trans up4, .inr (.inr (by rw [e1]; exact k4)), na, os, ag, w⟩)
        obtain ⟨_, _, _, o4, v4, T4, oT4, tt4, f1, f2, f3, f4, f5⟩ := id land3
        refine wpAny_handleBy_nil ?_
        unfold PySem.passOn
        refine wpAny_bind (wpAny_field f1 f3 f4 ?_)
        rw [if_neg (by simp : ¬ ((Value.ref T4 == Value.none) = true))]
        first
          | exact wpAny_bind fin
          | exact wpAny_bind (wpAny_pure (wpAny_bind fin))
      | @cons y c ts st sts q1 q2 hs2 zs2 nm su r ih =>
        rintro ⟨b, hb, yes, no⟩
        refine wpAny_handleBy_cons (codeAny_handlers_test ?_) (by intro q; cases q)
        have LK : PySem.W.Looks (model X.prog X.w) g3 (typeOf (.ref a)) cls := fun A1 Q1 E1 s1 k1 q1 => wpAny_typeOf_ref (k1 _ _ got) (by rw [hz3.1]; exact q1)
        have named : ∀ {Q1 : Value → Shared → Prop} {E1 : Value → Shared → Prop}, Q1 c { t with heap := g3 } → wpAny (model X.prog X.w) (X.A.mark (some (.ref a))) (eval (.Name y q1) X.env) Q1 E1 { t with heap := g3 } := fun q => by
          obtain ⟨hg, hdb, hm | ⟨hm, hv, hnn⟩⟩ := nm
          · exact ld_glob (X := X.suite a ((a, ob) :: (X.pn ++ pins))) invS hg hm q hdb
          · exact ld_blt (X := X.suite a ((a, ob) :: (X.pn ++ pins))) invS hg hm hv q hnn hdb
        refine named ((PySem.W.exm_one (M := model X.prog X.w) inv3.kIn LK hb).here ?_)
        cases b with
        | false => exact ih (no rfl)
        | true =>
          refine codeAny_handlers_suite_as (HandSPX.lands_againZ land3 fun g4 land4 up4 => ?_)
          have inv4 : Inv X pins σ' H' { t with heap := g4 } := inv2.landed nb land4.1 ((up.trans up3).trans up4) os ag
          obtain ⟨ob4, vals4, got4, hz4, dat4⟩ := land4.there
          refine store_ok (X := X.suite a ((a, ob4) :: (X.pn ++ pins))) (v := .ref a) (inv4.suite got4 dat4 na awayL awayF) e3 e4 lcl rfl (fun t5 inv5 => ?_) (.inr e5)
          refine wpAny_mono ((su a ob4 cls d (X.pn ++ pins) hz4 ⟨_, dat4⟩).run [] t5 _ H' _ inv5 (yes rfl a na)) (fun fl t6 hsp => ?_) fun _ _ z => z.elim
          have close : ∀ {σ6 : L2.St} {H6 : Hp} {Q : Shared → Prop}, Inv (X.suite a ((a, ob4) :: (X.pn ++ pins))) [] σ6 H6 t6 → (∀ t7, Inv X pins (σ6.set i none) H6 t7 → Q t7) → wpAny (model X.prog X.w) X.A (do bindName X.env n .none; unbindBehindTheSuite X.env n q2) (fun _ t7 => Q t7) X.xe t6 := fun {σ6 H6 Q} inv6 hq => gone_ok (inv6.unsuite okay) e3 e4 e5 hq
          cases fl with
          | ret u => obtain ⟨v6, σ6, H6, inv6, r6, q6⟩ := hsp; exact close inv6 fun t7 inv7 => ⟨_, _, _, inv7, r6, q6⟩
          | _ => obtain ⟨σ6, H6, inv6, q6⟩ := hsp; exact close inv6 fun t7 inv7 => ⟨_, _, inv7, q6⟩
    exact run cl w
  · cases fl with
    | next => obtain ⟨σ', H', inv', q⟩ := hsp; exact wpAny_execs_nil ⟨σ', H', inv'.ofTry okay, q⟩
    | ret u => obtain ⟨v, σ', H', inv', r, q⟩ := hsp; exact ⟨v, σ', H', inv'.ofTry okay, r, q⟩
    | brk => obtain ⟨σ', H', inv', q⟩ := hsp; exact ⟨σ', H', inv'.ofTry okay, q⟩
    | cont => obtain ⟨σ', H', inv', q⟩ := hsp; exact ⟨σ', H', inv'.ofTry okay, q⟩
end
section
open PySem PySem.Spec PyProof.Rows L2
variable {X : Cx} {a : Addr} {cls : Value} {d : Option Addr} {oe : Obj} {pn : List (Addr × Obj)}
/-- isinstance(e, (c1, c2, ..)) of the caught error -/
theorem call_isET (hz : Zc cls d oe) (hf : ∃ vs, oe.data = .fields vs) : CallR (X.suite a ((a, oe) :: pn)) (.builtin "isinstance") (fun xs H Q => ∃ D, cls = .ref D ∧ d = none ∧ ExcC X.K D ∧ ∃ (tp : Addr) (cs : List V) (us : List Value) (b : Bool), xs = [.ref a, .ref tp] ∧ H tp = some (.tup cs) ∧ Paired ClsV cs us ∧ PySem.W.kitAny X.K (.ref D) us = some b ∧ Q (.bl b) H) := by
  rintro pins s σ H xs us Q inv r ⟨D, rfl, rfl, C, tp, cs, ws, b, rfl, hT, k, e, q⟩
  obtain ⟨u1, u2, rfl, r1, r2⟩ := vals2 r
  cases (show u1 = Value.ref a from r1)
  cases (show u2 = Value.ref tp from r2)
  obtain ⟨_, its, rv, o, h1, h2, n, h3⟩ := (show ObjOk _ _ H s.heap tp (.tup cs) from inv.hok tp _ hT)
  cases ClsV.all k rv
  obtain ⟨oc, od, dt, sl⟩ := o
  simp only at h2 h3
  subst h2; subst h3
  obtain ⟨got, _⟩ := inv.pin (a, oe) (List.mem_append.mpr (.inl List.mem_cons_self))
  obtain ⟨vs, hv⟩ := hf
  have J : PySem.W.InstAt s.heap a oe D none := by
    obtain ⟨c1, d1, t1, l1⟩ := oe
    obtain ⟨z1, z2⟩ := hz
    dsimp only at z1 z2 hv
    subst z1; subst z2; subst hv
    exact ⟨got, rfl, rfl, trivial⟩
  exact PySem.W.kia_tup (PySem.W.handS_kitx_exc C.hg C.hk C.hs C.hd C.ha C.hn C.ht C.hm) inv.kIn J h1 e (fun z => nomatch z) fun tk => ⟨.bl b, H, inv.kept (t' := tk) fun _ _ z => z, rfl, q⟩
end
theorem pe_revN {X : Cx} {e : Expr} {te : TE} {k : Nat} {p1 p2 p3 pos : PySem.Pos} (m : ∀ (σ : L2.St) (H : Hp) (Q R : VK), (∀ v H, Q v H → R v H) → te σ H Q → te σ H R) (he : PE X e te) : PE X (.Subscript e (.Slice none none (some (.UnaryOp .USub (.Constant (.int 1) k p1) p2)) p3) pos) (tRevN X.K te) :=
  pe_imp (pe_revL he) fun σ H Q q => m σ H _ _ (fun v H1 ⟨a, xs, e, h, q⟩ => ⟨a, xs, e, h, fun p hp => q p _ (upd_keep hp) hp upd_same⟩) q
/-! ### machines put together: plain -/
def rNeRefs : R2 := fun x y H Q => ∃ a b, ∃ qs : List Addr, x = .ref a ∧ y = .ref b ∧ H a = some (.lst (qs.map V.ref)) ∧ H b = some (.lst (qs.map V.ref)) ∧ Q (.bl false) H
theorem refs_vals : ∀ {qs : List Addr} {us : List Value}, Vals (qs.map V.ref) us → us = qs.map Value.ref := by
  intro qs
  induction qs with
  | nil => intro us r; cases r; rfl
  | cons q qs ih =>
    intro us r
    cases r with
    | cons r rs => rw [show _ = Value.ref q from r, ih rs]; rfl
/-- two lists of the very same things are told apart: no -/
theorem op_neRefs {X : Cx} (hu : X.A.units < cLine) : OpR X (compareOp .NotEq) rNeRefs := by
  rintro pins s σ H x y v u Q I rx ry ⟨a, b, qs, rfl, rfl, ea, eb, q⟩
  obtain rfl : v = Value.ref a := rx
  obtain rfl : u = Value.ref b := ry
  obtain ⟨us, ru, pl, _⟩ := I.list (xs := qs.map V.ref) (.of ea)
  obtain ⟨us2, ru2, pl2, _⟩ := I.list (xs := qs.map V.ref) (.of eb)
  rw [refs_vals ru] at pl
  rw [refs_vals ru2] at pl2
  refine SeqAt.RcNeAt.lists (e := fun _ => true) pl.isList pl2.isList rfl hu (fun j h1 h2 => SeqAt.EqAt.same _) X.prog X.w _ _ ?_
  exact ⟨.bl _, H, I, by show _ = Value.bool _; simp, q⟩
def ForE (K : PySem.W.Frag) (a : Addr) (g : TG) (tb : TS) (D : Ends) (σ : L2.St) (H : Hp) : Prop := ∃ W : Nat → Nat → L2.St → Hp → Prop, (∃ m, W 0 m σ H) ∧ ∀ i m σ H, W i m σ H →
  ((Ite K a).stop i H ∧ D.nx σ H) ∨ ((Ite K a).go i H ∧ ∃ N : L2.St → Hp → Prop, (∀ σ' H', N σ' H' → ∃ m', m' < m ∧ W (i + 1) m' σ' H') ∧ ∀ v H', (Ite K a).yld i H v H' → g v σ H' fun σ2 H2 => tb { D with nx := N, ct := N, bk := D.nx } σ2 H2)
theorem pi_enumK {X : Cx} {K : PySem.W.Frag} {e : Expr} {ta : TA} {p pos tpos : PySem.Pos} {elts : List Expr} {kk : Nat} (h : X.K = K) (hg : Gl X "enumerate") (hm : X.mg "enumerate" = none) (ha : PA X [e] ta)
    (hs : starEach [e] X.env = [(false, eval e X.env)] := by rfl) :
    PI X (.Tuple elts kk tpos) (.Call (.Name "enumerate" p) [e] [] pos) (iEnum K (tWk ta)) := by subst h; exact pi_enum hg hm (pa_wk ha) hs
theorem for_en {K : PySem.W.Frag} {ta : TA} {g : TG} {tb : TS} {D : Ends} {σ : L2.St} {H : Hp} (h : ta σ H fun vs H1 => ∃ a, vs = [.ref a] ∧ ∃ xs, SqL K H1 a xs ∧ ForE K a g tb D σ H1) : tFor (iEnum K (tWk ta)) g tb D σ H :=
  ⟨_, h, fun _ _ ⟨a, e, xs, h1, h3⟩ => ⟨a, xs, e, h1, h3⟩⟩
theorem forE_by {K : PySem.W.Frag} {a : Addr} {xs : List V} {g : TG} {tb : TS} {D : Ends} {σ : L2.St} {H : Hp} (Pv : Nat → L2.St → Hp → Prop) (h0 : Pv 0 σ H) (hl : ∀ i σ H, i ≤ xs.length → Pv i σ H → SqL K H a xs)
    (hs : ∀ (i : Nat) (x : V) (T : Addr) (σ : L2.St) (H H2 : Hp), xs[i]? = some x → Pv i σ H → Same H H2 → H2 T = some (.tup [.int (i : Nat), x]) → g (.ref T) σ H2 fun σ2 H2 => tb { D with nx := Pv (i + 1), ct := Pv (i + 1), bk := D.nx } σ2 H2) (hd : ∀ σ H, Pv xs.length σ H → D.nx σ H) : ∃ xs, SqL K H a xs ∧ ForE K a g tb D σ H := by
  refine ⟨xs, hl 0 σ H (Nat.zero_le _) h0, fun i m σ H => m = xs.length - i ∧ i ≤ xs.length ∧ Pv i σ H, ⟨_, rfl, Nat.zero_le _, h0⟩, ?_⟩
  rintro i m σ H ⟨rfl, hi, p⟩
  have q := hl i σ H hi p
  by_cases c : i < xs.length
  · have hx := List.getElem?_eq_getElem c
    refine .inr ⟨⟨xs, _, q, hx⟩, Pv (i + 1), fun σ' H' p' => ⟨_, by omega, rfl, c, p'⟩, ?_⟩
    rintro v H' ⟨T, x', rfl, hT, rfl, f1⟩
    exact hs i x' T σ H _ (f1 xs q) p (upd_keep hT) upd_same
  · obtain rfl : i = xs.length := by omega
    exact .inl ⟨⟨xs, q, Nat.le_refl _⟩, hd σ H p⟩
theorem SeqOf.cat {α : Type} {R : Hp → Addr → α → Prop} {H : Hp} {a b : Addr} {xs ys : List α} (h1 : SeqOf R H a xs) (h2 : SeqOf R H b ys) : ∃ us vs, H a = some (.lst us) ∧ H b = some (.lst vs) ∧ us.length = xs.length ∧ vs.length = ys.length ∧ ∀ H' c, (∀ q x, R H q x → R H' q x) → H' c = some (.lst (us ++ vs)) → SeqOf R H' c (xs ++ ys) := by
  obtain ⟨qs, q1, q2, q3⟩ := h1
  obtain ⟨ps, p1, p2, p3⟩ := h2
  refine ⟨_, _, q1, p1, by rw [List.length_map, q2], by rw [List.length_map, p2], fun H' c k e => ⟨qs ++ ps, by rw [List.map_append]; exact e, by simp [q2, p2], fun i q x h1 h2 => k q x ?_⟩⟩
  by_cases c1 : i < qs.length
  · rw [List.getElem?_append_left c1] at h1
    rw [List.getElem?_append_left (by omega)] at h2
    exact q3 i q x h1 h2
  · rw [List.getElem?_append_right (by omega)] at h1
    rw [List.getElem?_append_right (by omega), ← q2] at h2
    exact p3 _ q x h1 h2
abbrev MsAt (CM CD : Addr) (H : Hp) (p : Addr) (Ms : List MachD) : Prop := SeqOf (MachAt CM CD) H p Ms
theorem MsAt.keep {CM CD : Addr} {H H' : Hp} {p : Addr} {Ms : List MachD} (h : MsAt CM CD H p Ms) (s : Same H H') : MsAt CM CD H' p Ms := SeqOf.keep (fun _ _ => MachAt.keep s) s h
/-- a room of the whole: a room of each part -/
abbrev Row := List Rq
def TupS (H : Hp) (q : Addr) (row : Row) : Prop := H q = some (.tup ((row.map (·.1)).map V.str))
theorem TupS.keep : ∀ (H H' : Hp) (q : Addr) (r : Row), Same H H' → TupS H q r → TupS H' q r := fun _ _ _ _ s h => s _ _ h
def rowStep (rs : List Row) (M : MachD) : List Row := rs.flatMap fun r => M.rooms.map fun z => r ++ [z]
def rowsP (Ms : List MachD) : List Row := Ms.foldl rowStep [[]]
def rowName (row : Row) : Str := Txt.join "/" (row.map (·.1))
def wholeR (Ms : List MachD) : List Rq := (rowsP Ms).map fun row => (rowName row, row.flatMap (·.2))
def wholeW (Ms : List MachD) : List Str := Ms.flatMap (·.watches)
def manyR (Ms : List MachD) : Nat := Ms.foldl (fun k M => k * M.rooms.length) 1
theorem manyR_snoc (Ms : List MachD) (M : MachD) : manyR (Ms ++ [M]) = manyR Ms * M.rooms.length := by unfold manyR; rw [List.foldl_append]; rfl
theorem rowsP_snoc (Ms : List MachD) (M : MachD) : rowsP (Ms ++ [M]) = rowStep (rowsP Ms) M := by unfold rowsP; rw [List.foldl_append]; rfl
theorem take_snoc {α : Type} {xs : List α} {i : Nat} {x : α} (h : xs[i]? = some x) : xs.take (i + 1) = xs.take i ++ [x] := by rw [List.take_add_one, h]; rfl
theorem rowStep_len (rs : List Row) (M : MachD) : (rowStep rs M).length = rs.length * M.rooms.length := by
  unfold rowStep
  induction rs with
  | nil => simp
  | cons r rs ih => rw [List.flatMap_cons, List.length_append, ih, List.length_map, List.length_cons, Nat.succ_mul, Nat.add_comm]
theorem rows_len (Ms : List MachD) : (rowsP Ms).length = manyR Ms := by
  have key : ∀ (k : Nat) , k ≤ Ms.length → (rowsP (Ms.take k)).length = manyR (Ms.take k) := by
    intro k
    induction k with
    | zero => intro _; rfl
    | succ k ih =>
      intro hk
      have h := List.getElem?_eq_getElem (l := Ms) (i := k) (by omega)
      rw [take_snoc h, rowsP_snoc, manyR_snoc, rowStep_len, ih (by omega)]
  have := key Ms.length (Nat.le_refl _)
  rwa [List.take_length] at this
/-- a row's rooms are its machines' -/
def RowOk (Ms : List MachD) (row : Row) : Prop := row.length = Ms.length ∧ ∀ (i : Nat) (z : Rq) (M : MachD), row[i]? = some z → Ms[i]? = some M → z ∈ M.rooms
theorem rows_ok : ∀ (Ms : List MachD), ∀ row ∈ rowsP Ms, RowOk Ms row := by
  intro Ms
  have key : ∀ (k : Nat), k ≤ Ms.length → ∀ row ∈ rowsP (Ms.take k), RowOk (Ms.take k) row := by
    intro k
    induction k with
    | zero =>
      intro _ row hr
      have : row = [] := by simpa [rowsP] using hr
      subst this
      exact ⟨by simp, fun i z M h => by simp at h⟩
    | succ k ih =>
      intro hk row hr
      have h := List.getElem?_eq_getElem (l := Ms) (i := k) (by omega)
      rw [take_snoc h, rowsP_snoc] at hr
      rw [take_snoc h]
      obtain ⟨r, hr1, hr2⟩ := List.mem_flatMap.mp hr
      obtain ⟨z, hz, rfl⟩ := List.mem_map.mp hr2
      obtain ⟨l, m⟩ := ih (by omega) r hr1
      refine ⟨by rw [List.length_append, List.length_append, l]; rfl, fun i z' M h1 h2 => ?_⟩
      by_cases c : i < r.length
      · rw [List.getElem?_append_left c] at h1
        rw [List.getElem?_append_left (by omega)] at h2
        exact m i z' M h1 h2
      · rw [List.getElem?_append_right (by omega)] at h1
        rw [List.getElem?_append_right (by omega), ← l] at h2
        have hi : i - r.length = 0 := by
          have := (List.getElem?_eq_some_iff.mp h1).1
          simp at this; omega
        rw [hi] at h1 h2
        have a1 : z = z' := by simpa using h1
        have a2 : Ms[k] = M := by simpa using h2
        rw [← a1, ← a2]; exact hz
  intro row hr
  have := key Ms.length (Nat.le_refl _)
  rw [List.take_length] at this
  exact this row hr
theorem manyR_pos {Ms : List MachD} (h : ∀ M ∈ Ms, M.rooms ≠ []) : 1 ≤ manyR Ms := by
  have key : ∀ (k : Nat), k ≤ Ms.length → 1 ≤ manyR (Ms.take k) := by
    intro k
    induction k with
    | zero => intro _; exact Nat.le_refl _
    | succ k ih =>
      intro hk
      have hz := List.getElem?_eq_getElem (l := Ms) (i := k) (by omega)
      rw [take_snoc hz, manyR_snoc]
      have := List.length_pos_iff.mpr (h _ (List.mem_of_getElem? hz))
      exact Nat.mul_pos (ih (by omega)) this
  have := key Ms.length (Nat.le_refl _)
  rwa [List.take_length] at this
theorem manyR_take {Ms : List MachD} (h : ∀ M ∈ Ms, M.rooms ≠ []) {k : Nat} (hk : k ≤ Ms.length) : manyR (Ms.take k) ≤ manyR Ms := by
  have key : ∀ (d k : Nat), k + d = Ms.length → manyR (Ms.take k) ≤ manyR Ms := by
    intro d
    induction d with
    | zero => intro k e; rw [show k = Ms.length by omega, List.take_length]; exact Nat.le_refl _
    | succ d ih =>
      intro k e
      have hz := List.getElem?_eq_getElem (l := Ms) (i := k) (by omega)
      have h1 := ih (k + 1) (by omega)
      rw [take_snoc hz, manyR_snoc] at h1
      have := List.length_pos_iff.mpr (h _ (List.mem_of_getElem? hz))
      exact Nat.le_trans (Nat.le_mul_of_pos_right _ this) h1
  exact key (Ms.length - k) k (by omega)
/-- a share: the doors that go, by machine and number -/
abbrev Share := List (Nat × Nat)
def PrAt (H : Hp) (q : Addr) (x : Nat × Nat) : Prop := H q = some (.tup [.int x.1, .int x.2])
theorem PrAt.keep : ∀ (H H' : Hp) (q : Addr) (x : Nat × Nat), Same H H' → PrAt H q x → PrAt H' q x := fun _ _ _ _ s h => s _ _ h
abbrev ShAt (H : Hp) (q : Addr) (sh : Share) : Prop := SeqOf PrAt H q sh
theorem ShAt.keep : ∀ (H H' : Hp) (q : Addr) (x : Share), Same H H' → ShAt H q x → ShAt H' q x := fun _ _ _ _ s h => SeqOf.keep (fun _ _ h => s _ _ h) s h
def doorAt (Ms : List MachD) (x : Nat × Nat) : Option DoorD := (Ms[x.1]?).bind fun M => M.doors[x.2]?
def answersP (Ms : List MachD) (number : Nat) (sg : Str) : Share := Ms.zipIdx.flatMap fun M => M.1.doors.zipIdx.filterMap fun d => if M.2 ≠ number ∧ d.1.sg = sg then some (M.2, d.2) else none
def goersP (Ms : List MachD) (x : Nat × Nat) : List Share := match doorAt Ms x with
  | none => []
  | some d => if d.sg = "" then [[x]] else if Txt.endswith d.sg "!" = true then (answersP Ms x.1 (cutS d.sg none (some (-1)) ++ "?")).map fun o => [x, o] else []
def fitsP (Ms : List MachD) (row : Row) (sh : Share) : Bool := sh.all fun x => match doorAt Ms x with | some d => decide ((row.map (·.1))[x.1]? = some d.st) | none => false
def endP (Ms : List MachD) (names : List Str) (sh : Share) : List Str := sh.foldl (fun e x => match doorAt Ms x with | some d => e.set x.1 d.en | none => e) names
def looksP (Ms : List MachD) (sh : Share) : List Lq := sh.flatMap fun x => match doorAt Ms x with | some d => d.looks | none => []
def backsP (Ms : List MachD) (sh : Share) : List Str := sh.flatMap fun x => match doorAt Ms x with | some d => d.backs | none => []
def doorP (Ms : List MachD) (row : Row) (sh : Share) : Option DoorD := if fitsP Ms row sh = true then some ⟨rowName row, Txt.join "/" (endP Ms (row.map (·.1)) sh), "", looksP Ms sh, backsP Ms sh⟩ else none
def sharesP (Ms : List MachD) : List Share := Ms.zipIdx.flatMap fun M => (List.range M.1.doors.length).flatMap fun a => goersP Ms (M.2, a)
def doorsP (Ms : List MachD) : List (DoorD × Share) := (sharesP Ms).flatMap fun sh => (rowsP Ms).filterMap fun row => (doorP Ms row sh).map fun d => (d, sh)
section
variable {X : Cx} {K : PySem.W.Frag}
/-- a tuple behind a tuple: some tuple of both's things -/
def rCatTN (K : PySem.W.Frag) : R2 := fun x y H Q => ∃ a b xs ys, x = .ref a ∧ y = .ref b ∧ H a = some (.tup xs) ∧ H b = some (.tup ys) ∧ xs.length + ys.length ≤ sizeLine ∧ ∀ p H2, Same H H2 → H2 p = some (.tup (xs ++ ys)) → Q (.ref p) H2
theorem op_catTN (h : X.K = K) : OpR X (binaryOp .Add) (rCatTN K) := by
  subst h
  refine op_imp op_catA fun _ _ H Q ⟨a, b, xs, ys, e1, e2, h1, h2, z, q⟩ => ⟨a, b, xs, ys, e1, e2, .of h1, .of h2, z, fun e => ?_, fun _ e => ?_, fun _ _ p hp => q p _ (upd_keep hp) upd_same⟩
  · subst e; exact q b H (Same.refl _) h2
  · subst e; exact q a H (Same.refl _) (by rw [List.append_nil]; exact h1)
def rSlTN (K : PySem.W.Frag) : V → Option Int → Option Int → Hp → VK → Prop := fun x lo hi H Q => ∃ a xs, x = .ref a ∧ H a = some (.tup xs) ∧ ∀ p H2, Same H H2 → H2 p = some (.tup (cutV xs lo hi)) → Q (.ref p) H2
theorem sl_tupN (h : X.K = K) : SlR X (rSlTN K) := by
  subst h
  rintro pins s σ H x v vl vu lo hi sl Q I rx hs p1 p2 ⟨a, xs, e, h, q⟩
  refine sl_tupA pins s σ H x v vl vu lo hi sl Q I rx hs p1 p2 ⟨a, xs, e, .of h, fun ⟨c1, c2⟩ => q a H (Same.refl _) ?_, fun _ p hp => q p _ (upd_keep hp) upd_same⟩
  have : cutV xs lo hi = xs := by unfold cutV; rw [c1, c2]; simp
  rw [this]; exact h
def rJoin (K : PySem.W.Frag) : V → List V → Hp → VK → Prop := fun x xs H Q => ∃ a p, ∃ ys : List Str, x = .str a ∧ xs = [.ref p] ∧ (SqL K H p (ys.map V.str) ∨ SqT K H p (ys.map V.str)) ∧ (ys.map (·.length)).sum + ys.length * a.length ≤ 16777216 ∧ Q (.str (Txt.join a ys)) H
theorem pe_joinA {o e : Expr} {to te : TE} {apos pos : PySem.Pos} (h : X.K = K) (ho : PE X o to) (he : PE X e te) (hs : starEach [e] X.env = [(false, eval e X.env)] := by rfl) (hbase : attributeBase o "join" X.env (eval o X.env) = eval o X.env := by rfl) (hline : (apos.endLine == pos.line) = true := by rfl) :
    PE X (.Call (.Attribute o "join" apos) [e] [] pos) (tM1 (rJoin K) to te) := by subst h; exact pe_join ho he hs hbase hline
end
theorem cutTake (xs : List V) (k : Nat) : cutV xs none (some (k : Int)) = xs.take k := by
  unfold cutV
  rw [HT.sIx_none, HT.sIx_nat, List.drop_zero, Nat.sub_zero]
  by_cases h : k ≤ xs.length
  · rw [Nat.min_eq_left h]
  · rw [Nat.min_eq_right (by omega), List.take_length, List.take_of_length_le (by omega)]
theorem cutDrop (xs : List V) (k : Nat) : cutV xs (some (k : Int)) none = xs.drop k := by
  unfold cutV
  rw [HT.sIx_none, HT.sIx_nat]
  by_cases h : k ≤ xs.length
  · rw [Nat.min_eq_left h]
    exact List.take_of_length_le (by rw [List.length_drop]; omega)
  · rw [Nat.min_eq_right (by omega), List.drop_length, List.drop_of_length_le (by omega), List.take_nil]
theorem cutMid2 {xs : List V} {a b : Nat} (h : a ≤ b) (hb : b ≤ xs.length) : cutV xs (some (a : Int)) (some (b : Int)) = (xs.drop a).take (b - a) := by
  unfold cutV
  rw [HT.sIx_nat, HT.sIx_nat, Nat.min_eq_left hb, Nat.min_eq_left (Nat.le_trans h hb)]
theorem sum_le {k : Nat} : ∀ {xs : List Str}, (∀ x ∈ xs, x.length ≤ k) → (xs.map (·.length)).sum ≤ xs.length * k := by
  intro xs
  induction xs with
  | nil => intro _; simp
  | cons x xs ih =>
    intro h
    have h1 := h x List.mem_cons_self
    have h2 := ih fun y hy => h y (List.mem_cons_of_mem _ hy)
    rw [List.map_cons, List.sum_cons, List.length_cons, Nat.succ_mul]
    omega
theorem join_ok {xs : List Str} {k : Nat} (h : ∀ x ∈ xs, x.length ≤ 60) (hk : xs.length ≤ 10) (hl : k ≤ 10) : (xs.map (·.length)).sum + xs.length * k ≤ 16777216 := by
  have h1 := sum_le h
  have h2 : xs.length * 60 ≤ 600 := by omega
  have h3 : xs.length * k ≤ 10 * 10 := Nat.mul_le_mul hk hl
  omega
section
variable {P : Program} {w : World} {K : PySem.W.Frag} {mg : Str → Option Value} {base : Heap}
def spOfSigns : Sp := fun vs H Q _ => ∃ (x signs : Str) (most : Int), vs = [.str x, .str signs, .int most] ∧ x.length ≤ 1000 ∧ Q (.bl (okT x signs most)) H
theorem ok_of_signs (T : Top K mg) : FnOk P w K mg base CX0 1 T.f_of_signs T.d_of_signs ["thing", "signs", "most"] spOfSigns := by
  refine T.F_of_signs.ok sc_of_signs (fun vs H Q E h => ?_) (fun cdv A outer s H vs Q E hr h => ?_)
  · obtain ⟨x, signs, most, rfl, _⟩ := h; rfl
  · obtain ⟨x, signs, most, rfl, hl, q⟩ := h
    refine ⟨_, (pss_cons (ps_if (PW.pt (pw_or (pt_not (pt_val (pe_callB (call_isiA (K := K) rfl) (by rfl) T.m_isinstance (by decide +kernel) (pa_cons (pv 0) (pa_cons (pe_bltn (v := .ty "str") (u := .type "str") (by rfl) T.m_str (by decide +kernel) rfl) pa_nil))))) (pw_or1 (pt_not (pt_chain op_le op_le pe_int (pe_callB call_len_str (by rfl) T.m_len (by decide +kernel) (pa_cons (pv 0) pa_nil)) (pv 2)))))) (pss_one (ps_ret pe_bl)) pss_nil)
      (pss_cons (ps_for PassesOwn.never rfl (pi_str (pv 0)) (pg_name (i := 3) sc_of_signs.nd rfl (.inl rfl)) (pss_one (ps_if (pt_cmpR op_notIn_sign (pv 3) (pv 1) (by rfl)) (pss_one (ps_ret pe_bl)) pss_nil)))
      (pss_one (ps_ret pe_bl)))), ?_⟩
    refine seq_step ?_
    walk_at "rd"
    refine isi (r := true) (.base (.str _)) (by decide +kernel) ?_
    walk_at "rt"
    refine ⟨small1000' hl, ?_⟩
    unfold okT at q
    refine ite_d (fun h1 => ?_) (fun h1 => ?_)
    · rw [decide_eq_true h1] at q
      by_cases h2 : (x.length : Int) ≤ most
      · rw [decide_eq_true h2] at q ⊢
        walk_at "rd"
        refine seq_step ?_
        refine tFor_str ?_ (fun Q R k h => ?_)
        · walk_at "rt"
          refine ⟨fun i σ' H' => (∃ v3, σ' = [some (.str x), some (.str signs), some (.int most), v3]) ∧ H' = H ∧ (x.cps.toList.take i).all (fun c => decide (c ∈ signs.cps.toList)) = true, ⟨⟨_, rfl⟩, rfl, rfl⟩, ?_, ?_⟩
          · rintro i σ' H' c hc ⟨⟨v3, rfl⟩, rfl, ha⟩
            walk_at "rt"
            refine ⟨c, rfl, ?_⟩
            by_cases m : c ∈ signs.cps.toList
            · refine if_f (by rw [decide_eq_true m]; rfl) ?_
              rw [List.take_add_one, hc, List.all_append, ha]
              simpa using m
            · refine if_t (by rw [decide_eq_false m]; rfl) ?_
              have : (x.cps.toList.all fun c => decide (c ∈ signs.cps.toList)) = false := by
                rw [List.all_eq_false]
                exact ⟨c, List.mem_of_getElem? hc, by simp [m]⟩
              rw [this] at q
              exact q
          · rintro σ' H' ⟨⟨v3, rfl⟩, rfl, ha⟩
            walk_at "rd"
            rw [List.take_length] at ha
            rw [ha] at q
            exact q
        · exact ⟨_, rfl, by obtain ⟨v, h1, h2⟩ := h; cases h1; exact k _ _ h2⟩
      · rw [decide_eq_false h2] at q ⊢
        walk_at "rd"
        exact q
    · rw [decide_eq_false h1] at q
      exact q
def spName : Sp := fun vs H Q _ => ∃ x : Str, vs = [.str x] ∧ x.length ≤ 1000 ∧ Q (.bl (okName x)) H
theorem ok_is_name (T : Top K mg) : FnOk P w K mg base CX0 2 T.f_is_name T.d_is_name ["thing"] spName := by
  refine T.F_is_name.ok sc_is_name (fun vs H Q E h => ?_) (fun cdv A outer s H vs Q E hr h => ?_)
  · obtain ⟨x, rfl, _⟩ := h; rfl
  · obtain ⟨x, rfl, hl, q⟩ := h
    refine ⟨_, (pss_one (ps_ret (pe_call (ok_of_signs T) (hr.mono (by decide)) rfl T.g_of_signs T.F_of_signs.kp T.b_of_signs .nil pass0 (pa_cons (pv 0) (pa_cons (pe_glob (v := .str "abcdefghijklmnopqrstuvwxyz") rfl T.g_LETTERS ⟨_, rfl⟩) (pa_cons pe_int pa_nil)))))), ?_⟩
    walk_at "rd"
    exact ⟨x, letters, 8, rfl, hl, q⟩
def spWName : Sp := fun vs H Q _ => ∃ x : Str, vs = [.str x] ∧ x.length ≤ 1000 ∧ Q (.bl (okWatch x)) H
theorem ok_is_watch_name (T : Top K mg) : FnOk P w K mg base CX0 3 T.f_is_watch_name T.d_is_watch_name ["thing"] spWName := by
  refine T.F_is_watch_name.ok sc_is_watch_name (fun vs H Q E h => ?_) (fun cdv A outer s H vs Q E hr h => ?_)
  · obtain ⟨x, rfl, _⟩ := h; rfl
  · obtain ⟨x, rfl, hl, q⟩ := h
    refine ⟨_, (pss_one (ps_ret (pe_or (pe_cmpR op_eq (pv 0) pe_str (nomark _)) (pe_one (pe_call (ok_is_name T) (hr.mono (by decide)) rfl T.g_is_name T.F_is_name.kp T.b_is_name .nil pass0 (pa_cons (pv 0) pa_nil)))))), ?_⟩
    walk_at "rt"
    unfold okWatch at q
    refine ite_d (fun h => ?_) (fun h => ?_)
    · rw [decide_eq_true (show x = ("/" : Str) from h)] at q
      exact q
    · rw [decide_eq_false (show ¬ x = ("/" : Str) from h)] at q
      exact ⟨x, rfl, hl, q⟩
theorem str_nil {x : Str} (h : x.cps.toList = []) : x = ("" : Str) := by
  cases x with
  | mk cps =>
    have : cps = #[] := Array.toList_eq_nil_iff.mp h
    rw [this]; rfl
def spSign : Sp := fun vs H Q _ => ∃ x : Str, vs = [.str x] ∧ x.length ≤ 1000 ∧ Q (.bl (okSign x)) H
theorem ok_is_sign (T : Top K mg) : FnOk P w K mg base CX0 3 T.f_is_sign T.d_is_sign ["thing"] spSign := by
  refine T.F_is_sign.ok sc_is_sign (fun vs H Q E h => ?_) (fun cdv A outer s H vs Q E hr h => ?_)
  · obtain ⟨x, rfl, _⟩ := h; rfl
  · obtain ⟨x, rfl, hl, q⟩ := h
    refine ⟨_, (pss_cons (ps_if (pt_not (pt_val (pe_callB (call_isiA (K := K) rfl) (by rfl) T.m_isinstance (by decide +kernel) (pa_cons (pv 0) (pa_cons (pe_bltn (v := .ty "str") (u := .type "str") (by rfl) T.m_str (by decide +kernel) rfl) pa_nil))))) (pss_one (ps_ret pe_bl)) pss_nil)
      (pss_one (ps_ret (pe_or (pe_cmpR op_eq (pv 0) pe_str (nomark _)) (pe_one (pe_and (pe_cmpR op_in_sign (pe_ix ix_str (pv 0) (pe_un un_neg pe_int) (fun _ _ => rfl)) pe_str (by rfl)) (pe_one (pe_call (ok_is_name T) (hr.mono (by decide)) rfl T.g_is_name T.F_is_name.kp T.b_is_name .nil pass0 (pa_cons (pe_slice sl_str (pv 0) po_none (po_some (pe_un un_neg pe_int))) pa_nil))))))))), ?_⟩
    refine seq_step ?_
    walk_at "rt"
    refine isi (r := true) (.base (.str _)) (by decide +kernel) ?_
    walk_at "rt"
    unfold okSign at q
    refine ite_d (fun h => ?_) (fun h => ?_)
    · rw [decide_eq_true (show x = ("" : Str) from h)] at q
      exact q
    · rw [decide_eq_false (show ¬ x = ("" : Str) from h)] at q
      have n0 : x.cps.toList ≠ [] := fun z => h (str_nil z)
      have hp : 0 < x.cps.toList.length := List.length_pos_iff.mpr n0
      have hlast : x.cps.toList.getLast? = some (x.cps.toList[x.cps.toList.length - 1]'(by omega)) := by
        rw [List.getLast?_eq_getElem?, List.getElem?_eq_getElem (by omega)]
      rw [hlast] at q
      refine ⟨x, -1, _, rfl, rfl, small1000' hl, (by
        unfold atI ixN
        rw [if_neg (by decide), if_pos (by omega), show ((-1 : Int) + (x.cps.toList.length : Int)).toNat = x.cps.toList.length - 1 by omega]
        exact List.getElem?_eq_getElem (by omega)), ?_⟩
      generalize x.cps.toList[x.cps.toList.length - 1] = c at *
      walk_at "rt"
      refine ⟨c, rfl, ?_⟩
      replace q : Q (.bl (false || (decide (c ∈ ("!?" : Str).cps.toList) && okName (cutS x none (some (-1)))))) H := q
      refine ite_d (fun m => ?_) (fun m => ?_)
      · rw [decide_eq_true (show c ∈ ("!?" : Str).cps.toList from m)] at q
        refine ⟨x, rfl, small1000' hl, ?_⟩
        refine ⟨_, rfl, ?_, q⟩
        unfold cutS Str.length
        simp only [List.size_toArray, List.length_take, List.length_drop]
        unfold Str.length at hl
        rw [Array.length_toList]
        omega
      · rw [decide_eq_false (show ¬ c ∈ ("!?" : Str).cps.toList from m)] at q
        exact q
theorem ok_is_whole (T : Top K mg) : FnOk P w K mg base CX0 1 T.f_is_whole T.d_is_whole ["thing"] (spWhole K) := by
  refine T.F_is_whole.ok sc_is_whole (fun vs H Q E h => ?_) (fun cdv A outer s H vs Q E hr h => ?_)
  · obtain ⟨x, t, rfl, _⟩ := h; rfl
  · obtain ⟨x, t, rfl, hx, ht, q⟩ := h
    refine ⟨_, (pss_one (ps_ret (pe_and (pe_callB (call_isiA (K := K) rfl) (by rfl) T.m_isinstance (by decide +kernel) (pa_cons (pv 0) (pa_cons (pe_bltn (v := .ty "int") (u := .type "int") (by rfl) T.m_int (by decide +kernel) rfl) pa_nil))) (pe_one (pe_not (pe_callB (call_isiA (K := K) rfl) (by rfl) T.m_isinstance (by decide +kernel) (pa_cons (pv 0) (pa_cons (pe_bltn (v := .ty "bool") (u := .type "bool") (by rfl) T.m_bool (by decide +kernel) rfl) pa_nil)))))))), ?_⟩
    walk_at "rd"
    have k1 : ∃ r, kitB t "int" = some r ∧ ∃ r2, kitB t "bool" = some r2 ∧ (decide (t = "int")) = (r && !r2) := by
      simp only [kinds, List.mem_cons, List.not_mem_nil, or_false] at ht
      rcases ht with rfl | rfl | rfl | rfl | rfl | rfl | rfl
      · exact ⟨true, by decide +kernel, false, by decide +kernel, by decide +kernel⟩
      · exact ⟨true, by decide +kernel, true, by decide +kernel, by decide +kernel⟩
      · exact ⟨false, by decide +kernel, false, by decide +kernel, by decide +kernel⟩
      · exact ⟨false, by decide +kernel, false, by decide +kernel, by decide +kernel⟩
      · exact ⟨false, by decide +kernel, false, by decide +kernel, by decide +kernel⟩
      · exact ⟨false, by decide +kernel, false, by decide +kernel, by decide +kernel⟩
      · exact ⟨false, by decide +kernel, false, by decide +kernel, by decide +kernel⟩
    obtain ⟨r, e1, r2, e2, e3⟩ := k1
    refine isi hx e1 ?_
    rw [e3] at q
    walk_at "rd"
    cases r with
    | false => exact q
    | true =>
      walk_at "rd"
      refine isi hx e2 ?_
      walk_at "rd"
      exact q
/-- words and watches: a list or tuple of texts -/
def TxS (K : PySem.W.Frag) (H : Hp) (p : Addr) (ws : List Str) : Prop := SqL K H p (ws.map V.str) ∨ SqT K H p (ws.map V.str)
theorem TxS.keep {K : PySem.W.Frag} {H H' : Hp} {p : Addr} {ws : List Str} (s : Same H H') (h : TxS K H p ws) : TxS K H' p ws := by
  rcases h with h | h
  · exact .inl (s.seq h)
  · refine .inr ?_
    rcases h with h | h
    · rcases h with h | ⟨o, h⟩
      · exact .inl (.inl (s _ _ h))
      · exact .inl (.inr ⟨o, s _ _ h⟩)
    · exact .inr h
theorem kit_no {t u : String} (h : t ∈ kinds) (n : t ≠ u) (hu : u = "tuple" ∨ u = "list" ∨ u = "str") : kitB t u = some false := by
  simp only [kinds, List.mem_cons, List.not_mem_nil, or_false] at h
  rcases hu with rfl | rfl | rfl <;> rcases h with rfl | rfl | rfl | rfl | rfl | rfl | rfl <;> first | exact absurd rfl n | decide +kernel
/-- what is none of a look, by its kind -/
inductive NoLook (K : PySem.W.Frag) (H : Hp) : V → Prop where
  | kind {x : V} {t : String} (h : TyX K H x (.type t)) (k : t ∈ kinds) (n : t ≠ "tuple") : NoLook K H x
  | len {q : Addr} {xs : List V} (h : H q = some (.tup xs)) (n : xs.length ≠ 3) : NoLook K H (.ref q)
  | first {q : Addr} {a b c : V} {t : String} (h : H q = some (.tup [a, b, c])) (ha : TyX K H a (.type t)) (k : t ∈ kinds) (n : t ≠ "str") : NoLook K H (.ref q)
  | second {q : Addr} {s : Str} {b c : V} {t : String} (h : H q = some (.tup [.str s, b, c])) (hb : TyX K H b (.type t)) (k : t ∈ kinds) (n : t ≠ "str") : NoLook K H (.ref q)
theorem NoLook.keep {K : PySem.W.Frag} {H H' : Hp} {x : V} (s : Same H H') (h : NoLook K H x) : NoLook K H' x := by
  cases h with
  | kind h k n => exact .kind (tyx_same s h) k n
  | len h n => exact .len (s _ _ h) n
  | first h ha k n => exact .first (s _ _ h) (tyx_same s ha) k n
  | second h hb k n => exact .second (s _ _ h) (tyx_same s hb) k n
def spLook (K : PySem.W.Frag) : Sp := fun vs H Q _ => (∃ (p pw ps : Addr) (l : Lq) (ws watches : List Str), vs = [.ref p, .ref pw, .ref ps] ∧ LqAt H p l ∧ TxS K H pw ws ∧ TxS K H ps watches ∧ Q (.bl (lookOk ws watches l)) H) ∨
  (∃ (x : V) (pw ps : Addr) (ws watches : List Str), vs = [x, .ref pw, .ref ps] ∧ NoLook K H x ∧ TxS K H pw ws ∧ TxS K H ps watches ∧ Q (.bl false) H)
theorem ok_is_look (T : Top K mg) : FnOk P w K mg base CX0 2 T.f_is_look T.d_is_look ["thing", "words", "watches"] (spLook K) := by
  refine T.F_is_look.ok sc_is_look (fun vs H Q E h => ?_) (fun cdv A outer s H vs Q E hr h => ?_)
  · rcases h with ⟨p, pw, ps, l, ws, watches, rfl, _⟩ | ⟨x, pw, ps, ws, watches, rfl, _⟩ <;> rfl
  · refine ⟨_, (pss_cons (ps_if (PW.pt (pw_or (pt_not (pt_val (pe_callB (call_isiA (K := K) rfl) (by rfl) T.m_isinstance (by decide +kernel) (pa_cons (pv 0) (pa_cons (pe_bltn (v := .ty "tuple") (u := .type "tuple") (by rfl) T.m_tuple (by decide +kernel) rfl) pa_nil))))) (pw_or1 (pt_cmpR op_ne (pe_callB call_len_seq (by rfl) T.m_len (by decide +kernel) (pa_cons (pv 0) pa_nil)) pe_int (nomark _))))) (pss_one (ps_ret pe_bl)) pss_nil)
      (pss_cons (ps_if (PW.pt (pw_or (pt_not (pt_val (pe_callB (call_isiA (K := K) rfl) (by rfl) T.m_isinstance (by decide +kernel) (pa_cons (pe_ix (ix_tupA (K := K) rfl) (pv 0) pe_int (fun _ _ => rfl)) (pa_cons (pe_bltn (v := .ty "str") (u := .type "str") (by rfl) T.m_str (by decide +kernel) rfl) pa_nil))))) (pw_or1 (pt_cmpR (op_notIn_seqA (K := K) rfl) (pe_ix (ix_tupA (K := K) rfl) (pv 0) pe_int (fun _ _ => rfl)) (pv 2) (by rfl))))) (pss_one (ps_ret pe_bl)) pss_nil)
      (pss_cons (ps_if (PW.pt (pw_or (pt_not (pt_val (pe_callB (call_isiA (K := K) rfl) (by rfl) T.m_isinstance (by decide +kernel) (pa_cons (pe_ix (ix_tupA (K := K) rfl) (pv 0) pe_int (fun _ _ => rfl)) (pa_cons (pe_bltn (v := .ty "str") (u := .type "str") (by rfl) T.m_str (by decide +kernel) rfl) pa_nil))))) (pw_or1 (pt_cmpR (op_notIn_seqA (K := K) rfl) (pe_ix (ix_tupA (K := K) rfl) (pv 0) pe_int (fun _ _ => rfl)) (pv 1) (by rfl))))) (pss_one (ps_ret pe_bl)) pss_nil)
      (pss_one (ps_ret (pe_and (pe_call (ok_is_whole T) (hr.mono (by decide)) rfl T.g_is_whole T.F_is_whole.kp T.b_is_whole .nil pass0 (pa_cons (pe_ix (ix_tupA (K := K) rfl) (pv 0) pe_int (fun _ _ => rfl)) pa_nil)) (pe_one (pe_cmpR op_ge (pe_ix (ix_tupA (K := K) rfl) (pv 0) pe_int (fun _ _ => rfl)) pe_int (nomark _))))))))), ?_⟩
    rcases h with ⟨p, pw, ps, ⟨a, wd, v⟩, ws, watches, rfl, ⟨e, hk⟩, hw, hs, q⟩ | ⟨x, pw, ps, ws, watches, rfl, hn, hw, hs, q⟩
    rotate_left
    · refine seq_step ?_
      walk_at "rt"
      cases hn with
      | kind h k n =>
        refine isi (r := false) h (kit_no k n (.inl rfl)) ?_
        walk_at "rt"
        exact q
      | len h n =>
        refine isi (r := true) (.base (.tup h)) (by decide +kernel) ?_
        walk_at "rt"
        refine ⟨_, .inr (sqt h), ?_⟩
        refine if_t ?_ q
        rw [decide_eq_false (by omega)]; rfl
      | first h ha k n =>
        refine isi (r := true) (.base (.tup h)) (by decide +kernel) ?_
        walk_at "rt"
        refine ⟨_, .inr (sqt h), ?_⟩
        walk_at "rt"
        refine seq_step ?_
        walk_at "rt"
        refine ix_t (sqt h) (by decide) rfl ?_
        walk_at "rt"
        refine isi (r := false) ha (kit_no k n (.inr (.inr rfl))) ?_
        walk_at "rt"
        exact q
      | @second p a b c t h hb k n =>
        refine isi (r := true) (.base (.tup h)) (by decide +kernel) ?_
        walk_at "rt"
        refine ⟨_, .inr (sqt h), ?_⟩
        walk_at "rt"
        refine seq_step ?_
        walk_at "rt"
        refine ix_t (sqt h) (by decide) rfl ?_
        walk_at "rt"
        refine isi (r := true) (.base (.str _)) (by decide +kernel) ?_
        walk_at "rt"
        refine ix_t (sqt h) (by decide) rfl ?_
        walk_at "rt"
        refine ⟨ps, _, rfl, hs, rfl, flat_of, ?_⟩
        rw [inV_str]
        by_cases m : a ∈ watches
        · rw [decide_eq_true m]
          walk_at "rt"
          refine seq_step ?_
          walk_at "rt"
          refine ix_t (sqt h) (by decide) rfl ?_
          walk_at "rt"
          refine isi (r := false) hb (kit_no k n (.inr (.inr rfl))) ?_
          walk_at "rt"
          exact q
        · rw [decide_eq_false m]
          walk_at "rt"
          exact q
    unfold lookOk at q
    refine seq_step ?_
    walk_at "rt"
    refine isi (r := true) (.base (.tup e)) (by decide +kernel) ?_
    walk_at "rt"
    refine ⟨_, .inr (sqt e), ?_⟩
    walk_at "rt"
    refine seq_step ?_
    walk_at "rt"
    refine ix_t (sqt e) (by decide) rfl ?_
    walk_at "rt"
    refine isi (r := true) (.base (.str _)) (by decide +kernel) ?_
    walk_at "rt"
    refine ix_t (sqt e) (by decide) rfl ?_
    walk_at "rt"
    refine ⟨ps, _, rfl, hs, rfl, flat_of, ?_⟩
    rw [inV_str]
    by_cases m : a ∈ watches
    · rw [decide_eq_true m] at q ⊢
      walk_at "rt"
      refine seq_step ?_
      walk_at "rt"
      refine ix_t (sqt e) (by decide) rfl ?_
      walk_at "rt"
      refine isi (r := true) (.base (.str _)) (by decide +kernel) ?_
      walk_at "rt"
      refine ix_t (sqt e) (by decide) rfl ?_
      walk_at "rt"
      refine ⟨pw, _, rfl, hw, rfl, flat_of, ?_⟩
      rw [inV_str]
      by_cases m2 : wd ∈ ws
      · rw [decide_eq_true m2] at q ⊢
        walk_at "rt"
        refine ix_t (sqt e) (by decide) rfl ?_
        obtain ⟨t, ht, ty, hi⟩ := ty_kind (K := K) (H := H) hk
        refine ⟨v, t, rfl, ty, ht, ?_⟩
        walk_at "rt"
        by_cases c : t = "int"
        · obtain ⟨n, hn⟩ := hi.mp c
          have hn : v = .int n := hn
          subst hn
          rw [decide_eq_true c]
          walk_at "rt"
          refine ix_t (sqt e) (by decide) rfl ?_
          walk_at "rt"
          exact q
        · rw [decide_eq_false c]
          walk_at "rt"
          have : numOk v = false := by
            cases v with
            | int n => exact absurd (hi.mpr ⟨n, rfl⟩) c
            | _ => rfl
          rw [this] at q
          exact q
      · rw [decide_eq_false m2] at q ⊢
        walk_at "rt"
        exact q
    · rw [decide_eq_false m] at q ⊢
      walk_at "rt"
      exact q
def ThgAt (K : PySem.W.Frag) (H : Hp) (ws watches : List Str) (x : V) (b : Bool) : Prop := (∃ q l, x = .ref q ∧ LqAt H q l ∧ b = lookOk ws watches l) ∨ (NoLook K H x ∧ b = false)
theorem ThgAt.keep {K : PySem.W.Frag} {H H' : Hp} {ws watches : List Str} {x : V} {b : Bool} (s : Same H H') (h : ThgAt K H ws watches x b) : ThgAt K H' ws watches x b := by
  rcases h with ⟨q, l, e, h, hb⟩ | ⟨h, hb⟩
  · exact .inl ⟨q, l, e, h.keep s, hb⟩
  · exact .inr ⟨h.keep s, hb⟩
def spGuard (K : PySem.W.Frag) : Sp := fun vs H Q _ => (∃ (p pw ps : Addr) (ls : List Lq) (ws watches : List Str), vs = [.ref p, .ref pw, .ref ps] ∧ LsAt H p ls ∧ TxS K H pw ws ∧ TxS K H ps watches ∧ ls.length ≤ 60 ∧ ∀ H', Same H H' → Q (.bl (guardOk ws watches ls)) H') ∨
  (∃ (p pw ps : Addr) (xs : List V) (bs : List Bool) (ws watches : List Str), vs = [.ref p, .ref pw, .ref ps] ∧ H p = some (.lst xs) ∧ xs.length = bs.length ∧ xs.length ≤ 60 ∧ (∀ (i : Nat) (x : V) (b : Bool), xs[i]? = some x → bs[i]? = some b → ThgAt K H ws watches x b) ∧ TxS K H pw ws ∧ TxS K H ps watches ∧ ∀ H', Same H H' → Q (.bl (bs.all id)) H') ∨
  (∃ (x : V) (t : String) (pw ps : Addr), vs = [x, .ref pw, .ref ps] ∧ TyX K H x (.type t) ∧ t ∈ kinds ∧ t ≠ "list" ∧ Q (.bl false) H)
theorem ok_is_guard (T : Top K mg) : FnOk P w K mg base CX0 3 T.f_is_guard T.d_is_guard ["thing", "words", "watches"] (spGuard K) := by
  refine T.F_is_guard.ok sc_is_guard (fun vs H Q E h => ?_) (fun cdv A outer s H vs Q E hr h => ?_)
  · rcases h with ⟨p, pw, ps, ls, ws, watches, rfl, _⟩ | ⟨p, pw, ps, xs, bs, ws, watches, rfl, _⟩ | ⟨x, t, pw, ps, rfl, _⟩ <;> rfl
  · refine ⟨_, (pss_one (ps_ret (pe_and (pe_callB (call_isiA (K := K) rfl) (by rfl) T.m_isinstance (by decide +kernel) (pa_cons (pv 0) (pa_cons (pe_bltn (v := .ty "list") (u := .type "list") (by rfl) T.m_list (by decide +kernel) rfl) pa_nil))) (pe_one (pe_callB (cr_all rfl) (by rfl) T.m_all (by decide +kernel) (pa_cons (lc_vs (vs := [3]) (pe_lc (own := [("look", 3)]) (g := gName 3) (tt := tYes) rfl sc_is_guard.nd (pi_listA (K := K) rfl (pv 0)) (blkOk_by (own := [("look", 3)]) (N := ["thing", "words", "watches", "look"]) (sc := defScope s_is_guard) (by decide +kernel)) (fun _ _ _ _ _ => (pg_name (i := 3) sc_is_guard.nd rfl (.inl rfl))) (fun _ _ _ _ _ => pts_nil) (fun _ _ _ _ _ => (pe_call (ok_is_look T) (hr.mono (by decide)) rfl T.g_is_look T.F_is_look.kp T.b_is_look .nil pass0 (pa_cons (pv 3) (pa_cons (pv 1) (pa_cons (pv 2) pa_nil)))))) rfl) pa_nil)))))), ?_⟩
    have key : (∃ (p pw ps : Addr) (xs : List V) (bs : List Bool) (ws watches : List Str), vs = [.ref p, .ref pw, .ref ps] ∧ H p = some (.lst xs) ∧ xs.length = bs.length ∧ xs.length ≤ 60 ∧ (∀ (i : Nat) (x : V) (b : Bool), xs[i]? = some x → bs[i]? = some b → ThgAt K H ws watches x b) ∧ TxS K H pw ws ∧ TxS K H ps watches ∧ ∀ H', Same H H' → Q (.bl (bs.all id)) H') ∨
        (∃ (x : V) (t : String) (pw ps : Addr), vs = [x, .ref pw, .ref ps] ∧ TyX K H x (.type t) ∧ t ∈ kinds ∧ t ≠ "list" ∧ Q (.bl false) H) := by
      rcases h with ⟨p, pw, ps, ls, ws, watches, rfl, ⟨qs, a, b, c⟩, hw, hs, h60, q⟩ | h
      · refine .inl ⟨p, pw, ps, qs.map V.ref, ls.map (lookOk ws watches), ws, watches, rfl, a, by simp [b], by simp; omega, fun i x bo h1 h2 => ?_, hw, hs, fun H' s' => ?_⟩
        · rw [List.getElem?_map] at h1 h2
          obtain ⟨q', e1, rfl⟩ := Option.map_eq_some_iff.mp h1
          obtain ⟨l, e2, rfl⟩ := Option.map_eq_some_iff.mp h2
          exact .inl ⟨q', l, rfl, c i q' l e1 e2, rfl⟩
        · rw [List.all_map]; exact q H' s'
      · exact h
    rcases key with ⟨p, pw, ps, xs, bs, ws, watches, rfl, a, bl, h60, c, hw, hs, q⟩ | ⟨x, t, pw, ps, rfl, ht, k, n, q⟩
    · walk_at "rt"
      refine isi (r := true) (.base (.lst a)) (by decide +kernel) ?_
      walk_at "rt"
      refine lc_src ?_
      walk_at "rd"
      refine ⟨⟨_, .of a⟩, ?_⟩
      refine lcL_vals (xs := xs) (f := pick bs V.bl (V.bl false)) a (by omega) (by simp) (fun i x H1 Q1 hi s1 h => ?_) (fun D H1 s1 _ eD => ?_)
      · have hil := (List.getElem?_eq_some_iff.mp hi).1
        have hx := List.getElem?_eq_getElem (l := bs) (i := i) (by omega)
        have tx := (c i x _ hi hx).keep s1
        have := h H1 (Same.refl _)
        rw [pick_at hx] at this
        generalize bs[i] = bo at *
        walk_at "rd"
        rcases tx with ⟨q', l, rfl, hq, rfl⟩ | ⟨hn, rfl⟩
        · exact .inl ⟨q', pw, ps, l, ws, watches, rfl, hq, hw.keep s1, hs.keep s1, this⟩
        · exact .inr ⟨x, pw, ps, ws, watches, rfl, hn, hw.keep s1, hs.keep s1, this⟩
      · refine ⟨D, bs, rfl, .of (eD.trans (by rw [bl, range_map])), ?_⟩
        exact q H1 s1
    · walk_at "rt"
      refine isi (r := false) ht (kit_no k n (.inr (.inl rfl))) ?_
      walk_at "rt"
      exact q
def spUnlike (K : PySem.W.Frag) : Sp := fun vs H Q _ => ∃ (p : Addr) (xs : List Str), vs = [.ref p] ∧ H p = some (.lst (xs.map V.str)) ∧ xs.length ≤ 1000 ∧ Q (.bl (decide xs.Nodup)) H
theorem ok_unlike (T : Top K mg) : FnOk P w K mg base CX0 1 T.f_unlike T.d_unlike ["things"] (spUnlike K) := by
  refine T.F_unlike.ok sc_unlike (fun vs H Q E h => ?_) (fun cdv A outer s H vs Q E hr h => ?_)
  · obtain ⟨p, xs, rfl, _⟩ := h; rfl
  · obtain ⟨p, xs, rfl, hx, hl, q⟩ := h
    refine ⟨_, (pss_one (ps_ret (pe_cmpR op_eq (pe_lenSetN rfl (by rfl) T.m_len (by rfl) T.m_set (pv 0)) (pe_callB call_len_seq (by rfl) T.m_len (by decide +kernel) (pa_cons (pv 0) pa_nil)) (nomark _)))), ?_⟩
    walk_at "rt"
    refine ⟨_, rfl, p, xs, rfl, .of hx, by unfold scanBound; omega, fun c hc hd => ?_⟩
    walk_at "rt"
    refine ⟨_, .inl (.of hx), ?_⟩
    rw [List.length_map]
    rw [show decide ((c : Int) = (xs.length : Int)) = decide xs.Nodup from decide_eq_decide.mpr (by rw [← hd]; omega)]
    exact q
def spOwn : Sp := fun vs H Q _ => ∃ (p : Addr) (xs : List V), vs = [.ref p] ∧ H p = some (.lst xs) ∧ ∀ q H', Same H H' → H q = none → H' q = some (.lst xs) → Q (.ref q) H'
theorem ok_own (T : Top K mg) : FnOk P w K mg base CX0 1 T.f_own T.d_own ["thing"] spOwn := by
  refine T.F_own.ok sc_own (fun vs H Q E h => ?_) (fun cdv A outer s H vs Q E hr h => ?_)
  · obtain ⟨p, xs, rfl, _⟩ := h; rfl
  · obtain ⟨p, xs, rfl, hx, q⟩ := h
    refine ⟨_, (pss_cons (ps_if (pt_val (pe_callB (call_isiA (K := K) rfl) (by rfl) T.m_isinstance (by decide +kernel) (pa_cons (pv 0) (pa_cons (pe_bltn (v := .ty "list") (u := .type "list") (by rfl) T.m_list (by decide +kernel) rfl) pa_nil)))) (pss_one (ps_ret (pe_callTy (call_listA (K := K) rfl) (by rfl) T.m_list (by decide +kernel) (pa_cons (pv 0) pa_nil)))) pss_nil)
      (pss_one (ps_ret (pv 0)))), ?_⟩
    refine seq_step ?_
    walk_at "rt"
    refine isi (r := true) (.base (.lst hx)) (by decide +kernel) ?_
    walk_at "rt"
    exact ⟨xs, .inl (.of hx), fun r H' s f e => q r H' s f e⟩
def spDoorInit (C : Addr) : Sp := fun vs H Q _ => ∃ (p dx g n : Addr) (st en sg : Str) (gl nl : List V), vs = [.ref p, .str st, .str en, .ref g, .ref n, .str sg] ∧ H p = some (.ins C dx []) ∧ H g = some (.lst gl) ∧ H n = some (.lst nl) ∧
  ∀ g' n' H', (∀ b o, H b = some o → b ≠ p → H' b = some o) → H g' = none → H n' = none → H' p = some (.ins C dx (doorF st en sg g' n')) → H' g' = some (.lst gl) → H' n' = some (.lst nl) → Q .non H'
theorem ok_Door_init (T : Top K mg) : FnOk P w K mg base CX0 2 T.f_Door_init T.d_Door_init ["self", "start", "end", "guard", "noughts", "sign"] (spDoorInit T.C_Door) := by
  refine T.F_Door_init.ok sc_Door_init (fun vs H Q E h => ?_) (fun cdv A outer s H vs Q E hr h => ?_)
  · obtain ⟨p, dx, g, n, st, en, sg, gl, nl, rfl, _⟩ := h; rfl
  · obtain ⟨p, dx, g, n, st, en, sg, gl, nl, rfl, hp, hg, hn, q⟩ := h
    refine ⟨_, (pss_cons (ps_fld (pv 0) (pv 1) rfl)
      (pss_cons (ps_fld (pv 0) (pv 2) rfl)
      (pss_cons (ps_fld (pv 0) (pv 5) rfl)
      (pss_cons (ps_fld (pv 0) (pe_call (ok_own T) (hr.mono (by decide)) rfl T.g_own T.F_own.kp T.b_own .nil pass0 (pa_cons (pv 3) pa_nil)) rfl)
      (pss_one (ps_fld (pv 0) (pe_call (ok_own T) (hr.mono (by decide)) rfl T.g_own T.F_own.kp T.b_own .nil pass0 (pa_cons (pv 4) pa_nil)) rfl)))))), ?_⟩
    have pg : g ≠ p := ne_of hg hp (by intro z; cases z)
    have pn : n ≠ p := ne_of hn hp (by intro z; cases z)
    refine seq_step ?_
    refine ⟨_, rfl, _, rfl, p, _, dx, _, rfl, hp, T.cl_Door, T.n_Door_start, (by show 0 < 1000; decide), ?_⟩
    refine seq_step ?_
    refine ⟨_, rfl, _, rfl, p, _, dx, _, rfl, upd_same, T.cl_Door, T.n_Door_end, (by show 1 < 1000; decide), ?_⟩
    refine seq_step ?_
    refine ⟨_, rfl, _, rfl, p, _, dx, _, rfl, upd_same, T.cl_Door, T.n_Door_sign, (by show 2 < 1000; decide), ?_⟩
    refine seq_step ?_
    rw [upd_upd, upd_upd]
    refine ⟨_, rfl, g, gl, rfl, (by rw [upd_ne pg]; exact hg), fun g' H2 s2 f2 e2 => ?_⟩
    have p2 : g' ≠ p := fun z => by rw [z, upd_same] at f2; cases f2
    refine ⟨_, rfl, p, _, dx, _, rfl, s2 _ _ upd_same, T.cl_Door, T.n_Door_looks, (by show 3 < 1000; decide), ?_⟩
    have hn2 : H2 n = some (.lst nl) := s2 _ _ (by rw [upd_ne pn]; exact hn)
    refine ⟨_, rfl, n, nl, rfl, (by rw [upd_ne pn]; exact hn2), fun n' H3 s3 f3 e3 => ?_⟩
    have p3 : n' ≠ p := fun z => by rw [z, upd_same] at f3; cases f3
    refine ⟨_, rfl, p, _, dx, _, rfl, s3 _ _ upd_same, T.cl_Door, T.n_Door_backs, (by show 4 < 1000; decide), ?_⟩
    rw [upd_ne p2] at f2
    rw [upd_ne p3] at f3
    have k02 : ∀ b o, H b = some o → b ≠ p → H2 b = some o := fun b o e z => s2 _ _ (by rw [upd_ne z]; exact e)
    refine q g' n' _ (fun b o e z => ?_) f2 ?_ upd_same ?_ ?_
    · rw [upd_ne z]
      exact s3 _ _ (by rw [upd_ne z]; exact k02 b o e z)
    · cases e : H n' with
      | none => rfl
      | some o => rw [k02 _ _ e p3] at f3; cases f3
    · rw [upd_ne p2]
      exact s3 _ _ (by rw [upd_ne p2]; exact e2)
    · rw [upd_ne p3]; exact e3
def spAsks (C : Addr) : Sp := fun vs H Q _ => ∃ (p : Addr) (d : DoorD), vs = [.ref p] ∧ DoorAt C H p d ∧ ∀ q H', Same H H' → H q = none → LsAt H' q d.looks → Q (.ref q) H'
theorem ok_Door_asks (T : Top K mg) : FnOk P w K mg base CX0 2 T.f_Door_asks T.d_Door_asks ["self"] (spAsks T.C_Door) := by
  refine T.F_Door_asks.ok sc_Door_asks (fun vs H Q E h => ?_) (fun cdv A outer s H vs Q E hr h => ?_)
  · obtain ⟨p, d, rfl, _⟩ := h; rfl
  · obtain ⟨p, d, rfl, ⟨dx, g, n, h1, ⟨qs, a, b, c⟩, h3⟩, q⟩ := h
    refine ⟨_, (pss_one (ps_ret (pe_call (ok_own T) (hr.mono (by decide)) rfl T.g_own T.F_own.kp T.b_own .nil pass0 (pa_cons (pe_fldA (K := K) rfl (pv 0) rfl) pa_nil)))), ?_⟩
    refine ⟨_, rfl, p, _, dx, _, _, rfl, h1, T.cl_Door, T.n_Door_looks, door_looks, g, _, rfl, a, fun r H' s' f e => q r H' s' f ⟨qs, e, b, fun i q x h1 h2 => (c i q x h1 h2).keep s'⟩⟩
def spSets (C : Addr) : Sp := fun vs H Q _ => ∃ (p : Addr) (d : DoorD), vs = [.ref p] ∧ DoorAt C H p d ∧ ∀ q H', Same H H' → H q = none → H' q = some (.lst (d.backs.map V.str)) → Q (.ref q) H'
theorem ok_Door_sets (T : Top K mg) : FnOk P w K mg base CX0 2 T.f_Door_sets T.d_Door_sets ["self"] (spSets T.C_Door) := by
  refine T.F_Door_sets.ok sc_Door_sets (fun vs H Q E h => ?_) (fun cdv A outer s H vs Q E hr h => ?_)
  · obtain ⟨p, d, rfl, _⟩ := h; rfl
  · obtain ⟨p, d, rfl, ⟨dx, g, n, h1, h2, h3⟩, q⟩ := h
    refine ⟨_, (pss_one (ps_ret (pe_call (ok_own T) (hr.mono (by decide)) rfl T.g_own T.F_own.kp T.b_own .nil pass0 (pa_cons (pe_fldA (K := K) rfl (pv 0) rfl) pa_nil)))), ?_⟩
    exact ⟨_, rfl, p, _, dx, _, _, rfl, h1, T.cl_Door, T.n_Door_backs, door_backs, n, _, rfl, h3, fun r H' s' f e => q r H' s' f e⟩
/-- texts that are lists: what the comprehension's list holds -/
theorem names_dp {H : Hp} {p : Addr} {xs : List Str} (h : H p = some (.lst (xs.map V.str))) : Dp K H (.ref p) (.list (xs.map PyData.str)) :=
  .lst (.of h) (dpall_of (by simp) fun k v d h1 h2 => by
    rw [List.getElem?_map] at h1 h2
    obtain ⟨x, hx, rfl⟩ := Option.map_eq_some_iff.mp h1
    rw [hx] at h2; cases h2
    exact .str x)
def areW (xs : List Str) : Bool := decide (xs.length ≤ 7) && (xs.all okWatch && decide xs.Nodup)
def spAreW : Sp := fun vs H Q _ => ∃ (p : Addr) (xs : List Str), vs = [.ref p] ∧ H p = some (.lst (xs.map V.str)) ∧ xs.length ≤ 60 ∧ (∀ x ∈ xs, x.length ≤ 1000) ∧ ∀ H', Same H H' → Q (.bl (areW xs)) H'
theorem ok_are_watches (T : Top K mg) : FnOk P w K mg base CX0 4 T.f_are_watches T.d_are_watches ["thing"] spAreW := by
  refine T.F_are_watches.ok sc_are_watches (fun vs H Q E h => ?_) (fun cdv A outer s H vs Q E hr h => ?_)
  · obtain ⟨p, xs, rfl, _⟩ := h; rfl
  · obtain ⟨p, xs, rfl, hx, h7, hl, q⟩ := h
    refine ⟨_, (pss_cons (ps_if (PW.pt (pw_or (pt_not (pt_val (pe_callB (call_isiA (K := K) rfl) (by rfl) T.m_isinstance (by decide +kernel) (pa_cons (pv 0) (pa_cons (pe_bltn (v := .ty "list") (u := .type "list") (by rfl) T.m_list (by decide +kernel) rfl) pa_nil))))) (pw_or1 (pt_cmpR op_gt (pe_callB call_len_seq (by rfl) T.m_len (by decide +kernel) (pa_cons (pv 0) pa_nil)) (pe_glob (v := .int 7) rfl T.g_MOST_WATCHES ⟨_, rfl⟩) (nomark _))))) (pss_one (ps_ret pe_bl)) pss_nil)
      (pss_one (ps_ret (pe_and (pe_callB (cr_all rfl) (by rfl) T.m_all (by decide +kernel) (pa_cons (lc_vs (vs := [1]) (pe_lc (own := [("watch", 1)]) (g := gName 1) (tt := tYes) rfl sc_are_watches.nd (pi_listA (K := K) rfl (pv 0)) (blkOk_by (own := [("watch", 1)]) (N := ["thing", "watch"]) (sc := defScope s_are_watches) (by decide +kernel)) (fun _ _ _ _ _ => (pg_name (i := 1) sc_are_watches.nd rfl (.inl rfl))) (fun _ _ _ _ _ => pts_nil) (fun _ _ _ _ _ => (pe_call (ok_is_watch_name T) (hr.mono (by decide)) rfl T.g_is_watch_name T.F_is_watch_name.kp T.b_is_watch_name .nil pass0 (pa_cons (pv 1) pa_nil)))) rfl) pa_nil)) (pe_one (pe_call (ok_unlike T) (hr.mono (by decide)) rfl T.g_unlike T.F_unlike.kp T.b_unlike .nil pass0 (pa_cons (pv 0) pa_nil))))))), ?_⟩
    refine seq_step ?_
    walk_at "rt"
    refine isi (r := true) (.base (.lst hx)) (by decide +kernel) ?_
    walk_at "rt"
    refine ⟨_, .inl (.of hx), ?_⟩
    rw [List.length_map]
    unfold areW at q
    refine ite_d (fun c => ?_) (fun c => ?_)
    · walk_at "rd"
      rw [show decide (xs.length ≤ 7) = false from decide_eq_false (by omega)] at q
      exact q H (Same.refl _)
    rw [show decide (xs.length ≤ 7) = true from decide_eq_true (by omega), Bool.true_and] at q
    refine lc_src ?_
    walk_at "rd"
    refine ⟨⟨_, .of hx⟩, ?_⟩
    refine lcL_vals (xs := xs.map V.str) (f := pick xs (fun x => .bl (okWatch x)) (V.bl false)) hx (by simp; omega) (by simp) (fun i x H1 Q1 hi s1 h => ?_) (fun D H1 s1 _ eD => ?_)
    · rw [List.getElem?_map] at hi
      obtain ⟨y, h1, rfl⟩ := Option.map_eq_some_iff.mp hi
      walk_at "rd"
      refine ⟨y, rfl, hl y (List.mem_of_getElem? h1), ?_⟩
      have := h H1 (Same.refl _)
      rw [pick_at h1] at this
      exact this
    · refine ⟨D, xs.map okWatch, rfl, .of (eD.trans (by rw [List.length_map, range_map, List.map_map]; rfl)), ?_⟩
      have q1 := q H1 s1
      rw [show (xs.map okWatch).all id = xs.all okWatch by rw [List.all_map]; rfl]
      generalize xs.all okWatch = r at q1 ⊢
      cases r with
      | false => walk_at "rd"; exact q1
      | true =>
        walk_at "rd"
        exact ⟨p, xs, rfl, s1 _ _ hx, by omega, q1⟩
def spRoom (K : PySem.W.Frag) : Sp := fun vs H Q _ => ∃ (p ps : Addr) (r : Rq) (watches : List Str), vs = [.ref p, .ref ps] ∧ RqAt H p r ∧ TxS K H ps watches ∧ r.1.length ≤ 1000 ∧ r.2.length ≤ 60 ∧ ∀ H', Same H H' → Q (.bl (roomOk watches r)) H'
theorem ok_is_room (T : Top K mg) : FnOk P w K mg base CX0 4 T.f_is_room T.d_is_room ["thing", "watches"] (spRoom K) := by
  refine T.F_is_room.ok sc_is_room (fun vs H Q E h => ?_) (fun cdv A outer s H vs Q E hr h => ?_)
  · obtain ⟨p, ps, r, watches, rfl, _⟩ := h; rfl
  · obtain ⟨p, ps, ⟨n, ls⟩, watches, rfl, ⟨g, e, hg⟩, hs, hn, h60, q⟩ := h
    refine ⟨_, (pss_cons (ps_if (PW.pt (pw_or (pt_not (pt_val (pe_callB (call_isiA (K := K) rfl) (by rfl) T.m_isinstance (by decide +kernel) (pa_cons (pv 0) (pa_cons (pe_bltn (v := .ty "tuple") (u := .type "tuple") (by rfl) T.m_tuple (by decide +kernel) rfl) pa_nil))))) (pw_or1 (pt_cmpR op_ne (pe_callB call_len_seq (by rfl) T.m_len (by decide +kernel) (pa_cons (pv 0) pa_nil)) pe_int (nomark _))))) (pss_one (ps_ret pe_bl)) pss_nil)
      (pss_one (ps_ret (pe_and (pe_call (ok_of_signs T) (hr.mono (by decide)) rfl T.g_of_signs T.F_of_signs.kp T.b_of_signs .nil pass0 (pa_cons (pe_ix (ix_tupA (K := K) rfl) (pv 0) pe_int (fun _ _ => rfl)) (pa_cons (pe_op op_add_str (pe_glob (v := .str "abcdefghijklmnopqrstuvwxyz") rfl T.g_LETTERS ⟨_, rfl⟩) pe_str) (pa_cons pe_int pa_nil)))) (pe_one (pe_call (ok_is_guard T) (hr.mono (by decide)) rfl T.g_is_guard T.F_is_guard.kp T.b_is_guard .nil pass0 (pa_cons (pe_ix (ix_tupA (K := K) rfl) (pv 0) pe_int (fun _ _ => rfl)) (pa_cons (pe_glob (v := .ref T.t_BELOW) rfl T.g_BELOW rfl) (pa_cons (pv 1) pa_nil))))))))), ?_⟩
    refine seq_step ?_
    walk_at "rt"
    refine isi (r := true) (.base (.tup e)) (by decide +kernel) ?_
    walk_at "rt"
    refine ⟨_, .inr (sqt e), ?_⟩
    walk_at "rt"
    refine ix_t (sqt e) (by decide) rfl ?_
    walk_at "rt"
    refine ⟨by rw [sz_line (by decide)]; trivial, ?_⟩
    refine ⟨n, _, 60, rfl, hn, ?_⟩
    unfold roomOk at q
    by_cases c : okT n (letters ++ ("/" : Str)) 60 = true
    · rw [show okT (n, ls).1 (letters ++ ("/" : Str)) 60 = true from c] at q
      rw [show okT n (Str.ofString "abcdefghijklmnopqrstuvwxyz" ++ Str.ofString "/") 60 = true from c]
      walk_at "rt"
      refine ix_t (sqt e) (by decide) rfl ?_
      exact .inl ⟨g, T.t_BELOW, _, ls, ["<", "<="], watches, rfl, hg, .inr (T.q_BELOW _), hs, h60, fun H' s' => q H' s'⟩
    · have c : okT n (letters ++ ("/" : Str)) 60 = false := by simpa using c
      rw [show okT (n, ls).1 (letters ++ ("/" : Str)) 60 = false from c] at q
      rw [show okT n (Str.ofString "abcdefghijklmnopqrstuvwxyz" ++ Str.ofString "/") 60 = false from c]
      walk_at "rt"
      exact q H (Same.refl _)
def spRooms (K : PySem.W.Frag) : Sp := fun vs H Q _ => ∃ (p ps : Addr) (rs : List Rq) (watches : List Str), vs = [.ref p, .ref ps] ∧ RsAt H p rs ∧ TxS K H ps watches ∧ (∀ r ∈ rs, r.1.length ≤ 1000 ∧ r.2.length ≤ 60 ∧ RqOk r) ∧ rs ≠ [] ∧ rs.length ≤ 200 ∧ ∀ H', Same H H' → Q (.bl (rs.all (roomOk watches) && decide (rs.map (·.1)).Nodup)) H'
theorem ok_are_rooms (T : Top K mg) : FnOk P w K mg base CX0 5 T.f_are_rooms T.d_are_rooms ["thing", "watches"] (spRooms K) := by
  refine T.F_are_rooms.ok sc_are_rooms (fun vs H Q E h => ?_) (fun cdv A outer s H vs Q E hr h => ?_)
  · obtain ⟨p, ps, rs, watches, rfl, _⟩ := h; rfl
  · obtain ⟨p, ps, rs, watches, rfl, hrs, hs, hok, hne, h200, q⟩ := h
    refine ⟨_, (pss_cons (ps_if (PW.pt (pw_or (pt_not (pt_val (pe_callB (call_isiA (K := K) rfl) (by rfl) T.m_isinstance (by decide +kernel) (pa_cons (pv 0) (pa_cons (pe_bltn (v := .ty "list") (u := .type "list") (by rfl) T.m_list (by decide +kernel) rfl) pa_nil))))) (pw_or1 (pt_cmpR (op_eqD hr.units) (pv 0) (pe_lstN pa_nil) (nomark _))))) (pss_one (ps_ret pe_bl)) pss_nil)
      (pss_one (ps_ret (pe_and (pe_callB (cr_all rfl) (by rfl) T.m_all (by decide +kernel) (pa_cons (lc_vs (vs := [2]) (pe_lc (own := [("room", 2)]) (g := gName 2) (tt := tYes) rfl sc_are_rooms.nd (pi_listA (K := K) rfl (pv 0)) (blkOk_by (own := [("room", 2)]) (N := ["thing", "watches", "room"]) (sc := defScope s_are_rooms) (by decide +kernel)) (fun _ _ _ _ _ => (pg_name (i := 2) sc_are_rooms.nd rfl (.inl rfl))) (fun _ _ _ _ _ => pts_nil) (fun _ _ _ _ _ => (pe_call (ok_is_room T) (hr.mono (by decide)) rfl T.g_is_room T.F_is_room.kp T.b_is_room .nil pass0 (pa_cons (pv 2) (pa_cons (pv 1) pa_nil))))) rfl) pa_nil)) (pe_one (pe_call (ok_unlike T) (hr.mono (by decide)) rfl T.g_unlike T.F_unlike.kp T.b_unlike .nil pass0 (pa_cons (lc_vs (vs := [2]) (pe_lc (own := [("room", 2)]) (g := gName 2) (tt := tYes) rfl sc_are_rooms.nd (pi_listA (K := K) rfl (pv 0)) (blkOk_by (own := [("room", 2)]) (N := ["thing", "watches", "room"]) (sc := defScope s_are_rooms) (by decide +kernel)) (fun _ _ _ _ _ => (pg_name (i := 2) sc_are_rooms.nd rfl (.inl rfl))) (fun _ _ _ _ _ => pts_nil) (fun _ _ _ _ _ => (pe_ix (ix_tupA (K := K) rfl) (pv 2) pe_int (fun _ _ => rfl)))) rfl) pa_nil))))))), ?_⟩
    obtain ⟨qs, a, b, c⟩ := id hrs
    refine seq_step ?_
    walk_at "rt"
    refine isi (r := true) (.base (.lst a)) (by decide +kernel) ?_
    walk_at "rt"
    intro p1 H1 s1 _ e1
    refine ⟨_, _, dp_rs (hrs.keep s1), .lst (.of e1) .nil, shaped_rs fun r h => (hok r h).2.2, rfl, ?_⟩
    have ne : PyData.eqv (.list (rs.map rdat)) (.list []) = false := by
      cases rs with
      | nil => exact absurd rfl hne
      | cons r rs => rfl
    rw [ne]
    walk_at "rt"
    refine lc_src ?_
    walk_at "rd"
    refine ⟨⟨_, .of (s1 _ _ a)⟩, ?_⟩
    refine lcL_vals (xs := qs.map V.ref) (f := pick rs (fun r => .bl (roomOk watches r)) (V.bl false)) (s1 _ _ a) (by simp; omega) (by simp) (fun i x H2 Q1 hi s2 h => ?_) (fun D H2 s2 _ eD => ?_)
    · rw [List.getElem?_map] at hi
      obtain ⟨qi, h1, rfl⟩ := Option.map_eq_some_iff.mp hi
      have hil := (List.getElem?_eq_some_iff.mp h1).1
      have hx := List.getElem?_eq_getElem (l := rs) (i := i) (by omega)
      have hk := hok _ (List.mem_of_getElem? hx)
      walk_at "rd"
      refine ⟨qi, ps, rs[i], watches, rfl, (c i qi _ h1 hx).keep (s1.trans s2), hs.keep (s1.trans s2), hk.1, hk.2.1, fun H3 s3 => ?_⟩
      have := h H3 s3
      rw [pick_at hx] at this
      exact this
    · refine ⟨D, rs.map (roomOk watches), rfl, .of (eD.trans (by rw [List.length_map, b, range_map, List.map_map]; rfl)), ?_⟩
      rw [show (rs.map (roomOk watches)).all id = rs.all (roomOk watches) by rw [List.all_map]; rfl]
      generalize rs.all (roomOk watches) = r at q ⊢
      cases r with
      | false => walk_at "rd"; exact q _ (s1.trans s2)
      | true =>
        walk_at "rd"
        refine lc_src ?_
        walk_at "rd"
        have s12 := s1.trans s2
        refine ⟨⟨_, .of (s12 _ _ a)⟩, ?_⟩
        refine lcL_vals (xs := qs.map V.ref) (f := pick rs (fun r => .str r.1) V.non) (s12 _ _ a) (by simp; omega) (by simp) (fun i x H3 Q1 hi s3 h => ?_) (fun D2 H3 s3 _ eD2 => ?_)
        · rw [List.getElem?_map] at hi
          obtain ⟨qi, h1, rfl⟩ := Option.map_eq_some_iff.mp hi
          have hil := (List.getElem?_eq_some_iff.mp h1).1
          have hx := List.getElem?_eq_getElem (l := rs) (i := i) (by omega)
          obtain ⟨g, e, _⟩ := (c i qi _ h1 hx).keep (s12.trans s3)
          walk_at "rd"
          refine ix_t (sqt e) (by decide) rfl ?_
          have := h H3 (Same.refl _)
          rw [pick_at hx] at this
          exact this
        · refine ⟨D2, rs.map (·.1), rfl, eD2.trans (by rw [List.length_map, b, range_map, List.map_map]; rfl), by simp; omega, by simpa using q _ (s12.trans s3)⟩
def spIsDoor (K : PySem.W.Frag) (C : Addr) : Sp := fun vs H Q _ => ∃ (p pw pn : Addr) (d : DoorD) (watches names : List Str), vs = [.ref p, .ref pw, .ref pn] ∧ DoorAt C H p d ∧ TxS K H pw watches ∧ TxS K H pn names ∧ d.sg.length ≤ 1000 ∧ d.looks.length ≤ 60 ∧ d.backs.length ≤ 900 ∧ ∀ H', Same H H' → Q (.bl (doorOk watches names d)) H'
theorem ok_is_door (T : Top K mg) : FnOk P w K mg base CX0 4 T.f_is_door T.d_is_door ["thing", "watches", "names"] (spIsDoor K T.C_Door) := by
  refine T.F_is_door.ok sc_is_door (fun vs H Q E h => ?_) (fun cdv A outer s H vs Q E hr h => ?_)
  · obtain ⟨p, pw, pn, d, watches, names, rfl, _⟩ := h; rfl
  · obtain ⟨p, pw, pn, d, watches, names, rfl, hd, hw, hn, hsg, h60, hb, q⟩ := h
    refine ⟨_, (pss_cons (ps_if (PW.pt (pw_or (pt_not (pt_val (pe_callB (call_isiA (K := K) rfl) (by rfl) T.m_isinstance (by decide +kernel) (pa_cons (pv 0) (pa_cons (pe_glob (v := .ref T.C_Door) rfl T.g_Door rfl) pa_nil))))) (pw_or1 (pt_not (pt_val (pe_call (ok_is_sign T) (hr.mono (by decide)) rfl T.g_is_sign T.F_is_sign.kp T.b_is_sign .nil pass0 (pa_cons (pe_fldA (K := K) rfl (pv 0) rfl) pa_nil))))))) (pss_one (ps_ret pe_bl)) pss_nil)
      (pss_cons (ps_for PassesOwn.never rfl (pi_listA (K := K) rfl (pe_lstN (pa_cons (pe_fldA (K := K) rfl (pv 0) rfl) (pa_cons (pe_fldA (K := K) rfl (pv 0) rfl) pa_nil)))) (pg_name (i := 3) sc_is_door.nd rfl (.inl rfl)) (pss_one (ps_if (PW.pt (pw_or (pt_not (pt_val (pe_callB (call_isiA (K := K) rfl) (by rfl) T.m_isinstance (by decide +kernel) (pa_cons (pv 3) (pa_cons (pe_bltn (v := .ty "str") (u := .type "str") (by rfl) T.m_str (by decide +kernel) rfl) pa_nil))))) (pw_or1 (pt_cmpR (op_notIn_seqA (K := K) rfl) (pv 3) (pv 2) (by rfl))))) (pss_one (ps_ret pe_bl)) pss_nil)))
      (pss_cons (ps_set (i := 4) sc_is_door.nd rfl (.inl rfl) (pe_meth0 (pv 0) T.cl_Door T.m_Door_sets (ok_Door_sets T) (hr.mono (by decide)) T.b_Door_sets .nil pass0))
      (pss_cons (ps_if (PW.pt (pw_or (pt_not (pt_val (pe_call (ok_is_guard T) (hr.mono (by decide)) rfl T.g_is_guard T.F_is_guard.kp T.b_is_guard .nil pass0 (pa_cons (pe_meth0 (pv 0) T.cl_Door T.m_Door_asks (ok_Door_asks T) (hr.mono (by decide)) T.b_Door_asks .nil pass0) (pa_cons (pe_glob (v := .ref T.t_WORDS) rfl T.g_WORDS rfl) (pa_cons (pv 1) pa_nil)))))) (pw_or1 (pt_not (pt_val (pe_callB (call_isiA (K := K) rfl) (by rfl) T.m_isinstance (by decide +kernel) (pa_cons (pv 4) (pa_cons (pe_bltn (v := .ty "list") (u := .type "list") (by rfl) T.m_list (by decide +kernel) rfl) pa_nil)))))))) (pss_one (ps_ret pe_bl)) pss_nil)
      (pss_one (ps_ret (pe_and (pe_callB (cr_all rfl) (by rfl) T.m_all (by decide +kernel) (pa_cons (lc_vs (vs := [5]) (pe_lc (own := [("watch", 5)]) (g := gName 5) (tt := tYes) rfl sc_is_door.nd (pi_listA (K := K) rfl (pv 4)) (blkOk_by (own := [("watch", 5)]) (N := ["thing", "watches", "names", "name", "noughts", "watch"]) (sc := defScope s_is_door) (by decide +kernel)) (fun _ _ _ _ _ => (pg_name (i := 5) sc_is_door.nd rfl (.inl rfl))) (fun _ _ _ _ _ => pts_nil) (fun _ _ _ _ _ => (pe_and (pe_callB (call_isiA (K := K) rfl) (by rfl) T.m_isinstance (by decide +kernel) (pa_cons (pv 5) (pa_cons (pe_bltn (v := .ty "str") (u := .type "str") (by rfl) T.m_str (by decide +kernel) rfl) pa_nil))) (pe_one (pe_cmpR (op_in_seqA (K := K) rfl) (pv 5) (pv 1) (by rfl)))))) rfl) pa_nil)) (pe_one (pe_call (ok_unlike T) (hr.mono (by decide)) rfl T.g_unlike T.F_unlike.kp T.b_unlike .nil pass0 (pa_cons (pv 4) pa_nil)))))))))), ?_⟩
    obtain ⟨dx, g, n, e, e2, e3⟩ := id hd
    unfold doorOk at q
    refine seq_step ?_
    walk_at "rt"
    refine is_own e T.cl_Door T.ty_Door ?_
    walk_at "rt"
    refine ⟨_, rfl, p, _, dx, _, _, rfl, e, T.cl_Door, T.n_Door_sign, door_sign, ?_⟩
    refine ⟨_, rfl, hsg, ?_⟩
    by_cases c1 : okSign d.sg = true
    · rw [c1] at q ⊢
      walk_at "rt"
      refine seq_step ?_
      refine for_li ?_
      walk_at "rt"
      refine ⟨_, rfl, p, _, dx, _, _, rfl, e, T.cl_Door, T.n_Door_start, door_start, _, rfl, p, _, dx, _, _, rfl, e, T.cl_Door, T.n_Door_end, door_end, ?_⟩
      intro pl H1 s1 f1 e1
      refine forL_by (xs := [.str d.st, .str d.en]) (fun i σ' H' => (∃ v3 v4 v5, σ' = [some (.ref p), some (.ref pw), some (.ref pn), v3, v4, v5]) ∧ H' = H1 ∧ (0 < i → d.st ∈ names) ∧ (1 < i → d.en ∈ names)) ⟨⟨_, _, _, rfl⟩, rfl, (fun h => absurd h (by omega)), (fun h => absurd h (by omega))⟩ (fun i σ H' _ ⟨_, h, _⟩ => by subst h; exact .of e1) ?_ ?_
      · rintro i x σ' H' hi ⟨⟨v3, v4, v5, rfl⟩, rfl, m1, m2⟩
        have key : ∃ nmx : Str, x = .str nmx ∧ (i = 0 ∧ nmx = d.st ∨ i = 1 ∧ nmx = d.en) := by
          cases i with
          | zero => exact ⟨d.st, by simpa using hi.symm, .inl ⟨rfl, rfl⟩⟩
          | succ i => cases i with
            | zero => exact ⟨d.en, by simpa using hi.symm, .inr ⟨rfl, rfl⟩⟩
            | succ i => simp at hi
        obtain ⟨nmx, rfl, hx⟩ := key
        walk_at "rt"
        refine isi (r := true) (.base (.str _)) (by decide +kernel) ?_
        walk_at "rt"
        refine ⟨pn, _, rfl, hn.keep s1, rfl, flat_of, ?_⟩
        rw [inV_str]
        by_cases m : nmx ∈ names
        · rw [decide_eq_true m]
          walk_at "rt"
          refine ⟨⟨_, rfl⟩, fun _ => ?_, fun h => ?_⟩
          · rcases hx with ⟨_, rfl⟩ | ⟨rfl, _⟩
            · exact m
            · exact m1 (by omega)
          · rcases hx with ⟨rfl, _⟩ | ⟨_, rfl⟩
            · omega
            · exact m
        · rw [decide_eq_false m]
          walk_at "rt"
          have q1 := q _ s1
          rcases hx with ⟨_, rfl⟩ | ⟨_, rfl⟩
          · rw [decide_eq_false m] at q1; simpa only [Bool.true_and, Bool.false_and] using q1
          · rw [decide_eq_false m] at q1; simpa only [Bool.true_and, Bool.false_and, Bool.and_false] using q1
      · rintro σ' H' ⟨⟨v3, v4, v5, rfl⟩, rfl, m1, m2⟩
        have m1 := m1 (by show 0 < 2; decide)
        have m2 := m2 (by show 1 < 2; decide)
        rw [decide_eq_true m1, decide_eq_true m2] at q
        walk_at "rd"
        refine seq_step ?_
        refine ⟨_, rfl, p, dx, _, rfl, s1 _ _ e, door_no (by decide +kernel) (by decide +kernel) (by decide +kernel) (by decide +kernel) (by decide +kernel), p, d, rfl, hd.keep s1, fun nb H2 s2 f2 e2n => ?_⟩
        walk_at "rd"
        refine seq_step ?_
        have s02 := s1.trans s2
        walk_at "rt"
        refine ⟨_, rfl, p, dx, _, rfl, s02 _ _ e, door_no (by decide +kernel) (by decide +kernel) (by decide +kernel) (by decide +kernel) (by decide +kernel), p, d, rfl, hd.keep s02, fun lg H3 s3 f3 e3g => ?_⟩
        have s03 := s02.trans s3
        walk_at "rt"
        refine .inl ⟨lg, T.t_WORDS, pw, d.looks, ["<", "<=", ">", ">=", "="], watches, rfl, e3g, .inr (T.q_WORDS _), hw.keep s03, h60, fun H4 s4 => ?_⟩
        have s04 := s03.trans s4
        have hnb := (s3.trans s4) _ _ e2n
        by_cases c2 : guardOk ["<", "<=", ">", ">=", "="] watches d.looks = true
        · rw [c2] at q ⊢
          walk_at "rt"
          refine isi (r := true) (.base (.lst hnb)) (by decide +kernel) ?_
          walk_at "rt"
          refine lc_src ?_
          walk_at "rd"
          refine ⟨⟨_, .of hnb⟩, ?_⟩
          refine lcL_vals (xs := d.backs.map V.str) (f := pick d.backs (fun b => .bl (decide (b ∈ watches))) (V.bl false)) hnb (by simp; omega) (by simp) (fun i x H5 Q1 hi s5 h => ?_) (fun D H5 s5 _ eD => ?_)
          · rw [List.getElem?_map] at hi
            obtain ⟨y, h1, rfl⟩ := Option.map_eq_some_iff.mp hi
            walk_at "rt"
            refine isi (r := true) (.base (.str _)) (by decide +kernel) ?_
            walk_at "rt"
            refine ⟨pw, _, rfl, (hw.keep (s04.trans s5)), rfl, flat_of, ?_⟩
            rw [inV_str]
            have := h _ (Same.refl _)
            rw [pick_at h1] at this
            exact this
          · refine ⟨D, d.backs.map (fun b => decide (b ∈ watches)), rfl, .of (eD.trans (by rw [List.length_map, range_map, List.map_map]; rfl)), ?_⟩
            have q1 := q _ (s04.trans s5)
            rw [show (d.backs.map (fun b => decide (b ∈ watches))).all id = d.backs.all (fun b => decide (b ∈ watches)) by rw [List.all_map]; rfl]
            generalize d.backs.all (fun b => decide (b ∈ watches)) = r at q1 ⊢
            cases r with
            | false => walk_at "rd"; simpa only [Bool.true_and, Bool.false_and, Bool.and_false] using q1
            | true =>
              walk_at "rd"
              exact ⟨nb, d.backs, rfl, s5 _ _ hnb, by omega, by simpa only [Bool.true_and] using q1⟩
        · have c2 : guardOk ["<", "<=", ">", ">=", "="] watches d.looks = false := by simpa using c2
          rw [c2] at q ⊢
          walk_at "rt"
          simpa only [Bool.true_and, Bool.false_and, Bool.and_false] using q _ s04
    · have c1 : okSign d.sg = false := by simpa using c1
      rw [c1] at q ⊢
      walk_at "rt"
      exact q _ (Same.refl _)
def spMachInit0 (K : PySem.W.Frag) (CM CD : Addr) : Sp := fun vs H Q _ => ∃ (p dx pw pr pd : Addr) (M : MachD), vs = [.ref p, .ref pw, .ref pr, .ref pd] ∧ H p = some (.ins CM dx []) ∧ H pw = some (.lst (M.watches.map V.str)) ∧ RsAt H pr M.rooms ∧ DsAt CD H pd M.doors ∧ MachOk M ∧
  ∀ H', OffN p H H' → MachAt CM CD H' p M → (∀ U : Addr → Prop, ListsU U H → (∀ q d, DoorAt CD H q d → d ∈ M.doors → (∃ (qs : List Addr) (i : Nat), H pd = some (.lst (qs.map V.ref)) ∧ qs[i]? = some q ∧ M.doors[i]? = some d) → DoorAt CD (remU U H) q d) → MachAt CM CD (remU U H') p M) → Q .non H'
def spMachInit (K : PySem.W.Frag) (CM CD CB : Addr) : Sp := fun vs H Q E => spMachInit0 K CM CD vs H Q E ∨
  ∃ (p dx pw : Addr) (x y : V) (W : List Str), vs = [.ref p, .ref pw, x, y] ∧ H p = some (.ins CM dx []) ∧ H pw = some (.lst (W.map V.str)) ∧ W.length ≤ 60 ∧ (∀ x ∈ W, x.length ≤ 1000) ∧ areW W = false ∧ ∀ H', Same H H' → E (.ref CB) none H'
theorem ok_Machine_init (T : Top K mg) : FnOk P w K mg base (L2.CX P w) 6 T.f_Machine_init T.d_Machine_init ["self", "watches", "rooms", "doors"] (spMachInit K T.C_Machine T.C_Door T.C_BadMachine) := by
  refine T.F_Machine_init.okX sc_Machine_init (fun vs H Q E h => ?_) (fun cdv A outer s H vs Q E hr h => ?_)
  · rcases h with ⟨p, dx, pw, pr, pd, M, rfl, _⟩ | ⟨p, dx, pw, x, y, W, rfl, _⟩ <;> rfl
  · refine ⟨_, (pss_cons (ps_if (PW.pt (pw_or (pt_not (pt_val (pe_call (ok_are_watches T) (hr.mono (by decide)) rfl T.g_are_watches T.F_are_watches.kp T.b_are_watches .nil pass0 (pa_cons (pv 1) pa_nil)))) (pw_or (pt_not (pt_val (pe_call (ok_are_rooms T) (hr.mono (by decide)) rfl T.g_are_rooms T.F_are_rooms.kp T.b_are_rooms .nil pass0 (pa_cons (pv 2) (pa_cons (pv 1) pa_nil))))) (pw_or1 (pt_not (pt_val (pe_callB (call_isiA (K := K) rfl) (by rfl) T.m_isinstance (by decide +kernel) (pa_cons (pv 3) (pa_cons (pe_bltn (v := .ty "list") (u := .type "list") (by rfl) T.m_list (by decide +kernel) rfl) pa_nil))))))))) (pss_one (ps_raise rfl (takes_of rfl rfl rfl rfl) (pmk_own PySem.F.excBase_ValueError T.x_BadMachine T.g_BadMachine T.k_BadMachine (raises_own T.b_BadMachine T.t_BadMachine) rfl))) pss_nil)
      (pss_cons (ps_set (i := 4) sc_Machine_init.nd rfl (.inr rfl) (lc_vs (vs := [5]) (pe_lc (own := [("room", 5)]) (g := gName 5) (tt := tYes) rfl sc_Machine_init.nd (pi_listA (K := K) rfl (pv 2)) (blkOk_by (own := [("room", 5)]) (N := ["self", "watches", "rooms", "doors", "names", "room", "door"]) (sc := defScope s_Machine_init) (by decide +kernel)) (fun _ _ _ _ _ => (pg_name (i := 5) sc_Machine_init.nd rfl (.inl rfl))) (fun _ _ _ _ _ => pts_nil) (fun _ _ _ _ _ => (pe_ix (ix_tupA (K := K) rfl) (pv 5) pe_int (fun _ _ => rfl)))) rfl))
      (pss_cons (ps_if (pt_not (pt_val (pe_callB (cr_all rfl) (by rfl) T.m_all (by decide +kernel) (pa_cons (lc_vs (vs := [6]) (pe_lc (own := [("door", 6)]) (g := gName 6) (tt := tYes) rfl sc_Machine_init.nd (pi_listA (K := K) rfl (pv 3)) (blkOk_by (own := [("door", 6)]) (N := ["self", "watches", "rooms", "doors", "names", "room", "door"]) (sc := defScope s_Machine_init) (by decide +kernel)) (fun _ _ _ _ _ => (pg_name (i := 6) sc_Machine_init.nd rfl (.inl rfl))) (fun _ _ _ _ _ => pts_nil) (fun _ _ _ _ _ => (pe_call (ok_is_door T) (hr.mono (by decide)) rfl T.g_is_door T.F_is_door.kp T.b_is_door .nil pass0 (pa_cons (pv 6) (pa_cons (pv 1) (pa_cons (pv 4) pa_nil)))))) rfl) pa_nil)))) (pss_one (ps_raise rfl (takes_of rfl rfl rfl rfl) (pmk_own PySem.F.excBase_ValueError T.x_BadMachine T.g_BadMachine T.k_BadMachine (raises_own T.b_BadMachine T.t_BadMachine) rfl))) pss_nil)
      (pss_cons (ps_if (PW.pt (pw_or (pt_cmpR op_gt (pe_callB call_len_seq (by rfl) T.m_len (by decide +kernel) (pa_cons (pv 2) pa_nil)) (pe_glob (v := .int 64) rfl T.g_MOST_ROOMS ⟨_, rfl⟩) (nomark _)) (pw_or1 (pt_cmpR op_gt (pe_callB call_len_seq (by rfl) T.m_len (by decide +kernel) (pa_cons (pv 3) pa_nil)) (pe_glob (v := .int 200) rfl T.g_MOST_DOORS ⟨_, rfl⟩) (nomark _))))) (pss_one (ps_raise rfl (takes_of rfl rfl rfl rfl) (pmk_own PySem.F.excBase_ValueError T.x_TooMany T.g_TooMany T.k_TooMany (raises_own T.b_TooMany T.t_TooMany) rfl))) pss_nil)
      (pss_cons (ps_fld (pv 0) (pe_callTy (call_listA (K := K) rfl) (by rfl) T.m_list (by decide +kernel) (pa_cons (pv 1) pa_nil)) rfl)
      (pss_cons (ps_fld (pv 0) (pv 4) rfl)
      (pss_cons (ps_fld (pv 0) (lc_vs (vs := [5]) (pe_lc (own := [("room", 5)]) (g := gName 5) (tt := tYes) rfl sc_Machine_init.nd (pi_listA (K := K) rfl (pv 2)) (blkOk_by (own := [("room", 5)]) (N := ["self", "watches", "rooms", "doors", "names", "room", "door"]) (sc := defScope s_Machine_init) (by decide +kernel)) (fun _ _ _ _ _ => (pg_name (i := 5) sc_Machine_init.nd rfl (.inl rfl))) (fun _ _ _ _ _ => pts_nil) (fun _ _ _ _ _ => (pe_callTy (call_listA (K := K) rfl) (by rfl) T.m_list (by decide +kernel) (pa_cons (pe_ix (ix_tupA (K := K) rfl) (pv 5) pe_int (fun _ _ => rfl)) pa_nil)))) rfl) rfl)
      (pss_one (ps_fld (pv 0) (pe_callTy (call_listA (K := K) rfl) (by rfl) T.m_list (by decide +kernel) (pa_cons (pv 3) pa_nil)) rfl))))))))), ?_⟩
    rcases h with ⟨p, dx, pw, pr, pd, M, rfl, hp, hw, hrs, hds, ok, q⟩ | ⟨p, dx, pw, x, y, W, rfl, hp, hw, w60, wl, wbad, q⟩
    rotate_left
    · refine seq_step ?_
      walk_at "rt"
      refine ⟨pw, W, rfl, hw, w60, wl, fun H1 s1 => ?_⟩
      rw [wbad]
      walk_at "rt"
      exact q H1 s1
    have r64 := ok.r64
    have d200 := ok.d200
    obtain ⟨dqs, d1, d2, d3⟩ := id hds
    obtain ⟨rqs, r1, r2, r3⟩ := id hrs
    refine seq_step ?_
    walk_at "rt"
    refine ⟨pw, M.watches, rfl, hw, Nat.le_trans ok.w7 (by decide), (fun x hx => by have := okWatch_len (ok.watch x hx); omega), fun H1 s1 => ?_⟩
    rw [show areW M.watches = true by unfold areW; rw [decide_eq_true ok.w7, ok.wok, decide_eq_true ok.wnd]; rfl]
    walk_at "rt"
    refine ⟨pr, pw, M.rooms, M.watches, rfl, hrs.keep s1, .inl (.of (s1 _ _ hw)), (fun r h => ok.room h), ok.rne, by omega, fun H2 s2 => ?_⟩
    rw [show (M.rooms.all (roomOk M.watches) && decide (M.rooms.map (·.1)).Nodup) = true by rw [ok.rok, decide_eq_true ok.rnd]; rfl]
    have s12 := s1.trans s2
    walk_at "rt"
    refine isi (r := true) (.base (.lst (s12 _ _ d1))) (by decide +kernel) ?_
    walk_at "rt"
    refine seq_step ?_
    walk_at "rd"
    refine lcg_src ?_
    walk_at "rd"
    refine ⟨⟨_, .of (s12 _ _ r1)⟩, ?_⟩
    refine lcF (F := fun r : Rq => V.str r.1) (zs := M.rooms) (s12 _ _ r1) (by simp [r2]) (by simp; omega) (fun i x z H3 Yes hx hz s3 hy => ?_) (fun nq H3 s3 f3 e3 => ?_)
    · rw [List.getElem?_map] at hx
      obtain ⟨qi, h1, rfl⟩ := Option.map_eq_some_iff.mp hx
      obtain ⟨g, e, _⟩ := (r3 i qi z h1 hz).keep (s12.trans s3)
      walk_at "rd"
      refine ix_t (sqt e) (by decide) rfl ?_
      exact hy _ (Same.refl _)
    · have s13 := s12.trans s3
      walk_at "rd"
      refine seq_step ?_
      walk_at "rd"
      refine lcg_src ?_
      walk_at "rd"
      refine ⟨⟨_, .of (s13 _ _ d1)⟩, ?_⟩
      refine lcF (F := fun d : DoorD => V.bl (doorOk M.watches (M.rooms.map (·.1)) d)) (zs := M.doors) (s13 _ _ d1) (by simp [d2]) (by simp; omega) (fun i x z H4 Yes hx hz s4 hy => ?_) (fun D H4 s4 f4 e4 => ?_)
      · rw [List.getElem?_map] at hx
        obtain ⟨qi, h1, rfl⟩ := Option.map_eq_some_iff.mp hx
        have s14 := s13.trans s4
        have dz := (d3 i qi z h1 hz).keep s14
        have oz := ok.door (List.mem_of_getElem? hz)
        have lz := okSign_len oz.1
        walk_at "rd"
        refine ⟨qi, pw, nq, z, M.watches, M.rooms.map (·.1), rfl, dz, .inl (.of (s14 _ _ hw)), .inl (.of (s4 _ _ (e3.trans (by rw [List.map_map]; rfl)))), by omega, ok.dsz z (List.mem_of_getElem? hz), by omega, fun H5 s5 => hy _ s5⟩
      · have s14 := s13.trans s4
        refine ⟨D, M.doors.map (doorOk M.watches (M.rooms.map (·.1))), rfl, .of (e4.trans (by rw [List.map_map]; rfl)), ?_⟩
        rw [show (M.doors.map (doorOk M.watches (M.rooms.map (·.1)))).all id = true by rw [List.all_map]; exact ok.dok]
        walk_at "rd"
        refine seq_step ?_
        walk_at "rd"
        refine ⟨_, .inl (.of (s14 _ _ r1)), ?_⟩
        refine if_f (decide_eq_false (by rw [List.length_map, r2]; omega)) ?_
        refine ⟨_, .inl (.of (s14 _ _ d1)), ?_⟩
        refine if_f (decide_eq_false (by rw [List.length_map, d2]; omega)) ?_
        have hp4 := s14 _ _ hp
        refine seq_step ?_
        refine ⟨_, rfl, pw, _, rfl, .inl (.of (s14 _ _ hw)), fun w1 H5 s5 f5 e5 => ?_⟩
        refine ⟨_, rfl, p, _, dx, _, rfl, s5 _ _ hp4, T.cl_Machine, T.n_Machine_watch_names, (by show 0 < 1000; decide), ?_⟩
        refine seq_step ?_
        refine ⟨_, rfl, _, rfl, p, _, dx, _, rfl, upd_same, T.cl_Machine, T.n_Machine_room_names, (by show 1 < 1000; decide), ?_⟩
        rw [upd_upd]
        have s15 := s14.trans s5
        generalize h6 : upd H5 p (.ins T.C_Machine dx (putF "room_names" (.ref nq) (putF "watch_names" (.ref w1) []))) = H6
        have off6 : OffN p H H6 := ⟨⟨_, dx, hp⟩, fun b o e z => by rw [← h6, upd_ne z]; exact s15 _ _ e⟩
        have hp6 : H6 p = some (.ins T.C_Machine dx (putF "room_names" (.ref nq) (putF "watch_names" (.ref w1) []))) := by rw [← h6, upd_same]
        obtain ⟨rqs6, q1, q2, q3⟩ := off6.i.rs hrs
        walk_at "rd"
        refine seq_step ?_
        refine lcg_src ?_
        refine ⟨_, rfl, pr, rfl, ⟨_, .of q1⟩, ?_⟩
        refine lcM (R := fun Hx q x => LsAt Hx q x ∧ H6 q = none) (fun H H' q x s h => ⟨LsAt.keep h.1 s, h.2⟩) (F := fun r : Rq => r.2) (zs := M.rooms) q1 (by simp [q2]) (by simp; omega) (fun i x z H7 Yes hx hz s7 hy => ?_) (fun slq H7 s7 f7 e7 => ?_)
        · rw [List.getElem?_map] at hx
          obtain ⟨qi, h1, rfl⟩ := Option.map_eq_some_iff.mp hx
          obtain ⟨g, e, ⟨gs, g1, g2, g3⟩⟩ := q3 i qi z h1 hz
          walk_at "rd"
          refine ix_t (sqt (s7 _ _ e)) (by decide) rfl ?_
          walk_at "rd"
          exact ⟨_, .inl (.of (s7 _ _ g1)), fun l H8 s8 f8 e8 => hy l H8 s8 ⟨⟨gs, cut_new f8 e8, g2, fun i q x h1 h2 => (g3 i q x h1 h2).keep (cut_same (s7.trans s8))⟩, s7.free f8⟩⟩
        · refine ⟨_, rfl, p, _, dx, _, rfl, s7 _ _ hp6, T.cl_Machine, T.n_Machine_stay_looks, (by show 2 < 1000; decide), ?_⟩
          generalize h8 : upd H7 p (.ins T.C_Machine dx (putF "stay_looks" (.ref slq) (putF "room_names" (.ref nq) (putF "watch_names" (.ref w1) [])))) = H8
          have hp8 : H8 p = some (.ins T.C_Machine dx (putF "stay_looks" (.ref slq) (putF "room_names" (.ref nq) (putF "watch_names" (.ref w1) [])))) := by rw [← h8, upd_same]
          have up68 : ∀ b o, H6 b = some o → b ≠ p → H8 b = some o := fun b o e z => by rw [← h8, upd_ne z]; exact s7 _ _ e
          have off8 : OffN p H H8 := ⟨⟨_, dx, hp⟩, fun b o e z => up68 b o (off6.2 b o e z) z⟩
          obtain ⟨dqs8, t1, t2, t3⟩ := off8.ds hds
          refine ⟨_, rfl, pd, _, rfl, .inl (.of t1), fun dl H9 s9 f9 e9 => ?_⟩
          refine ⟨_, rfl, p, _, dx, _, rfl, s9 _ _ hp8, T.cl_Machine, T.n_Machine_door_list, (by show 3 < 1000; decide), ?_⟩
          generalize h10 : upd H9 p (.ins T.C_Machine dx (putF "door_list" (.ref dl) (putF "stay_looks" (.ref slq) (putF "room_names" (.ref nq) (putF "watch_names" (.ref w1) []))))) = H10
          have up810 : ∀ b o, H8 b = some o → b ≠ p → H10 b = some o := fun b o e z => by rw [← h10, upd_ne z]; exact s9 _ _ e
          have off10 : OffN p H H10 := ⟨⟨_, dx, hp⟩, fun b o e z => up810 b o (off8.2 b o e z) z⟩
          have hp9 := s9 _ _ hp8
          have o510 : OffI p H5 H10 := ⟨⟨_, dx, _, s5 _ _ hp4⟩, fun b o e z => up810 b o (up68 b o (by rw [← h6, upd_ne z]; exact e) z) z⟩
          have o710 : OffI p H7 H10 := ⟨⟨_, dx, _, s7 _ _ hp6⟩, fun b o e z => up810 b o (by rw [← h8, upd_ne z]; exact e) z⟩
          have o910 : OffI p H9 H10 := ⟨⟨_, dx, _, hp9⟩, fun b o e z => by rw [← h10, upd_ne z]; exact e⟩
          have hp10 : H10 p = some (.ins T.C_Machine dx (machF w1 nq slq dl)) := by rw [← h10, upd_same]; rfl
          have hnq := o510.lst ((s4.trans s5) _ _ (e3.trans (by rw [List.map_map]; rfl : some (HO.lst (M.rooms.map fun r => V.str r.1)) = some (HO.lst ((M.rooms.map (·.1)).map V.str)))))
          refine q H10 off10 ⟨dx, w1, nq, slq, dl, hp10, o510.lst e5, hnq, ?_, ?_⟩ ?_
          · have e7' : SeqOf LsAt H7 slq (M.rooms.map fun r : Rq => r.2) := by
              obtain ⟨qs, a, b, c⟩ := e7
              exact ⟨qs, a, b, fun i q x h1 h2 => (c i q x h1 h2).1⟩
            exact o710.seq (fun _ _ h => o710.ls h) e7'
          · exact ⟨dqs8, o910.lst e9, t2, fun i q x h1 h2 => by
              obtain ⟨dqs', u1, u2, u3⟩ := off10.ds hds
              have : dqs' = dqs8 := by
                have e1 := off8.i.lst d1
                have e2 := off10.i.lst d1
                rw [t1] at e1; rw [u1] at e2
                have inj : ∀ xs ys : List Addr, xs.map V.ref = ys.map V.ref → xs = ys := fun xs ys h => List.map_inj_right (f := V.ref) (fun a b e => by cases e; rfl) |>.mp h
                have a1 : dqs8.map V.ref = dqs.map V.ref := by simpa using e1
                have a2 : dqs'.map V.ref = dqs.map V.ref := by simpa using e2
                exact inj _ _ (a2.trans a1.symm)
              subst this
              exact u3 i q x h1 h2⟩
          · intro U u hdU
            have lst10 : ∀ b xs, H b = some (.lst xs) → H10 b = some (.lst xs) := fun b xs e => off10.i.lst e
            have isU : ∀ b, U b → ∃ o, H b = some o := fun b h => let ⟨xs, e⟩ := u b h; ⟨_, e⟩
            have pU : ¬ U p := fun h => by
              obtain ⟨xs, e⟩ := u p h
              rw [hp] at e; cases e
            have freshU : ∀ {Hx : Hp} {b : Addr}, Same H Hx → Hx b = none → ¬ U b := fun {Hx b} s f h => by
              obtain ⟨o, e⟩ := isU b h
              rw [s _ _ e] at f; cases f
            refine ⟨dx, w1, nq, slq, dl, rem_at pU hp10, rem_at (freshU s14 f5) (o510.lst e5), rem_at (freshU s12 f3) hnq, ?_, ?_⟩
            · obtain ⟨zqs, z1, z2, z3⟩ := o710.seq (R := fun Hx q x => LsAt Hx q x ∧ H6 q = none) (fun q x h => ⟨o710.ls h.1, h.2⟩) e7
              refine ⟨zqs, rem_at (fun h => ?_) z1, z2, fun i q x h1 h2 => ?_⟩
              · obtain ⟨xs, e⟩ := u slq h
                rw [off6.i.lst e] at f7; cases f7
              · obtain ⟨y1, y2⟩ := z3 i q x h1 h2
                refine y1.rem u lst10 fun h => ?_
                obtain ⟨xs, e⟩ := u q h
                rw [off6.i.lst e] at y2; cases y2
            · refine ⟨dqs8, rem_at (fun h => ?_) (o910.lst e9), t2, fun i q x h1 h2 => ?_⟩
              · obtain ⟨xs, e⟩ := u dl h
                rw [off8.i.lst e] at f9; cases f9
              · have e8' := lst_inj t1 (off8.i.lst d1)
                subst e8'
                have dx0 := hdU q x (d3 i q x h1 h2) (List.mem_of_getElem? h2) ⟨dqs8, i, d1, h1, h2⟩
                obtain ⟨ddx, dg, dn, k1, k2, k3⟩ := dx0
                have nn := rem_of k1
                have tr : ∀ b xs, remU U H b = some (.lst xs) → remU U H10 b = some (.lst xs) := fun b xs e => rem_at (rem_of e).1 (off10.i.lst (rem_of e).2)
                have tt : ∀ b xs, remU U H b = some (.tup xs) → remU U H10 b = some (.tup xs) := fun b xs e => rem_at (rem_of e).1 (off10.i.tup (rem_of e).2)
                obtain ⟨ls1, ls2, ls3, ls4⟩ := k2
                obtain ⟨odx, og, on, oa, ob, oc⟩ := off10.door (d3 i q x h1 h2)
                have k1' : H10 q = some (.ins T.C_Door ddx (doorF x.st x.en x.sg dg dn)) := off10.2 _ _ nn.2 (fun z => by
                  rw [z, hp] at nn
                  have l := door_start (st := x.st) (en := x.en) (sg := x.sg) (g := dg) (n := dn)
                  have e : ([] : List (Str × V)) = doorF x.st x.en x.sg dg dn := by have a := nn.2; injection a with a; injection a
                  rw [← e] at l; cases l)
                exact ⟨ddx, dg, dn, rem_at nn.1 k1', ⟨ls1, tr _ _ ls2, ls3, fun i q x h1 h2 => ⟨tt _ _ (ls4 i q x h1 h2).1, (ls4 i q x h1 h2).2⟩⟩, tr _ _ k3⟩
def spMWatches (CM CD : Addr) : Sp := fun vs H Q _ => ∃ (p : Addr) (M : MachD), vs = [.ref p] ∧ MachAt CM CD H p M ∧ ∀ q H', Same H H' → H q = none → H' q = some (.lst (M.watches.map V.str)) → Q (.ref q) H'
theorem ok_Machine_watches (T : Top K mg) : FnOk P w K mg base CX0 1 T.f_Machine_watches T.d_Machine_watches ["self"] (spMWatches T.C_Machine T.C_Door) := by
  refine T.F_Machine_watches.ok sc_Machine_watches (fun vs H Q E h => ?_) (fun cdv A outer s H vs Q E hr h => ?_)
  · obtain ⟨p, M, rfl, _⟩ := h; rfl
  · obtain ⟨p, M, rfl, ⟨dx, wn, rn, sl, dl, a, b, c, d, e⟩, q⟩ := h
    refine ⟨_, (pss_one (ps_ret (pe_callTy (call_listA (K := K) rfl) (by rfl) T.m_list (by decide +kernel) (pa_cons (pe_fldA (K := K) rfl (pv 0) rfl) pa_nil)))), ?_⟩
    refine ⟨_, rfl, p, _, dx, _, _, rfl, a, T.cl_Machine, T.n_Machine_watch_names, mach_watch, ?_⟩
    walk_at "rd"
    exact ⟨_, .inl (.of b), fun l H s f e => q l H s f e⟩
def spMRooms (CM CD : Addr) : Sp := fun vs H Q _ => ∃ (p : Addr) (M : MachD), vs = [.ref p] ∧ MachAt CM CD H p M ∧ ∀ q H', Same H H' → H q = none → H' q = some (.lst ((M.rooms.map (·.1)).map V.str)) → Q (.ref q) H'
theorem ok_Machine_rooms (T : Top K mg) : FnOk P w K mg base CX0 1 T.f_Machine_rooms T.d_Machine_rooms ["self"] (spMRooms T.C_Machine T.C_Door) := by
  refine T.F_Machine_rooms.ok sc_Machine_rooms (fun vs H Q E h => ?_) (fun cdv A outer s H vs Q E hr h => ?_)
  · obtain ⟨p, M, rfl, _⟩ := h; rfl
  · obtain ⟨p, M, rfl, ⟨dx, wn, rn, sl, dl, a, b, c, d, e⟩, q⟩ := h
    refine ⟨_, (pss_one (ps_ret (pe_callTy (call_listA (K := K) rfl) (by rfl) T.m_list (by decide +kernel) (pa_cons (pe_fldA (K := K) rfl (pv 0) rfl) pa_nil)))), ?_⟩
    refine ⟨_, rfl, p, _, dx, _, _, rfl, a, T.cl_Machine, T.n_Machine_room_names, mach_room, ?_⟩
    walk_at "rd"
    exact ⟨_, .inl (.of c), fun l H s f e => q l H s f e⟩
def spMDoors (CM CD : Addr) : Sp := fun vs H Q _ => ∃ (p : Addr) (M : MachD), vs = [.ref p] ∧ MachAt CM CD H p M ∧ ∀ q H' (qs : List Addr), Same H H' → H q = none → H' q = some (.lst (qs.map V.ref)) → qs.length = M.doors.length → (∀ H0, Same H0 H → MachAt CM CD H0 p M → ∀ (i : Nat) (q : Addr) (x : DoorD), qs[i]? = some q → M.doors[i]? = some x → DoorAt CD H0 q x) → Q (.ref q) H'
theorem ok_Machine_doors (T : Top K mg) : FnOk P w K mg base CX0 1 T.f_Machine_doors T.d_Machine_doors ["self"] (spMDoors T.C_Machine T.C_Door) := by
  refine T.F_Machine_doors.ok sc_Machine_doors (fun vs H Q E h => ?_) (fun cdv A outer s H vs Q E hr h => ?_)
  · obtain ⟨p, M, rfl, _⟩ := h; rfl
  · obtain ⟨p, M, rfl, ⟨dx, wn, rn, sl, dl, a, b, c, d, ⟨qs, e1, e2, e3⟩⟩, q⟩ := h
    refine ⟨_, (pss_one (ps_ret (pe_callTy (call_listA (K := K) rfl) (by rfl) T.m_list (by decide +kernel) (pa_cons (pe_fldA (K := K) rfl (pv 0) rfl) pa_nil)))), ?_⟩
    refine ⟨_, rfl, p, _, dx, _, _, rfl, a, T.cl_Machine, T.n_Machine_door_list, mach_door, ?_⟩
    walk_at "rd"
    refine ⟨_, .inl (.of e1), fun l H' s f e => q l H' qs s f e e2 fun H0 s0 ⟨dx', wn', rn', sl', dl', a', _, _, _, ⟨qs', u1, u2, u3⟩⟩ i q x h1 h2 => ?_⟩
    have e0 := s0 _ _ a'
    rw [a] at e0
    have hf : machF wn rn sl dl = machF wn' rn' sl' dl' := by injection e0 with e0; injection e0
    obtain ⟨_, _, _, rfl⟩ := machF_inj hf
    obtain rfl := lst_inj e1 (s0 _ _ u1)
    exact u3 i q x h1 h2
theorem index_of {xs : List Str} {x : Str} (h : x ∈ xs) : ∃ j, xs.idxOf x = j ∧ (xs.map V.str)[j]? = some (.str x) ∧ ∀ (m : Nat) (z : V), m < j → (xs.map V.str)[m]? = some z → eqV z (.str x) = false := by
  refine ⟨_, rfl, ?_, fun m z hm hz => ?_⟩
  · rw [List.getElem?_map, List.getElem?_eq_getElem (List.idxOf_lt_length_of_mem h)]
    simp
  · rw [List.getElem?_map] at hz
    obtain ⟨y, h1, rfl⟩ := Option.map_eq_some_iff.mp hz
    obtain ⟨hl, h2⟩ := List.getElem?_eq_some_iff.mp h1
    have : y ≠ x := fun e => by
      have := List.not_of_lt_findIdx (p := (· == x)) (xs := xs) (i := m) hm
      rw [h2, e] at this
      simp at this
    simp [eqV, this]
def spMStay (CM CD : Addr) : Sp := fun vs H Q _ => ∃ (p : Addr) (M : MachD) (r : Rq), vs = [.ref p, .str r.1] ∧ MachAt CM CD H p M ∧ r ∈ M.rooms ∧ (M.rooms.map (·.1)).Nodup ∧ ∀ q H', Same H H' → H q = none → LsAt H' q r.2 → Q (.ref q) H'
theorem ok_Machine_stay (T : Top K mg) : FnOk P w K mg base CX0 1 T.f_Machine_stay T.d_Machine_stay ["self", "room"] (spMStay T.C_Machine T.C_Door) := by
  refine T.F_Machine_stay.ok sc_Machine_stay (fun vs H Q E h => ?_) (fun cdv A outer s H vs Q E hr h => ?_)
  · obtain ⟨p, M, r, rfl, _⟩ := h; rfl
  · obtain ⟨p, M, r, rfl, ⟨dx, wn, rn, sl, dl, a, b, c, ⟨qs, d1, d2, d3⟩, e⟩, hmem, nd, q⟩ := h
    refine ⟨_, (pss_one (ps_ret (pe_callTy (call_listA (K := K) rfl) (by rfl) T.m_list (by decide +kernel) (pa_cons (pe_ix (ix_listA (K := K) rfl) (pe_fldA (K := K) rfl (pv 0) rfl) (pe_bm PySem.F.plainAttrs_list PySem.F.slot_list_index PySem.F.type_list_index mt_index (pe_fldA (K := K) rfl (pv 0) rfl) (pa_cons (pv 1) pa_nil)) (fun _ _ => rfl)) pa_nil)))), ?_⟩
    obtain ⟨j, ej, hj, hno⟩ := index_of (List.mem_map_of_mem hmem : r.1 ∈ M.rooms.map (·.1))
    have hj2 : M.rooms[j]? = some r := by
      obtain ⟨m, hm, e2⟩ := List.mem_iff_getElem.mp hmem
      have hm2 : (M.rooms.map (·.1))[m]? = some r.1 := by rw [List.getElem?_map, List.getElem?_eq_getElem hm, e2]; rfl
      have hj3 : (M.rooms.map (·.1))[j]? = some r.1 := by
        rw [List.getElem?_map] at hj
        obtain ⟨y, h1, h2⟩ := Option.map_eq_some_iff.mp hj
        rw [h1]; exact congrArg some (by simpa using h2)
      have : m = j := (List.getElem?_inj (by simpa using hm) nd).mp (hm2.trans hj3.symm)
      rw [← this, List.getElem?_eq_getElem hm, e2]
    refine ⟨_, rfl, p, _, dx, _, _, rfl, a, T.cl_Machine, T.n_Machine_stay_looks, mach_stay, ?_⟩
    refine ⟨_, rfl, p, _, dx, _, _, rfl, a, T.cl_Machine, T.n_Machine_room_names, mach_room, .inl ⟨rfl, _, .of c⟩, ?_⟩
    walk_at "rd"
    refine ⟨rn, _, _, j, _, rfl, rfl, .of c, rfl, flat_of, hj, by simp [eqV], hno, ?_⟩
    have hjl := (List.getElem?_eq_some_iff.mp hj2).1
    rw [List.length_map] at d2
    have hq := List.getElem?_eq_getElem (l := qs) (i := j) (by omega)
    have hls := d3 j _ r.2 hq (by rw [List.getElem?_map, hj2]; rfl)
    generalize qs[j] = ql at *
    obtain ⟨rs, f1, f2, f3⟩ := hls
    refine ix_l (.of d1) (by omega) (by rw [Int.toNat_natCast, List.getElem?_map, hq]; rfl) ?_
    walk_at "rd"
    exact ⟨_, .inl (.of f1), fun l H' s' f e => q l H' s' f ⟨rs, e, f2, fun i q x h1 h2 => (f3 i q x h1 h2).keep s'⟩⟩
abbrev WORDS : List Str := ["<", "<=", ">", ">=", "="]
/-! ### what is new between two heaps -/
open Classical in
noncomputable def newH (H H' : Hp) : Hp := fun b => if H b = none then H' b else none
theorem new_at {H H' : Hp} {b : Addr} {o : HO} (f : H b = none) (e : H' b = some o) : newH H H' b = some o := by unfold newH; rw [if_pos f]; exact e
theorem new_of {H H' : Hp} {b : Addr} {o : HO} (e : newH H H' b = some o) : H b = none ∧ H' b = some o := by
  unfold newH at e
  by_cases h : H b = none
  · rw [if_pos h] at e; exact ⟨h, e⟩
  · rw [if_neg h] at e; cases e
theorem new_sub {H H' : Hp} : Same (newH H H') H' := fun b o e => (new_of e).2
theorem new_mono {H1 H H' H2 : Hp} (s1 : Same H1 H) (s2 : Same H' H2) : Same (newH H H') (newH H1 H2) := fun b o e => by
  have := new_of e
  exact new_at (s1.free this.1) (s2 _ _ this.2)
theorem new_later {H H' H2 : Hp} (s2 : Same H' H2) : Same (newH H H') (newH H H2) := new_mono (Same.refl _) s2
theorem new_del {H H' : Hp} {D : Addr} {o : HO} (e : H D = some o) : Same (newH H H') (delH D H') := fun b o' h => by
  have := new_of h
  exact del_at (fun z => by rw [z, e] at this; cases this.1) this.2
theorem new_upd {H H' : Hp} {g : Addr} {o : HO} (f : H g = none) : newH H (upd H' g o) = upd (newH H H') g o := by
  funext b
  by_cases h : b = g
  · rw [h, upd_same]; exact new_at f upd_same
  · rw [upd_ne h]
    unfold newH
    rw [upd_ne h]
theorem new_refl {H : Hp} {b : Addr} : newH H H b = none := by
  unfold newH
  by_cases h : H b = none
  · rw [if_pos h, h]
  · rw [if_neg h]
/-! ### the law's own machines, as they are drawn -/
structure LDoor where
  b : Nat
  e : Nat
  gd : List Lq
  ns : List Str
  sg : Str
def LDoorAt (H : Hp) (q : Addr) (d : LDoor) : Prop := ∃ g n, H q = some (.tup [.int d.b, .int d.e, .ref g, .ref n, .str d.sg]) ∧ LsAt H g d.gd ∧ H n = some (.lst (d.ns.map V.str))
theorem LDoorAt.keep {H H' : Hp} {q : Addr} {d : LDoor} (s : Same H H') (h : LDoorAt H q d) : LDoorAt H' q d := by
  obtain ⟨g, n, a, b, c⟩ := h
  exact ⟨g, n, s _ _ a, b.keep s, s _ _ c⟩
structure Spec where
  watches : List Str
  rooms : List Rq
  doors : List LDoor
def SpecAt (H : Hp) (q : Addr) (S : Spec) : Prop := ∃ w r d, H q = some (.tup [.ref w, .ref r, .ref d]) ∧ H w = some (.lst (S.watches.map V.str)) ∧ RsAt H r S.rooms ∧ SeqOf LDoorAt H d S.doors
theorem SpecAt.keep {H H' : Hp} {q : Addr} {S : Spec} (s : Same H H') (h : SpecAt H q S) : SpecAt H' q S := by
  obtain ⟨w, r, d, a, b, c, e⟩ := h
  exact ⟨w, r, d, s _ _ a, s _ _ b, c.keep s, SeqOf.keep (fun _ _ => LDoorAt.keep s) s e⟩
def NumsOk (ls : List Lq) : Prop := ∀ l ∈ ls, ∃ n : Int, l.2.2 = .int n ∧ 0 ≤ n ∧ Sz 210 n
structure SpecOk (S : Spec) : Prop where
  w : NamesOk S.watches S.watches.length
  w2 : S.watches.length ≤ 2
  r : NamesOk (S.rooms.map (·.1)) S.rooms.length
  r1 : 1 ≤ S.rooms.length
  r4 : S.rooms.length ≤ 4
  st : ∀ r ∈ S.rooms, guardOk ["<", "<="] S.watches r.2 = true ∧ r.2.length ≤ 2 ∧ NumsOk r.2
  d6 : S.doors.length ≤ 6
  d : ∀ d ∈ S.doors, d.b < S.rooms.length ∧ d.e < S.rooms.length ∧ guardOk WORDS S.watches d.gd = true ∧ d.gd.length ≤ 2 ∧ NumsOk d.gd ∧ d.ns.Nodup ∧ (∀ x ∈ d.ns, x ∈ S.watches) ∧ (d.sg = "" ∨ d.sg = "go!")
def Spec.name (S : Spec) (i : Nat) : Str := (S.rooms.map (·.1)).getD i ""
def Spec.door (S : Spec) (d : LDoor) : DoorD := ⟨S.name d.b, S.name d.e, d.sg, d.gd, d.ns⟩
def Spec.mach (S : Spec) : MachD := ⟨S.watches, S.rooms, S.doors.map S.door⟩
theorem okName_okT {x : Str} (h : okName x = true) : okT x (letters ++ ("/" : Str)) 60 = true := by
  unfold okName okT at h
  rw [Bool.and_eq_true, Bool.and_eq_true, List.all_eq_true] at h
  unfold okT
  rw [Bool.and_eq_true, Bool.and_eq_true, List.all_eq_true]
  refine ⟨⟨h.1.1, decide_eq_true (by have := of_decide_eq_true h.1.2; omega)⟩, fun c hc => decide_eq_true ?_⟩
  have := of_decide_eq_true (h.2 c hc)
  rw [show (letters ++ ("/" : Str)).cps.toList = letters.cps.toList ++ ("/" : Str).cps.toList by decide +kernel]
  exact List.mem_append_left _ this
theorem name_at {S : Spec} {i : Nat} (h : i < S.rooms.length) : ∃ r : Rq, S.rooms[i]? = some r ∧ S.name i = r.1 := by
  refine ⟨S.rooms[i], List.getElem?_eq_getElem h, ?_⟩
  unfold Spec.name
  rw [List.getD_eq_getElem?_getD, List.getElem?_map, List.getElem?_eq_getElem h]; rfl
theorem name_mem {S : Spec} {i : Nat} (h : i < S.rooms.length) : S.name i ∈ S.rooms.map (·.1) := by
  obtain ⟨r, h1, h2⟩ := name_at h
  rw [h2]; exact List.mem_map_of_mem (List.mem_of_getElem? h1)
theorem SpecOk.mach {S : Spec} (h : SpecOk S) : MachOk S.mach where
  w7 := by show S.watches.length ≤ 7; have := h.w2; omega
  wok := List.all_eq_true.mpr fun x hx => by
    have := h.w.2.1 x hx
    unfold okWatch; rw [this, Bool.or_true]
  wnd := h.w.2.2.1
  rok := List.all_eq_true.mpr fun r hr => by
    have h1 := okName_okT (h.r.2.1 r.1 (List.mem_map_of_mem hr))
    have h2 := (h.st r hr).1
    unfold roomOk
    rw [h1]
    exact h2
  rnd := h.r.2.2.1
  rne := fun z => by
    have h1 := h.r1
    have z : S.rooms = [] := z
    rw [z] at h1; simp at h1
  r64 := by show S.rooms.length ≤ 64; have := h.r4; omega
  dok := List.all_eq_true.mpr fun d hd => by
    obtain ⟨d', hd', rfl⟩ := List.mem_map.mp hd
    obtain ⟨a, b, c, _, _, e, f, g⟩ := h.d d' hd'
    unfold doorOk
    have s1 : okSign (S.door d').sg = true := by
      show okSign d'.sg = true
      rcases g with g | g <;> rw [g] <;> decide +kernel
    have s2 : (S.door d').backs.all (fun b => decide (b ∈ S.mach.watches)) = true := List.all_eq_true.mpr fun x hx => decide_eq_true (f x hx)
    rw [s1, s2, decide_eq_true (show (S.door d').st ∈ S.mach.rooms.map (·.1) from name_mem a), decide_eq_true (show (S.door d').en ∈ S.mach.rooms.map (·.1) from name_mem b), decide_eq_true (show (S.door d').backs.Nodup from e)]
    have s3 : guardOk ["<", "<=", ">", ">=", "="] S.mach.watches (S.door d').looks = true := c
    rw [s3]; rfl
  d200 := by show (S.doors.map S.door).length ≤ 200; rw [List.length_map]; have := h.d6; omega
  rsz := fun r hr => by have := (h.st r hr).2.1; omega
  dsz := fun d hd => by
    obtain ⟨d', hd', rfl⟩ := List.mem_map.mp hd
    have := (h.d d' hd').2.2.2.1
    show d'.gd.length ≤ 60
    omega
abbrev lqKeep : ∀ (H H' : Hp) (q : Addr) (x : Lq), Same H H' → LqAt H q x → LqAt H' q x := fun _ _ _ _ s h => LqAt.keep s h
theorem pick_word {ws : List Str} {i : Int} (h : 0 ≤ i ∧ i < (ws.length : Int)) : ∃ x, (ws.map V.str)[i.toNat]? = some (.str x) ∧ x ∈ ws := by
  have h1 : i.toNat < ws.length := by omega
  exact ⟨ws[i.toNat], by rw [List.getElem?_map, List.getElem?_eq_getElem h1]; rfl, List.getElem_mem h1⟩
theorem RqAt.keep' : ∀ (H H' : Hp) (q : Addr) (x : Rq), Same H H' → RqAt H q x → RqAt H' q x := fun _ _ _ _ s h => RqAt.keep s h
def spWatchesOf (K : PySem.W.Frag) (CM CD CB : Addr) : Sp := fun vs H Q E => ∃ (p : Addr) (Ms : List MachD), vs = [.ref p] ∧ MsAt CM CD H p Ms ∧ (∀ M ∈ Ms, MachOk M) ∧ 1 ≤ Ms.length ∧ Ms.length ≤ 6 ∧ ((wholeW Ms).Nodup ∧ (wholeW Ms).length ≤ 7 → ∀ q H', Same H H' → H q = none → H' q = some (.lst ((wholeW Ms).map V.str)) → Q (.ref q) H') ∧ (¬ ((wholeW Ms).Nodup ∧ (wholeW Ms).length ≤ 7) → ∀ H', Same H H' → E (.ref CB) none H')
theorem wholeW_take (Ms : List MachD) {i : Nat} {M : MachD} (h : Ms[i]? = some M) : wholeW (Ms.take (i + 1)) = wholeW (Ms.take i) ++ M.watches := by
  unfold wholeW; rw [take_snoc h, List.flatMap_append]; simp
theorem wholeW_len {Ms : List MachD} (ok : ∀ M ∈ Ms, MachOk M) : (wholeW Ms).length ≤ 7 * Ms.length := by
  unfold wholeW
  induction Ms with
  | nil => simp
  | cons M Ms ih =>
    have h1 := (ok M List.mem_cons_self).w7
    have h2 := ih fun M hM => ok M (List.mem_cons_of_mem _ hM)
    rw [List.flatMap_cons, List.length_append, List.length_cons]
    omega
theorem ok_watches_of (T : Top K mg) : FnOk P w K mg base (L2.CX P w) 2 T.f_watches_of T.d_watches_of ["machines"] (spWatchesOf K T.C_Machine T.C_Door T.C_BadMachine) := by
  refine T.F_watches_of.okX sc_watches_of (fun vs H Q E h => ?_) (fun cdv A outer s H vs Q E hr h => ?_)
  · obtain ⟨p, Ms, rfl, _⟩ := h; rfl
  · obtain ⟨p, Ms, rfl, hms, ok, l1, l6, q1, q2⟩ := h
    refine ⟨_, (pss_cons (ps_if (PW.pt (pw_or (pt_not (pt_val (pe_callB (call_isiA (K := K) rfl) (by rfl) T.m_isinstance (by decide +kernel) (pa_cons (pv 0) (pa_cons (pe_bltn (v := .ty "list") (u := .type "list") (by rfl) T.m_list (by decide +kernel) rfl) pa_nil))))) (pw_or1 (pt_not (pt_chain op_le op_le pe_int (pe_callB call_len_seq (by rfl) T.m_len (by decide +kernel) (pa_cons (pv 0) pa_nil)) (pe_glob (v := .int 6) rfl T.g_MOST_PARTS ⟨_, rfl⟩)))))) (pss_one (ps_raise rfl (takes_of rfl rfl rfl rfl) (pmk_own PySem.F.excBase_ValueError T.x_BadMachine T.g_BadMachine T.k_BadMachine (raises_own T.b_BadMachine T.t_BadMachine) rfl))) pss_nil)
      (pss_cons (ps_set (i := 1) sc_watches_of.nd rfl (.inl rfl) (pe_lstN pa_nil))
      (pss_cons (ps_for (passes_of rfl) rfl (pi_listA (K := K) rfl (pv 0)) (pg_name (i := 2) sc_watches_of.nd rfl (.inl rfl)) (pss_cons (ps_if (pt_not (pt_val (pe_callB (call_isiA (K := K) rfl) (by rfl) T.m_isinstance (by decide +kernel) (pa_cons (pv 2) (pa_cons (pe_glob (v := .ref T.C_Machine) rfl T.g_Machine rfl) pa_nil))))) (pss_one (ps_raise rfl (takes_of rfl rfl rfl rfl) (pmk_own PySem.F.excBase_ValueError T.x_BadMachine T.g_BadMachine T.k_BadMachine (raises_own T.b_BadMachine T.t_BadMachine) rfl))) pss_nil)
      (pss_one (ps_set (i := 1) sc_watches_of.nd rfl (.inl rfl) (pe_op op_catN (pv 1) (pe_meth0 (pv 2) T.cl_Machine T.m_Machine_watches (ok_Machine_watches T) (hr.mono (by decide)) T.b_Machine_watches .nil pass0))))))
      (pss_cons (ps_if (PW.pt (pw_or (pt_cmpR op_ne (pe_lenSetN rfl (by rfl) T.m_len (by rfl) T.m_set (pv 1)) (pe_callB call_len_seq (by rfl) T.m_len (by decide +kernel) (pa_cons (pv 1) pa_nil)) (nomark _)) (pw_or1 (pt_cmpR op_gt (pe_callB call_len_seq (by rfl) T.m_len (by decide +kernel) (pa_cons (pv 1) pa_nil)) (pe_glob (v := .int 7) rfl T.g_MOST_WATCHES ⟨_, rfl⟩) (nomark _))))) (pss_one (ps_raise rfl (takes_of rfl rfl rfl rfl) (pmk_own PySem.F.excBase_ValueError T.x_BadMachine T.g_BadMachine T.k_BadMachine (raises_own T.b_BadMachine T.t_BadMachine) rfl))) pss_nil)
      (pss_one (ps_ret (pv 1))))))), ?_⟩
    obtain ⟨qs, m1, m2, m3⟩ := id hms
    refine seq_step ?_
    walk_at "rt"
    refine isi (r := true) (.base (.lst m1)) (by decide +kernel) ?_
    walk_at "rt"
    refine ⟨_, .inl (.of m1), ?_⟩
    rw [List.length_map, m2]
    rw [decide_eq_true (by omega : (1 : Int) ≤ (Ms.length : Int))]
    refine if_t rfl ?_
    refine if_f (by rw [decide_eq_true (by omega : (Ms.length : Int) ≤ 6)]; rfl) ?_
    refine seq_step ?_
    walk_at "rd"
    intro bl H1 s1 f1 e1
    have wl := wholeW_len ok
    refine seq_step ?_
    refine for_li ?_
    walk_at "rd"
    obtain ⟨Iv1, hIv1⟩ : ∃ Iv : Nat → L2.St → Hp → Prop, ∀ i σ' H', Iv i σ' H' ↔ ((∃ b v2, σ' = [some (.ref p), some (.ref b), v2] ∧ H' b = some (.lst ((wholeW (Ms.take i)).map V.str)) ∧ H b = none) ∧ Same H H') := ⟨_, fun _ _ _ => Iff.rfl⟩
    refine forL_by (xs := qs.map V.ref) Iv1 ((hIv1 _ _ _).mpr ⟨⟨bl, _, rfl, e1, f1⟩, s1⟩) (fun i σ H' _ h => (fun (⟨_, k⟩ : _ ∧ Same _ _) => .of (k _ _ m1)) ((hIv1 _ _ _).mp h)) ?_ ?_
    · rintro i x σ' H2 hi hinv
      obtain ⟨⟨b, v2, rfl, e2, fb⟩, s2⟩ := (hIv1 _ _ _).mp hinv
      rw [List.getElem?_map] at hi
      obtain ⟨qi, h1, rfl⟩ := Option.map_eq_some_iff.mp hi
      have hil := (List.getElem?_eq_some_iff.mp h1).1
      have hz := List.getElem?_eq_getElem (l := Ms) (i := i) (by omega)
      have dz := (m3 i qi _ h1 hz).keep s2
      have okz := ok _ (List.mem_of_getElem? hz)
      have tk := wholeW_take Ms hz
      have w7 := okz.w7
      generalize Ms[i] = M at *
      obtain ⟨dx, wn, rn, sl, dl, a, _⟩ := id dz
      have tl : (wholeW (Ms.take i)).length ≤ 42 := by
        have h1 := wholeW_len (Ms := Ms.take i) fun M hM => ok M (List.mem_of_mem_take hM)
        rw [List.length_take] at h1; omega
      walk_at "rd"
      refine seq_step ?_
      walk_at "rd"
      refine is_own a T.cl_Machine T.ty_Machine ?_
      walk_at "rd"
      refine ⟨_, rfl, qi, dx, _, rfl, a, mach_no (by decide +kernel) (by decide +kernel) (by decide +kernel) (by decide +kernel), qi, M, rfl, dz, fun wq H3 s3 f3 e3 => ?_⟩
      walk_at "rd"
      refine ⟨_, s3 _ _ e2, _, e3, small1000' (by rw [List.length_map, List.length_map]; omega), fun c H4 s4 f4 e4 => ?_⟩
      walk_at "rd"
      have s24 := s2.trans (s3.trans s4)
      refine (hIv1 _ _ _).mpr ⟨⟨c, _, rfl, ?_, (s2.trans s3).free f4⟩, s24⟩
      rw [tk, List.map_append]
      exact e4
    · rintro σ' H2 hinv
      obtain ⟨⟨b, v2, rfl, e2, fb⟩, s2⟩ := (hIv1 _ _ _).mp hinv
      rw [List.length_map, m2, List.take_length] at e2
      walk_at "rd"
      refine seq_step ?_
      walk_at "rd"
      refine ⟨_, rfl, b, wholeW Ms, rfl, .of e2, by unfold scanBound; omega, fun c hc hcn => ?_⟩
      refine ⟨_, .inl (.of e2), rfl, ?_⟩
      rw [List.length_map]
      by_cases nd : (wholeW Ms).Nodup
      rotate_left
      · refine if_t ?_ (q2 (fun h => nd h.1) H2 s2)
        rw [decide_eq_false (fun e => nd (hcn.mp (by injection e with e; omega)))]; rfl
      refine if_f ?_ ?_
      · rw [hcn.mpr nd, decide_eq_true rfl]; rfl
      refine ⟨_, .inl (.of e2), ?_⟩
      rw [List.length_map]
      refine ite_d (fun c7 => ?_) (fun c7 => ?_)
      · exact q2 (fun h => by have := h.2; omega) H2 s2
      · exact q1 ⟨nd, by omega⟩ b H2 s2 fb e2
theorem many_le : ∀ {Ms : List MachD}, (∀ M ∈ Ms, M.rooms.length ≤ 64) → ∀ {k : Nat}, Ms.length ≤ k → manyR Ms ≤ 64 ^ k := by
  intro Ms h
  have key : ∀ (j : Nat), j ≤ Ms.length → manyR (Ms.take j) ≤ 64 ^ j := by
    intro j
    induction j with
    | zero => intro _; exact Nat.le_refl _
    | succ j ih =>
      intro hj
      have hz := List.getElem?_eq_getElem (l := Ms) (i := j) (by omega)
      rw [take_snoc hz, manyR_snoc, Nat.pow_succ]
      exact Nat.mul_le_mul (ih (by omega)) (h _ (List.mem_of_getElem? hz))
  intro k hk
  have := key Ms.length (Nat.le_refl _)
  rw [List.take_length] at this
  exact Nat.le_trans this (Nat.pow_le_pow_right (by decide) hk)
def spRoomsOf (K : PySem.W.Frag) (CM CD CT : Addr) : Sp := fun vs H Q E => ∃ (p : Addr) (Ms : List MachD), vs = [.ref p] ∧ MsAt CM CD H p Ms ∧ (∀ M ∈ Ms, MachOk M) ∧ 1 ≤ Ms.length ∧ Ms.length ≤ 6 ∧ (manyR Ms ≤ 64 → ∀ q H', Same H H' → SeqOf TupS H' q (rowsP Ms) → Q (.ref q) H') ∧ (64 < manyR Ms → ∀ H', Same H H' → E (.ref CT) none H')
theorem ok_rooms_of (T : Top K mg) : FnOk P w K mg base (L2.CX P w) 2 T.f_rooms_of T.d_rooms_of ["machines"] (spRoomsOf K T.C_Machine T.C_Door T.C_TooMany) := by
  refine T.F_rooms_of.okX sc_rooms_of (fun vs H Q E h => ?_) (fun cdv A outer s H vs Q E hr h => ?_)
  · obtain ⟨p, Ms, rfl, _⟩ := h; rfl
  · obtain ⟨p, Ms, rfl, hms, ok, l1, l6, q1, q2⟩ := h
    refine ⟨_, (pss_cons (ps_set (i := 1) sc_rooms_of.nd rfl (.inl rfl) pe_int)
      (pss_cons (ps_for (passes_of rfl) rfl (pi_listA (K := K) rfl (pv 0)) (pg_name (i := 2) sc_rooms_of.nd rfl (.inl rfl)) (pss_one (ps_set (i := 1) sc_rooms_of.nd rfl (.inl rfl) (pe_op op_mulW (pv 1) (pe_callB call_len_seq (by rfl) T.m_len (by decide +kernel) (pa_cons (pe_meth0 (pv 2) T.cl_Machine T.m_Machine_rooms (ok_Machine_rooms T) (hr.mono (by decide)) T.b_Machine_rooms .nil pass0) pa_nil))))))
      (pss_cons (ps_if (pt_cmpR op_gt (pv 1) (pe_glob (v := .int 64) rfl T.g_MOST_ROOMS ⟨_, rfl⟩) (nomark _)) (pss_one (ps_raise rfl (takes_of rfl rfl rfl rfl) (pmk_own PySem.F.excBase_ValueError T.x_TooMany T.g_TooMany T.k_TooMany (raises_own T.b_TooMany T.t_TooMany) rfl))) pss_nil)
      (pss_cons (ps_set (i := 3) sc_rooms_of.nd rfl (.inl rfl) (pe_lstN (pa_cons (pe_tupN pa_nil) pa_nil)))
      (pss_cons (ps_for (passes_of rfl) rfl (pi_listA (K := K) rfl (pv 0)) (pg_name (i := 2) sc_rooms_of.nd rfl (.inl rfl)) (pss_cons (ps_set (i := 4) sc_rooms_of.nd rfl (.inl rfl) (pe_lstN pa_nil))
      (pss_cons (ps_for (passes_of rfl) rfl (pi_listA (K := K) rfl (pv 3)) (pg_name (i := 5) sc_rooms_of.nd rfl (.inr rfl)) (pss_one (ps_set (i := 4) sc_rooms_of.nd rfl (.inl rfl) (pe_op op_catN (pv 4) (lc_vs (vs := [6]) (pe_lc (own := [("name", 6)]) (g := gName 6) (tt := tYes) rfl sc_rooms_of.nd (pi_listA (K := K) rfl (pe_meth0 (pv 2) T.cl_Machine T.m_Machine_rooms (ok_Machine_rooms T) (hr.mono (by decide)) T.b_Machine_rooms .nil pass0)) (blkOk_by (own := [("name", 6)]) (N := ["machines", "many", "machine", "rooms", "longer", "room", "name"]) (sc := defScope s_rooms_of) (by decide +kernel)) (fun _ _ _ _ _ => (pg_name (i := 6) sc_rooms_of.nd rfl (.inl rfl))) (fun _ _ _ _ _ => pts_nil) (fun _ _ _ _ _ => (pe_op (op_catTN (K := K) rfl) (pv 5) (pe_tupN (pa_cons (pv 6) pa_nil))))) rfl)))))
      (pss_one (ps_set (i := 3) sc_rooms_of.nd rfl (.inl rfl) (pv 4))))))
      (pss_one (ps_ret (pv 3)))))))), ?_⟩
    obtain ⟨qs, m1, m2, m3⟩ := id hms
    refine seq_step ?_
    walk_at "rd"
    refine seq_step ?_
    refine for_li ?_
    walk_at "rd"
    obtain ⟨Iv2, hIv2⟩ : ∃ Iv : Nat → L2.St → Hp → Prop, ∀ i σ' H', Iv i σ' H' ↔ ((∃ v2, σ' = [some (.ref p), some (.int (manyR (Ms.take i) : Nat)), v2, none, none, none, none]) ∧ Same H H') := ⟨_, fun _ _ _ => Iff.rfl⟩
    refine forL_by (xs := qs.map V.ref) Iv2 ((hIv2 _ _ _).mpr ⟨⟨_, rfl⟩, Same.refl _⟩) (fun i σ H' _ h => (fun (⟨_, k⟩ : _ ∧ Same _ _) => .of (k _ _ m1)) ((hIv2 _ _ _).mp h)) ?_ ?_
    · rintro i x σ' H2 hi hinv
      obtain ⟨⟨v2, rfl⟩, s2⟩ := (hIv2 _ _ _).mp hinv
      rw [List.getElem?_map] at hi
      obtain ⟨qi, h1, rfl⟩ := Option.map_eq_some_iff.mp hi
      have hil := (List.getElem?_eq_some_iff.mp h1).1
      have hz := List.getElem?_eq_getElem (l := Ms) (i := i) (by omega)
      have dz := (m3 i qi _ h1 hz).keep s2
      have tk : manyR (Ms.take (i + 1)) = manyR (Ms.take i) * Ms[i].rooms.length := by rw [take_snoc hz, manyR_snoc]
      have r64 := (ok _ (List.mem_of_getElem? hz)).r64
      have mk := many_le (Ms := Ms.take i) (fun M hM => (ok M (List.mem_of_mem_take hM)).r64) (k := 6) (by rw [List.length_take]; omega)
      generalize Ms[i] = M at *
      obtain ⟨dx, wn, rn, sl, dl, a, _⟩ := id dz
      walk_at "rd"
      refine ⟨_, rfl, qi, dx, _, rfl, a, mach_no (by decide +kernel) (by decide +kernel) (by decide +kernel) (by decide +kernel), qi, M, rfl, dz, fun wq H3 s3 f3 e3 => ?_⟩
      walk_at "rd"
      refine ⟨_, .inl (.of e3), ?_⟩
      rw [List.length_map, List.length_map]
      refine ⟨Sz.mulW (a := 64) (b := 64) (by unfold Sz; omega) (by unfold Sz; omega) (by omega), ?_⟩
      walk_at "rd"
      refine (hIv2 _ _ _).mpr ⟨⟨some (.ref qi), ?_⟩, s2.trans s3⟩
      rw [tk, Int.natCast_mul]
    · rintro σ' H2 hinv
      obtain ⟨⟨v2, rfl⟩, s2⟩ := (hIv2 _ _ _).mp hinv
      rw [List.length_map, m2, List.take_length]
      walk_at "rd"
      refine seq_step ?_
      walk_at "rd"
      refine ite_d (fun c => ?_) (fun c => ?_)
      · exact q2 (by omega) H2 s2
      have q1 := q1 (by omega)
      walk_at "rd"
      refine seq_step ?_
      walk_at "rd"
      intro t0 H3 s3 f3 e3 l0 H4 s4 f4 e4
      have s24 := s2.trans (s3.trans s4)
      refine seq_step ?_
      refine for_li ?_
      walk_at "rd"
      have ne : ∀ M ∈ Ms, M.rooms ≠ [] := fun M hM => (ok M hM).rne
      obtain ⟨Iv3, hIv3⟩ : ∃ Iv : Nat → L2.St → Hp → Prop, ∀ i σ' H', Iv i σ' H' ↔ ((∃ b v2 v4 v5 v6, σ' = [some (.ref p), some (.int (manyR Ms : Nat)), v2, some (.ref b), v4, v5, v6] ∧ SeqOf TupS H' b (rowsP (Ms.take i))) ∧ Same H H') := ⟨_, fun _ _ _ => Iff.rfl⟩
      refine forL_by (xs := qs.map V.ref) Iv3 ((hIv3 _ _ _).mpr ⟨⟨l0, _, _, _, _, rfl, [t0], e4, rfl, fun i q x h1 h2 => ?_⟩, s24⟩) (fun i σ H' _ h => (fun (⟨_, k⟩ : _ ∧ Same _ _) => .of (k _ _ m1)) ((hIv3 _ _ _).mp h)) ?_ ?_
      · have hi : i = 0 := by have := (List.getElem?_eq_some_iff.mp h1).1; simp at this; omega
        subst hi
        have a1 : t0 = q := by simpa using h1
        have a2 : [] = x := by simpa [rowsP] using h2
        rw [← a1, ← a2]
        exact s4 _ _ e3
      · rintro i x σ' H5 hi hinv
        obtain ⟨⟨b, v2, v4, v5, v6, rfl, sq⟩, s5⟩ := (hIv3 _ _ _).mp hinv
        rw [List.getElem?_map] at hi
        obtain ⟨qi, h1, rfl⟩ := Option.map_eq_some_iff.mp hi
        have hil := (List.getElem?_eq_some_iff.mp h1).1
        have hz := List.getElem?_eq_getElem (l := Ms) (i := i) (by omega)
        have dz := (m3 i qi _ h1 hz).keep s5
        have okz := ok _ (List.mem_of_getElem? hz)
        have r64 := okz.r64
        have tk : rowsP (Ms.take (i + 1)) = rowStep (rowsP (Ms.take i)) Ms[i] := by rw [take_snoc hz, rowsP_snoc]
        have len1 := rows_len (Ms.take (i + 1))
        have len0 := rows_len (Ms.take i)
        have le1 := manyR_take ne (k := i + 1) (by omega)
        have le0 := manyR_take ne (k := i) (by omega)
        have rok := rows_ok (Ms.take i)
        rw [tk] at len1
        generalize Ms[i] = M at *
        generalize rowsP (Ms.take i) = rws at *
        obtain ⟨dx, wn, rn, sl, dl, a, _⟩ := id dz
        obtain ⟨bqs, b1, b2eq, b3⟩ := id sq
        walk_at "rd"
        refine seq_step ?_
        walk_at "rd"
        intro l1 H6 s6 f6 e6
        have s56 := s5.trans s6
        refine seq_step ?_
        refine for_li ?_
        walk_at "rd"
        obtain ⟨Iv4, hIv4⟩ : ∃ Iv : Nat → L2.St → Hp → Prop, ∀ j σ' H', Iv j σ' H' ↔ ((∃ b2 v5 v6, σ' = [some (.ref p), some (.int (manyR Ms : Nat)), some (.ref qi), some (.ref b), some (.ref b2), v5, v6] ∧ SeqOf TupS H' b2 (rowStep (rws.take j) M)) ∧ Same H5 H') := ⟨_, fun _ _ _ => Iff.rfl⟩
        refine forL_by (xs := bqs.map V.ref) Iv4 ((hIv4 _ _ _).mpr ⟨⟨l1, _, _, rfl, [], e6, rfl, fun i q x h => by simp at h⟩, s6⟩) (fun i σ H' _ h => (fun (⟨_, k⟩ : _ ∧ Same _ _) => .of (k _ _ b1)) ((hIv4 _ _ _).mp h)) ?_ ?_
        · rintro j x σ' H7 hj hinv
          obtain ⟨⟨b2, v5, v6, rfl, sq2⟩, s7⟩ := (hIv4 _ _ _).mp hinv
          rw [List.getElem?_map] at hj
          obtain ⟨qj, h2, rfl⟩ := Option.map_eq_some_iff.mp hj
          have hjl := (List.getElem?_eq_some_iff.mp h2).1
          have hr' := List.getElem?_eq_getElem (l := rws) (i := j) (by omega)
          have tj := b3 j qj _ h2 hr'
          have rj := (rok _ (List.mem_of_getElem? hr')).1
          have tk2 : rowStep (rws.take (j + 1)) M = rowStep (rws.take j) M ++ M.rooms.map fun z => rws[j] ++ [z] := by
            unfold rowStep; rw [take_snoc hr', List.flatMap_append]; simp
          have lj : (rowStep (rws.take j) M).length ≤ 64 := by
            rw [rowStep_len, List.length_take]
            rw [rowStep_len] at len1
            exact Nat.le_trans (Nat.mul_le_mul_right _ (Nat.min_le_right _ _)) (by omega)
          have rjl : rws[j].length ≤ 6 := by rw [rj, List.length_take]; omega
          generalize rws[j] = row at *
          walk_at "rd"
          refine lcg_src ?_
          refine ⟨_, rfl, qi, dx, _, rfl, s7 _ _ a, mach_no (by decide +kernel) (by decide +kernel) (by decide +kernel) (by decide +kernel), qi, M, rfl, dz.keep s7, fun nq H8 s8 f8 e8 => ?_⟩
          refine ⟨nq, rfl, ⟨_, .of e8⟩, ?_⟩
          refine lcMD (R := TupS) TupS.keep (F := fun z : Rq => row ++ [z]) (zs := M.rooms) e8 (by simp) (by simp; omega) (fun k x z H9 Yes hx hz' s9 hy => ?_) (fun cq H9 s9 f9 e9 => ?_)
          · rw [List.getElem?_map, List.getElem?_map, hz'] at hx
            obtain rfl : x = .str z.1 := by simpa using hx.symm
            have s79 := s7.trans (s8.trans s9)
            walk_at "rd"
            intro t1 H10 s10 f10 e10
            refine ⟨qj, t1, _, _, rfl, rfl, s10 _ _ (s79 _ _ tj), e10, small1000' (by rw [List.length_map, List.length_map]; simp; omega), fun t2 H11 s11 e11 => ?_⟩
            refine hy t2 H11 (s10.trans s11) fun D acc fD eD => ?_
            unfold TupS
            rw [List.map_append, List.map_append]
            exact del_at (ne_of e11 ((s10.trans s11) _ _ eD) (by intro z; cases z)) e11
          · have q9 : SeqOf TupS H9 cq (M.rooms.map fun z => row ++ [z]) := e9.seq TupS.keep
            have s79 := s8.trans s9
            obtain ⟨us, vs, u1, u2, u3, u4, fin⟩ := (SeqOf.keep (fun _ _ => TupS.keep _ _ _ _ s79) s79 sq2).cat q9
            walk_at "rd"
            refine ⟨us, u1, vs, u2, small1000' (by rw [u3, u4, List.length_map]; omega), fun c H10 s10 f10 e10 => ?_⟩
            walk_at "rd"
            refine (hIv4 _ _ _).mpr ⟨⟨c, _, _, rfl, ?_⟩, s7.trans (s79.trans s10)⟩
            rw [tk2]
            exact fin H10 c (fun _ _ => TupS.keep _ _ _ _ s10) e10
        · rintro σ' H7 hinv
          obtain ⟨⟨b2, v5, v6, rfl, sq2⟩, s7⟩ := (hIv4 _ _ _).mp hinv
          rw [List.length_map, b2eq, List.take_length] at sq2
          walk_at "rd"
          exact (hIv3 _ _ _).mpr ⟨⟨_, _, _, _, _, rfl, by rw [tk]; exact sq2⟩, s5.trans s7⟩
      · rintro σ' H5 hinv
        obtain ⟨⟨b, v2, v4, v5, v6, rfl, sq⟩, s5⟩ := (hIv3 _ _ _).mp hinv
        rw [List.length_map, m2, List.take_length] at sq
        walk_at "rd"
        exact q1 b H5 s5 sq
def stayP (Ms : List MachD) (row : Row) : List Lq := row.flatMap (·.2)
def spStayOf (K : PySem.W.Frag) (CM CD : Addr) : Sp := fun vs H Q _ => ∃ (p pt : Addr) (Ms : List MachD) (row : Row), vs = [.ref p, .ref pt] ∧ MsAt CM CD H p Ms ∧ (∀ M ∈ Ms, MachOk M) ∧ Ms.length ≤ 6 ∧ TupS H pt row ∧ RowOk Ms row ∧ ∀ q H', Same H H' → H q = none → LsAt H' q (row.flatMap (·.2)) → Q (.ref q) H'
theorem ok_stay_of (T : Top K mg) : FnOk P w K mg base CX0 2 T.f_stay_of T.d_stay_of ["machines", "room"] (spStayOf K T.C_Machine T.C_Door) := by
  refine T.F_stay_of.ok sc_stay_of (fun vs H Q E h => ?_) (fun cdv A outer s H vs Q E hr h => ?_)
  · obtain ⟨p, pt, Ms, row, rfl, _⟩ := h; rfl
  · obtain ⟨p, pt, Ms, row, rfl, hms, ok, l6, ht, rok, q⟩ := h
    refine ⟨_, (pss_cons (ps_set (i := 2) sc_stay_of.nd rfl (.inl rfl) (pe_lstN pa_nil))
      (pss_cons (ps_for PassesOwn.never rfl (pi_zipM (K := K) rfl (by rfl) T.m_zip (pa_wk (pa_cons (pv 0) (pa_cons (pv 1) pa_nil)))) (pg_tupA (K := K) (n := 2) rfl (by rfl) (pgs_cons (pg_name (i := 3) sc_stay_of.nd rfl (.inl rfl)) (pgs_cons (pg_name (i := 4) sc_stay_of.nd rfl (.inl rfl)) pgs_nil))) (pss_one (ps_set (i := 2) sc_stay_of.nd rfl (.inl rfl) (pe_op op_catN (pv 2) (pe_meth (pv 3) T.cl_Machine T.m_Machine_stay (ok_Machine_stay T) (hr.mono (by decide)) T.b_Machine_stay .nil pass0 (pa_cons (pv 4) pa_nil))))))
      (pss_one (ps_ret (pv 2))))), ?_⟩
    obtain ⟨qs, m1, m2, m3⟩ := id hms
    refine seq_step ?_
    walk_at "rd"
    intro bl H1 s1 f1 e1
    refine seq_step ?_
    refine for_zm ?_
    walk_at "rd"
    obtain ⟨Iv5, hIv5⟩ : ∃ Iv : Nat → L2.St → Hp → Prop, ∀ i σ' H', Iv i σ' H' ↔ ((∃ b v3 v4, σ' = [some (.ref p), some (.ref pt), some (.ref b), v3, v4] ∧ LsAt H' b ((row.take i).flatMap (·.2)) ∧ H b = none) ∧ Same H H') := ⟨_, fun _ _ _ => Iff.rfl⟩
    refine forM_by (xs := qs.map V.ref) (ys := (row.map fun z : Rq => z.1).map V.str) (.of (s1 _ _ m1)) (.of (s1 _ _ ht)) (by rw [List.length_map, List.length_map, List.length_map, m2, rok.1]) Iv5 ((hIv5 _ _ _).mpr ⟨⟨bl, _, _, rfl, ⟨[], e1, rfl, fun i q x h => by simp at h⟩, f1⟩, s1⟩) (fun i σ H' h => (fun (⟨_, k⟩ : _ ∧ Same _ _) => ⟨.of (k _ _ m1), .of (k _ _ ht)⟩) ((hIv5 _ _ _).mp h)) ?_ ?_
    · rintro i x y t σ' H2 H3 hx hy hinv s3 e3
      obtain ⟨⟨b, v3, v4, rfl, hb, fb⟩, s2⟩ := (hIv5 _ _ _).mp hinv
      rw [List.getElem?_map] at hx hy
      obtain ⟨qi, h1, rfl⟩ := Option.map_eq_some_iff.mp hx
      obtain ⟨nm, hn, rfl⟩ := Option.map_eq_some_iff.mp hy
      rw [List.getElem?_map] at hn
      obtain ⟨z, hz, rfl⟩ := Option.map_eq_some_iff.mp hn
      have hil := (List.getElem?_eq_some_iff.mp h1).1
      have hM := List.getElem?_eq_getElem (l := Ms) (i := i) (by omega)
      have dz := (m3 i qi _ h1 hM).keep (s2.trans s3)
      have okz := ok _ (List.mem_of_getElem? hM)
      have zm := rok.2 i z _ hz hM
      generalize Ms[i] = M at *
      obtain ⟨dx, wn, rn, sl, dl, a, _⟩ := id dz
      refine gTup_of (sqt e3) rfl ?_
      walk_at "rd"
      refine ⟨_, rfl, qi, dx, _, rfl, a, mach_no (by decide +kernel) (by decide +kernel) (by decide +kernel) (by decide +kernel), ?_⟩
      walk_at "rd"
      refine ⟨qi, M, z, rfl, dz, zm, okz.rnd, fun l H4 s4 f4 e4 => ?_⟩
      have s24 := s3.trans s4
      obtain ⟨us, vs, u1, u2, u3, u4, fin⟩ := (hb.keep s24).cat e4
      have ll : ((row.take i).flatMap (·.2)).length ≤ 60 * 6 := by
        have key : ∀ (rs : List Rq), (∀ r ∈ rs, r.2.length ≤ 60) → (rs.flatMap (·.2)).length ≤ 60 * rs.length := by
          intro rs
          induction rs with
          | nil => intro _; simp
          | cons r rs ih =>
            intro h
            have a1 := h r List.mem_cons_self
            have a2 := ih fun y hy => h y (List.mem_cons_of_mem _ hy)
            rw [List.flatMap_cons, List.length_append, List.length_cons]
            omega
        have h2 := key (row.take i) fun r hr => by
          obtain ⟨k, hk, rfl⟩ := List.mem_iff_getElem.mp (List.mem_of_mem_take hr)
          have hk2 := List.getElem?_eq_getElem hk
          have hM2 := List.getElem?_eq_getElem (l := Ms) (i := k) (by have := rok.1; omega)
          exact (ok _ (List.mem_of_getElem? hM2)).rsz _ (rok.2 k _ _ hk2 hM2)
        have h3 : (row.take i).length ≤ 6 := by have := rok.1; rw [List.length_take]; omega
        omega
      have zl := okz.rsz z zm
      walk_at "rd"
      refine ⟨us, u1, vs, u2, small1000' (by rw [u3, u4]; omega), fun c H5 s5 f5 e5 => ?_⟩
      walk_at "rd"
      refine (hIv5 _ _ _).mpr ⟨⟨c, _, _, rfl, ?_, (s2.trans s24).free f5⟩, s2.trans (s24.trans s5)⟩
      rw [take_snoc hz, List.flatMap_append]
      have := fin H5 c (fun _ _ => LqAt.keep s5) e5
      simpa using this
    · rintro σ' H2 hinv
      obtain ⟨⟨b, v3, v4, rfl, hb, fb⟩, s2⟩ := (hIv5 _ _ _).mp hinv
      rw [List.length_map, m2, ← rok.1, List.take_length] at hb
      walk_at "rd"
      exact q b H2 s2 fb hb
def doorsN (Ms : List MachD) : Nat := (Ms.map (·.doors.length)).sum
/-- what an inner loop over one machine's doors finds -/
def ansM (number : Nat) (sg : Str) (M : MachD × Nat) : Share := M.1.doors.zipIdx.filterMap fun d => if M.2 ≠ number ∧ d.1.sg = sg then some (M.2, d.2) else none
theorem zipIdx_at {α : Type} {xs : List α} {i : Nat} {x : α} (h : xs[i]? = some x) : xs.zipIdx[i]? = some (x, i) := by
  rw [List.getElem?_zipIdx, h]; simp
theorem ans_take (Ms : List MachD) (number : Nat) (sg : Str) {i : Nat} {M : MachD} (h : Ms[i]? = some M) : (Ms.zipIdx.take (i + 1)).flatMap (ansM number sg) = (Ms.zipIdx.take i).flatMap (ansM number sg) ++ ansM number sg (M, i) := by
  rw [take_snoc (zipIdx_at h), List.flatMap_append]; simp
theorem ans_len (Ms : List MachD) (number : Nat) (sg : Str) (i : Nat) : ((Ms.zipIdx.take i).flatMap (ansM number sg)).length ≤ doorsN Ms := by
  have key : ∀ (Ms : List MachD) (k i : Nat), (((Ms.zipIdx k).take i).flatMap (ansM number sg)).length ≤ doorsN Ms := by
    intro Ms
    induction Ms with
    | nil => intro k i; simp
    | cons M Ms ih =>
      intro k i
      cases i with
      | zero => simp
      | succ i =>
        rw [List.zipIdx_cons, List.take_succ_cons, List.flatMap_cons, List.length_append]
        have h1 := ih (k + 1) i
        have h2 : (ansM number sg (M, k)).length ≤ M.doors.length := by
          unfold ansM
          refine Nat.le_trans (List.length_filterMap_le _ _) ?_
          simp
        show _ ≤ (M.doors.length :: (Ms.map (·.doors.length))).sum
        rw [List.sum_cons]
        unfold doorsN at h1
        omega
  exact key Ms 0 i
def spAnswers (K : PySem.W.Frag) (CM CD : Addr) : Sp := fun vs H Q _ => ∃ (p : Addr) (Ms : List MachD) (number : Nat) (sg : Str), vs = [.ref p, .int number, .str sg] ∧ MsAt CM CD H p Ms ∧ (∀ M ∈ Ms, MachOk M) ∧ Ms.length ≤ 6 ∧ doorsN Ms ≤ 800 ∧ sg.length ≤ 100 ∧ ∀ q H', Same H H' → H q = none → ShAt H' q (answersP Ms number (cutS sg none (some (-1)) ++ "?")) → Q (.ref q) H'
theorem cutS_len {x : Str} {lo hi : Option Int} : (cutS x lo hi).length ≤ x.length := by
  unfold cutS Str.length
  simp only [List.size_toArray, List.length_take, List.length_drop]
  have : x.cps.toList.length = x.cps.size := Array.length_toList
  omega
theorem ok_answers_to (T : Top K mg) : FnOk P w K mg base CX0 2 T.f_answers_to T.d_answers_to ["machines", "number", "sign"] (spAnswers K T.C_Machine T.C_Door) := by
  refine T.F_answers_to.ok sc_answers_to (fun vs H Q E h => ?_) (fun cdv A outer s H vs Q E hr h => ?_)
  · obtain ⟨p, Ms, number, sg, rfl, _⟩ := h; rfl
  · obtain ⟨p, Ms, number, sg, rfl, hms, ok, l6, d800, sgl, q⟩ := h
    refine ⟨_, (pss_cons (ps_set (i := 3) sc_answers_to.nd rfl (.inl rfl) (pe_lstN pa_nil))
      (pss_cons (ps_for PassesOwn.never rfl (pi_enumK (K := K) rfl (by rfl) T.m_enumerate (pa_cons (pv 0) pa_nil)) (pg_tupA (K := K) (n := 2) rfl (by rfl) (pgs_cons (pg_name (i := 4) sc_answers_to.nd rfl (.inl rfl)) (pgs_cons (pg_name (i := 5) sc_answers_to.nd rfl (.inl rfl)) pgs_nil))) (pss_one (ps_for PassesOwn.never rfl (pi_enumK (K := K) rfl (by rfl) T.m_enumerate (pa_cons (pe_meth0 (pv 5) T.cl_Machine T.m_Machine_doors (ok_Machine_doors T) (hr.mono (by decide)) T.b_Machine_doors .nil pass0) pa_nil)) (pg_tupA (K := K) (n := 2) rfl (by rfl) (pgs_cons (pg_name (i := 6) sc_answers_to.nd rfl (.inl rfl)) (pgs_cons (pg_name (i := 7) sc_answers_to.nd rfl (.inl rfl)) pgs_nil))) (pss_one (ps_if (PW.pt (pw_and (pt_cmpR op_ne (pv 4) (pv 1) (nomark _)) (pw_and1 (pt_cmpR op_eq (pe_fldA (K := K) rfl (pv 7) rfl) (pe_op op_add_str (pe_slice sl_str (pv 2) po_none (po_some (pe_un un_neg pe_int))) pe_str) (nomark _))))) (pss_one (ps_expr (pe_bm PySem.F.plainAttrs_list PySem.F.slot_list_append PySem.F.type_list_append mt_append (pv 3) (pa_cons (pe_tupN (pa_cons (pv 4) (pa_cons (pv 6) pa_nil))) pa_nil)))) pss_nil)))))
      (pss_one (ps_ret (pv 3))))), ?_⟩
    obtain ⟨qs, m1, m2, m3⟩ := id hms
    have cl := cutS_len (x := sg) (lo := none) (hi := some (-1))
    refine seq_step ?_
    walk_at "rd"
    intro bl H1 s1 f1 e1
    have eqA : answersP Ms number (cutS sg none (some (-1)) ++ "?") = Ms.zipIdx.flatMap (ansM number (cutS sg none (some (-1)) ++ "?")) := rfl
    rw [eqA] at q
    have atake := fun {i M} h => ans_take Ms number (cutS sg none (some (-1)) ++ "?") (i := i) (M := M) h
    have alen := ans_len Ms number (cutS sg none (some (-1)) ++ "?")
    have cmpE : ∀ d : Str, (V.str d = V.str (cutS sg none (some (-1)) ++ Str.ofString "?")) ↔ d = cutS sg none (some (-1)) ++ ("?" : Str) := fun d => ⟨fun h => by injection h, fun h => by rw [h]⟩
    generalize hsg : (cutS sg none (some (-1)) ++ ("?" : Str)) = sg2 at *
    refine seq_step ?_
    refine for_en ?_
    walk_at "rd"
    obtain ⟨Iv1, hIv1⟩ : ∃ Iv : Nat → L2.St → Hp → Prop, ∀ i σ' H', Iv i σ' H' ↔ ((∃ v4 v5 v6 v7, σ' = [some (.ref p), some (.int number), some (.str sg), some (.ref bl), v4, v5, v6, v7]) ∧ Same H H' ∧ SeqD PrAt H' bl ((Ms.zipIdx.take i).flatMap (ansM number sg2))) := ⟨_, fun _ _ _ => Iff.rfl⟩
    refine forE_by (xs := qs.map V.ref) Iv1 ((hIv1 _ _ _).mpr ⟨⟨_, _, _, _, rfl⟩, s1, SeqD.nil e1⟩) (fun i σ H' _ h => (fun (⟨_, k, _⟩ : _ ∧ Same _ _ ∧ _) => .of (k _ _ m1)) ((hIv1 _ _ _).mp h)) ?_ ?_
    · rintro i x t σ' H2 H3 hi hinv s3 e3
      obtain ⟨⟨v4, v5, v6, v7, rfl⟩, s2, sd⟩ := (hIv1 _ _ _).mp hinv
      rw [List.getElem?_map] at hi
      obtain ⟨qi, h1, rfl⟩ := Option.map_eq_some_iff.mp hi
      have hil := (List.getElem?_eq_some_iff.mp h1).1
      have hz := List.getElem?_eq_getElem (l := Ms) (i := i) (by omega)
      have dz0 := m3 i qi _ h1 hz
      have dz := dz0.keep (s2.trans s3)
      have okz := ok _ (List.mem_of_getElem? hz)
      have tk := atake hz
      have ln := alen (i + 1)
      rw [tk] at ln
      have d200 := okz.d200
      generalize Ms[i] = M at *
      generalize (Ms.zipIdx.take i).flatMap (ansM number sg2) = pre at *
      obtain ⟨dx, wn, rn, sl, dl, a, _⟩ := id dz
      refine gTup_of (sqt e3) rfl ?_
      walk_at "rd"
      refine for_en ?_
      walk_at "rd"
      refine ⟨_, rfl, qi, dx, _, rfl, a, mach_no (by decide +kernel) (by decide +kernel) (by decide +kernel) (by decide +kernel), qi, M, rfl, dz, fun dq H4 dqs s4 f4 e4 l4 d4 => ?_⟩
      have d4 := d4 H (s2.trans s3) dz0
      have fil : ∀ (j : Nat) (d : DoorD), M.doors[j]? = some d → ∀ G : DoorD × Nat → Option (Nat × Nat), (M.doors.zipIdx.take (j + 1)).filterMap G = (M.doors.zipIdx.take j).filterMap G ++ (match G (d, j) with | some o => [o] | none => []) := fun j d hd G => by
        rw [take_snoc (zipIdx_at hd), List.filterMap_append]
        congr 1
        cases h : G (d, j) <;> simp [h]
      have fbl : H bl = none := f1
      have dqbl : dq ≠ bl := fun y => by
        obtain ⟨_, w, _⟩ := id sd
        rw [y, s3 _ _ w] at f4; cases f4
      obtain ⟨Iv2, hIv2⟩ : ∃ Iv : Nat → L2.St → Hp → Prop, ∀ j σ' H', Iv j σ' H' ↔ ((∃ v6 v7, σ' = [some (.ref p), some (.int number), some (.str sg), some (.ref bl), some (.int i), some (.ref qi), v6, v7]) ∧ Same H H' ∧ H' dq = some (.lst (dqs.map V.ref)) ∧ SeqD PrAt H' bl (pre ++ (M.doors.zipIdx.take j).filterMap fun d => if i ≠ number ∧ d.1.sg = sg2 then some (i, d.2) else none)) := ⟨_, fun _ _ _ => Iff.rfl⟩
      refine ⟨dq, rfl, forE_by (xs := dqs.map V.ref) Iv2 ((hIv2 _ _ _).mpr ⟨⟨_, _, rfl⟩, s2.trans (s3.trans s4), e4, by rw [List.take_zero, List.filterMap_nil, List.append_nil]; exact sd.keep PrAt.keep (s3.trans s4)⟩) (fun i σ H' _ h => (fun (⟨_, _, k, _⟩ : _ ∧ Same _ _ ∧ _ ∧ _) => .of k) ((hIv2 _ _ _).mp h)) ?_ ?_⟩
      · rintro j x t σ' H5 H6 hj hinv s6 e6
        obtain ⟨⟨v6, v7, rfl⟩, s5, k5, sd⟩ := (hIv2 _ _ _).mp hinv
        rw [List.getElem?_map] at hj
        obtain ⟨qd, h2, rfl⟩ := Option.map_eq_some_iff.mp hj
        have hjl := (List.getElem?_eq_some_iff.mp h2).1
        have hd := List.getElem?_eq_getElem (l := M.doors) (i := j) (by omega)
        have dd := (d4 j qd _ h2 hd).keep (s5.trans s6)
        have tk2 := fil j _ hd fun d => if i ≠ number ∧ d.1.sg = sg2 then some (i, d.2) else none
        have hlen : (pre ++ (M.doors.zipIdx.take j).filterMap fun d => if i ≠ number ∧ d.1.sg = sg2 then some (i, d.2) else none).length ≤ 800 := by
          have h3 : ((M.doors.zipIdx.take j).filterMap fun d => if i ≠ number ∧ d.1.sg = sg2 then some (i, d.2) else none).length ≤ (ansM number sg2 (M, i)).length := by
            unfold ansM
            exact ((List.take_sublist j M.doors.zipIdx).filterMap _).length_le
          rw [List.length_append] at ln ⊢
          omega
        generalize M.doors[j] = z at *
        generalize ((M.doors.zipIdx.take j).filterMap fun d => if i ≠ number ∧ d.1.sg = sg2 then some (i, d.2) else none) = pre2 at *
        obtain ⟨ddx, dg, dn, da, _⟩ := id dd
        refine gTup_of (sqt e6) rfl ?_
        have yes : (i ≠ number ∧ z.sg = sg2) → ∀ σ' H', Same H H' → H' dq = some (.lst (dqs.map V.ref)) → σ' = [some (.ref p), some (.int number), some (.str sg), some (.ref bl), some (.int i), some (.ref qi), some (.int j), some (.ref qd)] → SeqD PrAt H' bl (pre ++ pre2 ++ [(i, j)]) → Iv2 (j + 1) σ' H'   := fun c σ' H' s' k' e sd' => by
          refine (hIv2 _ _ _).mpr ⟨⟨_, _, e⟩, s', k', ?_⟩
          rw [tk2, if_pos c, ← List.append_assoc]; exact sd'
        have no : ¬ (i ≠ number ∧ z.sg = sg2) → Iv2 (j + 1) [some (.ref p), some (.int number), some (.str sg), some (.ref bl), some (.int i), some (.ref qi), some (.int j), some (.ref qd)] H6 := fun c => by
          refine (hIv2 _ _ _).mpr ⟨⟨_, _, rfl⟩, s5.trans s6, s6 _ _ k5, ?_⟩
          rw [tk2, if_neg c, List.append_nil]; exact sd.keep PrAt.keep s6
        walk_at "rd"
        by_cases ci : i = number
        · exact if_f (by rw [decide_eq_true (by omega : (i : Int) = (number : Int))]; rfl) (no fun h => h.1 ci)
        refine if_t (by rw [decide_eq_false (by omega : ¬ (i : Int) = (number : Int))]; rfl) ?_
        refine ⟨_, rfl, qd, _, ddx, _, _, rfl, da, T.cl_Door, T.n_Door_sign, door_sign, ?_⟩
        refine ⟨sg, rfl, small1000' (by omega), ?_⟩
        refine ⟨_, rfl, _, rfl, small1000' (by rw [show (Str.ofString "?").length = 1 by decide +kernel]; omega), rfl, ?_⟩
        rw [show (cutS sg none (some (-1)) ++ Str.ofString "?") = sg2 from hsg]
        refine ite_d (fun c => ?_) (fun c => no fun h => c (by rw [h.2]))
        have c' : z.sg = sg2 := by injection c
        obtain ⟨bqs, w1, w2, w3⟩ := id (sd.keep PrAt.keep s6)
        refine ⟨_, rfl, .inl ⟨rfl, _, .of w1⟩, ?_⟩
        walk_at "rd"
        intro t7 H7 s7 f7 e7
        obtain ⟨items, it1, it2, it3⟩ := (sd.keep PrAt.keep (s6.trans s7)).app PrAt.keep (q := t7) (x := (i, j)) (del_at (fun y => by rw [y, w1] at f7; cases f7) e7)
        refine app_at it1 (by omega) ?_
        exact yes ⟨ci, c'⟩ _ _ (same_updN fbl (s5.trans (s6.trans s7))) (by rw [upd_ne dqbl]; exact (s6.trans s7) _ _ k5) rfl it3
      · rintro σ' H5 hinv
        obtain ⟨⟨v6, v7, rfl⟩, s5, k5, sd⟩ := (hIv2 _ _ _).mp hinv
        rw [List.length_map, l4, List.take_of_length_le (by simp)] at sd
        refine (hIv1 _ _ _).mpr ⟨⟨_, _, _, _, rfl⟩, s5, ?_⟩
        rw [tk]
        exact sd
    · rintro σ' H2 hinv
      obtain ⟨⟨v4, v5, v6, v7, rfl⟩, s2, sd⟩ := (hIv1 _ _ _).mp hinv
      rw [List.length_map, m2, List.take_of_length_le (by simp)] at sd
      walk_at "rd"
      exact q bl H2 s2 f1 (sd.seq PrAt.keep)
def GoAt (H0 : Hp) (H : Hp) (q : Addr) (x : Share) : Prop := ShAt H q x ∧ H0 q = none
theorem GoAt.keep {H0 : Hp} : ∀ (H H' : Hp) (q : Addr) (x : Share), Same H H' → GoAt H0 H q x → GoAt H0 H' q x := fun _ _ _ _ s h => ⟨ShAt.keep _ _ _ _ s h.1, h.2⟩
def spGoers (K : PySem.W.Frag) (CM CD : Addr) : Sp := fun vs H Q _ => ∃ (p : Addr) (Ms : List MachD) (x : Nat × Nat) (d : DoorD), vs = [.ref p, .int x.1, .int x.2] ∧ MsAt CM CD H p Ms ∧ (∀ M ∈ Ms, MachOk M) ∧ Ms.length ≤ 6 ∧ doorsN Ms ≤ 800 ∧ doorAt Ms x = some d ∧ ∀ q H', Same H H' → H q = none → SeqOf (GoAt H) H' q (goersP Ms x) → Q (.ref q) H'
theorem ok_goers (T : Top K mg) : FnOk P w K mg base CX0 3 T.f_goers T.d_goers ["machines", "number", "at"] (spGoers K T.C_Machine T.C_Door) := by
  refine T.F_goers.ok sc_goers (fun vs H Q E h => ?_) (fun cdv A outer s H vs Q E hr h => ?_)
  · obtain ⟨p, Ms, x, d, rfl, _⟩ := h; rfl
  · obtain ⟨p, Ms, ⟨number, at'⟩, d, rfl, hms, ok, l6, d800, hd, q⟩ := h
    refine ⟨_, (pss_cons (ps_set (i := 3) sc_goers.nd rfl (.inl rfl) (pe_fldA (K := K) rfl (pe_ix (ix_listA (K := K) rfl) (pe_meth0 (pe_ix (ix_listA (K := K) rfl) (pv 0) (pv 1) (fun _ _ => rfl)) T.cl_Machine T.m_Machine_doors (ok_Machine_doors T) (hr.mono (by decide)) T.b_Machine_doors .nil pass0) (pv 2) (fun _ _ => rfl)) rfl))
      (pss_cons (ps_if (pt_cmpR op_eq (pv 3) pe_str (nomark _)) (pss_one (ps_ret (pe_lstN (pa_cons (pe_lstN (pa_cons (pe_tupN (pa_cons (pv 1) (pa_cons (pv 2) pa_nil))) pa_nil)) pa_nil)))) pss_nil)
      (pss_cons (ps_if (pt_val (pe_m1 PySem.F.slot_str_endswith PySem.F.type_str_endswith mt_endswith (pv 3) pe_str)) (pss_one (ps_ret (lc_vs (vs := [4]) (pe_lc (own := [("other", 4)]) (g := gName 4) (tt := tYes) rfl sc_goers.nd (pi_listA (K := K) rfl (pe_call (ok_answers_to T) (hr.mono (by decide)) rfl T.g_answers_to T.F_answers_to.kp T.b_answers_to .nil pass0 (pa_cons (pv 0) (pa_cons (pv 1) (pa_cons (pv 3) pa_nil))))) (blkOk_by (own := [("other", 4)]) (N := ["machines", "number", "at", "sign", "other"]) (sc := defScope s_goers) (by decide +kernel)) (fun _ _ _ _ _ => (pg_name (i := 4) sc_goers.nd rfl (.inl rfl))) (fun _ _ _ _ _ => pts_nil) (fun _ _ _ _ _ => (pe_lstN (pa_cons (pe_tupN (pa_cons (pv 1) (pa_cons (pv 2) pa_nil))) (pa_cons (pv 4) pa_nil))))) rfl))) pss_nil)
      (pss_one (ps_ret (pe_lstN pa_nil)))))), ?_⟩
    obtain ⟨qs, m1, m2, m3⟩ := id hms
    obtain ⟨M, hM, hdM⟩ := Option.bind_eq_some_iff.mp hd
    have hMl := (List.getElem?_eq_some_iff.mp hM).1
    have hq := List.getElem?_eq_getElem (l := qs) (i := number) (by rw [m2]; exact hMl)
    have dz := m3 number _ M hq hM
    have okM := ok M (List.mem_of_getElem? hM)
    obtain ⟨dx, wn, rn, sl, dl, a, _⟩ := id dz
    have dk := okM.door (List.mem_of_getElem? hdM)
    have sgl := okSign_len dk.1
    have eqG : goersP Ms (number, at') = if d.sg = "" then [[(number, at')]] else if Txt.endswith d.sg "!" = true then (answersP Ms number (cutS d.sg none (some (-1)) ++ "?")).map fun o => [(number, at'), o] else [] := by unfold goersP; rw [hd]
    refine seq_step ?_
    walk_at "rd"
    refine ⟨_, rfl, _, rfl, ix_l (.of m1) (Int.natCast_nonneg _) (by rw [Int.toNat_natCast, List.getElem?_map, hq]; rfl) ?_⟩
    refine ⟨_, dx, _, rfl, a, mach_no (by decide +kernel) (by decide +kernel) (by decide +kernel) (by decide +kernel), _, M, rfl, dz, fun dq H1 dqs s1 f1 e1 l1 d1 => ?_⟩
    have hqd := List.getElem?_eq_getElem (l := dqs) (i := at') (by rw [l1]; exact (List.getElem?_eq_some_iff.mp hdM).1)
    have dd := (d1 H (Same.refl _) dz at' _ d hqd hdM).keep s1
    obtain ⟨ddx, dg, dn, da, _⟩ := id dd
    refine ⟨_, rfl, ix_l (.of e1) (Int.natCast_nonneg _) (by rw [Int.toNat_natCast, List.getElem?_map, hqd]; rfl) ?_⟩
    refine ⟨_, _, ddx, _, _, rfl, da, T.cl_Door, T.n_Door_sign, door_sign, ?_⟩
    refine seq_step ?_
    walk_at "rd"
    rw [eqG] at q
    refine ite_d (fun c => ?_) (fun c => ?_)
    · have c' : d.sg = "" := by injection c
      rw [if_pos c'] at q
      walk_at "rd"
      intro t2 H2 s2 f2 e2 t3 H3 s3 f3 e3 t4 H4 s4 f4 e4
      refine q t4 H4 (s1.trans (s2.trans (s3.trans s4))) ((s1.trans (s2.trans s3)).free f4) ⟨[t3], e4, rfl, fun i q x h1 h2 => ?_⟩
      have hi : i = 0 := by have := (List.getElem?_eq_some_iff.mp h1).1; simp at this; omega
      subst hi
      obtain rfl : t3 = q := by simpa using h1
      obtain rfl : [(number, at')] = x := by simpa using h2
      refine ⟨⟨[t2], s4 _ _ e3, rfl, fun i q x h1 h2 => ?_⟩, (s1.trans s2).free f3⟩
      have hi : i = 0 := by have := (List.getElem?_eq_some_iff.mp h1).1; simp at this; omega
      subst hi
      obtain rfl : t2 = q := by simpa using h1
      obtain rfl : (number, at') = x := by simpa using h2
      exact (s3.trans s4) _ _ e2
    · have c' : ¬ d.sg = "" := fun h => c (by rw [h])
      rw [if_neg c'] at q
      walk_at "rd"
      refine seq_step ?_
      walk_at "rd"
      refine ⟨_, rfl, ⟨_, rfl⟩, _, rfl, _, rfl, _, rfl, ?_⟩
      rw [show Txt.endswith d.sg (Str.ofString "!") = Txt.endswith d.sg ("!" : Str) from rfl]
      by_cases ce : Txt.endswith d.sg ("!" : Str) = true
      rotate_left
      · rw [if_neg ce] at q
        rw [if_neg ce]
        intro t2 H2 s2 f2 e2
        exact q t2 H2 (s1.trans s2) (s1.free f2) ⟨[], e2, rfl, fun i q x h => by simp at h⟩
      rw [if_pos ce] at q
      rw [if_pos ce]
      refine lcg_src ?_
      walk_at "rd"
      refine ⟨p, Ms, number, d.sg, rfl, hms.keep s1, ok, l6, d800, by omega, fun aq H2 s2 f2 e2 => ?_⟩
      have alen := ans_len Ms number (cutS d.sg none (some (-1)) ++ "?") Ms.length
      rw [List.take_of_length_le (by simp)] at alen
      have alen : (answersP Ms number (cutS d.sg none (some (-1)) ++ "?")).length ≤ 800 := by
        show (Ms.zipIdx.flatMap (ansM number (cutS d.sg none (some (-1)) ++ "?"))).length ≤ 800
        omega
      generalize answersP Ms number (cutS d.sg none (some (-1)) ++ "?") = ans at *
      obtain ⟨aqs, a1, a2, a3⟩ := id e2
      refine ⟨aq, rfl, ⟨_, .of a1⟩, ?_⟩
      refine lcMD (R := GoAt H) GoAt.keep (F := fun o => [(number, at'), o]) (zs := ans) a1 (by simp [a2]) (by simp; omega) (fun k x z H3 Yes hx hz s3 hy => ?_) (fun cq H3 s3 f3 e3 => q cq H3 (s1.trans (s2.trans s3)) ((s1.trans s2).free f3) (e3.seq GoAt.keep))
      rw [List.getElem?_map] at hx
      obtain ⟨qk, h1, rfl⟩ := Option.map_eq_some_iff.mp hx
      have ez := s3 _ _ (a3 k qk z h1 hz)
      walk_at "rd"
      intro t4 H4 s4 f4 e4 t5 H5 s5 f5 e5
      refine hy t5 H5 (s4.trans s5) fun D acc fD eD => ⟨⟨[t4, qk], del_at (fun y => by rw [y, s4 _ _ eD] at f5; cases f5) e5, rfl, fun i q x h1 h2 => ?_⟩, (s1.trans (s2.trans (s3.trans s4))).free f5⟩
      have eD5 := (s4.trans s5) _ _ eD
      have hi : i = 0 ∨ i = 1 := by have := (List.getElem?_eq_some_iff.mp h1).1; simp at this; omega
      rcases hi with rfl | rfl
      · obtain rfl : t4 = q := by simpa using h1
        obtain rfl : (number, at') = x := by simpa using h2
        exact del_at (ne_of (s5 _ _ e4) eD5 (by intro z; cases z)) (s5 _ _ e4)
      · obtain rfl : qk = q := by simpa using h1
        obtain rfl : z = x := by simpa using h2
        exact del_at (ne_of ((s4.trans s5) _ _ ez) eD5 (by intro z; cases z)) ((s4.trans s5) _ _ ez)
def spMoved : Sp := fun vs H Q _ => ∃ (pt : Addr) (xs : List Str) (n : Nat) (x : Str), vs = [.ref pt, .int n, .str x] ∧ H pt = some (.tup (xs.map V.str)) ∧ n < xs.length ∧ xs.length ≤ 10 ∧ ∀ q H', Same H H' → H' q = some (.tup ((xs.set n x).map V.str)) → Q (.ref q) H'
theorem ok_moved (T : Top K mg) : FnOk P w K mg base CX0 1 T.f_moved T.d_moved ["room", "number", "name"] spMoved := by
  refine T.F_moved.ok sc_moved (fun vs H Q E h => ?_) (fun cdv A outer s H vs Q E hr h => ?_)
  · obtain ⟨pt, xs, n, x, rfl, _⟩ := h; rfl
  · obtain ⟨pt, xs, n, x, rfl, ht, hn, l10, q⟩ := h
    refine ⟨_, (pss_one (ps_ret (pe_op (op_catTN (K := K) rfl) (pe_op (op_catTN (K := K) rfl) (pe_slice (sl_tupN (K := K) rfl) (pv 0) po_none (po_some (pv 1))) (pe_tupN (pa_cons (pv 2) pa_nil))) (pe_slice (sl_tupN (K := K) rfl) (pv 0) (po_some (pe_op op_add (pv 1) pe_int)) po_none)))), ?_⟩
    walk_at "rd"
    refine ⟨pt, _, rfl, ht, fun p1 H1 s1 e1 => ?_⟩
    intro p2 H2 s2 f2 e2
    rw [cutTake] at e1
    refine ⟨p1, p2, _, _, rfl, rfl, s2 _ _ e1, e2, small1000' (by rw [List.length_take, List.length_map]; simp; omega), fun p3 H3 s3 e3 => ?_⟩
    refine ⟨pt, _, rfl, (s1.trans (s2.trans s3)) _ _ ht, fun p4 H4 s4 e4 => ?_⟩
    rw [show (some ((n : Int) + 1)) = some (((n + 1 : Nat)) : Int) from rfl, cutDrop] at e4
    refine ⟨p3, p4, _, _, rfl, rfl, s4 _ _ e3, e4, small1000' (by rw [List.length_append, List.length_take, List.length_drop, List.length_map]; simp; omega), fun q5 H5 s5 e5 => q q5 H5 (s1.trans (s2.trans (s3.trans (s4.trans s5)))) (e5.trans ?_)⟩
    rw [List.set_eq_take_append_cons_drop, if_pos hn, List.map_append, List.map_cons, List.map_take, List.map_drop, List.append_assoc]; rfl

theorem doorP_fits {Ms : List MachD} {row : Row} {sh : Share} {i : Nat} {x : Nat × Nat} (hx : sh[i]? = some x) {d : DoorD} (hd : doorAt Ms x = some d) (n : (row.map (·.1))[x.1]? ≠ some d.st) : doorP Ms row sh = none := by
  unfold doorP
  refine if_neg fun h => n ?_
  unfold fitsP at h
  have := List.all_eq_true.mp h x (List.mem_of_getElem? hx)
  rw [hd] at this
  exact of_decide_eq_true this
/-- a share's numbers are of doors -/
def ShareOk (Ms : List MachD) (sh : Share) : Prop := sh.length ≤ 2 ∧ ∀ x ∈ sh, ∃ d, doorAt Ms x = some d
theorem endP_len (Ms : List MachD) (names : List Str) (sh : Share) : (endP Ms names sh).length = names.length := by
  unfold endP
  induction sh generalizing names with
  | nil => rfl
  | cons x sh ih =>
    rw [List.foldl_cons, ih]
    split
    · exact List.length_set
    · rfl
theorem endP_snoc (Ms : List MachD) (names : List Str) (sh : Share) {x : Nat × Nat} {d : DoorD} (hd : doorAt Ms x = some d) : endP Ms names (sh ++ [x]) = (endP Ms names sh).set x.1 d.en := by
  unfold endP; rw [List.foldl_append, List.foldl_cons, List.foldl_nil, hd]
theorem looksP_snoc (Ms : List MachD) (sh : Share) {x : Nat × Nat} {d : DoorD} (hd : doorAt Ms x = some d) : looksP Ms (sh ++ [x]) = looksP Ms sh ++ d.looks := by
  unfold looksP; rw [List.flatMap_append]; simp [hd]
theorem backsP_snoc (Ms : List MachD) (sh : Share) {x : Nat × Nat} {d : DoorD} (hd : doorAt Ms x = some d) : backsP Ms (sh ++ [x]) = backsP Ms sh ++ d.backs := by
  unfold backsP; rw [List.flatMap_append]; simp [hd]
def spDoorOf (K : PySem.W.Frag) (CM CD : Addr) : Sp := fun vs H Q _ => ∃ (p ps pt : Addr) (Ms : List MachD) (sh : Share) (row : Row), vs = [.ref p, .ref ps, .ref pt] ∧ MsAt CM CD H p Ms ∧ (∀ M ∈ Ms, MachOk M) ∧ Ms.length ≤ 6 ∧ ShAt H ps sh ∧ ShareOk Ms sh ∧ TupS H pt row ∧ RowOk Ms row ∧
  (doorP Ms row sh = none → ∀ H', Same H H' → Q .non H') ∧ (∀ d, doorP Ms row sh = some d → ∀ q H', Same H H' → H q = none → DoorAt CD H' q d → (∀ U : Addr → Prop, ListsU U H → DoorAt CD (remU U H') q d) → Q (.ref q) H')
theorem row_txt {Ms : List MachD} (ok : ∀ M ∈ Ms, MachOk M) {row : Row} (rok : RowOk Ms row) : ∀ x ∈ row.map (·.1), x.length ≤ 60 := fun x hx => by
  obtain ⟨z, hz, rfl⟩ := List.mem_map.mp hx
  obtain ⟨k, hk, rfl⟩ := List.mem_iff_getElem.mp hz
  have hM := List.getElem?_eq_getElem (l := Ms) (i := k) (by have := rok.1; omega)
  have mok := ok _ (List.mem_of_getElem? hM)
  exact (room_ok mok.watch (List.all_eq_true.mp mok.rok _ (rok.2 k _ _ (List.getElem?_eq_getElem hk) hM))).1
theorem ok_door_of (T : Top K mg) : FnOk P w K mg base CX0 4 T.f_door_of T.d_door_of ["machines", "share", "room"] (spDoorOf K T.C_Machine T.C_Door) := by
  refine T.F_door_of.ok sc_door_of (fun vs H Q E h => ?_) (fun cdv A outer s H vs Q E hr h => ?_)
  · obtain ⟨p, ps, pt, Ms, sh, row, rfl, _⟩ := h; rfl
  · obtain ⟨p, ps, pt, Ms, sh, row, rfl, hms, ok, l6, hsh, sok, ht, rok, q1, q2⟩ := h
    refine ⟨_, (pss_cons (ps_set (i := 3) sc_door_of.nd rfl (.inl rfl) (pv 2))
      (pss_cons (ps_set (i := 4) sc_door_of.nd rfl (.inl rfl) (pe_lstN pa_nil))
      (pss_cons (ps_set (i := 5) sc_door_of.nd rfl (.inl rfl) (pe_lstN pa_nil))
      (pss_cons (ps_for PassesOwn.never rfl (pi_listA (K := K) rfl (pv 1)) (pg_tupA (K := K) (n := 2) rfl (by rfl) (pgs_cons (pg_name (i := 6) sc_door_of.nd rfl (.inl rfl)) (pgs_cons (pg_name (i := 7) sc_door_of.nd rfl (.inl rfl)) pgs_nil))) (pss_cons (ps_set (i := 8) sc_door_of.nd rfl (.inl rfl) (pe_ix (ix_listA (K := K) rfl) (pe_meth0 (pe_ix (ix_listA (K := K) rfl) (pv 0) (pv 6) (fun _ _ => rfl)) T.cl_Machine T.m_Machine_doors (ok_Machine_doors T) (hr.mono (by decide)) T.b_Machine_doors .nil pass0) (pv 7) (fun _ _ => rfl)))
      (pss_cons (ps_if (pt_cmpR op_ne (pe_ix (ix_tupA (K := K) rfl) (pv 2) (pv 6) (fun _ _ => rfl)) (pe_fldA (K := K) rfl (pv 8) rfl) (nomark _)) (pss_one (ps_ret pe_non)) pss_nil)
      (pss_cons (ps_set (i := 3) sc_door_of.nd rfl (.inl rfl) (pe_call (ok_moved T) (hr.mono (by decide)) rfl T.g_moved T.F_moved.kp T.b_moved .nil pass0 (pa_cons (pv 3) (pa_cons (pv 6) (pa_cons (pe_fldA (K := K) rfl (pv 8) rfl) pa_nil)))))
      (pss_cons (ps_set (i := 4) sc_door_of.nd rfl (.inl rfl) (pe_op op_catN (pv 4) (pe_meth0 (pv 8) T.cl_Door T.m_Door_asks (ok_Door_asks T) (hr.mono (by decide)) T.b_Door_asks .nil pass0)))
      (pss_one (ps_set (i := 5) sc_door_of.nd rfl (.inl rfl) (pe_op op_catN (pv 5) (pe_meth0 (pv 8) T.cl_Door T.m_Door_sets (ok_Door_sets T) (hr.mono (by decide)) T.b_Door_sets .nil pass0)))))))))
      (pss_one (ps_ret (pe_makeN T.mk_Door (ok_Door_init T) (hr.mono (by decide)) rfl T.g_Door T.bd_Door_init T.v_Door_init pass0 (pa_cons (pe_join pe_str (pv 2)) (pa_cons (pe_join pe_str (pv 3)) (pa_cons (pv 4) (pa_cons (pv 5) pa_nil))))))))))), ?_⟩
    obtain ⟨qs, m1, m2, m3⟩ := id hms
    obtain ⟨sqs, z1, z2, z3⟩ := id hsh
    have rtx := row_txt ok rok
    have rl := rok.1
    refine seq_step ?_
    walk_at "rd"
    refine seq_step ?_
    walk_at "rd"
    intro gl H1 s1 f1 e1
    refine seq_step ?_
    walk_at "rd"
    intro nl H2 s2 f2 e2
    refine seq_step ?_
    refine for_li ?_
    walk_at "rd"
    have s02 := s1.trans s2
    obtain ⟨Iv1, hIv1⟩ : ∃ Iv : Nat → L2.St → Hp → Prop, ∀ i σ' H', Iv i σ' H' ↔ (∃ pe pg pn v6 v7 v8, σ' = [some (.ref p), some (.ref ps), some (.ref pt), some (.ref pe), some (.ref pg), some (.ref pn), v6, v7, v8] ∧ Same H H' ∧ H' pe = some (.tup ((endP Ms (row.map (·.1)) (sh.take i)).map V.str)) ∧ LsAt H' pg (looksP Ms (sh.take i)) ∧ H' pn = some (.lst ((backsP Ms (sh.take i)).map V.str)) ∧ H pg = none ∧ H pn = none ∧ fitsP Ms row (sh.take i) = true ∧ (∀ x ∈ endP Ms (row.map (·.1)) (sh.take i), x.length ≤ 60) ∧ (looksP Ms (sh.take i)).length ≤ 60 * i ∧ (backsP Ms (sh.take i)).length ≤ 7 * i) := ⟨_, fun _ _ _ => Iff.rfl⟩
    refine forL_by (xs := sqs.map V.ref) Iv1 ((hIv1 _ _ _).mpr ⟨pt, gl, nl, _, _, _, rfl, s02, s02 _ _ ht, ⟨[], s2 _ _ e1, rfl, fun i q x h => by simp at h⟩, e2, f1, s1.free f2, rfl, rtx, Nat.zero_le _, Nat.zero_le _⟩) (fun i σ H' _ h => (fun (⟨_, _, _, _, _, _, _, k, _⟩ : ∃ _ _ _ _ _ _, _ ∧ Same _ _ ∧ _) => .of (k _ _ z1)) ((hIv1 _ _ _).mp h)) ?_ ?_
    · rintro i x σ' H3 hi hinv
      obtain ⟨pe, pg, pn, v6, v7, v8, rfl, s3, he, hg, hn, fpg, fpn, hf, hx60, hl60, hb7⟩ := (hIv1 _ _ _).mp hinv
      rw [List.getElem?_map] at hi
      obtain ⟨qi, h1, rfl⟩ := Option.map_eq_some_iff.mp hi
      have hil := (List.getElem?_eq_some_iff.mp h1).1
      have hz := List.getElem?_eq_getElem (l := sh) (i := i) (by omega)
      have ez : H qi = some (.tup [.int sh[i].1, .int sh[i].2]) := z3 i qi _ h1 hz
      obtain ⟨d, hd⟩ := sok.2 _ (List.mem_of_getElem? hz)
      have tk := take_snoc hz
      have e_end := endP_snoc Ms (row.map (·.1)) (sh.take i) hd
      have e_looks := looksP_snoc Ms (sh.take i) hd
      have e_backs := backsP_snoc Ms (sh.take i) hd
      rw [← tk] at e_end e_looks e_backs
      have e_no := fun n => doorP_fits (Ms := Ms) (row := row) hz hd n
      have e_fit : (row.map (·.1))[sh[i].1]? = some d.st → fitsP Ms row (sh.take (i + 1)) = true := fun c => by
        rw [tk]; unfold fitsP at hf ⊢
        rw [List.all_append, hf, Bool.true_and, List.all_cons, List.all_nil, Bool.and_true, hd]
        exact decide_eq_true c
      have two := sok.1
      generalize sh[i] = xx at *
      obtain ⟨number, at'⟩ := xx
      obtain ⟨M, hM, hdM⟩ := Option.bind_eq_some_iff.mp hd
      have hMl := (List.getElem?_eq_some_iff.mp hM).1
      have hq := List.getElem?_eq_getElem (l := qs) (i := number) (by rw [m2]; exact hMl)
      have dz0 := m3 number _ M hq hM
      have dz := dz0.keep s3
      have okM := ok M (List.mem_of_getElem? hM)
      obtain ⟨dx, wn, rn, sl, dl, a, _⟩ := id dz
      have dk := okM.door (List.mem_of_getElem? hdM)
      have dsz := okM.dsz _ (List.mem_of_getElem? hdM)
      have hqz := hq
      generalize qs[number] = qm at *
      refine gTup_of (sqt (s3 _ _ ez)) rfl ?_
      walk_at "rd"
      refine seq_step ?_
      refine ⟨_, rfl, _, rfl, ix_l (.of (s3 _ _ m1)) (Int.natCast_nonneg _) (by rw [Int.toNat_natCast, List.getElem?_map, hqz]; rfl) ?_⟩
      refine ⟨_, dx, _, rfl, a, mach_no (by decide +kernel) (by decide +kernel) (by decide +kernel) (by decide +kernel), _, M, rfl, dz, fun dq H4 dqs s4 f4 e4 l4 d4 => ?_⟩
      obtain ⟨qd, hqd⟩ : ∃ qd, dqs[at']? = some qd := ⟨_, List.getElem?_eq_getElem (l := dqs) (i := at') (by rw [l4]; exact (List.getElem?_eq_some_iff.mp hdM).1)⟩
      have dd := (d4 H s3 dz0 at' _ d hqd hdM).keep (s3.trans s4)
      obtain ⟨ddx, dg, dn, da, _⟩ := id dd
      have dno : ∀ {m : Str}, ¬ m = "start" → ¬ m = "end" → ¬ m = "sign" → ¬ m = "looks" → ¬ m = "backs" → (doorF d.st d.en d.sg dg dn).lookup m = none := fun h1 h2 h3 h4 h5 => door_no h1 h2 h3 h4 h5
      refine ⟨_, rfl, ix_l (.of e4) (Int.natCast_nonneg _) (by rw [Int.toNat_natCast, List.getElem?_map, hqd]; rfl) ?_⟩
      have s34 := s3.trans s4
      have hrow := List.getElem?_eq_getElem (l := row) (i := number) (by omega)
      walk_at "rd"
      refine seq_step ?_
      walk_at "rd"
      refine ix_t (sqt (s34 _ _ ht)) (Int.natCast_nonneg _) (by rw [Int.toNat_natCast, List.getElem?_map, List.getElem?_map, hrow]; rfl) ?_
      refine ⟨_, rfl, qd, _, ddx, _, _, rfl, da, T.cl_Door, T.n_Door_start, door_start, ?_⟩
      walk_at "rd"
      by_cases c : row[number].1 = d.st
      rotate_left
      · refine if_t (by rw [decide_eq_false (fun h => c (by injection h))]; rfl) ?_
        exact q1 (e_no (by rw [List.getElem?_map, hrow]; intro h; exact c (by simpa using h))) H4 s34
      refine if_f (by rw [decide_eq_true (by rw [c])]; rfl) ?_
      have fit := e_fit (by rw [List.getElem?_map, hrow, ← c]; rfl)
      refine seq_step ?_
      walk_at "rd"
      refine ⟨_, rfl, qd, _, ddx, _, _, rfl, da, T.cl_Door, T.n_Door_end, door_end, ?_⟩
      have elen := endP_len Ms (row.map (·.1)) (sh.take i)
      rw [List.length_map] at elen
      have den : d.en.length ≤ 60 := by
        obtain ⟨r, hr, e⟩ := List.mem_map.mp dk.2.2.1
        rw [← e]
        exact (room_ok okM.watch (List.all_eq_true.mp okM.rok r hr)).1
      refine ⟨pe, endP Ms (row.map (·.1)) (sh.take i), number, d.en, rfl, s4 _ _ he, by omega, by omega, fun q5 H5 s5 e5 => ?_⟩
      have s45 := s4.trans s5
      walk_at "rd"
      refine seq_step ?_
      walk_at "rd"
      refine ⟨_, rfl, qd, ddx, _, rfl, s5 _ _ da, dno (by decide +kernel) (by decide +kernel) (by decide +kernel) (by decide +kernel) (by decide +kernel), qd, d, rfl, dd.keep s5, fun ga H6 s6 f6 e6 => ?_⟩
      have s46 := s45.trans s6
      obtain ⟨us, vs, u1, u2, u3, u4, fin⟩ := (hg.keep s46).cat e6
      refine ⟨_, rfl, us, u1, vs, u2, small1000' (by rw [u3, u4]; omega), fun g7 H7 s7 f7 e7 => ?_⟩
      have hg7 := fin H7 g7 (fun _ _ => LqAt.keep s7) e7
      have s47 := s46.trans s7
      have s37 := s3.trans s47
      walk_at "rd"
      refine ⟨_, rfl, qd, ddx, _, rfl, (s5.trans (s6.trans s7)) _ _ da, dno (by decide +kernel) (by decide +kernel) (by decide +kernel) (by decide +kernel) (by decide +kernel), qd, d, rfl, dd.keep (s5.trans (s6.trans s7)), fun na H8 s8 f8 e8 => ?_⟩
      refine ⟨_, rfl, _, (s47.trans s8) _ _ hn, _, e8, small1000' (by rw [List.length_map, List.length_map]; omega), fun n9 H9 s9 f9 e9 => ?_⟩
      have s79 := s8.trans s9
      refine (hIv1 _ _ _).mpr ⟨q5, g7, n9, _, _, _, rfl, s37.trans s79, ?_, ?_, ?_, (s3.trans s46).free f7, (s37.trans s8).free f9, fit, ?_, ?_, ?_⟩
      · rw [e_end]; exact (s6.trans (s7.trans s79)) _ _ e5
      · rw [e_looks]; exact LsAt.keep hg7 s79
      · rw [e_backs, List.map_append]; exact e9
      · rw [e_end]
        intro x hx
        rcases List.mem_or_eq_of_mem_set hx with h | h
        · exact hx60 x h
        · rw [h]; exact den
      · rw [e_looks, List.length_append]; omega
      · rw [e_backs, List.length_append]; omega
    · rintro σ' H3 hinv
      obtain ⟨pe, pg, pn, v6, v7, v8, rfl, s3, he, hg, hn, fpg, fpn, hf, hx60, hl60, hb7⟩ := (hIv1 _ _ _).mp hinv
      rw [List.length_map, z2, List.take_length] at he hg hn hf hx60 hl60 hb7
      walk_at "rd"
      simp only [tMakeN]
      have two := sok.1
      refine ⟨⟨_, rfl⟩, _, rfl, _, rfl, _, rfl, row.map (fun z : Rq => z.1), .inr (sqt (s3 _ _ ht)), join_ok rtx (by rw [List.length_map]; omega) (by decide), ?_⟩
      have elen := endP_len Ms (row.map (·.1)) sh
      rw [List.length_map] at elen
      refine ⟨⟨_, rfl⟩, _, rfl, _, rfl, _, rfl, endP Ms (row.map (·.1)) sh, .inr (sqt he), join_ok hx60 (by omega) (by decide), ?_⟩
      walk_at "rd"
      intro pq dx H4 s4 f4 e4
      obtain ⟨gs, g1, g2, g3⟩ := id hg
      refine ⟨pq, dx, pg, pn, rowName row, _, "", _, _, rfl, e4, s4 _ _ g1, s4 _ _ hn, fun g' n' H5 k5 fg fn e5 eg en => ⟨rfl, ?_⟩⟩
      have s35 : Same H3 H5 := fun b o e => k5 b o (s4 _ _ e) fun y => by rw [y, f4] at e; cases e
      have lg : LsAt H5 g' (looksP Ms sh) := ⟨gs, eg, g2, fun i q x h1 h2 => (g3 i q x h1 h2).keep s35⟩
      have e := show doorP Ms row sh = some _ from if_pos hf
      refine q2 _ e pq H5 (s3.trans s35) (s3.free f4) ⟨dx, g', n', e5, lg, en⟩ fun U u => ?_
      have nU : ∀ {b : Addr} {J : Hp}, Same H J → J b = none → ¬ U b := fun s f h => by
        obtain ⟨xs, e⟩ := u _ h
        rw [s _ _ e] at f; cases f
      exact ⟨dx, g', n', rem_at (nU s3 f4) e5, lg.rem u (fun b xs e => (s3.trans s35) _ _ e) (nU (s3.trans s4) fg), rem_at (nU (s3.trans s4) fn) en⟩
/-- a door of the whole with its share -/
def DShAt (H0 : Hp) (CD : Addr) (H : Hp) (q : Addr) (x : DoorD × Share) : Prop := ∃ pd ps, H q = some (.tup [.ref pd, .ref ps]) ∧ DoorAt CD H pd x.1 ∧ ShAt H ps x.2 ∧ ∀ U : Addr → Prop, ListsU U H0 → DoorAt CD (remU U H) pd x.1
theorem DShAt.keep {H0 : Hp} {CD : Addr} : ∀ (H H' : Hp) (q : Addr) (x : DoorD × Share), Same H H' → DShAt H0 CD H q x → DShAt H0 CD H' q x := fun _ _ _ _ s ⟨pd, ps, a, b, c, d⟩ => ⟨pd, ps, s _ _ a, b.keep s, ShAt.keep _ _ _ _ s c, fun U u => (d U u).keep (rem_same s)⟩
theorem rem_del {U : Addr → Prop} {D : Addr} {H : Hp} : remU U (delH D H) = remU (fun b => U b ∨ b = D) H := by
  funext b
  unfold remU delH
  by_cases h : U b
  · rw [if_pos h, if_pos (.inl h)]
  · by_cases k : b = D
    · rw [if_neg h, if_pos k, if_pos (.inr k)]
    · rw [if_neg h, if_neg k, if_neg (fun z => z.elim h k)]
theorem doorAt_of {Ms : List MachD} {i a : Nat} {M : MachD} {d : DoorD} (h : Ms[i]? = some M) (k : M.doors[a]? = some d) : doorAt Ms (i, a) = some d := by
  unfold doorAt; rw [h]; exact k
theorem ans_ok {Ms : List MachD} {number : Nat} {sg : Str} : ∀ x ∈ answersP Ms number sg, (∃ d, doorAt Ms x = some d ∧ d.sg = sg) ∧ x.1 ≠ number := fun x hx => by
  obtain ⟨⟨M, o⟩, hM, h⟩ := List.mem_flatMap.mp hx
  obtain ⟨⟨d, a⟩, hd, h2⟩ := List.mem_filterMap.mp h
  rw [List.mem_zipIdx_iff_getElem?] at hM hd
  split at h2
  · rename_i c
    obtain rfl : (o, a) = x := by simpa using h2
    exact ⟨⟨d, doorAt_of hM hd, c.2⟩, c.1⟩
  · cases h2
theorem goers_ok {Ms : List MachD} {x : Nat × Nat} {d : DoorD} (hd : doorAt Ms x = some d) : ∀ sh ∈ goersP Ms x, ShareOk Ms sh := fun sh hs => by
  unfold goersP at hs
  rw [hd] at hs
  dsimp only at hs
  split at hs
  · obtain rfl : sh = [x] := by simpa using hs
    exact ⟨by simp, fun y hy => ⟨d, by rw [show y = x by simpa using hy]; exact hd⟩⟩
  · split at hs
    · obtain ⟨o, ho, rfl⟩ := List.mem_map.mp hs
      refine ⟨by simp, fun y hy => ?_⟩
      simp only [List.mem_cons, List.not_mem_nil, or_false] at hy
      rcases hy with rfl | rfl
      · exact ⟨d, hd⟩
      · obtain ⟨⟨d', h1, _⟩, _⟩ := ans_ok _ ho
        exact ⟨d', h1⟩
    · cases hs
/-- what is left of the doors of the whole -/
def roomsDo (Ms : List MachD) (sh : Share) (rows : List Row) : List (DoorD × Share) := rows.filterMap fun row => (doorP Ms row sh).map fun d => (d, sh)
def sharesDo (Ms : List MachD) (shs : List Share) : List (DoorD × Share) := shs.flatMap fun sh => roomsDo Ms sh (rowsP Ms)
def atsDo (Ms : List MachD) (n : Nat) (ats : List Nat) : List (DoorD × Share) := ats.flatMap fun a => sharesDo Ms (goersP Ms (n, a))
def machsDo (Ms : List MachD) (xs : List (MachD × Nat)) : List (DoorD × Share) := xs.flatMap fun M => atsDo Ms M.2 (List.range M.1.doors.length)
theorem doors_all (Ms : List MachD) : doorsP Ms = machsDo Ms Ms.zipIdx := by
  unfold doorsP machsDo sharesP atsDo sharesDo roomsDo
  simp only [List.flatMap_assoc]
theorem drop_at {α : Type} {xs : List α} {i : Nat} {x : α} (h : xs[i]? = some x) : xs.drop i = x :: xs.drop (i + 1) := by
  have := (List.getElem?_eq_some_iff.mp h)
  rw [List.drop_eq_getElem_cons this.1, this.2]
def spDoorsOf (K : PySem.W.Frag) (CM CD CT : Addr) : Sp := fun vs H Q E => ∃ (p pr : Addr) (Ms : List MachD), vs = [.ref p, .ref pr] ∧ MsAt CM CD H p Ms ∧ (∀ M ∈ Ms, MachOk M) ∧ Ms.length ≤ 6 ∧ doorsN Ms ≤ 800 ∧ SeqOf TupS H pr (rowsP Ms) ∧ manyR Ms ≤ 64 ∧ ((doorsP Ms).length ≤ 200 → ∀ q H', Same H H' → SeqOf (DShAt H CD) H' q (doorsP Ms) → Q (.ref q) H') ∧ (200 < (doorsP Ms).length → ∀ H', Same H H' → E (.ref CT) none H')
theorem ok_doors_of (T : Top K mg) : FnOk P w K mg base (L2.CX P w) 5 T.f_doors_of T.d_doors_of ["machines", "rooms"] (spDoorsOf K T.C_Machine T.C_Door T.C_TooMany) := by
  refine T.F_doors_of.okX sc_doors_of (fun vs H Q E h => ?_) (fun cdv A outer s H vs Q E hr h => ?_)
  · obtain ⟨p, pr, Ms, rfl, _⟩ := h; rfl
  · obtain ⟨p, pr, Ms, rfl, hms, ok, l6, d800, hrows, r64, q1, q2⟩ := h
    refine ⟨_, (pss_cons (ps_set (i := 2) sc_doors_of.nd rfl (.inl rfl) (pe_lstN pa_nil))
      (pss_cons (ps_for (passes_of rfl) rfl (pi_enumK (K := K) rfl (by rfl) T.m_enumerate (pa_cons (pv 0) pa_nil)) (pg_tupA (K := K) (n := 2) rfl (by rfl) (pgs_cons (pg_name (i := 3) sc_doors_of.nd rfl (.inl rfl)) (pgs_cons (pg_name (i := 4) sc_doors_of.nd rfl (.inl rfl)) pgs_nil))) (pss_one (ps_for (passes_of rfl) rfl (pi_range1 (by rfl) T.m_range (pa_cons (pe_callB call_len_seq (by rfl) T.m_len (by decide +kernel) (pa_cons (pe_meth0 (pv 4) T.cl_Machine T.m_Machine_doors (ok_Machine_doors T) (hr.mono (by decide)) T.b_Machine_doors .nil pass0) pa_nil)) pa_nil)) (pg_name (i := 5) sc_doors_of.nd rfl (.inl rfl)) (pss_one (ps_for (passes_of rfl) rfl (pi_listA (K := K) rfl (pe_call (ok_goers T) (hr.mono (by decide)) rfl T.g_goers T.F_goers.kp T.b_goers .nil pass0 (pa_cons (pv 0) (pa_cons (pv 3) (pa_cons (pv 5) pa_nil))))) (pg_name (i := 6) sc_doors_of.nd rfl (.inl rfl)) (pss_one (ps_for (passes_of rfl) rfl (pi_listA (K := K) rfl (pv 1)) (pg_name (i := 7) sc_doors_of.nd rfl (.inl rfl)) (pss_cons (ps_set (i := 8) sc_doors_of.nd rfl (.inl rfl) (pe_call (ok_door_of T) (hr.mono (by decide)) rfl T.g_door_of T.F_door_of.kp T.b_door_of .nil pass0 (pa_cons (pv 0) (pa_cons (pv 6) (pa_cons (pv 7) pa_nil)))))
      (pss_cons (ps_if (pt_cmpR op_notN (pv 8) pe_non (nomark _)) (pss_one (ps_expr (pe_bm PySem.F.plainAttrs_list PySem.F.slot_list_append PySem.F.type_list_append mt_append (pv 2) (pa_cons (pe_tupN (pa_cons (pv 8) (pa_cons (pv 6) pa_nil))) pa_nil)))) pss_nil)
      (pss_one (ps_if (pt_cmpR op_gt (pe_callB call_len_seq (by rfl) T.m_len (by decide +kernel) (pa_cons (pv 2) pa_nil)) (pe_glob (v := .int 200) rfl T.g_MOST_DOORS ⟨_, rfl⟩) (nomark _)) (pss_one (ps_raise rfl (takes_of rfl rfl rfl rfl) (pmk_own PySem.F.excBase_ValueError T.x_TooMany T.g_TooMany T.k_TooMany (raises_own T.b_TooMany T.t_TooMany) rfl))) pss_nil)))))))))))
      (pss_one (ps_ret (pv 2))))), ?_⟩
    obtain ⟨qs, m1, m2, m3⟩ := id hms
    obtain ⟨rqs, r1, r2, r3⟩ := id hrows
    have rlen := rows_len Ms
    rw [doors_all] at q1 q2
    refine seq_step ?_
    walk_at "rd"
    intro fl H1 s1 f1 e1
    refine seq_step ?_
    refine for_en ?_
    walk_at "rd"
    obtain ⟨Iv1, hIv1⟩ : ∃ Iv : Nat → L2.St → Hp → Prop, ∀ i σ' H', Iv i σ' H' ↔ (∃ v3 v4 v5 v6 v7 v8 found, σ' = [some (.ref p), some (.ref pr), some (.ref fl), v3, v4, v5, v6, v7, v8] ∧ Same H H' ∧ SeqD (DShAt H T.C_Door) H' fl found ∧ found.length ≤ 200 ∧ machsDo Ms Ms.zipIdx = found ++ machsDo Ms (Ms.zipIdx.drop i)) := ⟨_, fun _ _ _ => Iff.rfl⟩
    refine forE_by (xs := qs.map V.ref) Iv1 ((hIv1 _ _ _).mpr ⟨_, _, _, _, _, _, [], rfl, s1, SeqD.nil e1, Nat.zero_le _, by simp⟩) (fun i σ H' _ h => (fun (⟨_, _, _, _, _, _, _, _, k, _⟩ : ∃ _ _ _ _ _ _ _, _ ∧ Same _ _ ∧ _) => .of (k _ _ m1)) ((hIv1 _ _ _).mp h)) ?_ ?_
    · rintro i x t σ' H2 H3 hi hinv s3 e3
      obtain ⟨v3, v4, v5, v6, v7, v8, found, rfl, s2, sd, fl200, feq⟩ := (hIv1 _ _ _).mp hinv
      rw [List.getElem?_map] at hi
      obtain ⟨qi, h1, rfl⟩ := Option.map_eq_some_iff.mp hi
      have hil := (List.getElem?_eq_some_iff.mp h1).1
      have hz := List.getElem?_eq_getElem (l := Ms) (i := i) (by omega)
      have dz0 := m3 i qi _ h1 hz
      have s23 := s2.trans s3
      have dz := dz0.keep s23
      have okz := ok _ (List.mem_of_getElem? hz)
      have d200 := okz.d200
      rw [drop_at (zipIdx_at hz)] at feq
      have feq : machsDo Ms Ms.zipIdx = found ++ (atsDo Ms i (List.range Ms[i].doors.length) ++ machsDo Ms (Ms.zipIdx.drop (i + 1))) := feq
      have dat := fun a d (h : Ms[i].doors[a]? = some d) => doorAt_of (Ms := Ms) hz h
      generalize Ms[i] = M at *
      generalize hrest1 : machsDo Ms (Ms.zipIdx.drop (i + 1)) = rest1 at *
      obtain ⟨dx, wn, rn, sl, dl, a, _⟩ := id dz
      refine gTup_of (sqt e3) rfl ?_
      walk_at "rd"
      refine for_rg ?_
      walk_at "rd"
      refine ⟨_, rfl, qi, dx, _, rfl, a, mach_no (by decide +kernel) (by decide +kernel) (by decide +kernel) (by decide +kernel), qi, M, rfl, dz, fun dq H4 dqs s4 f4 e4 l4 d4 => ?_⟩
      refine ⟨dq, rfl, _, .inl (.of e4), (rg_ok (by rw [List.length_map]; omega)).1, (rg_ok (by rw [List.length_map]; omega)).2, ?_⟩
      rw [List.length_map, l4, Int.toNat_natCast]
      have s34 := s3.trans s4
      have fin : ∀ {fd : List (DoorD × Share)} {rest : List (DoorD × Share)}, machsDo Ms Ms.zipIdx = fd ++ rest → 200 < fd.length → 200 < (machsDo Ms Ms.zipIdx).length := fun e h => by rw [e, List.length_append]; omega
      obtain ⟨Iv2, hIv2⟩ : ∃ Iv : Nat → L2.St → Hp → Prop, ∀ j σ' H', Iv j σ' H' ↔ (∃ v5 v6 v7 v8 found, σ' = [some (.ref p), some (.ref pr), some (.ref fl), some (.int i), some (.ref qi), v5, v6, v7, v8] ∧ Same H H' ∧ SeqD (DShAt H T.C_Door) H' fl found ∧ found.length ≤ 200 ∧ machsDo Ms Ms.zipIdx = found ++ (atsDo Ms i ((List.range M.doors.length).drop j) ++ rest1)) := ⟨_, fun _ _ _ => Iff.rfl⟩
      refine forR_by Iv2 ((hIv2 _ _ _).mpr ⟨_, _, _, _, found, rfl, s2.trans s34, sd.keep DShAt.keep s34, fl200, feq⟩) ?_ ?_
      · rintro j σ' H5 hj hinv
        obtain ⟨v5, v6, v7, v8, found, rfl, s5, sd, fl200, feq⟩ := (hIv2 _ _ _).mp hinv
        obtain ⟨d, hd⟩ : ∃ d, M.doors[j]? = some d := ⟨_, List.getElem?_eq_getElem hj⟩
        have hat := dat j d hd
        rw [drop_at (show (List.range M.doors.length)[j]? = some j by rw [List.getElem?_range hj])] at feq
        have feq : machsDo Ms Ms.zipIdx = found ++ (sharesDo Ms (goersP Ms (i, j)) ++ (atsDo Ms i ((List.range M.doors.length).drop (j + 1)) ++ rest1)) := by rw [feq, ← List.append_assoc (sharesDo Ms _)]; rfl
        generalize hr2 : atsDo Ms i ((List.range M.doors.length).drop (j + 1)) ++ rest1 = rest2 at *
        have gok := goers_ok hat
        walk_at "rd"
        refine for_li ?_
        walk_at "rd"
        refine ⟨p, Ms, (i, j), d, rfl, hms.keep s5, ok, l6, d800, hat, fun gq H6 s6 f6 e6 => ?_⟩
        obtain ⟨gqs, g1, g2, g3⟩ := id e6
        generalize goersP Ms (i, j) = shs at *
        have ffl : H fl = none := f1
        obtain ⟨_, fl5, _⟩ := id sd
        have gfl : gq ≠ fl := fun y => by rw [y, fl5] at f6; cases f6
        have fl6 := s6 _ _ fl5
        -- what stands beside the list that grows
        have B : SeqOf ShAt (delH fl H6) gq shs := ⟨gqs, del_at gfl g1, g2, fun i q x h1 h2 => by
          obtain ⟨⟨us, u1, u2, u3⟩, u4⟩ := g3 i q x h1 h2
          exact ⟨us, del_at (fun y => by rw [y, fl5] at u4; cases u4) u1, u2, fun i q x h1 h2 => del_at (ne_of (u3 i q x h1 h2) fl6 (by intro z; cases z)) (u3 i q x h1 h2)⟩⟩
        obtain ⟨_, B1, _, B3⟩ := id B
        have sK : ∀ {H' : Hp} {o : HO}, Same (delH fl H6) H' → Same (delH fl H6) (upd H' fl o) := fun {H' o} s b x e => by rw [upd_ne (del_of e).1]; exact s _ _ e
        obtain ⟨Iv3, hIv3⟩ : ∃ Iv : Nat → L2.St → Hp → Prop, ∀ k σ' H', Iv k σ' H' ↔ (∃ v6 v7 v8 found, σ' = [some (.ref p), some (.ref pr), some (.ref fl), some (.int i), some (.ref qi), some (.int j), v6, v7, v8] ∧ Same H H' ∧ Same (delH fl H6) H' ∧ SeqD (DShAt H T.C_Door) H' fl found ∧ found.length ≤ 200 ∧ machsDo Ms Ms.zipIdx = found ++ (sharesDo Ms (shs.drop k) ++ rest2)) := ⟨_, fun _ _ _ => Iff.rfl⟩
        refine ⟨gq, rfl, forL_by (xs := gqs.map V.ref) Iv3 ((hIv3 _ _ _).mpr ⟨_, _, _, found, rfl, s5.trans s6, del_sub, sd.keep DShAt.keep s6, fl200, feq⟩) (fun i σ H' _ h => (fun (⟨_, _, _, _, _, _, k, _⟩ : ∃ _ _ _ _, _ ∧ _ ∧ Same _ _ ∧ _) => .of (k _ _ (del_at gfl g1))) ((hIv3 _ _ _).mp h)) ?_ ?_⟩
        · rintro k x σ' H7 hk hinv
          obtain ⟨v6, v7, v8, found, rfl, s7, b7, sd, fl200, feq⟩ := (hIv3 _ _ _).mp hinv
          rw [List.getElem?_map] at hk
          obtain ⟨qk, h2, rfl⟩ := Option.map_eq_some_iff.mp hk
          have hkl := (List.getElem?_eq_some_iff.mp h2).1
          obtain ⟨sh, hsh⟩ : ∃ sh, shs[k]? = some sh := ⟨_, List.getElem?_eq_getElem (by omega)⟩
          obtain ⟨⟨us, u1, u2, u3⟩, u4⟩ := g3 k qk sh h2 hsh
          have bsh : ShAt (delH fl H6) qk sh := ⟨us, del_at (fun y => by rw [y, fl5] at u4; cases u4) u1, u2, fun i q x h1 h2 => del_at (ne_of (u3 i q x h1 h2) fl6 (by intro z; cases z)) (u3 i q x h1 h2)⟩
          have shok := gok sh (List.mem_of_getElem? hsh)
          rw [drop_at hsh] at feq
          have feq : machsDo Ms Ms.zipIdx = found ++ (roomsDo Ms sh (rowsP Ms) ++ (sharesDo Ms (shs.drop (k + 1)) ++ rest2)) := by rw [feq, ← List.append_assoc (roomsDo Ms _ _)]; rfl
          generalize hrest3 : sharesDo Ms (shs.drop (k + 1)) ++ rest2 = rest3 at *
          walk_at "rd"
          refine for_li ?_
          walk_at "rd"
          obtain ⟨Iv4, hIv4⟩ : ∃ Iv : Nat → L2.St → Hp → Prop, ∀ m σ' H', Iv m σ' H' ↔ (∃ v7 v8 found, σ' = [some (.ref p), some (.ref pr), some (.ref fl), some (.int i), some (.ref qi), some (.int j), some (.ref qk), v7, v8] ∧ Same H H' ∧ Same (delH fl H6) H' ∧ SeqD (DShAt H T.C_Door) H' fl found ∧ found.length ≤ 200 ∧ machsDo Ms Ms.zipIdx = found ++ (roomsDo Ms sh ((rowsP Ms).drop m) ++ rest3)) := ⟨_, fun _ _ _ => Iff.rfl⟩
          refine forL_by (xs := rqs.map V.ref) Iv4 ((hIv4 _ _ _).mpr ⟨_, _, found, rfl, s7, b7, sd, fl200, feq⟩) (fun i σ H' _ h => (fun (⟨_, _, _, _, k, _⟩ : ∃ _ _ _, _ ∧ Same _ _ ∧ _) => .of (k _ _ r1)) ((hIv4 _ _ _).mp h)) ?_ ?_
          · rintro m x σ' H8 hm hinv
            obtain ⟨v7, v8, found, rfl, s8, b8, sd, fl200, feq⟩ := (hIv4 _ _ _).mp hinv
            rw [List.getElem?_map] at hm
            obtain ⟨qm, h3, rfl⟩ := Option.map_eq_some_iff.mp hm
            have hml := (List.getElem?_eq_some_iff.mp h3).1
            obtain ⟨row, hrow⟩ : ∃ row, (rowsP Ms)[m]? = some row := ⟨_, List.getElem?_eq_getElem (by omega)⟩
            have rok := rows_ok Ms row (List.mem_of_getElem? hrow)
            rw [drop_at hrow] at feq
            have feq : machsDo Ms Ms.zipIdx = found ++ ((match doorP Ms row sh with | some d => [(d, sh)] | none => []) ++ (roomsDo Ms sh ((rowsP Ms).drop (m + 1)) ++ rest3)) := by
              rw [feq, ← List.append_assoc (match doorP Ms row sh with | some d => [(d, sh)] | none => [])]
              congr 1
              congr 1
              unfold roomsDo
              rw [List.filterMap_cons]
              cases doorP Ms row sh <;> rfl
            generalize hrest4 : roomsDo Ms sh ((rowsP Ms).drop (m + 1)) ++ rest3 = rest4 at *
            walk_at "rd"
            refine seq_step ?_
            walk_at "rd"
            have back : ∀ (v8 : Option V) (found : List (DoorD × Share)) (H9 : Hp), Same H H9 → Same (delH fl H6) H9 → SeqD (DShAt H T.C_Door) H9 fl found → found.length ≤ 201 → machsDo Ms Ms.zipIdx = found ++ rest4 → ∀ (σ9 : L2.St), σ9 = [some (.ref p), some (.ref pr), some (.ref fl), some (.int i), some (.ref qi), some (.int j), some (.ref qk), some (.ref qm), v8] →
                (found.length ≤ 200 → Iv4 (m + 1) σ9 H9) ∧ (200 < found.length → E (Value.ref T.C_TooMany) none H9) := fun v8 found H9 s9 b9 sd9 l9 e9 σ9 eσ =>
              ⟨fun l => (hIv4 _ _ _).mpr ⟨_, _, found, eσ, s9, b9, sd9, l, by rw [hrest4]; exact e9⟩, fun l => q2 (fin e9 l) H9 s9⟩
            refine ⟨p, qk, qm, Ms, sh, row, rfl, hms.keep s8, ok, l6, ShAt.keep _ _ _ _ b8 bsh, shok, s8 _ _ (r3 m qm row h3 hrow), rok, fun hn H9 s9 => ?_, fun d hd q9 H9 s9 f9 d9 dd9 => ?_⟩
            · rw [hn] at feq
              walk_at "rd"
              refine seq_step ?_
              walk_at "rd"
              have sd9 := sd.keep DShAt.keep s9
              obtain ⟨fqs, w1, w2, w3⟩ := id sd9
              have bk := back (some .non) found H9 (s8.trans s9) (b8.trans s9) sd9 (by omega) feq _ rfl
              refine ⟨_, .inl (.of w1), ?_⟩
              refine if_f (decide_eq_false (by rw [List.length_map, w2]; omega)) ?_
              exact bk.1 fl200
            · rw [hd] at feq
              walk_at "rd"
              refine seq_step ?_
              walk_at "rd"
              have sd9 := sd.keep DShAt.keep s9
              obtain ⟨fqs, w1, w2, w3⟩ := id sd9
              obtain ⟨_, fl8, _⟩ := id sd
              refine ⟨_, rfl, .inl ⟨rfl, _, .of w1⟩, ?_⟩
              walk_at "rd"
              intro ta Ha sa fa ea
              have b9a := b8.trans (s9.trans sa)
              have flA := (s9.trans sa) _ _ fl8
              have bsa : ShAt (delH fl Ha) qk sh := ShAt.keep _ _ _ _ (fun b o e => del_at (del_of e).1 (b9a _ _ e)) bsh
              have lU : ∀ U : Addr → Prop, ListsU U H → ListsU (fun b => U b ∨ b = fl) H8 := fun U u b h => by
                rcases h with h | rfl
                · obtain ⟨xs, e⟩ := u b h
                  exact ⟨xs, s8 _ _ e⟩
                · exact ⟨_, fl8⟩
              have dsU : ∀ U : Addr → Prop, ListsU U H → DoorAt T.C_Door (remU U (delH fl Ha)) q9 d := fun U u => by
                rw [rem_del]
                exact (dd9 _ (lU U u)).keep (rem_same sa)
              have dsa : DoorAt T.C_Door (delH fl Ha) q9 d := (dsU (fun _ => False) (fun _ h => h.elim)).keep rem_sub
              have tne : ta ≠ fl := fun y => by rw [y, w1] at fa; cases fa
              obtain ⟨items, it1, it2, it3⟩ := (sd9.keep DShAt.keep sa).app DShAt.keep (q := ta) (x := (d, sh)) ⟨q9, qk, del_at tne ea, dsa, bsa, dsU⟩
              have sH : Same H (upd Ha fl (.lst (items ++ [V.ref ta]))) := same_updN ffl (s8.trans (s9.trans sa))
              have bk := back (some (.ref q9)) (found ++ [(d, sh)]) _ sH (sK b9a) it3 (by rw [List.length_append]; simp; omega) (by rw [feq, List.append_assoc]) _ rfl
              refine app_at it1 (by omega) ?_
              walk_at "rd"
              refine ⟨_, .inl (.of upd_same), ?_⟩
              have il : (items ++ [V.ref ta]).length = (found ++ [(d, sh)]).length := by rw [List.length_append, List.length_append, it2]; rfl
              rw [il]
              exact ite_d (fun c => bk.2 (by omega)) (fun c => bk.1 (by omega))
          · rintro σ' H8 hinv
            obtain ⟨v7, v8, found, rfl, s8, b8, sd, fl200, feq⟩ := (hIv4 _ _ _).mp hinv
            rw [List.length_map, r2, List.drop_length] at feq
            refine (hIv3 _ _ _).mpr ⟨_, _, _, found, rfl, s8, b8, sd, fl200, ?_⟩
            rw [hrest3]; exact feq
        · rintro σ' H7 hinv
          obtain ⟨v6, v7, v8, found, rfl, s7, b7, sd, fl200, feq⟩ := (hIv3 _ _ _).mp hinv
          rw [List.length_map, g2, List.drop_length] at feq
          refine (hIv2 _ _ _).mpr ⟨_, _, _, _, found, rfl, s7, sd, fl200, ?_⟩
          rw [hr2]; exact feq
      · rintro σ' H5 hinv
        obtain ⟨v5, v6, v7, v8, found, rfl, s5, sd, fl200, feq⟩ := (hIv2 _ _ _).mp hinv
        rw [List.drop_of_length_le (by simp)] at feq
        refine (hIv1 _ _ _).mpr ⟨_, _, _, _, _, _, found, rfl, s5, sd, fl200, ?_⟩
        rw [hrest1]; exact feq
    · rintro σ' H2 hinv
      obtain ⟨v3, v4, v5, v6, v7, v8, found, rfl, s2, sd, fl200, feq⟩ := (hIv1 _ _ _).mp hinv
      rw [List.length_map, m2, List.drop_of_length_le (by simp)] at feq
      have feq : machsDo Ms Ms.zipIdx = found := by rw [feq]; exact List.append_nil _
      rw [feq] at q1
      walk_at "rd"
      exact q1 fl200 fl H2 s2 (sd.seq DShAt.keep)
/-! ### machines with a long watch, with a room cut off -/
def TDAt (H : Hp) (q : Addr) (d : DoorD) : Prop := ∃ g n, H q = some (.tup [.str d.st, .str d.en, .ref g, .ref n, .str d.sg]) ∧ LsAt H g d.looks ∧ H n = some (.lst (d.backs.map V.str))
theorem TDAt.keep : ∀ (H H' : Hp) (q : Addr) (d : DoorD), Same H H' → TDAt H q d → TDAt H' q d := fun _ _ _ _ s ⟨g, n, a, b, c⟩ => ⟨g, n, s _ _ a, b.keep s, s _ _ c⟩
def LooksOk (d : DoorD) : Prop := (∀ l ∈ d.looks, LqOk l) ∧ ∀ x ∈ d.backs, TxOk x
def longW (W : List Str) : List Str := W ++ [("/" : Str)]
def longM (M : MachD) : MachD := ⟨longW M.watches, M.rooms, M.doors⟩
def cutD (r : Str) (d : DoorD) : DoorD := if r = d.st ∨ r = d.en then ⟨d.st, d.en, "cut!", d.looks, d.backs⟩ else d
def cutM (r : Str) (M : MachD) : MachD := ⟨M.watches, M.rooms, M.doors.map (cutD r)⟩
theorem lookOk_mono {ws W W' : List Str} {l : Lq} (h : ∀ x ∈ W, x ∈ W') (k : lookOk ws W l = true) : lookOk ws W' l = true := by
  unfold lookOk at k ⊢
  rw [Bool.and_eq_true, Bool.and_eq_true] at k ⊢
  exact ⟨⟨decide_eq_true (h _ (of_decide_eq_true k.1.1)), k.1.2⟩, k.2⟩
theorem guardOk_mono {ws W W' : List Str} {ls : List Lq} (h : ∀ x ∈ W, x ∈ W') (k : guardOk ws W ls = true) : guardOk ws W' ls = true := List.all_eq_true.mpr fun l hl => lookOk_mono h (List.all_eq_true.mp k l hl)
theorem roomOk_mono {W W' : List Str} {r : Rq} (h : ∀ x ∈ W, x ∈ W') (k : roomOk W r = true) : roomOk W' r = true := by
  unfold roomOk at k ⊢
  rw [Bool.and_eq_true] at k ⊢
  exact ⟨k.1, guardOk_mono h k.2⟩
theorem doorOk_mono {W W' ns : List Str} {d : DoorD} (h : ∀ x ∈ W, x ∈ W') (k : doorOk W ns d = true) : doorOk W' ns d = true := by
  unfold doorOk at k ⊢
  rw [Bool.and_eq_true, Bool.and_eq_true, Bool.and_eq_true, Bool.and_eq_true, Bool.and_eq_true, List.all_eq_true] at k ⊢
  obtain ⟨⟨⟨⟨⟨a, b⟩, c⟩, d'⟩, e⟩, f⟩ := k
  exact ⟨⟨⟨⟨⟨a, b⟩, c⟩, guardOk_mono h d'⟩, fun x hx => decide_eq_true (h x (of_decide_eq_true (e x hx)))⟩, f⟩
theorem MachOk.areW {M : MachD} (h : MachOk M) : areW M.watches = true := by unfold ZW.areW; rw [decide_eq_true h.w7, h.wok, decide_eq_true h.wnd]; rfl
theorem MachOk.more {M : MachD} {W : List Str} (h : MachOk M) (sub : ∀ x ∈ M.watches, x ∈ W) (ha : ZW.areW W = true) : MachOk ⟨W, M.rooms, M.doors⟩ := by
  unfold ZW.areW at ha
  rw [Bool.and_eq_true, Bool.and_eq_true] at ha
  exact { w7 := of_decide_eq_true ha.1, wok := ha.2.1, wnd := of_decide_eq_true ha.2.2, rok := List.all_eq_true.mpr fun r hr => roomOk_mono sub (List.all_eq_true.mp h.rok r hr), rnd := h.rnd, rne := h.rne, r64 := h.r64
          dok := List.all_eq_true.mpr fun d hd => doorOk_mono sub (List.all_eq_true.mp h.dok d hd), d200 := h.d200, rsz := h.rsz, dsz := h.dsz }
theorem MachOk.long {M : MachD} (h : MachOk M) (ha : ZW.areW (longW M.watches) = true) : MachOk (longM M) := h.more (fun x hx => List.mem_append_left _ hx) ha
theorem cutD_ok {W ns : List Str} {r : Str} {d : DoorD} (k : doorOk W ns d = true) : doorOk W ns (cutD r d) = true := by
  unfold cutD
  split
  · unfold doorOk at k ⊢
    rw [Bool.and_eq_true, Bool.and_eq_true, Bool.and_eq_true, Bool.and_eq_true, Bool.and_eq_true] at k ⊢
    obtain ⟨⟨⟨⟨⟨a, b⟩, c⟩, d'⟩, e⟩, f⟩ := k
    exact ⟨⟨⟨⟨⟨show okSign "cut!" = true by decide +kernel, b⟩, c⟩, d'⟩, e⟩, f⟩
  · exact k
theorem cutD_looks {r : Str} {d : DoorD} : (cutD r d).looks = d.looks := by unfold cutD; split <;> rfl
theorem cutD_backs {r : Str} {d : DoorD} : (cutD r d).backs = d.backs := by unfold cutD; split <;> rfl
theorem cutD_st {r : Str} {d : DoorD} : (cutD r d).st = d.st := by unfold cutD; split <;> rfl
theorem cutD_en {r : Str} {d : DoorD} : (cutD r d).en = d.en := by unfold cutD; split <;> rfl
theorem MachOk.cut {M : MachD} (h : MachOk M) (r : Str) : MachOk (cutM r M) := { w7 := h.w7, wok := h.wok, wnd := h.wnd, rok := h.rok, rnd := h.rnd, rne := h.rne, r64 := h.r64
                                                                                 dok := List.all_eq_true.mpr fun d hd => by
                                                                                   obtain ⟨d', hd', rfl⟩ := List.mem_map.mp hd
                                                                                   exact cutD_ok (List.all_eq_true.mp h.dok d' hd')
                                                                                 d200 := by show (M.doors.map _).length ≤ 200; rw [List.length_map]; exact h.d200
                                                                                 rsz := h.rsz
                                                                                 dsz := fun d hd => by
                                                                                   obtain ⟨d', hd', rfl⟩ := List.mem_map.mp hd
                                                                                   rw [cutD_looks]; exact h.dsz d' hd' }
theorem MachOk.lq {M : MachD} (h : MachOk M) {r : Rq} (hr : r ∈ M.rooms) : RqOk r := (h.room hr).2.2
theorem MachOk.dlooks {M : MachD} (h : MachOk M) {d : DoorD} (hd : d ∈ M.doors) : LooksOk d := by
  have k := h.door hd
  exact ⟨fun l hl => look_ok (ws := ["<", "<=", ">", ">=", "="]) (by decide +kernel) h.watch (List.all_eq_true.mp k.2.2.2.1 l hl), fun x hx => okWatch_tx (h.watch x (k.2.2.2.2.1 x hx))⟩
theorem MachOk.names {M : MachD} (h : MachOk M) {x : Str} (hx : x ∈ M.rooms.map (·.1)) : TxOk x := by
  obtain ⟨r, hr, rfl⟩ := List.mem_map.mp hx
  exact (h.lq hr).1
theorem lay_strs {xs : List Str} (h : ∀ x ∈ xs, TxOk x) : (PyData.list (xs.map PyData.str)).canLay0 = true ∧ (PyData.list (xs.map PyData.str)).depth ≤ 2 := lay_listM fun d hd => by
  obtain ⟨x, hx, rfl⟩ := List.mem_map.mp hd
  exact ⟨h x hx, Nat.zero_le _⟩
/-- what is told of a machine -/
def TM (H : Hp) (q : Addr) (M : MachD) : Prop := ∃ w r d, H q = some (.tup [.ref w, .ref r, .ref d]) ∧ H w = some (.lst (M.watches.map V.str)) ∧ RsAt H r M.rooms ∧ SeqOf TDAt H d M.doors
theorem TM.keep {H H' : Hp} {q : Addr} {M : MachD} (s : Same H H') (h : TM H q M) : TM H' q M := by
  obtain ⟨w, r, d, a, b, c, e⟩ := h
  exact ⟨w, r, d, s _ _ a, s _ _ b, c.keep s, SeqOf.keep (fun _ _ => TDAt.keep _ _ _ _ s) s e⟩
def ddat (d : DoorD) : PyData := .tuple [.str d.st, .str d.en, .list (d.looks.map ldat), .list (d.backs.map PyData.str), .str d.sg]
def mdat (M : MachD) : PyData := .tuple [.list (M.watches.map PyData.str), .list (M.rooms.map rdat), .list (M.doors.map ddat)]
section
variable {K : PySem.W.Frag} {H : Hp} {q : Addr}
theorem dp_td {d : DoorD} (h : TDAt H q d) : Dp K H (.ref q) (ddat d) := by
  obtain ⟨g, n, a, b, c⟩ := h
  exact .tup (.of a) (.cons (.str _) (.cons (.str _) (.cons (dp_ls b) (.cons (names_dp c) (.cons (.str _) .nil)))))
theorem dp_tds {ds : List DoorD} (h : SeqOf TDAt H q ds) : Dp K H (.ref q) (.list (ds.map ddat)) := dp_seq (fun _ _ h => dp_td h) h
theorem dp_tm {M : MachD} (h : TM H q M) : Dp K H (.ref q) (mdat M) := by
  obtain ⟨w, r, d, a, b, c, e⟩ := h
  exact .tup (.of a) (.cons (names_dp b) (.cons (dp_rs c) (.cons (dp_tds e) .nil)))
end
theorem okSign_tx {x : Str} (h : okSign x = true) : TxOk x := by
  unfold okSign at h
  rw [Bool.or_eq_true] at h
  rcases h with h | h
  · rw [of_decide_eq_true h]; show PyData.strOk _ = true; decide +kernel
  · cases e : x.cps.toList.getLast? with
    | none => rw [e] at h; cases h
    | some c =>
      rw [e] at h
      have h1 := of_decide_eq_true (Bool.and_eq_true_iff.mp h).1
      have h2 := okName_tx (Bool.and_eq_true_iff.mp h).2
      refine txok_of fun z hz => ?_
      have s0 : HT.sIx x.length 0 none = 0 := rfl
      have s1 : HT.sIx x.length x.length (some (-1)) = x.length - 1 := by
        unfold HT.sIx
        simp only [show ((-1 : Int) < 0) from by decide, if_true]
        omega
      have len : x.length = x.cps.toList.length := by unfold Str.length; exact Array.length_toList.symm
      have hx : x.cps.toList = x.cps.toList.dropLast ++ [c] := by
        obtain ⟨ys, hys⟩ := List.getLast?_eq_some_iff.mp e
        rw [hys]; simp
      have h3 : ∀ z ∈ x.cps.toList.dropLast, z < 0x110000 := fun z hz => by
        have h2 : PyData.strOk (cutS x none (some (-1))) = true := h2
        unfold PyData.strOk cutS at h2
        rw [s0, s1, ← Array.all_toList, List.all_eq_true] at h2
        have := h2 z (by
          rw [List.dropLast_eq_take] at hz
          simp only [List.drop_zero, Nat.sub_zero]
          rw [len]; simpa using hz)
        exact of_decide_eq_true this
      rw [hx] at hz
      rcases List.mem_append.mp hz with hz | hz
      · exact h3 z hz
      · have : z = c := by simpa using hz
        rw [this]
        exact (by decide +kernel : ∀ c ∈ ("!?" : Str).cps.toList, c < 0x110000) c h1
theorem lay_ddat {M : MachD} (h : MachOk M) {d : DoorD} (hd : d ∈ M.doors) : (ddat d).canLay0 = true ∧ (ddat d).depth ≤ 4 := lay_tup (k := 3) fun e he => by
  have k := h.door hd
  have l := h.dlooks hd
  simp only [List.mem_cons, List.not_mem_nil, or_false] at he
  rcases he with rfl | rfl | rfl | rfl | rfl
  · exact ⟨h.names k.2.1, Nat.zero_le _⟩
  · exact ⟨h.names k.2.2.1, Nat.zero_le _⟩
  · exact lay_ldats l.1
  · have := lay_strs l.2; exact ⟨this.1, by omega⟩
  · exact ⟨okSign_tx k.1, Nat.zero_le _⟩
theorem lay_mdat {M : MachD} (h : MachOk M) : (mdat M).canLay0 = true ∧ (mdat M).depth ≤ 6 := lay_tup (k := 5) fun e he => by
  simp only [List.mem_cons, List.not_mem_nil, or_false] at he
  rcases he with rfl | rfl | rfl
  · have := lay_strs fun x hx => okWatch_tx (h.watch x hx); exact ⟨this.1, by omega⟩
  · exact lay_rdats fun r hr => h.lq hr
  · exact lay_listM (k := 4) fun e he => by
      obtain ⟨d, hd, rfl⟩ := List.mem_map.mp he
      exact lay_ddat h hd
theorem shaped_mdat {M : MachD} (h : MachOk M) : SeqAt.shaped (mdat M) = true := Bool.and_eq_true_iff.mpr ⟨(lay_mdat h).1, decide_eq_true (by have := (lay_mdat h).2; omega)⟩
theorem areW_iff {W : List Str} : areW W = true ↔ W.length ≤ 7 ∧ (∀ x ∈ W, okWatch x = true) ∧ W.Nodup := by
  unfold areW
  rw [Bool.and_eq_true, Bool.and_eq_true, List.all_eq_true]
  exact ⟨fun h => ⟨of_decide_eq_true h.1, h.2.1, of_decide_eq_true h.2.2⟩, fun h => ⟨decide_eq_true h.1, h.2.1, decide_eq_true h.2.2⟩⟩
theorem areW_long {W : List Str} (h : areW W = true) (a : ("/" : Str) ∉ W) (b : W.length ≤ 6) : areW (longW W) = true := by
  obtain ⟨h1, h2, h3⟩ := areW_iff.mp h
  refine areW_iff.mpr ⟨by unfold longW; simp; omega, fun x hx => ?_, List.nodup_append.mpr ⟨h3, by simp, fun x hx y hy e => ?_⟩⟩
  · rcases List.mem_append.mp hx with k | k
    · exact h2 x k
    · rw [show x = "/" by simpa using k]; decide +kernel
  · rw [show y = "/" by simpa using hy] at e
    exact a (e ▸ hx)
theorem areW_long_no {W : List Str} (h : ("/" : Str) ∈ W ∨ 6 < W.length) : areW (longW W) = false := by
  refine Bool.eq_false_iff.mpr fun k => ?_
  obtain ⟨h1, h2, h3⟩ := areW_iff.mp k
  rcases h with h | h
  · exact (List.nodup_append.mp h3).2.2 _ h "/" (by simp) rfl
  · unfold longW at h1; simp at h1; omega
/-! ### the whole is a machine: plain -/
theorem join_cps (s x : Str) (xs : List Str) : (Txt.join s (x :: xs)).cps.toList = x.cps.toList ++ xs.flatMap fun p => s.cps.toList ++ p.cps.toList := by
  have key : ∀ (xs : List Str) (acc : Array Nat), (xs.foldl (fun acc p => acc ++ s.cps ++ p.cps) acc).toList = acc.toList ++ xs.flatMap fun p => s.cps.toList ++ p.cps.toList := by
    intro xs
    induction xs with
    | nil => intro acc; simp
    | cons p xs ih => intro acc; rw [List.foldl_cons, ih, List.flatMap_cons]; simp
  show ((((x :: xs).drop 1).foldl (fun acc p => acc ++ s.cps ++ p.cps) (((x :: xs).headD Str.empty).cps)) : Array Nat).toList = _
  rw [List.drop_succ_cons, List.drop_zero, key]; rfl
theorem len_cps (x : Str) : x.length = x.cps.toList.length := by unfold Str.length; exact Array.length_toList.symm
theorem okT_cs {x s : Str} {m : Int} (h : okT x s m = true) : 1 ≤ x.length ∧ ∀ c ∈ x.cps.toList, c ∈ s.cps.toList := by
  unfold okT at h
  rw [Bool.and_eq_true, Bool.and_eq_true, List.all_eq_true] at h
  exact ⟨by have := of_decide_eq_true h.1.1; omega, fun c hc => of_decide_eq_true (h.2 c hc)⟩
theorem okT_of {x s : Str} {m : Nat} (h1 : 1 ≤ x.length) (h2 : x.length ≤ m) (h3 : ∀ c ∈ x.cps.toList, c ∈ s.cps.toList) : okT x s (m : Int) = true := by
  unfold okT
  rw [Bool.and_eq_true, Bool.and_eq_true, List.all_eq_true]
  exact ⟨⟨decide_eq_true (by omega), decide_eq_true (by omega)⟩, fun c hc => decide_eq_true (h3 c hc)⟩
abbrev roomSigns : Str := letters ++ ("/" : Str)
theorem join_okT {xs : List Str} (hne : xs ≠ []) (h : ∀ x ∈ xs, okT x roomSigns 60 = true) (hl : (Txt.join "/" xs).length ≤ 60) : okT (Txt.join "/" xs) roomSigns 60 = true := by
  cases xs with
  | nil => exact absurd rfl hne
  | cons x xs =>
    have hx := okT_cs (h x List.mem_cons_self)
    refine okT_of ?_ hl ?_
    · rw [len_cps, join_cps, List.length_append, ← len_cps]; omega
    · intro c hc
      rw [join_cps] at hc
      rcases List.mem_append.mp hc with k | k
      · exact hx.2 c k
      · obtain ⟨p, hp, k2⟩ := List.mem_flatMap.mp k
        rcases List.mem_append.mp k2 with k3 | k3
        · exact (by decide +kernel : ∀ c ∈ ("/" : Str).cps.toList, c ∈ roomSigns.cps.toList) c k3
        · exact (okT_cs (h p (List.mem_cons_of_mem _ hp))).2 c k3
theorem rows_mem {Ms : List MachD} {row : Row} (h : RowOk Ms row) : row ∈ rowsP Ms := by
  have key : ∀ (k : Nat), k ≤ Ms.length → row.take k ∈ rowsP (Ms.take k) := by
    intro k
    induction k with
    | zero => intro _; simp [rowsP]
    | succ k ih =>
      intro hk
      have hM := List.getElem?_eq_getElem (l := Ms) (i := k) (by omega)
      have hz := List.getElem?_eq_getElem (l := row) (i := k) (by have := h.1; omega)
      rw [take_snoc hM, take_snoc hz, rowsP_snoc]
      exact List.mem_flatMap.mpr ⟨_, ih (by omega), List.mem_map.mpr ⟨_, h.2 k _ _ hz hM, rfl⟩⟩
  have := key Ms.length (Nat.le_refl _)
  rw [List.take_length, List.take_of_length_le (by have := h.1; omega)] at this
  exact this
structure TogOk (Ms : List MachD) : Prop where
  ok : ∀ M ∈ Ms, MachOk M
  l1 : 1 ≤ Ms.length
  l6 : Ms.length ≤ 6
  wnd : (wholeW Ms).Nodup
  w7 : (wholeW Ms).length ≤ 7
  r64 : manyR Ms ≤ 64
  d800 : doorsN Ms ≤ 800
  nnd : ((wholeR Ms).map (·.1)).Nodup
  n60 : ∀ row ∈ rowsP Ms, (rowName row).length ≤ 60
  s60 : ∀ row ∈ rowsP Ms, (row.flatMap (·.2)).length ≤ 60
  g60 : ∀ x ∈ doorsP Ms, x.1.looks.length ≤ 60
def togM (Ms : List MachD) : MachD := ⟨wholeW Ms, wholeR Ms, (doorsP Ms).map (·.1)⟩
theorem wholeW_sub {Ms : List MachD} {M : MachD} (h : M ∈ Ms) : ∀ x ∈ M.watches, x ∈ wholeW Ms := fun x hx => List.mem_flatMap.mpr ⟨M, h, hx⟩
theorem row_at {Ms : List MachD} {row : Row} (h : RowOk Ms row) {z : Rq} (hz : z ∈ row) : ∃ M ∈ Ms, z ∈ M.rooms := by
  obtain ⟨k, hk, rfl⟩ := List.mem_iff_getElem.mp hz
  have hM := List.getElem?_eq_getElem (l := Ms) (i := k) (by have := h.1; omega)
  exact ⟨_, List.mem_of_getElem? hM, h.2 k _ _ (List.getElem?_eq_getElem hk) hM⟩
theorem row_names {Ms : List MachD} (ok : ∀ M ∈ Ms, MachOk M) {row : Row} (h : RowOk Ms row) : ∀ x ∈ row.map (·.1), okT x roomSigns 60 = true := fun x hx => by
  obtain ⟨z, hz, rfl⟩ := List.mem_map.mp hx
  obtain ⟨M, hM, hr⟩ := row_at h hz
  have := List.all_eq_true.mp (ok M hM).rok z hr
  unfold roomOk at this
  exact (Bool.and_eq_true_iff.mp this).1
theorem TogOk.rooms {Ms : List MachD} (h : TogOk Ms) : MachOk ⟨wholeW Ms, wholeR Ms, []⟩ where
  w7 := h.w7
  wok := List.all_eq_true.mpr fun x hx => by
    obtain ⟨M, hM, hx'⟩ := List.mem_flatMap.mp hx
    exact (h.ok M hM).watch x hx'
  wnd := h.wnd
  rok := List.all_eq_true.mpr fun r hr => by
    obtain ⟨row, hrow, rfl⟩ := List.mem_map.mp hr
    have rk := rows_ok Ms row hrow
    have ne : row ≠ [] := fun e => by have h1 := rk.1; have h2 := h.l1; rw [e] at h1; simp at h1; omega
    unfold roomOk
    rw [Bool.and_eq_true]
    refine ⟨join_okT (by simpa using ne) (row_names h.ok rk) (h.n60 row hrow), List.all_eq_true.mpr fun l hl => ?_⟩
    obtain ⟨z, hz, hl'⟩ := List.mem_flatMap.mp hl
    obtain ⟨M, hM, hr'⟩ := row_at rk hz
    have := List.all_eq_true.mp (h.ok M hM).rok z hr'
    unfold roomOk at this
    exact lookOk_mono (wholeW_sub hM) (List.all_eq_true.mp (Bool.and_eq_true_iff.mp this).2 l hl')
  rnd := h.nnd
  rne := fun e => by
    have e : wholeR Ms = [] := e
    have h1 := rows_len Ms
    have h2 := manyR_pos (Ms := Ms) fun M hM => (h.ok M hM).rne
    have h3 : (wholeR Ms).length = 0 := by rw [e]; rfl
    unfold wholeR at h3
    rw [List.length_map] at h3
    omega
  r64 := by show (wholeR Ms).length ≤ 64; unfold wholeR; rw [List.length_map, rows_len]; exact h.r64
  dok := rfl
  d200 := Nat.zero_le _
  rsz := fun r hr => by
    obtain ⟨row, hrow, rfl⟩ := List.mem_map.mp hr
    exact h.s60 row hrow
  dsz := fun d hd => by cases hd
/-- what a share looks like -/
theorem goers_shape {Ms : List MachD} {x : Nat × Nat} {sh : Share} (h : sh ∈ goersP Ms x) : ∃ d, doorAt Ms x = some d ∧ (sh = [x] ∨ ∃ o d', sh = [x, o] ∧ o.1 ≠ x.1 ∧ doorAt Ms o = some d') := by
  unfold goersP at h
  cases hd : doorAt Ms x with
  | none => rw [hd] at h; cases h
  | some d =>
    rw [hd] at h
    dsimp only at h
    refine ⟨d, rfl, ?_⟩
    split at h
    · exact .inl (by simpa using h)
    · split at h
      · obtain ⟨o, ho, rfl⟩ := List.mem_map.mp h
        obtain ⟨⟨d', h1, _⟩, h2⟩ := ans_ok _ ho
        exact .inr ⟨o, d', rfl, h2, h1⟩
      · cases h
theorem doorAt_ok {Ms : List MachD} (ok : ∀ M ∈ Ms, MachOk M) {x : Nat × Nat} {d : DoorD} (h : doorAt Ms x = some d) : ∃ M, Ms[x.1]? = some M ∧ M ∈ Ms ∧ d ∈ M.doors := by
  obtain ⟨M, hM, hd⟩ := Option.bind_eq_some_iff.mp h
  exact ⟨M, hM, List.mem_of_getElem? hM, List.mem_of_getElem? hd⟩
/-- a door leads from a row to a row -/
theorem end_row {Ms : List MachD} (ok : ∀ M ∈ Ms, MachOk M) : ∀ (sh : Share) (row : Row), RowOk Ms row → (∀ x ∈ sh, ∃ d, doorAt Ms x = some d) → ∃ row', RowOk Ms row' ∧ row'.map (·.1) = endP Ms (row.map (·.1)) sh := by
  intro sh
  induction sh with
  | nil => intro row h _; exact ⟨row, h, rfl⟩
  | cons x sh ih =>
    intro row h hs
    obtain ⟨d, hd⟩ := hs x List.mem_cons_self
    obtain ⟨M, hM, hm, hdm⟩ := doorAt_ok ok hd
    obtain ⟨z, hz, ez⟩ := List.mem_map.mp ((ok M hm).door hdm).2.2.1
    have h2 : RowOk Ms (row.set x.1 z) := ⟨by rw [List.length_set]; exact h.1, fun i z' M' h1 h2 => by
      rw [List.getElem?_set] at h1
      split at h1
      · rename_i e
        subst e
        split at h1
        · cases h1
          rw [hM] at h2; cases h2; exact hz
        · cases h1
      · exact h.2 i z' M' h1 h2⟩
    obtain ⟨row', k1, k2⟩ := ih _ h2 fun y hy => hs y (List.mem_cons_of_mem _ hy)
    refine ⟨row', k1, k2.trans ?_⟩
    unfold endP
    rw [List.foldl_cons, hd]
    show List.foldl _ _ sh = List.foldl _ _ sh
    rw [List.map_set, ez]
theorem backs_two {Ms : List MachD} (h : TogOk Ms) {x o : Nat × Nat} {d d' : DoorD} (hd : doorAt Ms x = some d) (hd' : doorAt Ms o = some d') (ne : o.1 ≠ x.1) : ∀ a ∈ d.backs, ∀ b ∈ d'.backs, a ≠ b := by
  obtain ⟨M, hM, hm, hdm⟩ := doorAt_ok h.ok hd
  obtain ⟨M', hM', hm', hdm'⟩ := doorAt_ok h.ok hd'
  have key : ∀ (Ms : List MachD) (i j : Nat) (M M' : MachD), (wholeW Ms).Nodup → i < j → Ms[i]? = some M → Ms[j]? = some M' → ∀ a ∈ M.watches, ∀ b ∈ M'.watches, a ≠ b := by
    intro Ms
    induction Ms with
    | nil => intro i j M M' _ _ h; simp at h
    | cons N Ms ih =>
      intro i j M M' nd ij h1 h2 a ha b hb
      unfold wholeW at nd
      rw [List.flatMap_cons, List.nodup_append] at nd
      cases j with
      | zero => omega
      | succ j =>
        rw [List.getElem?_cons_succ] at h2
        cases i with
        | zero =>
          rw [List.getElem?_cons_zero] at h1
          cases h1
          exact nd.2.2 a ha b (wholeW_sub (List.mem_of_getElem? h2) b hb)
        | succ i => exact ih i j M M' nd.2.1 (by omega) (by simpa using h1) h2 a ha b hb
  intro a ha b hb
  have wa := ((h.ok M hm).door hdm).2.2.2.2.1 a ha
  have wb := ((h.ok M' hm').door hdm').2.2.2.2.1 b hb
  rcases Nat.lt_or_gt_of_ne ne with k | k
  · exact fun e => key Ms _ _ M' M h.wnd k hM' hM b wb a wa e.symm
  · exact key Ms _ _ M M' h.wnd k hM hM' a wa b wb
theorem TogOk.mach {Ms : List MachD} (h : TogOk Ms) (h200 : (doorsP Ms).length ≤ 200) : MachOk (togM Ms) := { h.rooms with
  dok := List.all_eq_true.mpr fun d hd => by
    obtain ⟨x, hx, rfl⟩ := List.mem_map.mp hd
    obtain ⟨sh, hsh, hx2⟩ := List.mem_flatMap.mp hx
    obtain ⟨row, hrow, hx3⟩ := List.mem_filterMap.mp hx2
    obtain ⟨d, hd', rfl⟩ := Option.map_eq_some_iff.mp hx3
    obtain ⟨M, hM, hsh2⟩ := List.mem_flatMap.mp hsh
    obtain ⟨a, _, hsh3⟩ := List.mem_flatMap.mp hsh2
    obtain ⟨d1, hd1, shape⟩ := goers_shape hsh3
    have rk := rows_ok Ms row hrow
    unfold doorP at hd'
    split at hd'
    · have hd' := Option.some.inj hd'
      subst hd'
      have hall : ∀ y ∈ sh, ∃ d, doorAt Ms y = some d := fun y hy => by
        rcases shape with rfl | ⟨o, d2, rfl, _, h2⟩
        · exact ⟨d1, by rw [show y = (M.2, a) by simpa using hy]; exact hd1⟩
        · simp only [List.mem_cons, List.not_mem_nil, or_false] at hy
          rcases hy with rfl | rfl
          · exact ⟨d1, hd1⟩
          · exact ⟨d2, h2⟩
      obtain ⟨row', rk', er'⟩ := end_row h.ok sh row rk hall
      have dk : ∀ {y : Nat × Nat} {d : DoorD}, doorAt Ms y = some d → guardOk ["<", "<=", ">", ">=", "="] (wholeW Ms) d.looks = true ∧ (∀ b ∈ d.backs, b ∈ wholeW Ms) ∧ d.backs.Nodup := fun {y d} e => by
        obtain ⟨M, _, hm, hdm⟩ := doorAt_ok h.ok e
        have k := (h.ok M hm).door hdm
        exact ⟨guardOk_mono (wholeW_sub hm) k.2.2.2.1, fun b hb => wholeW_sub hm b (k.2.2.2.2.1 b hb), k.2.2.2.2.2.1⟩
      have mem : ∀ {r : Row}, r ∈ rowsP Ms → Txt.join "/" (r.map (·.1)) ∈ (wholeR Ms).map (·.1) := fun {r} hr => List.mem_map.mpr ⟨_, List.mem_map.mpr ⟨r, hr, rfl⟩, rfl⟩
      have m1 := mem hrow
      have m2 := mem (rows_mem rk')
      rw [er'] at m2
      unfold doorOk
      rw [Bool.and_eq_true, Bool.and_eq_true, Bool.and_eq_true, Bool.and_eq_true, Bool.and_eq_true, List.all_eq_true]
      refine ⟨⟨⟨⟨⟨show okSign "" = true by decide +kernel, decide_eq_true m1⟩, decide_eq_true m2⟩, ?_⟩, ?_⟩, decide_eq_true ?_⟩
      · refine List.all_eq_true.mpr fun l hl => ?_
        obtain ⟨y, hy, hl'⟩ := List.mem_flatMap.mp hl
        obtain ⟨d, e⟩ := hall y hy
        rw [e] at hl'
        exact List.all_eq_true.mp (dk e).1 l hl'
      · intro b hb
        obtain ⟨y, hy, hb'⟩ := List.mem_flatMap.mp hb
        obtain ⟨d, e⟩ := hall y hy
        rw [e] at hb'
        exact decide_eq_true ((dk e).2.1 b hb')
      · show (backsP Ms sh).Nodup
        unfold backsP
        rcases shape with rfl | ⟨o, d2, rfl, ne, h2⟩
        · rw [List.flatMap_cons, List.flatMap_nil, List.append_nil, hd1]
          exact (dk hd1).2.2
        · rw [List.flatMap_cons, List.flatMap_cons, List.flatMap_nil, List.append_nil, hd1, h2]
          exact List.nodup_append.mpr ⟨(dk hd1).2.2, (dk h2).2.2, backs_two h hd1 h2 ne⟩
    · cases hd'
  d200 := by show ((doorsP Ms).map (·.1)).length ≤ 200; rw [List.length_map]; exact h200
  dsz := fun d hd => by
    obtain ⟨x, hx, rfl⟩ := List.mem_map.mp hd
    exact h.g60 x hx }
abbrev togKeep {C : Addr} : ∀ (H H' : Hp) (q : Addr) (x : DoorD), Same H H' → DoorAt C H q x → DoorAt C H' q x := fun _ _ _ _ s h => DoorAt.keep s h
/-- a machine beside lists that stood before -/
def MachF (CM CD : Addr) (H0 H : Hp) (q : Addr) (M : MachD) : Prop := MachAt CM CD H q M ∧ ∀ U : Addr → Prop, ListsU U H0 → MachAt CM CD (remU U H) q M
theorem MachF.keep {CM CD : Addr} {H0 H H' : Hp} {q : Addr} {M : MachD} (s : Same H H') (h : MachF CM CD H0 H q M) : MachF CM CD H0 H' q M := ⟨h.1.keep s, fun U u => (h.2 U u).keep (rem_same s)⟩
def DrF (CD : Addr) (H0 H : Hp) (q : Addr) (d : DoorD) : Prop := DoorAt CD H q d ∧ ∀ U : Addr → Prop, ListsU U H0 → DoorAt CD (remU U H) q d
theorem DrF.keep {CD : Addr} {H0 : Hp} : ∀ (H H' : Hp) (q : Addr) (d : DoorD), Same H H' → DrF CD H0 H q d → DrF CD H0 H' q d := fun _ _ _ _ s h => ⟨h.1.keep s, fun U u => (h.2 U u).keep (rem_same s)⟩
/-- a share that is a list not seen before -/
def ShN (H0 H : Hp) (q : Addr) (sh : Share) : Prop := ShAt H q sh ∧ H0 q = none
theorem ShN.keep {H0 : Hp} : ∀ (H H' : Hp) (q : Addr) (x : Share), Same H H' → ShN H0 H q x → ShN H0 H' q x := fun _ _ _ _ s h => ⟨ShAt.keep _ _ _ _ s h.1, h.2⟩
def JoinAt (CM CD : Addr) (H0 H : Hp) (q : Addr) (Ms : List MachD) : Prop := ∃ pm ps, H q = some (.tup [.ref pm, .ref ps]) ∧ MachF CM CD H0 H pm (togM Ms) ∧ SeqD (ShN H0) H ps ((doorsP Ms).map (·.2))
def spJoined (K : PySem.W.Frag) (CM CD CT : Addr) : Sp := fun vs H Q E => ∃ (p : Addr) (Ms : List MachD), vs = [.ref p] ∧ MsAt CM CD H p Ms ∧ TogOk Ms ∧ ((doorsP Ms).length ≤ 200 → ∀ q H', Same H H' → JoinAt CM CD H H' q Ms → Q (.ref q) H') ∧ (200 < (doorsP Ms).length → ∀ H', Same H H' → E (.ref CT) none H')
theorem ok_joined (T : Top K mg) : FnOk P w K mg base (L2.CX P w) 8 T.f_joined T.d_joined ["machines"] (spJoined K T.C_Machine T.C_Door T.C_TooMany) := by
  refine T.F_joined.okX sc_joined (fun vs H Q E h => ?_) (fun cdv A outer s H vs Q E hr h => ?_)
  · obtain ⟨p, Ms, rfl, _⟩ := h; rfl
  · obtain ⟨p, Ms, rfl, hms, tog, q1, q2⟩ := h
    refine ⟨_, (pss_cons (ps_set (i := 1) sc_joined.nd rfl (.inl rfl) (pe_call (ok_watches_of T) (hr.mono (by decide)) rfl T.g_watches_of T.F_watches_of.kp T.b_watches_of .nil (passes_call (takes_of rfl rfl rfl rfl) (fun _ _ _ _ z => z)) (pa_cons (pv 0) pa_nil)))
      (pss_cons (ps_set (i := 2) sc_joined.nd rfl (.inl rfl) (pe_call (ok_rooms_of T) (hr.mono (by decide)) rfl T.g_rooms_of T.F_rooms_of.kp T.b_rooms_of .nil (passes_call (takes_of rfl rfl rfl rfl) (fun _ _ _ _ z => z)) (pa_cons (pv 0) pa_nil)))
      (pss_cons (lc_vsS (vs := [5]) (ps_setLc (i := 3) (own := [("room", 5)]) (g := gName 5) (tt := tYes) rfl sc_joined.nd rfl rfl (sw_true rfl rfl rfl (by decide +kernel)) (pi_listA (K := K) rfl (pv 2)) (blkOk_by (own := [("room", 5)]) (N := ["machines", "watches", "rooms", "named", "doors", "room", "door", "share"]) (sc := defScope s_joined) (by decide +kernel)) (fun _ _ _ _ _ => (pg_name (i := 5) sc_joined.nd rfl (.inl rfl))) (fun _ _ _ _ _ => pts_nil) (fun _ _ _ _ _ => (pe_tupN (pa_cons (pe_joinA (K := K) rfl pe_str (pv 5)) (pa_cons (pe_call (ok_stay_of T) (hr.mono (by decide)) rfl T.g_stay_of T.F_stay_of.kp T.b_stay_of .nil pass0 (pa_cons (pv 0) (pa_cons (pv 5) pa_nil))) pa_nil))))) rfl)
      (pss_cons (ps_expr (pe_makeN T.mk_Machine (ok_Machine_init T) (hr.mono (by decide)) rfl T.g_Machine T.b_Machine_init .nil (passes_call (takes_of rfl rfl rfl rfl) (fun _ _ _ _ z => z)) (pa_cons (pv 1) (pa_cons (pv 3) (pa_cons (pe_lstN pa_nil) pa_nil)))))
      (pss_cons (ps_set (i := 4) sc_joined.nd rfl (.inl rfl) (pe_call (ok_doors_of T) (hr.mono (by decide)) rfl T.g_doors_of T.F_doors_of.kp T.b_doors_of .nil (passes_call (takes_of rfl rfl rfl rfl) (fun _ _ _ _ z => z)) (pa_cons (pv 0) (pa_cons (pv 2) pa_nil))))
      (pss_one (ps_ret (pe_tupN (pa_cons (pe_makeN T.mk_Machine (ok_Machine_init T) (hr.mono (by decide)) rfl T.g_Machine T.b_Machine_init .nil (passes_call (takes_of rfl rfl rfl rfl) (fun _ _ _ _ z => z)) (pa_cons (pv 1) (pa_cons (pv 3) (pa_cons (lc_vs (vs := [6, 7]) (pe_lc (own := [("door", 6), ("share", 7)]) (tt := tYes) rfl sc_joined.nd (pi_listA (K := K) rfl (pv 4)) (blkOk_by (own := [("door", 6), ("share", 7)]) (N := ["machines", "watches", "rooms", "named", "doors", "room", "door", "share"]) (sc := defScope s_joined) (by decide +kernel)) (fun _ _ _ _ _ => (pg_tupA (K := K) (n := 2) rfl (by rfl) (pgs_cons (pg_name (i := 6) sc_joined.nd rfl (.inl rfl)) (pgs_cons (pg_name (i := 7) sc_joined.nd rfl (.inl rfl)) pgs_nil)))) (fun _ _ _ _ _ => pts_nil) (fun _ _ _ _ _ => (pv 6))) rfl) pa_nil)))) (pa_cons (lc_vs (vs := [6, 7]) (pe_lc (own := [("door", 6), ("share", 7)]) (tt := tYes) rfl sc_joined.nd (pi_listA (K := K) rfl (pv 4)) (blkOk_by (own := [("door", 6), ("share", 7)]) (N := ["machines", "watches", "rooms", "named", "doors", "room", "door", "share"]) (sc := defScope s_joined) (by decide +kernel)) (fun _ _ _ _ _ => (pg_tupA (K := K) (n := 2) rfl (by rfl) (pgs_cons (pg_name (i := 6) sc_joined.nd rfl (.inl rfl)) (pgs_cons (pg_name (i := 7) sc_joined.nd rfl (.inl rfl)) pgs_nil)))) (fun _ _ _ _ _ => pts_nil) (fun _ _ _ _ _ => (pe_callTy (call_listA (K := K) rfl) (by rfl) T.m_list (by decide +kernel) (pa_cons (pv 7) pa_nil)))) rfl) pa_nil)))))))))), ?_⟩
    have rlen := rows_len Ms
    have r64 := tog.r64
    have l6 := tog.l6
    refine seq_step ?_
    walk_at "rd"
    refine ⟨p, Ms, rfl, hms, tog.ok, tog.l1, tog.l6, fun _ wq H1 s1 f1 e1 => ?_, fun c => absurd ⟨tog.wnd, tog.w7⟩ c⟩
    walk_at "rd"
    refine seq_step ?_
    walk_at "rd"
    refine ⟨p, Ms, rfl, hms.keep s1, tog.ok, tog.l1, tog.l6, fun _ rq H2 s2 e2 => ?_, fun c => absurd c (by omega)⟩
    have s12 := s1.trans s2
    obtain ⟨rqs, r1, r2, r3⟩ := id e2
    walk_at "rd"
    refine seq_step ?_
    refine lcg_src ?_
    walk_at "rd"
    refine ⟨⟨_, .of r1⟩, ?_⟩
    refine lcMD (R := RqAt) RqAt.keep' (F := fun row : Row => ((rowName row, row.flatMap (·.2)) : Rq)) (zs := rowsP Ms) r1 (by simp [r2]) (by simp; omega) (fun i x z H3 Yes hx hz s3 hy => ?_) (fun nq H3 s3 f3 e3 => ?_)
    · rw [List.getElem?_map] at hx
      obtain ⟨qi, h1, rfl⟩ := Option.map_eq_some_iff.mp hx
      have ez := s3 _ _ (r3 i qi z h1 hz)
      have rk := rows_ok Ms z (List.mem_of_getElem? hz)
      walk_at "rd"
      refine ⟨⟨_, rfl⟩, _, rfl, _, _, z.map (fun r : Rq => r.1), rfl, rfl, .inr (sqt ez), join_ok (row_txt tog.ok rk) (by rw [List.length_map]; have := rk.1; omega) (by decide), ?_⟩
      refine ⟨p, qi, Ms, z, rfl, hms.keep (s12.trans s3), tog.ok, l6, ez, rk, fun lq H4 s4 f4 e4 => ?_⟩
      intro t H5 s5 f5 e5
      exact hy t H5 (s4.trans s5) fun D acc fD eD => ⟨lq, del_at (fun y => by rw [y, s4 _ _ eD] at f5; cases f5) e5, (LsAt.keep e4 s5).del (fun y => by rw [y, eD] at f4; cases f4) ((s4.trans s5) _ _ eD)⟩
    · have e3 : RsAt H3 nq (wholeR Ms) := e3.seq RqAt.keep'
      have s13 := s12.trans s3
      walk_at "rd"
      refine seq_step ?_
      walk_at "rd"
      simp only [tMakeN]
      walk_at "rd"
      intro l0 H4 s4 f4 e4 pm0 dx0 H5 s5 f5 e5
      have s45 := s4.trans s5
      refine .inl ⟨pm0, dx0, wq, nq, l0, ⟨wholeW Ms, wholeR Ms, []⟩, rfl, e5, (s2.trans (s3.trans s45)) _ _ e1, e3.keep s45, ⟨[], s5 _ _ e4, rfl, fun i q x h => by simp at h⟩, tog.rooms, fun H6 off0 _ _ => ⟨rfl, ?_⟩⟩
      have s46 : Same H4 H6 := fun b o e => off0.2 b o (s5 _ _ e) fun y => by rw [y, f5] at e; cases e
      have s36 := s4.trans s46
      have s26 := s3.trans s36
      have s06 := s12.trans s26
      refine seq_step ?_
      walk_at "rd"
      refine ⟨p, rq, Ms, rfl, hms.keep s06, tog.ok, l6, tog.d800, SeqOf.keep (fun _ _ => TupS.keep _ _ _ _ s26) s26 e2, r64, fun h200 dq H7 s7 e7 => ?_, fun h H7 s7 => q2 h H7 (s06.trans s7)⟩
      have q1 := q1 h200
      have tm := tog.mach h200
      obtain ⟨dqs, d1, d2, d3⟩ := id e7
      walk_at "rd"
      simp only [tMakeN]
      walk_at "rd"
      refine lcg_src ?_
      walk_at "rd"
      refine ⟨⟨_, .of d1⟩, ?_⟩
      refine lcM (R := DrF T.C_Door H) DrF.keep (F := fun x : DoorD × Share => x.1) (zs := doorsP Ms) d1 (by simp [d2]) (by simp; omega) (fun i x z H8 Yes hx hz s8 hy => ?_) (fun cq H8 s8 f8 e8 => ?_)
      · rw [List.getElem?_map] at hx
        obtain ⟨qi, h1, rfl⟩ := Option.map_eq_some_iff.mp hx
        obtain ⟨pd, ps, z1, z2, _, z4⟩ := d3 i qi z h1 hz
        refine gTup_of (sqt (s8 _ _ z1)) rfl ?_
        walk_at "rd"
        exact hy pd H8 (Same.refl _) ⟨z2.keep (cut_same s8), fun U u => (z4 U fun b h => by obtain ⟨xs, e⟩ := u b h; exact ⟨xs, s06 _ _ e⟩).keep (rem_same (cut_same s8))⟩
      intro pm dx H9 s9 f9 e9
      have s89 := s8.trans s9
      obtain ⟨cqs, c1, c2, c3⟩ := id e8
      have s79 := s7.trans s89
      refine .inl ⟨pm, dx, wq, nq, cq, togM Ms, rfl, e9, (s2.trans (s26.trans s79)) _ _ e1, e3.keep (s36.trans s79), ⟨cqs, s9 _ _ c1, c2, fun i q x h1 h2 => (DrF.keep _ _ _ _ s9 (c3 i q x h1 h2)).1⟩, tm, fun H10 off mach rem => ⟨rfl, ?_⟩⟩
      have mF : MachF T.C_Machine T.C_Door H H10 pm (togM Ms) := ⟨mach, fun U u => rem U (fun b h => by obtain ⟨xs, e⟩ := u b h; exact ⟨xs, (s06.trans s79) _ _ e⟩) fun q d _ _ ⟨qs, i, x1, x2, x3⟩ => by
        have eqs := lst_inj x1 (s9 _ _ c1)
        subst eqs
        exact (DrF.keep _ _ _ _ s9 (c3 i q d x2 x3)).2 U u⟩
      have s810 : Same H8 H10 := fun b o e => off.2 b o (s9 _ _ e) fun y => by rw [y, f9] at e; cases e
      have s710 := s8.trans s810
      refine lcg_src ?_
      walk_at "rd"
      refine ⟨⟨_, .of (s710 _ _ d1)⟩, ?_⟩
      refine lcMD (R := ShN H) ShN.keep (F := fun x : DoorD × Share => x.2) (zs := doorsP Ms) (s710 _ _ d1) (by simp [d2]) (by simp; omega) (fun i x z H11 Yes hx hz s11 hy => ?_) (fun sq H11 s11 f11 e11 => ?_)
      · rw [List.getElem?_map] at hx
        obtain ⟨qi, h1, rfl⟩ := Option.map_eq_some_iff.mp hx
        obtain ⟨pd, ps, z1, _, ⟨us, u1, u2, u3⟩, _⟩ := d3 i qi z h1 hz
        have s711 := s710.trans s11
        refine gTup_of (sqt (s711 _ _ z1)) rfl ?_
        walk_at "rd"
        refine ⟨_, .inl (.of (s711 _ _ u1)), fun l H12 s12' f12 e12 => ?_⟩
        refine hy l H12 s12' fun D acc fD eD => ⟨⟨us, del_at (fun y => by rw [y, eD] at f12; cases f12) e12, u2, fun i q x h1 h2 => del_at (ne_of ((s711.trans s12') _ _ (u3 i q x h1 h2)) (s12' _ _ eD) (by intro z; cases z)) ((s711.trans s12') _ _ (u3 i q x h1 h2))⟩, (s06.trans (s7.trans s711)).free f12⟩
      walk_at "rd"
      intro t H12 s12' f12 e12
      exact q1 t H12 (s06.trans (s7.trans (s710.trans (s11.trans s12')))) ⟨pm, sq, e12, mF.keep (s11.trans s12'), e11.keep ShN.keep s12'⟩
def spTogether (K : PySem.W.Frag) (CM CD CT : Addr) : Sp := fun vs H Q E => ∃ (p : Addr) (Ms : List MachD), vs = [.ref p] ∧ MsAt CM CD H p Ms ∧ TogOk Ms ∧ ((doorsP Ms).length ≤ 200 → ∀ q H', Same H H' → MachF CM CD H H' q (togM Ms) → Q (.ref q) H') ∧ (200 < (doorsP Ms).length → ∀ H', Same H H' → E (.ref CT) none H')
theorem ok_together (T : Top K mg) : FnOk P w K mg base (L2.CX P w) 9 T.f_together T.d_together ["machines"] (spTogether K T.C_Machine T.C_Door T.C_TooMany) := by
  refine T.F_together.okX sc_together (fun vs H Q E h => ?_) (fun cdv A outer s H vs Q E hr h => ?_)
  · obtain ⟨p, Ms, rfl, _⟩ := h; rfl
  · obtain ⟨p, Ms, rfl, hms, tog, q1, q2⟩ := h
    refine ⟨_, (pss_one (ps_ret (pe_ix (ix_tupA (K := K) rfl) (pe_call (ok_joined T) (hr.mono (by decide)) rfl T.g_joined T.F_joined.kp T.b_joined .nil (passes_call (takes_of rfl rfl rfl rfl) (fun _ _ _ _ z => z)) (pa_cons (pv 0) pa_nil)) pe_int (fun _ _ => rfl)))), ?_⟩
    walk_at "rd"
    refine ⟨p, Ms, rfl, hms, tog, fun h200 q H1 s1 ⟨pm, ps, e1, m1, _⟩ => ?_, fun h H1 s1 => q2 h H1 s1⟩
    refine ix_t (sqt e1) (by decide) rfl ?_
    exact q1 h200 pm H1 s1 m1
def spShares (K : PySem.W.Frag) (CM CD CT : Addr) : Sp := fun vs H Q E => ∃ (p : Addr) (Ms : List MachD), vs = [.ref p] ∧ MsAt CM CD H p Ms ∧ TogOk Ms ∧ ((doorsP Ms).length ≤ 200 → ∀ q H', Same H H' → SeqD (ShN H) H' q ((doorsP Ms).map (·.2)) → Q (.ref q) H') ∧ (200 < (doorsP Ms).length → ∀ H', Same H H' → E (.ref CT) none H')
theorem ok_shares (T : Top K mg) : FnOk P w K mg base (L2.CX P w) 9 T.f_shares T.d_shares ["machines"] (spShares K T.C_Machine T.C_Door T.C_TooMany) := by
  refine T.F_shares.okX sc_shares (fun vs H Q E h => ?_) (fun cdv A outer s H vs Q E hr h => ?_)
  · obtain ⟨p, Ms, rfl, _⟩ := h; rfl
  · obtain ⟨p, Ms, rfl, hms, tog, q1, q2⟩ := h
    refine ⟨_, (pss_one (ps_ret (pe_ix (ix_tupA (K := K) rfl) (pe_call (ok_joined T) (hr.mono (by decide)) rfl T.g_joined T.F_joined.kp T.b_joined .nil (passes_call (takes_of rfl rfl rfl rfl) (fun _ _ _ _ z => z)) (pa_cons (pv 0) pa_nil)) pe_int (fun _ _ => rfl)))), ?_⟩
    walk_at "rd"
    refine ⟨p, Ms, rfl, hms, tog, fun h200 q H1 s1 ⟨pm, ps, e1, _, m1⟩ => ?_, fun h H1 s1 => q2 h H1 s1⟩
    refine ix_t (sqt e1) (by decide) rfl ?_
    exact q1 h200 ps H1 s1 m1
/-! ### the law's own parts -/
structure PartD where
  watches : List Str
  rooms : List Rq
  many : Nat
def PartAt (H : Hp) (q : Addr) (p : PartD) : Prop := ∃ w r, H q = some (.tup [.ref w, .ref r, .int p.many]) ∧ H w = some (.lst (p.watches.map V.str)) ∧ RsAt H r p.rooms
theorem PartAt.keep : ∀ (H H' : Hp) (q : Addr) (p : PartD), Same H H' → PartAt H q p → PartAt H' q p := fun _ _ _ _ s ⟨w, r, a, b, c⟩ => ⟨w, r, s _ _ a, s _ _ b, c.keep s⟩
structure PartOk (n : Nat) (p : PartD) : Prop where
  r1 : 1 ≤ p.rooms.length
  r4 : p.rooms.length ≤ 4
  nm : ∀ r ∈ p.rooms, okName r.1 = true ∧ r.1.length = n
  nd : (p.rooms.map (·.1)).Nodup
  st : ∀ r ∈ p.rooms, guardOk ["<", "<="] p.watches r.2 = true ∧ r.2.length ≤ 2
  m2 : p.many ≤ 2
def roomsN (ps : List PartD) : Nat := ps.foldl (fun k p => k * p.rooms.length) 1
structure PartsOk (ps : List PartD) : Prop where
  ok : ∃ n, ∀ p ∈ ps, PartOk n p
  l1 : 1 ≤ ps.length
  l5 : ps.length ≤ 5
  wok : ∀ x ∈ ps.flatMap (·.watches), okWatch x = true
  wnd : (ps.flatMap (·.watches)).Nodup
  w7 : (ps.flatMap (·.watches)).length ≤ 7
  r64 : roomsN ps ≤ 64
  few : (∀ p ∈ ps, p.many = 0) ∨ roomsN ps ≤ 12
def PartD.door (p : PartD) : DoorD := ⟨(p.rooms.headD ("", [])).1, (p.rooms.getLastD ("", [])).1, "", [], p.watches⟩
def PartD.mach (p : PartD) : MachD := ⟨p.watches, p.rooms, List.replicate p.many p.door⟩
theorem roomsN_mach (ps : List PartD) : manyR (ps.map PartD.mach) = roomsN ps := by
  unfold manyR roomsN; rw [List.foldl_map]; rfl
theorem wholeW_mach (ps : List PartD) : wholeW (ps.map PartD.mach) = ps.flatMap (·.watches) := by
  unfold wholeW; rw [List.flatMap_map]; rfl
theorem headD_mem {α : Type} {xs : List α} {d : α} (h : 1 ≤ xs.length) : xs.headD d ∈ xs := by cases xs with | nil => simp at h | cons x xs => simp
theorem lastD_mem {α : Type} {xs : List α} {d : α} (h : 1 ≤ xs.length) : xs.getLastD d ∈ xs := by
  cases xs with
  | nil => simp at h
  | cons x xs =>
    rw [List.getLastD_eq_getLast?, List.getLast?_eq_some_getLast (by simp)]
    exact List.getLast_mem _
theorem PartOk.mach {n : Nat} {p : PartD} (h : PartOk n p) (wok : ∀ x ∈ p.watches, okWatch x = true) (wnd : p.watches.Nodup) (w7 : p.watches.length ≤ 7) : MachOk p.mach where
  w7 := w7
  wok := List.all_eq_true.mpr wok
  wnd := wnd
  rok := List.all_eq_true.mpr fun r hr => by
    unfold roomOk
    rw [okName_okT (h.nm r hr).1]
    exact (h.st r hr).1
  rnd := h.nd
  rne := fun e => by have h1 := h.r1; rw [show p.rooms = [] from e] at h1; simp at h1
  r64 := by show p.rooms.length ≤ 64; have := h.r4; omega
  dok := List.all_eq_true.mpr fun d hd => by
    have hd := List.eq_of_mem_replicate hd
    subst hd
    unfold doorOk
    rw [Bool.and_eq_true, Bool.and_eq_true, Bool.and_eq_true, Bool.and_eq_true, Bool.and_eq_true, List.all_eq_true]
    exact ⟨⟨⟨⟨⟨show okSign "" = true by decide +kernel, decide_eq_true (List.mem_map_of_mem (headD_mem h.r1))⟩, decide_eq_true (List.mem_map_of_mem (lastD_mem h.r1))⟩, rfl⟩, fun x hx => decide_eq_true hx⟩, decide_eq_true wnd⟩
  d200 := by show (List.replicate p.many p.door).length ≤ 200; rw [List.length_replicate]; have := h.m2; omega
  rsz := fun r hr => by have := (h.st r hr).2; omega
  dsz := fun d hd => by
    rw [List.eq_of_mem_replicate hd]; exact Nat.zero_le _
theorem flat_sub {ps : List PartD} {p : PartD} (hp : p ∈ ps) : p.watches.Sublist (ps.flatMap (·.watches)) := by
  induction ps with
  | nil => cases hp
  | cons q ps ih =>
    rw [List.flatMap_cons]
    rcases List.mem_cons.mp hp with rfl | h
    · exact List.sublist_append_left _ _
    · exact (ih h).trans (List.sublist_append_right _ _)
theorem PartsOk.machs {ps : List PartD} (h : PartsOk ps) : ∀ M ∈ ps.map PartD.mach, MachOk M := fun M hM => by
  obtain ⟨p, hp, rfl⟩ := List.mem_map.mp hM
  obtain ⟨n, hn⟩ := h.ok
  have sub := flat_sub hp
  exact (hn p hp).mach (fun x hx => h.wok x (sub.subset hx)) (h.wnd.sublist sub) (Nat.le_trans sub.length_le h.w7)
/-- names put together differ where names do, of one length -/
theorem join_len {n : Nat} : ∀ {xs : List Str}, (∀ x ∈ xs, x.length = n) → (xs.flatMap fun p => ("/" : Str).cps.toList ++ p.cps.toList).length = xs.length * (n + 1) := by
  intro xs
  induction xs with
  | nil => intro _; simp
  | cons x xs ih =>
    intro h
    have h1 := h x List.mem_cons_self
    rw [len_cps] at h1
    rw [List.flatMap_cons, List.length_append, List.length_append, h1, ih fun y hy => h y (List.mem_cons_of_mem _ hy), show ("/" : Str).cps.toList.length = 1 by decide +kernel, List.length_cons, Nat.succ_mul]
    omega
theorem flat_inj {n : Nat} : ∀ {xs ys : List Str}, xs.length = ys.length → (∀ x ∈ xs, x.length = n) → (∀ x ∈ ys, x.length = n) → (xs.flatMap fun p => ("/" : Str).cps.toList ++ p.cps.toList) = (ys.flatMap fun p => ("/" : Str).cps.toList ++ p.cps.toList) → xs = ys := by
  intro xs
  induction xs with
  | nil => intro ys hl _ _ _; cases ys with | nil => rfl | cons y ys => simp at hl
  | cons x xs ih =>
    intro ys hl hx hy he
    cases ys with
    | nil => simp at hl
    | cons y ys =>
      have h1 := hx x List.mem_cons_self
      have h2 := hy y List.mem_cons_self
      rw [len_cps] at h1 h2
      rw [List.flatMap_cons, List.flatMap_cons, List.append_assoc, List.append_assoc] at he
      have he := List.append_cancel_left he
      have hs := List.append_inj he (h1.trans h2.symm)
      have exy : x = y := by
        have : x.cps = y.cps := Array.toList_inj.mp hs.1
        cases x; cases y; simpa using this
      rw [exy, ih (by simpa using hl) (fun z hz => hx z (List.mem_cons_of_mem _ hz)) (fun z hz => hy z (List.mem_cons_of_mem _ hz)) hs.2]
theorem join_inj {n : Nat} {xs ys : List Str} (hl : xs.length = ys.length) (h1 : 1 ≤ xs.length) (hx : ∀ x ∈ xs, x.length = n) (hy : ∀ x ∈ ys, x.length = n) (he : Txt.join "/" xs = Txt.join "/" ys) : xs = ys := by
  cases xs with
  | nil => simp at h1
  | cons x xs =>
    cases ys with
    | nil => simp at hl
    | cons y ys =>
      have h := congrArg (fun s : Str => s.cps.toList) he
      simp only [join_cps] at h
      refine flat_inj hl hx hy ?_
      rw [List.flatMap_cons, List.flatMap_cons, List.append_assoc, List.append_assoc, h]
theorem nodup_step {A : List (List Str)} {B : List Str} (ha : A.Nodup) (hb : B.Nodup) : (A.flatMap fun a => B.map fun b => a ++ [b]).Nodup := by
  induction A with
  | nil => exact List.nodup_nil
  | cons a A ih =>
    rw [List.nodup_cons] at ha
    rw [List.flatMap_cons]
    refine List.nodup_append.mpr ⟨?_, ih ha.2, ?_⟩
    · unfold List.Nodup
      rw [List.pairwise_map]
      exact hb.imp fun hne e => hne (by simpa using e)
    · intro x hx y hy e
      subst e
      obtain ⟨b, _, rfl⟩ := List.mem_map.mp hx
      obtain ⟨a', ha', hy'⟩ := List.mem_flatMap.mp hy
      obtain ⟨b', _, e⟩ := List.mem_map.mp hy'
      have := List.append_inj_left' e rfl
      exact ha.1 (this ▸ ha')
theorem rows_nodup {Ms : List MachD} (ok : ∀ M ∈ Ms, MachOk M) : ((rowsP Ms).map fun row => row.map (·.1)).Nodup := by
  have key : ∀ (k : Nat), k ≤ Ms.length → ((rowsP (Ms.take k)).map fun row => row.map (·.1)).Nodup := by
    intro k
    induction k with
    | zero => intro _; simp [rowsP]
    | succ k ih =>
      intro hk
      have hM := List.getElem?_eq_getElem (l := Ms) (i := k) (by omega)
      rw [take_snoc hM, rowsP_snoc]
      have := nodup_step (ih (by omega)) (ok _ (List.mem_of_getElem? hM)).rnd
      have e : (rowStep (rowsP (Ms.take k)) Ms[k]).map (fun row => row.map (·.1)) = ((rowsP (Ms.take k)).map fun row => row.map (·.1)).flatMap fun a => (Ms[k].rooms.map (·.1)).map fun b => a ++ [b] := by
        unfold rowStep
        rw [List.map_flatMap, List.flatMap_map]
        congr 1
        funext r
        rw [List.map_map, List.map_map]
        congr 1
        funext z
        simp
      rw [e]; exact this
  have := key Ms.length (Nat.le_refl _)
  rwa [List.take_length] at this
theorem whole_nodup {Ms : List MachD} {n : Nat} (ok : ∀ M ∈ Ms, MachOk M) (l1 : 1 ≤ Ms.length) (hn : ∀ M ∈ Ms, ∀ r ∈ M.rooms, r.1.length = n) : ((wholeR Ms).map (·.1)).Nodup := by
  have e : (wholeR Ms).map (·.1) = ((rowsP Ms).map fun row => row.map (·.1)).map (Txt.join "/") := by
    unfold wholeR; rw [List.map_map, List.map_map]; rfl
  rw [e]
  unfold List.Nodup
  rw [List.pairwise_map]
  refine (rows_nodup ok).imp_of_mem fun {a b} ha hb hne he => hne ?_
  have fact : ∀ a ∈ (rowsP Ms).map (fun row => row.map (·.1)), a.length = Ms.length ∧ ∀ x ∈ a, x.length = n := fun a ha => by
    obtain ⟨row, hr, rfl⟩ := List.mem_map.mp ha
    have rk := rows_ok Ms row hr
    refine ⟨by rw [List.length_map]; exact rk.1, fun x hx => ?_⟩
    obtain ⟨z, hz, rfl⟩ := List.mem_map.mp hx
    obtain ⟨M, hM, hr'⟩ := row_at rk hz
    exact hn M hM z hr'
  exact join_inj ((fact a ha).1.trans (fact b hb).1.symm) (by rw [(fact a ha).1]; exact l1) (fact a ha).2 (fact b hb).2 he
theorem PartsOk.tog {ps : List PartD} (h : PartsOk ps) : TogOk (ps.map PartD.mach) ∧ (doorsP (ps.map PartD.mach)).length ≤ 200 := by
  obtain ⟨n, hn⟩ := h.ok
  have mok := h.machs
  have l1 := h.l1
  have l5 := h.l5
  have plain : ∀ (x : Nat × Nat) (d : DoorD), doorAt (ps.map PartD.mach) x = some d → d.sg = "" ∧ d.looks = [] := fun x d hd => by
    obtain ⟨M, _, hM, hdM⟩ := doorAt_ok mok hd
    obtain ⟨p, hp, rfl⟩ := List.mem_map.mp hM
    rw [List.eq_of_mem_replicate hdM]
    exact ⟨rfl, rfl⟩
  have rlen : ∀ M ∈ ps.map PartD.mach, ∀ r ∈ M.rooms, r.1.length = n := fun M hM r hr => by
    obtain ⟨p, hp, rfl⟩ := List.mem_map.mp hM
    exact ((hn p hp).nm r hr).2
  have n8 : n ≤ 8 := by
    obtain ⟨p, hp⟩ := List.exists_mem_of_length_pos (l := ps) (by omega)
    have k := (hn p hp).nm _ (headD_mem (d := (("", []) : Rq)) (hn p hp).r1)
    have := okName_len k.1
    omega
  have sh1 : ∀ x sh, sh ∈ goersP (ps.map PartD.mach) x → sh = [x] := fun x sh hs => by
    obtain ⟨d, hd, _⟩ := goers_shape hs
    unfold goersP at hs
    rw [hd] at hs
    dsimp only at hs
    rw [if_pos (plain x d hd).1] at hs
    simpa using hs
  have gl1 : ∀ x, (goersP (ps.map PartD.mach) x).length ≤ 1 := fun x => by
    unfold goersP
    cases hd : doorAt (ps.map PartD.mach) x with
    | none => exact Nat.zero_le _
    | some d => dsimp only; rw [if_pos (plain x d hd).1]; exact Nat.le_refl _
  have flen : ∀ {α β : Type} (xs : List α) (f : α → List β) (k : Nat), (∀ x ∈ xs, (f x).length ≤ k) → (xs.flatMap f).length ≤ xs.length * k := fun xs f k hf => by
    induction xs with
    | nil => simp
    | cons x xs ih =>
      rw [List.flatMap_cons, List.length_append, List.length_cons, Nat.succ_mul]
      have h1 := hf x List.mem_cons_self
      have h2 := ih fun y hy => hf y (List.mem_cons_of_mem _ hy)
      omega
  have d2 : ∀ M ∈ ps.map PartD.mach, M.doors.length ≤ 2 := fun M hM => by
    obtain ⟨p, hp, rfl⟩ := List.mem_map.mp hM
    show (List.replicate p.many p.door).length ≤ 2
    rw [List.length_replicate]; exact (hn p hp).m2
  refine ⟨{ ok := mok, l1 := by rw [List.length_map]; exact l1, l6 := by rw [List.length_map]; omega, wnd := by rw [wholeW_mach]; exact h.wnd, w7 := by rw [wholeW_mach]; exact h.w7, r64 := by rw [roomsN_mach]; exact h.r64, d800 := ?_, nnd := whole_nodup mok (by rw [List.length_map]; exact l1) rlen, n60 := ?_, s60 := ?_, g60 := ?_ }, ?_⟩
  · have : ∀ Ms : List MachD, (∀ M ∈ Ms, M.doors.length ≤ 2) → doorsN Ms ≤ 2 * Ms.length := by
      intro Ms
      induction Ms with
      | nil => intro _; exact Nat.le_refl _
      | cons M Ms ih =>
        intro hd
        have h1 := hd M List.mem_cons_self
        have h2 := ih fun M hM => hd M (List.mem_cons_of_mem _ hM)
        show (M.doors.length :: Ms.map (·.doors.length)).sum ≤ _
        unfold doorsN at h2
        rw [List.sum_cons, List.length_cons]; omega
    have := this _ d2
    rw [List.length_map] at this
    omega
  · intro row hr
    have rk := rows_ok _ row hr
    have hx : ∀ x ∈ row.map (·.1), x.length = n := fun x hx => by
      obtain ⟨z, hz, rfl⟩ := List.mem_map.mp hx
      obtain ⟨M, hM, hr'⟩ := row_at rk hz
      exact rlen M hM z hr'
    have hl : (row.map (·.1)).length ≤ 5 := by rw [List.length_map, rk.1, List.length_map]; exact l5
    show (Txt.join "/" (row.map (·.1))).length ≤ 60
    generalize row.map (·.1) = xs at *
    cases xs with
    | nil => decide +kernel
    | cons x xs =>
      have h1 := hx x List.mem_cons_self
      rw [len_cps, join_cps, List.length_append, ← len_cps, h1, join_len fun y hy => hx y (List.mem_cons_of_mem _ hy)]
      rw [List.length_cons] at hl
      have : xs.length * (n + 1) ≤ 4 * 9 := Nat.mul_le_mul (by omega) (by omega)
      omega
  · intro row hr
    have rk := rows_ok _ row hr
    have := flen row (·.2) 2 fun z hz => by
      obtain ⟨M, hM, hr'⟩ := row_at rk hz
      obtain ⟨p, hp, rfl⟩ := List.mem_map.mp hM
      exact ((hn p hp).st z hr').2
    have hl : row.length ≤ 5 := by rw [rk.1, List.length_map]; exact l5
    omega
  · intro x hx
    obtain ⟨sh, hsh, hx2⟩ := List.mem_flatMap.mp hx
    obtain ⟨row, hrow, hx3⟩ := List.mem_filterMap.mp hx2
    obtain ⟨d, hd', rfl⟩ := Option.map_eq_some_iff.mp hx3
    obtain ⟨M, hM, hsh2⟩ := List.mem_flatMap.mp hsh
    obtain ⟨a, _, hsh3⟩ := List.mem_flatMap.mp hsh2
    have e := sh1 _ _ hsh3
    obtain ⟨d1, hd1, _⟩ := goers_shape hsh3
    unfold doorP at hd'
    split at hd'
    · rw [← Option.some.inj hd']
      show (looksP _ sh).length ≤ 60
      unfold looksP
      rw [e, List.flatMap_cons, List.flatMap_nil, List.append_nil, hd1]
      show d1.looks.length ≤ 60
      rw [(plain _ _ hd1).2]; exact Nat.zero_le _
    · cases hd'
  · rcases h.few with h0 | h12
    · have : sharesP (ps.map PartD.mach) = [] := by
        unfold sharesP
        refine List.flatMap_eq_nil_iff.mpr fun ⟨M, i⟩ hM => ?_
        rw [List.mem_zipIdx_iff_getElem?] at hM
        obtain ⟨p, hp, e⟩ := List.mem_map.mp (List.mem_of_getElem? hM)
        have e : p.mach = M := e
        have : M.doors.length = 0 := by
          rw [← e]
          show (List.replicate p.many p.door).length = 0
          rw [List.length_replicate]; exact h0 p hp
        show (List.range M.doors.length).flatMap _ = []
        rw [this]; rfl
      unfold doorsP
      rw [this]; exact Nat.zero_le _
    · have s10 : (sharesP (ps.map PartD.mach)).length ≤ 10 := by
        unfold sharesP
        have := flen (ps.map PartD.mach).zipIdx (fun M => (List.range M.1.doors.length).flatMap fun a => goersP (ps.map PartD.mach) (M.2, a)) 2 fun ⟨M, i⟩ hM => by
          rw [List.mem_zipIdx_iff_getElem?] at hM
          have h1 := flen (List.range M.doors.length) (fun a => goersP (ps.map PartD.mach) (i, a)) 1 fun a _ => gl1 _
          have h2 := d2 M (List.mem_of_getElem? hM)
          rw [List.length_range] at h1
          exact Nat.le_trans h1 (by omega)
        rw [List.length_zipIdx, List.length_map] at this
        omega
      have := flen (sharesP (ps.map PartD.mach)) (fun sh => (rowsP (ps.map PartD.mach)).filterMap fun row => (doorP (ps.map PartD.mach) row sh).map fun d => (d, sh)) 12 fun sh _ => by
        refine Nat.le_trans (List.length_filterMap_le _ _) ?_
        rw [rows_len, roomsN_mach]; exact h12
      unfold doorsP
      omega
/-! ### the parts of the law about doors and shares -/
theorem fm_nodup {ws : List Str} (h : ws.Nodup) {n : Nat} {F : Nat → Option Str} (hF : ∀ k x, F k = some x → ws[k]? = some x) : ((List.range n).filterMap F).Nodup ∧ ∀ x ∈ (List.range n).filterMap F, x ∈ ws := by
  constructor
  · unfold List.Nodup
    rw [List.pairwise_filterMap]
    refine List.Pairwise.imp_of_mem (fun {a b} _ _ hne x hx y hy he => hne ?_) List.nodup_range
    have h1 := hF a x hx
    have h2 := hF b y hy
    rw [← he] at h2
    exact (List.getElem?_inj (List.getElem?_eq_some_iff.mp h1).1 h).mp (h1.trans h2.symm)
  · intro x hx
    obtain ⟨k, _, hk⟩ := List.mem_filterMap.mp hx
    exact List.mem_of_getElem? (hF k x hk)
theorem nodup_rev {xs : List Str} (h : xs.Nodup) : xs.reverse.Nodup := by
  unfold List.Nodup
  rw [List.pairwise_reverse]
  exact List.Pairwise.imp (fun h => Ne.symm h) h
theorem cutS_last {x y : Str} (hy : y.length = 1) : cutS (x ++ y) none (some (-1)) = x := by
  have l : (x ++ y).length = x.length + 1 := by
    show (x.cps ++ y.cps).size = x.cps.size + 1
    rw [Array.size_append]
    unfold Str.length at hy
    omega
  unfold cutS
  rw [HT.sIx_none, l]
  have s1 : HT.sIx (x.length + 1) (x.length + 1) (some (-1)) = x.length := by
    unfold HT.sIx
    simp only [show ((-1 : Int) < 0) from by decide, if_true]
    omega
  rw [s1]
  show (⟨(((x.cps ++ y.cps).toList.drop 0).take (x.length - 0)).toArray⟩ : Str) = x
  rw [List.drop_zero, Nat.sub_zero, Array.toList_append]
  have : x.length = x.cps.toList.length := by unfold Str.length; exact Array.length_toList.symm
  rw [this, List.take_left]
theorem okSign_name {x y : Str} {c : Nat} (h : okName x = true) (hy : y.cps.toList = [c]) (hc : c ∈ ("!?" : Str).cps.toList) : okSign (x ++ y) = true := by
  unfold okSign
  rw [Bool.or_eq_true]
  refine .inr ?_
  have e : (x ++ y).cps.toList = x.cps.toList ++ y.cps.toList := by
    show (x.cps ++ y.cps).toList = _
    rw [Array.toList_append]
  have y1 : y.length = 1 := by unfold Str.length; rw [← Array.length_toList, hy]; rfl
  rw [e, hy, List.getLast?_append]
  show (decide (c ∈ ("!?" : Str).cps.toList) && okName (cutS (x ++ y) none (some (-1)))) = true
  rw [cutS_last y1, h, decide_eq_true hc]; rfl
structure PgD where
  watches : List Str
  rooms : List Str
  doors : List DoorD
def DtAt (H : Hp) (q : Addr) (d : DoorD) : Prop := ∃ g n, H q = some (.tup [.str d.st, .str d.en, .ref g, .ref n, .str d.sg]) ∧ LsAt H g d.looks ∧ H n = some (.lst (d.backs.map V.str))
theorem DtAt.keep : ∀ (H H' : Hp) (q : Addr) (d : DoorD), Same H H' → DtAt H q d → DtAt H' q d := fun _ _ _ _ s ⟨g, n, a, b, c⟩ => ⟨g, n, s _ _ a, b.keep s, s _ _ c⟩
def PgAt (H : Hp) (q : Addr) (p : PgD) : Prop := ∃ w r d, H q = some (.tup [.ref w, .ref r, .ref d]) ∧ H w = some (.lst (p.watches.map V.str)) ∧ H r = some (.lst (p.rooms.map V.str)) ∧ SeqOf DtAt H d p.doors
theorem PgAt.keep : ∀ (H H' : Hp) (q : Addr) (p : PgD), Same H H' → PgAt H q p → PgAt H' q p := fun _ _ _ _ s ⟨w, r, d, a, b, c, e⟩ => ⟨w, r, d, s _ _ a, s _ _ b, s _ _ c, SeqOf.keep (fun _ _ => DtAt.keep _ _ _ _ s) s e⟩
def PgD.mach (p : PgD) : MachD := ⟨p.watches, p.rooms.map fun x => (x, []), p.doors⟩
theorem mach_names (p : PgD) : p.mach.rooms.map (·.1) = p.rooms := by
  show (p.rooms.map fun x => ((x, []) : Rq)).map (·.1) = _
  rw [List.map_map]; exact List.map_id _
structure PgOk (n : Nat) (p : PgD) : Prop where
  r1 : 1 ≤ p.rooms.length
  r3 : p.rooms.length ≤ 3
  nm : ∀ x ∈ p.rooms, okName x = true ∧ x.length = n
  nd : p.rooms.Nodup
  wok : ∀ x ∈ p.watches, okWatch x = true
  wnd : p.watches.Nodup
  w2 : p.watches.length ≤ 2
  d4 : p.doors.length ≤ 4
  dok : ∀ d ∈ p.doors, doorOk p.watches p.rooms d = true ∧ d.looks.length ≤ 2
structure PgsOk (ps : List PgD) : Prop where
  ok : ∃ n, ∀ p ∈ ps, PgOk n p
  l1 : 1 ≤ ps.length
  l4 : ps.length ≤ 4
  wnd : (ps.flatMap (·.watches)).Nodup
  w7 : (ps.flatMap (·.watches)).length ≤ 7
  r64 : manyR (ps.map PgD.mach) ≤ 54
theorem PgOk.mach {n : Nat} {p : PgD} (h : PgOk n p) : MachOk p.mach where
  w7 := by have := h.w2; show p.watches.length ≤ 7; omega
  wok := List.all_eq_true.mpr h.wok
  wnd := h.wnd
  rok := List.all_eq_true.mpr fun r hr => by
    obtain ⟨x, hx, rfl⟩ := List.mem_map.mp hr
    unfold roomOk
    rw [okName_okT (h.nm x hx).1]; rfl
  rnd := by rw [mach_names]; exact h.nd
  rne := fun e => by
    have h1 := h.r1
    have e : (p.rooms.map fun x => ((x, []) : Rq)) = [] := e
    have h2 := congrArg List.length e
    rw [List.length_map] at h2
    have : p.rooms.length = 0 := h2
    omega
  r64 := by show (p.rooms.map fun x => ((x, []) : Rq)).length ≤ 64; rw [List.length_map]; have := h.r3; omega
  dok := List.all_eq_true.mpr fun d hd => by rw [mach_names]; exact (h.dok d hd).1
  d200 := by show p.doors.length ≤ 200; have := h.d4; omega
  rsz := fun r hr => by
    obtain ⟨x, hx, rfl⟩ := List.mem_map.mp hr
    exact Nat.zero_le _
  dsz := fun d hd => by have := (h.dok d hd).2; omega
theorem wholeW_pg (ps : List PgD) : wholeW (ps.map PgD.mach) = ps.flatMap (·.watches) := by
  unfold wholeW; rw [List.flatMap_map]; rfl
theorem PgsOk.machs {ps : List PgD} (h : PgsOk ps) : ∀ M ∈ ps.map PgD.mach, MachOk M := fun M hM => by
  obtain ⟨p, hp, rfl⟩ := List.mem_map.mp hM
  obtain ⟨n, hn⟩ := h.ok
  exact (hn p hp).mach
theorem flen {α β : Type} (xs : List α) (f : α → List β) (k : Nat) (hf : ∀ x ∈ xs, (f x).length ≤ k) : (xs.flatMap f).length ≤ xs.length * k := by
  induction xs with
  | nil => simp
  | cons x xs ih =>
    rw [List.flatMap_cons, List.length_append, List.length_cons, Nat.succ_mul]
    have h1 := hf x List.mem_cons_self
    have h2 := ih fun y hy => hf y (List.mem_cons_of_mem _ hy)
    omega
theorem answers_len {Ms : List MachD} {n : Nat} {sg : Str} (h4 : Ms.length ≤ 4) (hd : ∀ M ∈ Ms, M.doors.length ≤ 4) : (answersP Ms n sg).length ≤ 16 := by
  unfold answersP
  have := flen Ms.zipIdx (fun M => M.1.doors.zipIdx.filterMap fun d => if M.2 ≠ n ∧ d.1.sg = sg then some (M.2, d.2) else none) 4 fun M hM => by
    refine Nat.le_trans (List.length_filterMap_le _ _) ?_
    rw [List.length_zipIdx]
    exact hd _ (List.fst_mem_of_mem_zipIdx hM)
  rw [List.length_zipIdx] at this
  omega
theorem goers_len {Ms : List MachD} {x : Nat × Nat} (h4 : Ms.length ≤ 4) (hd : ∀ M ∈ Ms, M.doors.length ≤ 4) : (goersP Ms x).length ≤ 16 := by
  unfold goersP
  split
  · exact Nat.zero_le _
  · split
    · exact Nat.le_trans (Nat.le_refl 1) (by decide)
    · split
      · rw [List.length_map]; exact answers_len h4 hd
      · exact Nat.zero_le _
theorem shares_len {Ms : List MachD} (h4 : Ms.length ≤ 4) (hd : ∀ M ∈ Ms, M.doors.length ≤ 4) : (sharesP Ms).length ≤ 256 := by
  unfold sharesP
  have := flen Ms.zipIdx (fun M => (List.range M.1.doors.length).flatMap fun a => goersP Ms (M.2, a)) 64 fun M hM => by
    have h1 := flen (List.range M.1.doors.length) (fun a => goersP Ms (M.2, a)) 16 fun a _ => goers_len h4 hd
    rw [List.length_range] at h1
    have := hd _ (List.fst_mem_of_mem_zipIdx hM)
    omega
  rw [List.length_zipIdx] at this
  omega
theorem PgsOk.d4 {ps : List PgD} (h : PgsOk ps) : ∀ M ∈ ps.map PgD.mach, M.doors.length ≤ 4 := fun M hM => by
  obtain ⟨p, hp, rfl⟩ := List.mem_map.mp hM
  obtain ⟨n, hn⟩ := h.ok
  exact (hn p hp).d4
theorem PgsOk.many {ps : List PgD} (h : PgsOk ps) : (doorsP (ps.map PgD.mach)).length ≤ 20000 := by
  have l4 := h.l4
  have s1 := shares_len (Ms := ps.map PgD.mach) (by rw [List.length_map]; exact l4) h.d4
  have := flen (sharesP (ps.map PgD.mach)) (fun sh => (rowsP (ps.map PgD.mach)).filterMap fun row => (doorP (ps.map PgD.mach) row sh).map fun d => (d, sh)) 54 fun sh _ => by
    refine Nat.le_trans (List.length_filterMap_le _ _) ?_
    rw [rows_len]; exact h.r64
  unfold doorsP
  omega
theorem share_mem {Ms : List MachD} {sh : Share} (h : sh ∈ sharesP Ms) : ∃ x, sh ∈ goersP Ms x := by
  unfold sharesP at h
  obtain ⟨M, hM, hsh2⟩ := List.mem_flatMap.mp h
  obtain ⟨a, _, hsh3⟩ := List.mem_flatMap.mp hsh2
  exact ⟨_, hsh3⟩
theorem share_ok {Ms : List MachD} {sh : Share} (h : sh ∈ sharesP Ms) : 1 ≤ sh.length ∧ sh.length ≤ 2 ∧ ∀ x ∈ sh, ∃ d, doorAt Ms x = some d := by
  obtain ⟨x, hx⟩ := share_mem h
  obtain ⟨d, hd, h2⟩ := goers_shape hx
  rcases h2 with rfl | ⟨o, d', rfl, _, hd'⟩
  · exact ⟨by simp, by simp, fun y hy => ⟨d, by rw [show y = x by simpa using hy]; exact hd⟩⟩
  · refine ⟨by simp, by simp, fun y hy => ?_⟩
    simp only [List.mem_cons, List.not_mem_nil, or_false] at hy
    rcases hy with rfl | rfl
    · exact ⟨d, hd⟩
    · exact ⟨d', hd'⟩
theorem PgsOk.tog {ps : List PgD} (h : PgsOk ps) : TogOk (ps.map PgD.mach) := by
  obtain ⟨n, hn⟩ := h.ok
  have mok := h.machs
  have l1 := h.l1
  have l4 := h.l4
  have rlen : ∀ M ∈ ps.map PgD.mach, ∀ r ∈ M.rooms, r.1.length = n ∧ r.2 = [] := fun M hM r hr => by
    obtain ⟨p, hp, rfl⟩ := List.mem_map.mp hM
    obtain ⟨x, hx, rfl⟩ := List.mem_map.mp hr
    exact ⟨((hn p hp).nm x hx).2, rfl⟩
  have n8 : n ≤ 8 := by
    obtain ⟨p, hp⟩ := List.exists_mem_of_length_pos (l := ps) (by omega)
    obtain ⟨x, hx⟩ := List.exists_mem_of_length_pos (l := p.rooms) (by have := (hn p hp).r1; omega)
    have k := (hn p hp).nm x hx
    have := okName_len k.1
    omega
  refine { ok := mok, l1 := by rw [List.length_map]; exact l1, l6 := by rw [List.length_map]; omega, wnd := by rw [wholeW_pg]; exact h.wnd, w7 := by rw [wholeW_pg]; exact h.w7, r64 := by have := h.r64; omega, d800 := ?_, nnd := whole_nodup mok (by rw [List.length_map]; exact l1) (fun M hM r hr => (rlen M hM r hr).1), n60 := ?_, s60 := ?_, g60 := ?_ }
  · have : ∀ Ms : List MachD, (∀ M ∈ Ms, M.doors.length ≤ 4) → doorsN Ms ≤ 4 * Ms.length := by
      intro Ms
      induction Ms with
      | nil => intro _; exact Nat.le_refl _
      | cons M Ms ih =>
        intro hd
        have h1 := hd M List.mem_cons_self
        have h2 := ih fun M hM => hd M (List.mem_cons_of_mem _ hM)
        show (M.doors.length :: Ms.map (·.doors.length)).sum ≤ _
        unfold doorsN at h2
        rw [List.sum_cons, List.length_cons]; omega
    have := this _ h.d4
    rw [List.length_map] at this
    omega
  · intro row hr
    have rk := rows_ok _ row hr
    have hx : ∀ x ∈ row.map (·.1), x.length = n := fun x hx => by
      obtain ⟨z, hz, rfl⟩ := List.mem_map.mp hx
      obtain ⟨M, hM, hr'⟩ := row_at rk hz
      exact (rlen M hM z hr').1
    have hl : (row.map (·.1)).length ≤ 4 := by rw [List.length_map, rk.1, List.length_map]; exact l4
    show (Txt.join "/" (row.map (·.1))).length ≤ 60
    generalize row.map (·.1) = xs at *
    cases xs with
    | nil => decide +kernel
    | cons x xs =>
      have h1 := hx x List.mem_cons_self
      rw [len_cps, join_cps, List.length_append, ← len_cps, h1, join_len fun y hy => hx y (List.mem_cons_of_mem _ hy)]
      rw [List.length_cons] at hl
      have : xs.length * (n + 1) ≤ 4 * 9 := Nat.mul_le_mul (by omega) (by omega)
      omega
  · intro row hr
    have rk := rows_ok _ row hr
    have := flen row (·.2) 0 fun z hz => by
      obtain ⟨M, hM, hr'⟩ := row_at rk hz
      rw [(rlen M hM z hr').2]; exact Nat.le_refl _
    omega
  · intro x hx
    obtain ⟨sh, hsh, hx2⟩ := List.mem_flatMap.mp hx
    obtain ⟨row, hrow, hx3⟩ := List.mem_filterMap.mp hx2
    obtain ⟨d, hd', rfl⟩ := Option.map_eq_some_iff.mp hx3
    obtain ⟨_, h2, hall⟩ := share_ok hsh
    unfold doorP at hd'
    split at hd'
    · rw [← Option.some.inj hd']
      show (looksP _ sh).length ≤ 60
      unfold looksP
      refine Nat.le_trans (flen sh _ 2 fun y hy => ?_) (by omega)
      obtain ⟨d1, hd1⟩ := hall y hy
      obtain ⟨M, _, hM, hdM⟩ := doorAt_ok mok hd1
      obtain ⟨p, hp, rfl⟩ := List.mem_map.mp hM
      rw [hd1]
      exact ((hn p hp).dok d1 hdM).2
    · cases hd'
theorem name_ok_watch {x : Str} (h : okName x = true) : okWatch x = true := by unfold okWatch; rw [h, Bool.or_true]
def spCell_at (K : PySem.W.Frag) : Sp := fun vs H Q _ => ∃ (a : Addr) (ns : List Int) (k : Int), vs = [.ref a, .int k] ∧ SqL K H a (ns.map V.int) ∧ 0 ≤ k ∧ Q (.int (ns.getD k.toNat 0)) H
theorem ok_l_cell_at (T : Top K mg) : FnOk P w K mg base CX0 1 T.f_l_cell_at T.d_l_cell_at ["_law_script", "_law_k"] (spCell_at K) := by
  refine T.F_l_cell_at.ok sc_l_cell_at (fun vs H Q E h => ?_) (fun cdv A outer s H vs Q E hr h => ?_)
  · obtain ⟨a, ns, k, rfl, _⟩ := h; rfl
  · obtain ⟨a, ns, k, rfl, hS, hk, q⟩ := h
    refine ⟨_, (pss_cons (ps_if (pt_cmpR op_lt (pv 1) (pe_callB call_len_seq (by rfl) T.m_len (by decide +kernel) (pa_cons (pv 0) pa_nil)) (nomark _)) (pss_one (ps_ret (pe_ix (ix_listA (K := K) rfl) (pv 0) (pv 1) (fun _ _ => rfl)))) pss_nil)
      (pss_one (ps_ret pe_int))), ?_⟩
    refine seq_step ?_
    walk_at "rd"
    refine ⟨_, .inl hS, ite_d (fun c => ?_) (fun c => ?_)⟩
    · rw [List.length_map] at c
      have hl : k.toNat < ns.length := by omega
      refine ⟨a, _, k, .int (ns[k.toNat]), rfl, rfl, hS, at_of (j := k.toNat) (by omega) (by rw [List.getElem?_map, List.getElem?_eq_getElem hl]; rfl), ?_⟩
      rw [List.getD_eq_getElem?_getD, List.getElem?_eq_getElem hl] at q
      exact q
    · rw [List.length_map] at c
      rw [List.getD_eq_getElem?_getD, List.getElem?_eq_none (by omega)] at q
      exact q
def spStream (K : PySem.W.Frag) : Sp := fun vs H Q _ => ∃ (c : Int) (m : Nat), vs = [.int c, .int m] ∧ m ≤ 1000 ∧ (c < 10 ^ 30 → m ≤ 900) ∧ ∀ (p : Addr) (H' : Hp) (xs : List Int), Same H H' → H p = none → H' p = some (.lst (xs.map V.int)) → xs.length = m → (∀ x ∈ xs, 0 ≤ x ∧ x < 2147483647) → Q (.ref p) H'
theorem ok_l_stream (T : Top K mg) : FnOk P w K mg base CX0 1 T.f_l_stream T.d_l_stream ["_law_cell", "_law_many_here"] (spStream K) := by
  refine T.F_l_stream.ok sc_l_stream (fun vs H Q E h => ?_) (fun cdv A outer s H vs Q E hr h => ?_)
  · obtain ⟨c, m, rfl, _⟩ := h; rfl
  · obtain ⟨c, m, rfl, hm, hm9, q⟩ := h
    refine ⟨_, (pss_cons (ps_set (i := 2) sc_l_stream.nd rfl (.inl rfl) (pe_lstN pa_nil))
      (pss_cons (ps_if (pt_cmpR op_ge (pv 0) (pe_op op_pow pe_int pe_int) (nomark _)) (pss_cons (ps_set (i := 3) sc_l_stream.nd rfl (.inl rfl) (pe_op op_sub (pv 0) (pe_op op_pow pe_int pe_int)))
      (pss_cons (ps_for PassesOwn.never rfl (pi_range1 (by rfl) T.m_range (pa_cons (pv 1) pa_nil)) (pg_name (i := 4) sc_l_stream.nd rfl (.inl rfl)) (pss_cons (ps_expr (pe_bm PySem.F.plainAttrs_list PySem.F.slot_list_append PySem.F.type_list_append mt_append (pv 2) (pa_cons (pe_op op_modN (pv 3) pe_int) pa_nil)))
      (pss_one (ps_set (i := 3) sc_l_stream.nd rfl (.inl rfl) (pe_op op_fdivZ (pv 3) pe_int)))))
      (pss_one (ps_ret (pv 2))))) pss_nil)
      (pss_cons (ps_set (i := 5) sc_l_stream.nd rfl (.inl rfl) (pe_op op_add (pe_op op_modN (pv 0) pe_int) pe_int))
      (pss_cons (ps_for PassesOwn.never rfl (pi_range1 (by rfl) T.m_range (pa_cons (pe_op op_add (pv 1) pe_int) pa_nil)) (pg_name (i := 4) sc_l_stream.nd rfl (.inl rfl)) (pss_cons (ps_set (i := 5) sc_l_stream.nd rfl (.inl rfl) (pe_op op_modN (pe_op op_add (pe_op op_add (pe_op op_mulW (pv 5) (pv 5)) (pe_op op_mulW pe_int (pv 5))) (pv 4)) pe_int))
      (pss_one (ps_expr (pe_bm PySem.F.plainAttrs_list PySem.F.slot_list_append PySem.F.type_list_append mt_append (pv 2) (pa_cons (pv 5) pa_nil))))))
      (pss_one (ps_ret (pe_slice (sl_listA (K := K) rfl) (pv 2) (po_some pe_int) po_none))))))), ?_⟩
    refine seq_step ?_
    walk_at "rd"
    intro l H1 s1 fl e1
    refine seq_step ?_
    walk_at "rd"
    refine ite_d (fun _ => ?_) (fun hc => ?_)
    · refine seq_step ?_
      walk_at "rd"
      refine seq_step ?_
      refine for_rg ?_
      walk_at "rd"
      refine ⟨(rg_ok (by omega)).1, (rg_ok (by omega)).2, ?_⟩
      rw [Int.toNat_natCast]
      refine forR_by (fun i σ' H' => ∃ (r : Int) (v4 : Option V) (xs : List Int), σ' = [some (.int c), some (.int m), some (.ref l), some (.int r), v4, none] ∧ Same H H' ∧ H' l = some (.lst (xs.map V.int)) ∧ xs.length = i ∧ ∀ x ∈ xs, 0 ≤ x ∧ x < 2147483647) ⟨_, _, [], rfl, s1, e1, rfl, fun x h => by cases h⟩ ?_ ?_
      · rintro i σ' H2 hi ⟨r, v4, xs, rfl, s2, el, hl, hx⟩
        walk_at "rd"
        refine seq_step ?_
        refine ⟨.ref l, rfl, .inl ⟨rfl, _, .of el⟩, ?_⟩
        walk_at "rd"
        refine app_at el (by rw [List.length_map]; omega) ?_
        walk_at "rd"
        have f := fm_pos (c := r) (m := 2147483647) (by decide)
        refine ⟨same_updN fl s2, xs ++ [r.fmod 2147483647], by rw [upd_same, List.map_append]; rfl, by simp [hl], fun x hx' => ?_⟩
        rcases List.mem_append.mp hx' with h | h
        · exact hx x h
        · have : x = r.fmod 2147483647 := by simpa using h
          rw [this]
          exact ⟨f.1, f.2⟩
      · rintro σ' H2 ⟨r, v4, xs, rfl, s2, el, hl, hx⟩
        walk_at "rd"
        exact q l H2 xs s2 fl el hl hx
    · refine seq_step ?_
      walk_at "rd"
      have hm9 := hm9 (by omega)
      have f0 := fm_pos (c := c) (m := 2147483647) (by decide)
      refine seq_step ?_
      refine for_rg ?_
      walk_at "rd"
      refine ⟨by omega, by omega, ?_⟩
      rw [show ((m : Int) + 2).toNat = m + 2 by omega]
      refine forR_by (fun i σ' H' => ∃ (r : Int) (v4 : Option V) (xs : List Int), σ' = [some (.int c), some (.int m), some (.ref l), none, v4, some (.int r)] ∧ 0 ≤ r ∧ Sz 62 r ∧ Same H H' ∧ H' l = some (.lst (xs.map V.int)) ∧ xs.length = i ∧ ∀ x ∈ xs, 0 ≤ x ∧ x < 2147483647) ⟨_, _, [], rfl, by omega, by unfold Sz; omega, s1, e1, rfl, fun x h => by cases h⟩ ?_ ?_
      · rintro i σ' H2 hi ⟨r, v4, xs, rfl, r0, sr, s2, el, hl, hx⟩
        walk_at "rd"
        refine seq_step ?_
        walk_at "rd"
        refine ⟨sr.mulW sr (by omega), Sz.mulW (a := 20) (by unfold Sz; decide) sr (by omega), ?_⟩
        have f := fm_pos (c := r * r + 48271 * r + i) (m := 2147483647) (by decide)
        generalize (r * r + 48271 * r + i).fmod 2147483647 = r2 at *
        refine ⟨.ref l, rfl, .inl ⟨rfl, _, .of el⟩, ?_⟩
        walk_at "rd"
        refine app_at el (by rw [List.length_map]; omega) ?_
        walk_at "rd"
        refine ⟨f.1, by unfold Sz; omega, same_updN fl s2, xs ++ [r2], by rw [upd_same, List.map_append]; rfl, by simp [hl], fun x hx' => ?_⟩
        rcases List.mem_append.mp hx' with h | h
        · exact hx x h
        · have : x = r2 := by simpa using h
          rw [this]
          exact ⟨f.1, f.2⟩
      · rintro σ' H2 ⟨r, v4, xs, rfl, r0, sr, s2, el, hl, hx⟩
        walk_at "rd"
        refine ⟨_, .of el, fun p2 H3 s3 f3 e3 => ?_⟩
        have ec : cutV (xs.map V.int) (some 2) none = (xs.drop 2).map V.int := by
          rw [List.map_drop]
          exact cut_from (k := 2) (by rw [List.length_map]; omega)
        rw [ec] at e3
        exact q p2 H3 (xs.drop 2) (s2.trans s3) (s2.free f3) e3 (by rw [List.length_drop]; omega) fun x h => hx x (List.mem_of_mem_drop h)
def spDraws : Sp := fun vs H Q _ => ∃ (c : Int) (k m : Nat), vs = [.int c, .int k, .int m] ∧ m ≤ 6 ∧ k ≤ 99 ∧ ∀ (p : Addr) (H' : Hp) (xs : List Int), Same H H' → H p = none → H' p = some (.lst (xs.map V.int)) → xs.length = m → (∀ x ∈ xs, 0 ≤ x ∧ x < 2147483647) → Q (.ref p) H'
theorem ok_l_draws (T : Top K mg) : FnOk P w K mg base CX0 2 T.f_l_draws T.d_l_draws ["_law_cell", "_law_k", "_law_many_here"] spDraws := by
  refine T.F_l_draws.ok sc_l_draws (fun vs H Q E h => ?_) (fun cdv A outer s H vs Q E hr h => ?_)
  · obtain ⟨c, k, m, rfl, _⟩ := h; rfl
  · obtain ⟨c, k, m, rfl, hm, hk, q⟩ := h
    refine ⟨_, (pss_cons (ps_if (pt_cmpR op_ge (pv 0) (pe_op op_pow pe_int pe_int) (nomark _)) (pss_one (ps_ret (pe_slice (sl_listA (K := K) rfl) (pe_call (ok_l_stream T) (hr.mono (by decide)) rfl T.g_l_stream T.F_l_stream.kp T.b_l_stream .nil pass0 (pa_cons (pv 0) (pa_cons (pe_op op_mulW (pv 2) (pe_op op_add (pv 1) pe_int)) pa_nil))) (po_some (pe_op op_mulW (pv 2) (pv 1))) po_none))) pss_nil)
      (pss_one (ps_ret (pe_call (ok_l_stream T) (hr.mono (by decide)) rfl T.g_l_stream T.F_l_stream.kp T.b_l_stream .nil pass0 (pa_cons (pe_op op_add (pv 0) (pe_op op_mulW pe_int (pv 1))) (pa_cons (pv 2) pa_nil)))))), ?_⟩
    have mk : m * (k + 1) ≤ 6 * 100 := Nat.mul_le_mul hm (by omega)
    have mk2 : m * k ≤ 6 * 100 := Nat.mul_le_mul hm (by omega)
    have e1 : (m : Int) * ((k : Int) + 1) = ((m * (k + 1) : Nat) : Int) := by rw [Int.natCast_mul]; rfl
    have e2 : (m : Int) * (k : Int) = ((m * k : Nat) : Int) := by rw [Int.natCast_mul]
    refine seq_step ?_
    walk_at "rd"
    refine ite_d (fun hc => ?_) (fun hc => ?_)
    · refine ⟨Sz.mulW (a := 8) (b := 10) (by show (m : Int).natAbs < 2 ^ 8; omega) (by show ((k : Int) + 1).natAbs < 2 ^ 10; omega) (by decide), ?_⟩
      rw [e1]
      refine ⟨c, _, rfl, by omega, (fun h => absurd h (by omega)), fun p H1 xs s1 f1 e3 xl xok => ?_⟩
      walk_at "rd"
      refine ⟨Sz.mulW (a := 8) (b := 10) (by show (m : Int).natAbs < 2 ^ 8; omega) (by show (k : Int).natAbs < 2 ^ 10; omega) (by decide), ?_⟩
      rw [e2]
      refine ⟨_, .of e3, fun p2 H2 s2 f2 e4 => ?_⟩
      have hle : m * k ≤ xs.length := by rw [xl]; exact Nat.mul_le_mul_left _ (by omega)
      rw [cut_from (by rw [List.length_map]; exact hle), ← List.map_drop] at e4
      refine q p2 H2 (xs.drop (m * k)) (s1.trans s2) (s1.free f2) e4 ?_ fun x hx => xok x (List.mem_of_mem_drop hx)
      rw [List.length_drop, xl, Nat.mul_succ]; omega
    · walk_at "rd"
      refine ⟨Sz.mulW (a := 16) (b := 10) (by show (7919 : Int).natAbs < 2 ^ 16; decide) (by show (k : Int).natAbs < 2 ^ 10; omega) (by decide), ?_⟩
      exact ⟨_, m, rfl, by omega, fun _ => by omega, fun p H1 xs s1 f1 e3 xl xok => q p H1 xs s1 f1 e3 xl xok⟩
theorem ok_l_names (T : Top K mg) : FnOk P w K mg base CX0 1 T.f_l_names T.d_l_names ["_law_cell", "_law_many_here"] spNames := by
  refine T.F_l_names.ok sc_l_names (fun vs H Q E h => ?_) (fun cdv A outer s H vs Q E hr h => ?_)
  · obtain ⟨c, m, rfl, _⟩ := h; rfl
  · obtain ⟨cell, many, rfl, hm, q⟩ := h
    refine ⟨_, (pss_cons (ps_set (i := 2) sc_l_names.nd rfl (.inl rfl) pe_str)
      (pss_cons (ps_set (i := 3) sc_l_names.nd rfl (.inl rfl) (pe_op op_add pe_int (pe_op op_modN (pv 0) pe_int)))
      (pss_cons (ps_set (i := 4) sc_l_names.nd rfl (.inl rfl) (pe_op op_modN (pe_op op_modN (pe_op op_fdivZ (pv 0) pe_int) pe_int) (pv 3)))
      (pss_cons (ps_set (i := 5) sc_l_names.nd rfl (.inl rfl) (pe_lstN pa_nil))
      (pss_cons (ps_for PassesOwn.never rfl (pi_range1 (by rfl) T.m_range (pa_cons (pv 1) pa_nil)) (pg_name (i := 6) sc_l_names.nd rfl (.inl rfl)) (pss_cons (ps_set (i := 7) sc_l_names.nd rfl (.inl rfl) pe_str)
      (pss_cons (ps_for PassesOwn.never rfl (pi_range1 (by rfl) T.m_range (pa_cons (pv 3) pa_nil)) (pg_name (i := 8) sc_l_names.nd rfl (.inl rfl)) (pss_cons (ps_set (i := 9) sc_l_names.nd rfl (.inl rfl) (pe_op op_add (pe_op op_add (pe_op op_fdivZ (pv 0) pe_int) (pe_op op_mulW (pv 8) (pe_op op_add pe_int (pe_op op_modN (pv 0) pe_int)))) (pe_op op_mulW (pv 6) (pe_callTy call_intB (by rfl) T.m_int (by decide +kernel) (pa_cons (pe_cmpR op_eq (pv 8) (pv 4) (nomark _)) pa_nil)))))
      (pss_one (ps_set (i := 7) sc_l_names.nd rfl (.inl rfl) (pe_op op_add_str (pv 7) (pe_ix ix_str (pv 2) (pe_op op_modN (pv 9) pe_int) (fun _ _ => rfl)))))))
      (pss_one (ps_expr (pe_bm PySem.F.plainAttrs_list PySem.F.slot_list_append PySem.F.type_list_append mt_append (pv 5) (pa_cons (pv 7) pa_nil)))))))
      (pss_one (ps_ret (pv 5)))))))), ?_⟩
    refine seq_step ?_
    walk_at "rt"
    refine seq_step ?_
    walk_at "rt"
    refine seq_step ?_
    walk_at "rt"
    have m8 := fm_pos (c := cell) (m := 8) (by decide)
    refine ⟨by omega, ?_⟩
    generalize hsz : 1 + cell.fmod 8 = szI at *
    generalize hat : Int.fmod _ szI = atv
    have at0 : 0 ≤ atv ∧ atv < szI := by rw [← hat]; exact fm_pos (by omega)
    refine seq_step ?_
    walk_at "rd"
    intro l H1 s1 f1 e1
    refine seq_step ?_
    refine for_rg ?_
    walk_at "rd"
    refine ⟨(rg_ok (by omega)).1, (rg_ok (by omega)).2, ?_⟩
    rw [Int.toNat_natCast]
    obtain ⟨sz, rfl⟩ : ∃ n : Nat, szI = (n : Int) := ⟨szI.toNat, by omega⟩
    obtain ⟨av, rfl⟩ : ∃ n : Nat, atv = (n : Int) := ⟨atv.toNat, by omega⟩
    have m25 := fm_pos (c := cell) (m := 25) (by decide)
    generalize hb : cell.fdiv 6720 = b at *
    generalize hst : 1 + cell.fmod 25 = st at *
    have nok := names2_ok (b := b) (st := st) (size := sz) (at' := av) (many := many) (by omega) (by omega) (by omega) hm
    refine forR_by (fun i σ' H' => (∃ v6 v7 v8 v9, σ' = [some (.int cell), some (.int many), some (.str letters), some (.int sz), some (.int av), some (.ref l), v6, v7, v8, v9]) ∧ Same H H' ∧ H' l = some (.lst (((List.range i).map (fun k => txt (nm2 b st sz av k))).map V.str))) ⟨⟨_, _, _, _, rfl⟩, s1, e1⟩ ?_ ?_
    · rintro i σ' H2 hi ⟨⟨v6, v7, v8, v9, rfl⟩, s2, e2⟩
      walk_at "rd"
      refine seq_step ?_
      walk_at "rt"
      refine seq_step ?_
      refine for_rg ?_
      walk_at "rd"
      refine ⟨(rg_ok (by omega)).1, (rg_ok (by omega)).2, ?_⟩
      rw [Int.toNat_natCast]
      refine forR_by (fun j σ' H' => (∃ v8 v9, σ' = [some (.int cell), some (.int many), some (.str letters), some (.int sz), some (.int av), some (.ref l), some (.int (i : Int)), some (.str (txt ((List.range j).map (nmI b st av i)))), v8, v9]) ∧ H' = H2) ⟨⟨_, _, rfl⟩, rfl⟩ ?_ ?_
      · rintro j σ' H3 hj ⟨⟨v8, v9, rfl⟩, rfl⟩
        walk_at "rd"
        refine seq_step ?_
        walk_at "rt"
        rw [hb, hst]
        have e1 : (if decide ((j : Int) = (av : Int)) = true then (1 : Int) else 0) = (if j = av then 1 else 0) := by
          by_cases c : j = av
          · rw [if_pos c, if_pos (decide_eq_true (by omega))]
          · rw [if_neg c, if_neg (by rw [decide_eq_false (by omega)]; exact Bool.false_ne_true)]
        have e2 : (0 : Int) ≤ (if j = av then 1 else 0) ∧ (if j = av then (1 : Int) else 0) ≤ 1 := by split <;> omega
        have e3 : lett ((b + (j : Int) * st + (i : Int) * (if j = av then 1 else 0)).fmod 26) = nmI b st av i j := rfl
        rw [e1]
        refine ⟨Sz.mulW (a := 8) (b := 8) (by show (j : Int).natAbs < 2 ^ 8; omega) (by show st.natAbs < 2 ^ 8; omega) (by decide), Sz.mulW (a := 8) (b := 8) (by show (i : Int).natAbs < 2 ^ 8; omega) (by show (if j = av then (1 : Int) else 0).natAbs < 2 ^ 8; omega) (by decide), ?_⟩
        refine ⟨letters, _, _, rfl, rfl, small1000' (by decide +kernel), lett_at (fm_pos (by decide)), _, rfl, ?_, ?_, ⟨_, rfl⟩, rfl⟩
        · refine small1000' ?_
          have : (txt (List.map (nmI b st av i) (List.range j))).length = j := by unfold txt Str.length; simp
          rw [this]
          show j + 1 ≤ 1000
          omega
        · rw [e3, List.range_succ, List.map_append]
          exact txt_snoc _ _
      · rintro σ' H3 ⟨⟨v8, v9, rfl⟩, rfl⟩
        walk_at "rd"
        refine ⟨_, rfl, .inl ⟨rfl, _, .of e2⟩, ?_⟩
        walk_at "rd"
        refine app_at e2 (by rw [List.length_map, List.length_map, List.length_range]; omega) ?_
        walk_at "rd"
        refine ⟨⟨_, rfl⟩, same_updN f1 s2, ?_⟩
        rw [upd_same, List.range_succ, List.map_append, List.map_append]; rfl
    · rintro σ' H2 ⟨⟨v6, v7, v8, v9, rfl⟩, s2, e2⟩
      walk_at "rd"
      exact q l H2 _ s2 f1 e2 nok
def spGuard25 : Sp := fun vs H Q _ => ∃ (n : Int) (pw : Addr) (watches : List Str) (unit : Int), vs = [.int n, .ref pw, .int unit] ∧ 0 ≤ n ∧ H pw = some (.lst (watches.map V.str)) ∧ (∀ x ∈ watches, okWatch x = true) ∧ watches.length ≤ 7 ∧ 0 ≤ unit ∧ Sz 180 unit ∧
  ∀ (q : Addr) (H' : Hp) (ls : List Lq), Same H H' → H q = none → LsAt (newH H H') q ls → ls.length ≤ 2 → guardOk ["<", "<=", ">", ">=", "="] watches ls = true → Q (.ref q) H'
theorem ok_l_guard (T : Top K mg) : FnOk P w K mg base CX0 1 T.f_l_guard T.d_l_guard ["_law_number", "_law_watches", "_law_unit"] spGuard25 := by
  refine T.F_l_guard.ok sc_l_guard (fun vs H Q E h => ?_) (fun cdv A outer s H vs Q E hr h => ?_)
  · obtain ⟨n, pw, watches, unit, rfl, _⟩ := h; rfl
  · obtain ⟨n, pw, watches, unit, rfl, n0, hw, wok, w7, u0, su, q⟩ := h
    refine ⟨_, (pss_cons (ps_set (i := 3) sc_l_guard.nd rfl (.inl rfl) (pe_lstN pa_nil))
      (pss_cons (ps_for PassesOwn.never rfl (pi_range1 (by rfl) T.m_range (pa_cons (pe_op op_modN (pv 0) pe_int) pa_nil)) (pg_name (i := 4) sc_l_guard.nd rfl (.inl rfl)) (pss_one (ps_if (pt_cmpR (op_neD hr.units) (pv 1) (pe_lstN pa_nil) (nomark _)) (pss_cons (ps_set (i := 5) sc_l_guard.nd rfl (.inl rfl) (pe_op op_modN (pe_op op_fdivZ (pv 0) (pe_op op_add pe_int (pe_op op_mulW pe_int (pv 4)))) pe_int))
      (pss_cons (ps_set (i := 6) sc_l_guard.nd rfl (.inl rfl) (pe_ix (ix_listA (K := K) rfl) (pe_lstN (pa_cons pe_str (pa_cons pe_str (pa_cons pe_str (pa_cons pe_str (pa_cons pe_str pa_nil)))))) (pe_op op_modN (pe_op op_fdivZ (pv 5) pe_int) pe_int) (fun _ _ => rfl)))
      (pss_one (ps_expr (pe_bm PySem.F.plainAttrs_list PySem.F.slot_list_append PySem.F.type_list_append mt_append (pv 3) (pa_cons (pe_tupN (pa_cons (pe_ix (ix_listA (K := K) rfl) (pv 1) (pe_op op_modN (pv 5) (pe_callB call_len_seq (by rfl) T.m_len (by decide +kernel) (pa_cons (pv 1) pa_nil))) (fun _ _ => rfl)) (pa_cons (pv 6) (pa_cons (pe_op op_add (pe_op op_mulW (pe_op op_modN (pe_op op_fdivZ (pv 5) pe_int) pe_int) (pv 2)) (pe_op op_modN (pe_op op_fdivZ (pv 5) pe_int) pe_int)) pa_nil)))) pa_nil)))))) pss_nil)))
      (pss_one (ps_ret (pv 3))))), ?_⟩
    refine seq_step ?_
    walk_at "rd"
    intro g H1 s1 f1 e1
    refine seq_step ?_
    refine for_rg ?_
    walk_at "rd"
    have mm := fm_pos (c := n) (m := 3) (by decide)
    obtain ⟨cnt, hcnt⟩ : ∃ k : Nat, n.fmod 3 = (k : Int) := ⟨(n.fmod 3).toNat, by omega⟩
    rw [hcnt] at mm ⊢
    refine ⟨(rg_ok (by omega)).1, (rg_ok (by omega)).2, ?_⟩
    rw [Int.toNat_natCast]
    refine forR_by (fun i σ' H' => (∃ v4 v5 v6, σ' = [some (.int n), some (.ref pw), some (.int unit), some (.ref g), v4, v5, v6]) ∧ Same H H' ∧ ∃ ls, SeqD LqAt (newH H H') g ls ∧ ls.length ≤ i ∧ guardOk ["<", "<=", ">", ">=", "="] watches ls = true) ⟨⟨_, _, _, rfl⟩, s1, [], SeqD.nil (new_at f1 e1), Nat.le_refl _, rfl⟩ ?_ ?_
    · rintro i σ' H' hi ⟨⟨v4, v5, v6, rfl⟩, s', ls, sd, ll, gk⟩
      walk_at "rd"
      intro l3 H3 s3 f3 e3
      have sh := s'.trans s3
      refine ⟨_, _, names_dp (sh _ _ hw), .lst (.of e3) .nil, shaped_xs fun x h => okWatch_tx (wok x h), rfl, ?_⟩
      by_cases we : watches = []
      · subst we
        walk_at "rd"
        exact ⟨⟨_, rfl⟩, sh, ls, sd.keep lqKeep (new_later s3), by omega, gk⟩
      · have ne : PyData.eqv (.list (watches.map PyData.str)) (.list []) = false := by
          cases watches with
          | nil => exact absurd rfl we
          | cons r rs => rfl
        rw [ne]
        walk_at "rd"
        have wl : 0 < watches.length := List.length_pos_iff.mpr we
        refine seq_step ?_
        walk_at "rd"
        have sdiv : Sz 8 (3 + 4 * (i : Int)) := by show (3 + 4 * (i : Int)).natAbs < 2 ^ 8; omega
        refine ⟨Sz.mulW (a := 8) (b := 8) (by show (4 : Int).natAbs < 2 ^ 8; decide) (by show (i : Int).natAbs < 2 ^ 8; omega) (by decide), .of (n := 8) (by omega) sdiv (by decide), ?_⟩
        have m1 := fm_pos (c := n.fdiv (3 + 4 * (i : Int))) (m := 1000003) (by decide)
        generalize (n.fdiv (3 + 4 * (i : Int))).fmod 1000003 = one at *
        refine seq_step ?_
        walk_at "rd"
        intro l5 H5 s5 f5 e5
        have m2 := fm_pos (c := one.fdiv 7) (m := 5) (by decide)
        obtain ⟨wd, hwd, hwdm⟩ := pick_word (ws := ["<", "<=", ">", ">=", "="]) m2
        walk_at "rd"
        refine ix_l (.of e5) m2.1 hwd ?_
        have sh := sh.trans s5
        have sd4 := sd.keep lqKeep (new_later (H := H) (s3.trans s5))
        obtain ⟨gqs, gq1, _⟩ := id sd4
        walk_at "rd"
        refine ⟨_, rfl, .inl ⟨rfl, _, .of (new_of gq1).2⟩, ?_⟩
        walk_at "rd"
        refine ⟨_, .inl (.of (sh _ _ hw)), ?_⟩
        rw [List.length_map]
        refine ⟨by omega, ?_⟩
        have mw := fm_pos (c := one) (m := (watches.length : Int)) (by omega)
        obtain ⟨wn, hwn, hwnm⟩ := pick_word (ws := watches) mw
        refine ix_l (.of (sh _ _ hw)) mw.1 hwn ?_
        walk_at "rd"
        have m4 := fm_pos (c := one.fdiv 35) (m := 4) (by decide)
        have m3 := fm_pos (c := one.fdiv 140) (m := 3) (by decide)
        refine ⟨(show Sz 4 ((one.fdiv 35).fmod 4) by show Int.natAbs _ < 2 ^ 4; omega).mulW su (by decide), ?_⟩
        have nv0 : 0 ≤ (one.fdiv 35).fmod 4 * unit + (one.fdiv 140).fmod 3 := by
          have := Int.mul_nonneg m4.1 u0
          omega
        generalize (one.fdiv 35).fmod 4 * unit + (one.fdiv 140).fmod 3 = nv at *
        intro tq H6 s6 f6 e6
        have s36 := s6
        have sh6 := sh.trans s36
        have sd6 := sd4.keep lqKeep (new_later (H := H) s36)
        have tg : tq ≠ g := fun z => by
          rw [z, (new_of gq1).2] at f6; cases f6
        obtain ⟨items, it1, it2, it3⟩ := sd6.app lqKeep (x := (wn, wd, V.int nv)) ⟨del_at tg (new_at (sh.free f6) e6), rfl⟩
        refine app_at (new_of it1).2 (by omega) ?_
        walk_at "rd"
        rw [← new_upd f1] at it3
        refine ⟨⟨_, rfl⟩, same_updN f1 sh6, _, it3, by rw [List.length_append, List.length_singleton]; omega, ?_⟩
        show (ls ++ [(wn, wd, V.int nv)]).all (lookOk ["<", "<=", ">", ">=", "="] watches) = true
        rw [List.all_append, show ls.all (lookOk ["<", "<=", ">", ">=", "="] watches) = true from gk]
        simp only [List.all_cons, List.all_nil, Bool.and_true, Bool.true_and]
        unfold lookOk numOk
        simp only [decide_eq_true hwnm, decide_eq_true hwdm, decide_eq_true nv0, Bool.and_true]
    · rintro σ' H' ⟨⟨v4, v5, v6, rfl⟩, s', ls, sd, ll, gk⟩
      walk_at "rd"
      exact q g H' ls s' f1 (sd.seq lqKeep) (by omega) gk
/-- a door whose parts are all new -/
def MdAt (C : Addr) (Hb : Hp) (Hx : Hp) (q : Addr) (d : DoorD) : Prop := ∃ dx g n, Hx q = some (.ins C dx (doorF d.st d.en d.sg g n)) ∧ LsAt Hx g d.looks ∧ Hx n = some (.lst (d.backs.map V.str)) ∧ Hb q = none ∧ Hb g = none ∧ Hb n = none
theorem MdAt.keep {C : Addr} {Hb : Hp} : ∀ (H H' : Hp) (q : Addr) (d : DoorD), Same H H' → MdAt C Hb H q d → MdAt C Hb H' q d := fun _ _ _ _ s ⟨dx, g, n, a, b, c, e⟩ => ⟨dx, g, n, s _ _ a, b.keep s, s _ _ c, e⟩
theorem del_rem {D : Addr} {H : Hp} : remU (fun b => b = D) H = delH D H := by
  funext b
  unfold remU delH
  by_cases h : b = D
  · rw [if_pos h, if_pos h]
  · rw [if_neg h, if_neg h]
theorem ix_last {K : PySem.W.Frag} {H : Hp} {p : Addr} {xs : List V} {v : V} {Q : VK} (h : SqL K H p xs) (hv : xs.getLast? = some v) (q : Q v H) : rIxL K (.ref p) (.int (-1)) H Q := by
  obtain ⟨ys, e⟩ := List.getLast?_eq_some_iff.mp hv
  exact ⟨p, xs, -1, v, rfl, rfl, h, by rw [e]; exact atI_last ys v, q⟩
def spDoor25 : Sp := fun vs H Q _ => ∃ (n : Int) (k : Nat) (pr pw pn : Addr) (unit : Int) (rooms watches ns : List Str), vs = [.int n, .int k, .ref pr, .ref pw, .ref pn, .int unit] ∧ k ≤ 99 ∧ H pr = some (.lst (rooms.map V.str)) ∧ 1 ≤ rooms.length ∧ rooms.length ≤ 7 ∧
  H pw = some (.lst (watches.map V.str)) ∧ (∀ x ∈ watches, okWatch x = true) ∧ watches.Nodup ∧ watches.length ≤ 7 ∧ H pn = some (.lst (ns.map V.str)) ∧ ns.length = 2 ∧ (∀ x ∈ ns, okName x = true) ∧ 0 ≤ unit ∧ Sz 180 unit ∧
  ∀ (q : Addr) (H' : Hp) (d : DoorD), Same H H' → H q = none → DtAt (newH H H') q d → doorOk watches rooms d = true → d.looks.length ≤ 2 → Q (.ref q) H'
theorem ok_l_door (T : Top K mg) : FnOk P w K mg base CX0 3 T.f_l_door T.d_l_door ["_law_number", "_law_k", "_law_rooms", "_law_watches", "_law_names_here", "_law_unit"] spDoor25 := by
  refine T.F_l_door.ok sc_l_door (fun vs H Q E h => ?_) (fun cdv A outer s H vs Q E hr h => ?_)
  · obtain ⟨n, k, pr, pw, pn, unit, rooms, watches, ns, rfl, _⟩ := h; rfl
  · obtain ⟨n, k, pr, pw, pn, unit, rooms, watches, ns, rfl, hk, hrm, r1, r7, hw, wok, wnd, w7, hn, n2, nok, u0, su, q⟩ := h
    refine ⟨_, (pss_cons (ps_set (i := 6) sc_l_door.nd rfl (.inr rfl) (pe_call (ok_l_draws T) (hr.mono (by decide)) rfl T.g_l_draws T.F_l_draws.kp T.b_l_draws .nil pass0 (pa_cons (pv 0) (pa_cons (pv 1) (pa_cons pe_int pa_nil)))))
      (pss_cons (ps_set (i := 7) sc_l_door.nd rfl (.inl rfl) (pe_ix (ix_listA (K := K) rfl) (pe_lstN (pa_cons pe_str (pa_cons (pe_op op_add_str (pe_ix (ix_listA (K := K) rfl) (pv 4) (pe_op op_modN (pe_op op_fdivZ (pe_ix (ix_listA (K := K) rfl) (pv 6) pe_int (fun _ _ => rfl)) pe_int) pe_int) (fun _ _ => rfl)) pe_str) (pa_cons (pe_op op_add_str (pe_ix (ix_listA (K := K) rfl) (pv 4) (pe_op op_modN (pe_op op_fdivZ (pe_ix (ix_listA (K := K) rfl) (pv 6) pe_int (fun _ _ => rfl)) pe_int) pe_int) (fun _ _ => rfl)) pe_str) pa_nil)))) (pe_op op_modN (pe_ix (ix_listA (K := K) rfl) (pv 6) pe_int (fun _ _ => rfl)) pe_int) (fun _ _ => rfl)))
      (pss_cons (lc_vsS (vs := [9]) (ps_setLc (i := 8) (own := [("_law_j", 9)]) (g := gName 9) rfl sc_l_door.nd rfl rfl (sw_true rfl rfl rfl (by decide +kernel)) (pi_range1 (by rfl) T.m_range (pa_cons (pe_callB call_len_seq (by rfl) T.m_len (by decide +kernel) (pa_cons (pv 3) pa_nil)) pa_nil)) (blkOk_by (own := [("_law_j", 9)]) (N := ["_law_number", "_law_k", "_law_rooms", "_law_watches", "_law_names_here", "_law_unit", "_law_xs", "_law_sign", "_law_noughts", "_law_j"]) (sc := defScope s_l_door) (by decide +kernel)) (fun _ _ _ _ _ => (pg_name (i := 9) sc_l_door.nd rfl (.inl rfl))) (fun _ _ _ _ _ => pts_one (pt_cmpR op_eq (pe_op op_modN (pe_op op_fdivZ (pe_ix (ix_listA (K := K) rfl) (pv 6) pe_int (fun _ _ => rfl)) (pe_op op_add pe_int (pv 9))) pe_int) pe_int (nomark _))) (fun _ _ _ _ _ => (pe_ix (ix_listA (K := K) rfl) (pv 3) (pv 9) (fun _ _ => rfl)))) rfl)
      (pss_cons (ps_if (pt_cmpR op_eq (pe_op op_modN (pe_ix (ix_listA (K := K) rfl) (pv 6) pe_int (fun _ _ => rfl)) pe_int) pe_int (nomark _)) (pss_one (ps_set (i := 8) sc_l_door.nd rfl (.inl rfl) (pe_revN (fun _ _ _ _ m h => by obtain ⟨v, h1, h2⟩ := h; exact ⟨v, h1, m _ _ h2⟩) (pv 8)))) pss_nil)
      (pss_one (ps_ret (pe_tupN (pa_cons (pe_ix (ix_listA (K := K) rfl) (pv 2) (pe_op op_modN (pe_ix (ix_listA (K := K) rfl) (pv 6) pe_int (fun _ _ => rfl)) (pe_callB call_len_seq (by rfl) T.m_len (by decide +kernel) (pa_cons (pv 2) pa_nil))) (fun _ _ => rfl)) (pa_cons (pe_ix (ix_listA (K := K) rfl) (pv 2) (pe_op op_modN (pe_ix (ix_listA (K := K) rfl) (pv 6) pe_int (fun _ _ => rfl)) (pe_callB call_len_seq (by rfl) T.m_len (by decide +kernel) (pa_cons (pv 2) pa_nil))) (fun _ _ => rfl)) (pa_cons (pe_call (ok_l_guard T) (hr.mono (by decide)) rfl T.g_l_guard T.F_l_guard.kp T.b_l_guard .nil pass0 (pa_cons (pe_ix (ix_listA (K := K) rfl) (pv 6) pe_int (fun _ _ => rfl)) (pa_cons (pv 3) (pa_cons (pv 5) pa_nil)))) (pa_cons (pv 8) (pa_cons (pv 7) pa_nil)))))))))))), ?_⟩
    refine seq_step ?_
    walk_at "rd"
    refine ⟨n, k, 6, rfl, by decide, hk, fun px H1 xs s1 f1 e1 xl xok => ?_⟩
    have xat : ∀ j : Nat, j < 6 → ∃ v : Int, (xs.map V.int)[j]? = some (.int v) ∧ 0 ≤ v ∧ v < 2147483647 := fun j h => by
      have hj := List.getElem?_eq_getElem (l := xs) (i := j) (by omega)
      exact ⟨xs[j], by rw [List.getElem?_map, hj]; rfl, xok _ (List.mem_of_getElem? hj)⟩
    obtain ⟨x0, h0, _⟩ := xat 0 (by omega)
    obtain ⟨x1, h1, _⟩ := xat 1 (by omega)
    obtain ⟨x2, h2, _⟩ := xat 2 (by omega)
    obtain ⟨x3, h3, _⟩ := xat 3 (by omega)
    obtain ⟨x4, h4, _⟩ := xat 4 (by omega)
    obtain ⟨x5, h5, x50, _⟩ := xat 5 (by omega)
    walk_at "rd"
    refine seq_step ?_
    walk_at "rd"
    have md2 := fm_pos (c := x0.fdiv 6) (m := 2) (by decide)
    obtain ⟨nm, hnm, nmm⟩ := pick_word (ws := ns) (i := (x0.fdiv 6).fmod 2) (by omega)
    have nmo := nok nm nmm
    have nml := okName_len nmo
    have l1 : (Str.ofString "!").length = 1 := by decide +kernel
    have l2 : (Str.ofString "?").length = 1 := by decide +kernel
    refine ix_l (.of e1) (by decide) h0 ?_
    walk_at "rd"
    refine ix_l (.of (s1 _ _ hn)) md2.1 hnm ?_
    refine ⟨_, rfl, _, rfl, small1000' (by omega), ?_⟩
    refine ix_l (.of e1) (by decide) h0 ?_
    walk_at "rd"
    refine ix_l (.of (s1 _ _ hn)) md2.1 hnm ?_
    refine ⟨_, rfl, _, rfl, small1000' (by omega), ?_⟩
    intro sl H2 s2 f2 e2
    refine ix_l (.of (s2 _ _ e1)) (by decide) h0 ?_
    walk_at "rd"
    have m3 := fm_pos (c := x0) (m := 3) (by decide)
    obtain ⟨sg, hsg, sgo⟩ : ∃ sg : Str, [V.str "", V.str (nm ++ ("!" : Str)), V.str (nm ++ ("?" : Str))][(x0.fmod 3).toNat]? = some (.str sg) ∧ okSign sg = true := by
      generalize x0.fmod 3 = r6 at *
      obtain rfl | rfl | rfl : r6 = 0 ∨ r6 = 1 ∨ r6 = 2 := by omega
      · exact ⟨_, rfl, by decide +kernel⟩
      · exact ⟨_, rfl, okSign_name nmo (c := 33) (by decide +kernel) (by decide +kernel)⟩
      · exact ⟨_, rfl, okSign_name nmo (c := 63) (by decide +kernel) (by decide +kernel)⟩
    refine ix_l (.of e2) m3.1 hsg ?_
    walk_at "rd"
    have s12 := s1.trans s2
    refine seq_step ?_
    refine lcr_src ?_
    walk_at "rd"
    refine ⟨_, .inl (.of (s12 _ _ hw)), ?_⟩
    rw [List.length_map]
    refine ⟨(rg_ok (by omega)).1, (rg_ok (by omega)).2, ?_⟩
    rw [Int.toNat_natCast]
    generalize hF : (fun k : Nat => if (x1.fdiv (2 + (k : Int))).fmod 2 = 1 then watches[k]? else none) = F
    have fn := fm_nodup wnd (n := watches.length) (F := F) (fun k x h => by
      subst hF
      simp only at h
      split at h
      · exact h
      · cases h)
    refine lcR (F := fun k => (F k).map V.str) (by omega) (fun j H3 Yes No hj s3 hy hno => ?_) (fun nl H3 s3 f3 e3 => ?_)
    · walk_at "rd"
      refine ix_l (.of ((s2.trans s3) _ _ e1)) (by decide) h1 ?_
      walk_at "rd"
      refine ⟨.of (n := 8) (by omega) (by show (2 + (j : Int)).natAbs < 2 ^ 8; omega) (by decide), ?_⟩
      have hwj : watches[j]? = some watches[j] := List.getElem?_eq_getElem hj
      refine ite_d (fun c => ?_) (fun c => ?_)
      · refine ix_l (.of ((s12.trans s3) _ _ hw)) (by omega) (by rw [Int.toNat_natCast, List.getElem?_map, hwj]; rfl) (hy _ _ (Same.refl _) ?_)
        subst hF
        simp only
        rw [if_pos c, hwj]; rfl
      · refine hno _ (Same.refl _) ?_
        subst hF
        simp only
        rw [if_neg c]; rfl
    have e3' : H3 nl = some (.lst (((List.range watches.length).filterMap F).map V.str)) := by rw [e3, List.map_filterMap]
    generalize (List.range watches.length).filterMap F = bs at fn e3'
    have s13 := s12.trans s3
    walk_at "rd"
    refine join_op (fun σ' H' => ∃ (n' : Addr) (bs' : List Str), σ' = [some (.int n), some (.int k), some (.ref pr), some (.ref pw), some (.ref pn), some (.int unit), some (.ref px), some (.str sg), some (.ref n'), none] ∧ Same H3 H' ∧ H n' = none ∧ H' n' = some (.lst (bs'.map V.str)) ∧ bs'.Nodup ∧ ∀ x ∈ bs', x ∈ watches) ?r1 (fun R' way => ?_)
    case r1 =>
      rintro σ' H4 ⟨n', bs', rfl, s4, fn', en', bnd, bsub⟩
      have s24 := s2.trans (s3.trans s4)
      have s14 := s13.trans s4
      have e14 := s24 _ _ e1
      have room : ∀ {x : Int} {Q1 : VK} {H5 : Hp}, Same H4 H5 → (∀ st, st ∈ rooms → Q1 (.str st) H5) → rIxL K (.ref pr) (.int (x.fmod (rooms.length : Int))) H5 Q1 := fun {x Q1 H5} s5 hq => by
        have mr := fm_pos (c := x) (m := (rooms.length : Int)) (by omega)
        obtain ⟨st, hst, hstm⟩ := pick_word (ws := rooms) mr
        exact ix_l (.of ((s14.trans s5) _ _ hrm)) mr.1 hst (hq st hstm)
      walk_at "rd"
      refine ix_l (.of e14) (by decide) h3 ?_
      walk_at "rd"
      refine ⟨_, .inl (.of (s14 _ _ hrm)), ?_⟩
      rw [List.length_map]
      refine ⟨by omega, ?_⟩
      refine room (Same.refl _) fun st hst => ?_
      walk_at "rd"
      refine ix_l (.of e14) (by decide) h4 ?_
      walk_at "rd"
      refine ⟨_, .inl (.of (s14 _ _ hrm)), ?_⟩
      rw [List.length_map]
      refine ⟨by omega, ?_⟩
      refine room (Same.refl _) fun en hen => ?_
      walk_at "rd"
      refine ix_l (.of e14) (by decide) h5 ?_
      refine ⟨x5, pw, watches, unit, rfl, x50, s14 _ _ hw, wok, w7, u0, su, fun g H5 ls s5 f5 e5 l2 gk => ?_⟩
      walk_at "rd"
      intro t H6 s6 f6 e6
      have s46 := s5.trans s6
      have s06 := s14.trans s46
      refine q t H6 ⟨st, en, sg, ls, bs'⟩ s06 ((s14.trans s5).free f6) ⟨g, n', new_at ((s14.trans s5).free f6) e6, e5.keep (new_mono s14 s6), new_at fn' (s46 _ _ en')⟩ ?_ l2
      unfold doorOk
      rw [sgo, show guardOk ["<", "<=", ">", ">=", "="] watches ls = true from gk]
      rw [decide_eq_true hst, decide_eq_true hen, decide_eq_true bnd]
      show ((true && true && true && true && bs'.all _) && true) = true
      rw [List.all_eq_true.mpr (fun b hb => decide_eq_true (bsub b hb))]; rfl
    refine seq_step ?_
    walk_at "rd"
    refine ix_l (.of ((s2.trans s3) _ _ e1)) (by decide) h2 ?_
    walk_at "rd"
    refine ite_d (fun c => ?_) (fun c => ?_)
    · walk_at "rd"
      refine ⟨_, rfl, nl, _, rfl, .of e3', fun n2 H5 s5 f5 e5 => ?_⟩
      walk_at "rd"
      exact way _ _ ⟨n2, bs.reverse, rfl, s5, (s13).free f5, by rw [e5, List.map_reverse], nodup_rev fn.1, fun x hx => fn.2 x (List.mem_reverse.mp hx)⟩
    · exact way _ _ ⟨nl, bs, rfl, Same.refl _, s12.free f3, e3', fn.1, fn.2⟩
theorem new_del2 {H5 H6 H7 : Hp} {D : Addr} {o : HO} (s : Same H5 H6) (e : H6 D = some o) : Same (newH H6 H7) (delH D (newH H5 H7)) := fun b o' h => by
  have := new_of h
  exact del_at (fun z => by rw [z, e] at this; cases this.1) (new_at (s.free this.1) this.2)
theorem manyR_pg (ps : List PgD) (p : PgD) : manyR ((ps ++ [p]).map PgD.mach) = manyR (ps.map PgD.mach) * p.rooms.length := by
  rw [List.map_append]
  show manyR (ps.map PgD.mach ++ [p.mach]) = _
  rw [manyR_snoc]
  show _ * (p.rooms.map fun x => ((x, []) : Rq)).length = _
  rw [List.length_map]
def limP (i : Nat) : Nat := [3, 3, 3, 2].getD i 0
def roomsB (i : Nat) : Nat := [1, 3, 9, 27, 54].getD i 0
def watchB (i : Nat) : Nat := [0, 2, 4, 6, 7].getD i 0
def spParts25 (K : PySem.W.Frag) : Sp := fun vs H Q _ => ∃ (a : Addr) (cs : List Int), vs = [.ref a] ∧ SqL K H a (cs.map V.int) ∧ ∀ (q : Addr) (H' : Hp) (ps : List PgD), Same H H' → SeqOf PgAt H' q ps → PgsOk ps → Q (.ref q) H'
theorem ok_l_parts (T : Top K mg) : FnOk P w K mg base CX0 4 T.f_l_parts T.d_l_parts ["_law_script"] (spParts25 K) := by
  refine T.F_l_parts.ok sc_l_parts (fun vs H Q E h => ?_) (fun cdv A outer s H vs Q E hr h => ?_)
  · obtain ⟨a, cs, rfl, _⟩ := h; rfl
  · obtain ⟨a, cs, rfl, hS, q⟩ := h
    refine ⟨_, (pss_cons (ps_set (i := 1) sc_l_parts.nd rfl (.inl rfl) (pe_call (ok_l_names T) (hr.mono (by decide)) rfl T.g_l_names T.F_l_names.kp T.b_l_names .nil pass0 (pa_cons (pe_call (ok_l_cell_at T) (hr.mono (by decide)) rfl T.g_l_cell_at T.F_l_cell_at.kp T.b_l_cell_at .nil pass0 (pa_cons (pv 0) (pa_cons pe_int pa_nil))) (pa_cons pe_int pa_nil))))
      (pss_cons (ps_set (i := 2) sc_l_parts.nd rfl (.inl rfl) (pe_op op_add pe_int (pe_op op_modN (pe_call (ok_l_cell_at T) (hr.mono (by decide)) rfl T.g_l_cell_at T.F_l_cell_at.kp T.b_l_cell_at .nil pass0 (pa_cons (pv 0) (pa_cons pe_int pa_nil))) (pe_op op_pow pe_int pe_int))))
      (pss_cons (ps_set (i := 3) sc_l_parts.nd rfl (.inl rfl) (pe_lstN pa_nil))
      (pss_cons (ps_for PassesOwn.never rfl (pi_range1 (by rfl) T.m_range (pa_cons (pe_op op_add pe_int (pe_op op_modN (pe_call (ok_l_cell_at T) (hr.mono (by decide)) rfl T.g_l_cell_at T.F_l_cell_at.kp T.b_l_cell_at .nil pass0 (pa_cons (pv 0) (pa_cons pe_int pa_nil))) pe_int)) pa_nil)) (pg_name (i := 4) sc_l_parts.nd rfl (.inl rfl)) (pss_cons (ps_set (i := 5) sc_l_parts.nd rfl (.inl rfl) (pe_call (ok_l_cell_at T) (hr.mono (by decide)) rfl T.g_l_cell_at T.F_l_cell_at.kp T.b_l_cell_at .nil pass0 (pa_cons (pv 0) (pa_cons (pe_op op_add pe_int (pv 4)) pa_nil))))
      (pss_cons (ps_set (i := 6) sc_l_parts.nd rfl (.inl rfl) (pe_slice (sl_listA (K := K) rfl) (pv 1) (po_some (pe_op op_add pe_int (pe_op op_mulW pe_int (pv 4)))) (po_some (pe_op op_add (pe_op op_add pe_int (pe_op op_mulW pe_int (pv 4))) (pe_op op_modN (pv 5) (pe_ix (ix_listA (K := K) rfl) (pe_lstN (pa_cons pe_int (pa_cons pe_int (pa_cons pe_int (pa_cons pe_int pa_nil))))) (pv 4) (fun _ _ => rfl)))))))
      (pss_cons (ps_set (i := 7) sc_l_parts.nd rfl (.inl rfl) (pe_ix (ix_listA (K := K) rfl) (pe_lstN (pa_cons pe_int (pa_cons (pe_op op_mulW pe_int (pv 4)) pa_nil))) (pe_op op_modN (pe_op op_fdivZ (pv 5) pe_int) pe_int) (fun _ _ => rfl)))
      (pss_cons (ps_set (i := 8) sc_l_parts.nd rfl (.inl rfl) (pe_slice (sl_listA (K := K) rfl) (pv 1) (po_some (pv 7)) (po_some (pe_op op_add (pe_op op_add (pv 7) pe_int) (pe_op op_modN (pe_op op_fdivZ (pv 5) pe_int) (pe_ix (ix_listA (K := K) rfl) (pe_lstN (pa_cons pe_int (pa_cons pe_int (pa_cons pe_int (pa_cons pe_int pa_nil))))) (pv 4) (fun _ _ => rfl)))))))
      (pss_cons (ps_set (i := 9) sc_l_parts.nd rfl (.inl rfl) (pe_lstN pa_nil))
      (pss_cons (ps_for PassesOwn.never rfl (pi_range1 (by rfl) T.m_range (pa_cons (pe_op op_modN (pe_op op_fdivZ (pv 5) pe_int) pe_int) pa_nil)) (pg_name (i := 10) sc_l_parts.nd rfl (.inl rfl)) (pss_one (ps_expr (pe_bm PySem.F.plainAttrs_list PySem.F.slot_list_append PySem.F.type_list_append mt_append (pv 9) (pa_cons (pe_call (ok_l_door T) (hr.mono (by decide)) rfl T.g_l_door T.F_l_door.kp T.b_l_door .nil pass0 (pa_cons (pe_op op_add (pe_op op_fdivZ (pv 5) pe_int) (pv 4)) (pa_cons (pv 10) (pa_cons (pv 8) (pa_cons (pv 6) (pa_cons (pe_slice (sl_listA (K := K) rfl) (pv 1) (po_some pe_int) (po_some pe_int)) (pa_cons (pv 2) pa_nil))))))) pa_nil)))))
      (pss_one (ps_expr (pe_bm PySem.F.plainAttrs_list PySem.F.slot_list_append PySem.F.type_list_append mt_append (pv 3) (pa_cons (pe_tupN (pa_cons (pv 6) (pa_cons (pv 8) (pa_cons (pv 9) pa_nil)))) pa_nil)))))))))))
      (pss_one (ps_ret (pv 3))))))), ?_⟩
    refine seq_step ?_
    walk_at "rd"
    refine ⟨a, cs, 0, rfl, hS, by decide, ?_⟩
    generalize cs.getD (0 : Int).toNat 0 = c0
    refine ⟨c0, 26, rfl, by decide, fun pn H1 ns s1 f1 e1 nok => ?_⟩
    have nl : ns.length = 26 := nok.1
    obtain ⟨nlen, hnlen⟩ := nok.2.2.2
    walk_at "rd"
    refine seq_step ?_
    walk_at "rd"
    refine ⟨a, cs, 1, rfl, s1.seq hS, by decide, ?_⟩
    generalize cs.getD (1 : Int).toNat 0 = c1
    walk_at "rd"
    have mu := fm_pos (c := c1) (m := 10000000000000000000000000000000000000000) (by decide)
    generalize hun : 1 + c1.fmod 10000000000000000000000000000000000000000 = unit
    have u0 : 0 ≤ unit := by omega
    have su : Sz 180 unit := Sz.nn (j := 10 ^ 40) u0 (by omega) (by show (10 ^ 40 : Int).natAbs < 2 ^ 180; decide +kernel)
    refine seq_step ?_
    walk_at "rd"
    intro pp H2 s2 f2 e2
    have s12 := s1.trans s2
    refine seq_step ?_
    refine for_rg ?_
    walk_at "rd"
    refine ⟨a, cs, 2, rfl, s12.seq hS, by decide, ?_⟩
    generalize cs.getD (2 : Int).toNat 0 = c2
    walk_at "rd"
    have m4 := fm_pos (c := c2) (m := 4) (by decide)
    obtain ⟨kn, hkn⟩ : ∃ n : Nat, 1 + c2.fmod 4 = (n : Int) := ⟨(1 + c2.fmod 4).toNat, by omega⟩
    rw [hkn]
    refine ⟨(rg_ok (by omega)).1, (rg_ok (by omega)).2, ?_⟩
    rw [Int.toNat_natCast]
    obtain ⟨Iv, hIv⟩ : ∃ Iv : Nat → L2.St → Hp → Prop, ∀ i σ' H', Iv i σ' H' ↔ (∃ (ps : List PgD) (v4 v5 v6 v7 v8 v9 v10 : Option V), σ' = [some (.ref a), some (.ref pn), some (.int unit), some (.ref pp), v4, v5, v6, v7, v8, v9, v10] ∧ Same H1 H' ∧ SeqD PgAt H' pp ps ∧ ps.length = i ∧ (∀ p ∈ ps, PgOk nlen p) ∧ (ps.flatMap (·.watches)).Sublist ((ns.drop 12).take (2 * i)) ∧ (ps.flatMap (·.watches)).length ≤ watchB i ∧ manyR (ps.map PgD.mach) ≤ roomsB i) := ⟨_, fun _ _ _ => Iff.rfl⟩
    refine forR_by Iv ((hIv _ _ _).mpr ⟨[], _, _, _, _, _, _, _, rfl, s2, SeqD.nil e2, rfl, (fun p h => by cases h), List.nil_sublist _, Nat.zero_le _, Nat.le_refl _⟩) ?_ ?_
    · rintro i σ' H3 hi hinv
      obtain ⟨ps, v4, v5, v6, v7, v8, v9, v10, rfl, s3, sd, pl, pok, wsub, wlen, rlen⟩ := (hIv _ _ _).mp hinv
      have i4 : i < 4 := by omega
      have s03 := s1.trans s3
      walk_at "rd"
      refine seq_step ?_
      walk_at "rd"
      refine ⟨a, cs, _, rfl, s03.seq hS, by omega, ?_⟩
      generalize cs.getD _ 0 = cx
      walk_at "rd"
      refine seq_step ?_
      walk_at "rd"
      refine ⟨Sz.mulW (a := 8) (b := 8) (by show (2 : Int).natAbs < 2 ^ 8; decide) (by show (i : Int).natAbs < 2 ^ 8; omega) (by decide), ?_⟩
      refine ⟨Sz.mulW (a := 8) (b := 8) (by show (2 : Int).natAbs < 2 ^ 8; decide) (by show (i : Int).natAbs < 2 ^ 8; omega) (by decide), ?_⟩
      intro l4 H4 s4 f4 e4
      obtain ⟨lm, hlm, hlm2⟩ : ∃ lm : Nat, ([V.int 3, V.int 3, V.int 3, V.int 2])[((i : Int)).toNat]? = some (.int (lm : Int)) ∧ lm = limP i := by
        rw [Int.toNat_natCast]
        obtain rfl | rfl | rfl | rfl : i = 0 ∨ i = 1 ∨ i = 2 ∨ i = 3 := by omega
        · exact ⟨3, rfl, rfl⟩
        · exact ⟨3, rfl, rfl⟩
        · exact ⟨3, rfl, rfl⟩
        · exact ⟨2, rfl, rfl⟩
      have lm23 : 2 ≤ lm ∧ lm ≤ 3 := by
        rw [hlm2]
        obtain rfl | rfl | rfl | rfl : i = 0 ∨ i = 1 ∨ i = 2 ∨ i = 3 := by omega
        all_goals decide
      refine ix_l (.of e4) (by omega) hlm ?_
      walk_at "rd"
      refine ⟨by omega, ?_⟩
      have mw := fm_pos (c := cx) (m := (lm : Int)) (by omega)
      obtain ⟨wn, hwn⟩ : ∃ n : Nat, cx.fmod (lm : Int) = (n : Int) := ⟨(cx.fmod (lm : Int)).toNat, by omega⟩
      rw [hwn] at mw ⊢
      have s14 := s3.trans s4
      refine ⟨_, .of (s14 _ _ e1), fun pw H5 s5 f5 e5 => ?_⟩
      have e5 : H5 pw = some (.lst (((ns.drop (12 + 2 * i)).take wn).map V.str)) := by
        rw [e5, show (12 + 2 * (i : Int)) = ((12 + 2 * i : Nat) : Int) by omega, show (((12 + 2 * i : Nat) : Int) + (wn : Int)) = ((12 + 2 * i + wn : Nat) : Int) by omega, cutMid2 (by omega) (by rw [List.length_map]; omega), List.map_take, List.map_drop, Nat.add_sub_cancel_left]
      walk_at "rd"
      refine seq_step ?_
      walk_at "rd"
      refine ⟨Sz.mulW (a := 8) (b := 8) (by show (3 : Int).natAbs < 2 ^ 8; decide) (by show (i : Int).natAbs < 2 ^ 8; omega) (by decide), ?_⟩
      intro l6 H6 s6 f6 e6
      have md2 := fm_pos (c := cx.fdiv 3) (m := 2) (by decide)
      obtain ⟨fs, hfs, hfs2⟩ : ∃ fs : Nat, ([V.int 0, V.int (3 * (i : Int))])[((cx.fdiv 3).fmod 2).toNat]? = some (.int (fs : Int)) ∧ fs ≤ 9 := by
        generalize (cx.fdiv 3).fmod 2 = r at *
        obtain rfl | rfl : r = 0 ∨ r = 1 := by omega
        · exact ⟨0, rfl, by decide⟩
        · exact ⟨3 * i, by rw [Int.natCast_mul]; rfl, by omega⟩
      refine ix_l (.of e6) md2.1 hfs ?_
      walk_at "rd"
      refine seq_step ?_
      walk_at "rd"
      intro l7 H7 s7 f7 e7
      refine ix_l (.of e7) (by omega) hlm ?_
      walk_at "rd"
      refine ⟨by omega, ?_⟩
      have mr := fm_pos (c := cx.fdiv 6) (m := (lm : Int)) (by omega)
      obtain ⟨rn, hrn⟩ : ∃ n : Nat, (cx.fdiv 6).fmod (lm : Int) = (n : Int) := ⟨((cx.fdiv 6).fmod (lm : Int)).toNat, by omega⟩
      rw [hrn] at mr ⊢
      have s17 := s14.trans (s5.trans (s6.trans s7))
      refine ⟨_, .of (s17 _ _ e1), fun pr H8 s8 f8 e8 => ?_⟩
      have e8 : H8 pr = some (.lst (((ns.drop fs).take (1 + rn)).map V.str)) := by
        rw [e8, show ((fs : Int) + 1 + (rn : Int)) = ((fs + (1 + rn) : Nat) : Int) by omega, cutMid2 (by omega) (by rw [List.length_map]; omega), List.map_take, List.map_drop, Nat.add_sub_cancel_left]
      have s18 := s17.trans s8
      have wdef : ∀ x ∈ (ns.drop (12 + 2 * i)).take wn, okName x = true := fun x hx => nok.2.1 x (List.mem_of_mem_drop (List.mem_of_mem_take hx))
      have wnd : ((ns.drop (12 + 2 * i)).take wn).Nodup := (nok.2.2.1.sublist (List.drop_sublist _ _)).sublist (List.take_sublist _ _)
      have wl : ((ns.drop (12 + 2 * i)).take wn).length = wn := by rw [List.length_take, List.length_drop]; omega
      have rdef : ∀ x ∈ (ns.drop fs).take (1 + rn), okName x = true ∧ x.length = nlen := fun x hx => by
        have := List.mem_of_mem_drop (List.mem_of_mem_take hx)
        exact ⟨nok.2.1 x this, hnlen x this⟩
      have rnd : ((ns.drop fs).take (1 + rn)).Nodup := (nok.2.2.1.sublist (List.drop_sublist _ _)).sublist (List.take_sublist _ _)
      have rl : ((ns.drop fs).take (1 + rn)).length = 1 + rn := by rw [List.length_take, List.length_drop]; omega
      have wsub2 : (ps.flatMap (·.watches) ++ (ns.drop (12 + 2 * i)).take wn).Sublist ((ns.drop 12).take (2 * (i + 1))) := by
        rw [show 2 * (i + 1) = 2 * i + 2 by omega, List.take_add]
        refine wsub.append ?_
        rw [List.drop_drop]
        exact List.take_sublist_take_left (by omega)
      generalize (ns.drop (12 + 2 * i)).take wn = W at *
      generalize (ns.drop fs).take (1 + rn) = R at *
      have s38 := s4.trans (s5.trans (s6.trans (s7.trans s8)))
      obtain ⟨_, w1, _⟩ := id sd
      have ppl8 := s38 _ _ w1
      walk_at "rd"
      refine seq_step ?_
      walk_at "rd"
      intro dl H9 s9 f9 e9
      refine seq_step ?_
      refine for_rg ?_
      walk_at "rd"
      have m5 := fm_pos (c := cx.fdiv 18) (m := 5) (by decide)
      obtain ⟨dn, hdn⟩ : ∃ n : Nat, (cx.fdiv 18).fmod 5 = (n : Int) := ⟨((cx.fdiv 18).fmod 5).toNat, by omega⟩
      rw [hdn] at m5 ⊢
      refine ⟨(rg_ok (by omega)).1, (rg_ok (by omega)).2, ?_⟩
      rw [Int.toNat_natCast]
      obtain ⟨Iw, hIw⟩ : ∃ Iv : Nat → L2.St → Hp → Prop, ∀ k σ' H', Iv k σ' H' ↔ (∃ (ds : List DoorD) (v10 : Option V), σ' = [some (.ref a), some (.ref pn), some (.int unit), some (.ref pp), some (.int (i : Int)), some (.int cx), some (.ref pw), some (.int (fs : Int)), some (.ref pr), some (.ref dl), v10] ∧ Same H8 H' ∧ SeqD DtAt (newH H8 H') dl ds ∧ ds.length = k ∧ ∀ d ∈ ds, doorOk W R d = true ∧ d.looks.length ≤ 2) := ⟨_, fun _ _ _ => Iff.rfl⟩
      refine forR_by Iw ((hIw _ _ _).mpr ⟨[], _, rfl, s9, SeqD.nil (new_at f9 e9), rfl, fun d h => by cases h⟩) ?_ ?_
      · rintro k σ' Ha hk hinv2
        obtain ⟨ds, v10, rfl, sa, sdd, dlen, dok⟩ := (hIw _ _ _).mp hinv2
        obtain ⟨dqs, dq1, _⟩ := id sdd
        walk_at "rd"
        refine ⟨_, rfl, .inl ⟨rfl, _, .of (new_of dq1).2⟩, ?_⟩
        walk_at "rd"
        have s1a := s18.trans sa
        refine ⟨_, .of (s1a _ _ e1), fun p20 Hb sb fb eb => ?_⟩
        have eb : Hb p20 = some (.lst (((ns.drop 20).take 2).map V.str)) := by
          rw [eb, show (some (20 : Int)) = some ((20 : Nat) : Int) from rfl, show (some (22 : Int)) = some ((22 : Nat) : Int) from rfl, cutMid2 (by decide) (by rw [List.length_map]; omega), List.map_take, List.map_drop]
        have sab := sa.trans sb
        refine ⟨_, k, pr, pw, p20, unit, R, W, (ns.drop 20).take 2, rfl, by omega, sab _ _ e8, by omega, by omega, (s6.trans (s7.trans (s8.trans sab))) _ _ e5, fun x hx => name_ok_watch (wdef x hx), wnd, by omega, eb, by rw [List.length_take, List.length_drop]; omega, fun x hx => nok.2.1 x (List.mem_of_mem_drop (List.mem_of_mem_take hx)), u0, su, fun t Hc d sc fc dt dk dl2 => ?_⟩
        walk_at "rd"
        have sac := sb.trans sc
        obtain ⟨items, it1, it2, it3⟩ := (sdd.keep DtAt.keep (new_later sac)).app DtAt.keep (q := t) (x := d) (DtAt.keep _ _ _ _ (new_del2 sab (sb _ _ (new_of dq1).2)) dt)
        refine app_at (new_of it1).2 (by omega) ?_
        rw [← new_upd f9] at it3
        refine (hIw _ _ _).mpr ⟨_, _, rfl, same_updN f9 (sa.trans sac), it3, by rw [List.length_append, List.length_singleton]; omega, fun d' hd' => ?_⟩
        rcases List.mem_append.mp hd' with h | h
        · exact dok d' h
        · obtain rfl : d' = d := by simpa using h
          exact ⟨dk, dl2⟩
      · rintro σ' Ha hinv2
        obtain ⟨ds, v10, rfl, sa, sdd, dlen, dok⟩ := (hIw _ _ _).mp hinv2
        walk_at "rd"
        have s3a := s38.trans sa
        refine ⟨_, rfl, .inl ⟨rfl, _, .of (s3a _ _ w1)⟩, ?_⟩
        walk_at "rd"
        intro t Hb sb fb eb
        have s3b := s3a.trans sb
        have ppne : ∀ {b : Addr} {J : Hp}, J b = none → Same H3 J → b ≠ pp := fun f s y => by rw [y, s _ _ w1] at f; cases f
        have wpp : pw ≠ pp := ppne f5 s4
        have rpp : pr ≠ pp := ppne f8 (s4.trans (s5.trans (s6.trans s7)))
        have hds : SeqOf DtAt (delH pp Hb) dl ds := SeqOf.keep (fun _ _ => DtAt.keep _ _ _ _ ((new_del ppl8).trans (del_same sb))) ((new_del ppl8).trans (del_same sb)) (sdd.seq DtAt.keep)
        have pk : PgOk nlen ⟨W, R, ds⟩ := ⟨by show 1 ≤ R.length; omega, by show R.length ≤ 3; omega, rdef, rnd, fun x hx => name_ok_watch (wdef x hx), wnd, by show W.length ≤ 2; omega, by show ds.length ≤ 4; omega, dok⟩
        obtain ⟨items, it1, it2, it3⟩ := (sd.keep PgAt.keep s3b).app PgAt.keep (q := t) (x := ⟨W, R, ds⟩) ⟨pw, pr, dl, del_at (ppne fb s3a) eb, del_at wpp ((s6.trans (s7.trans (s8.trans (sa.trans sb)))) _ _ e5), del_at rpp ((sa.trans sb) _ _ e8), hds⟩
        refine app_at it1 (by omega) ?_
        refine (hIv _ _ _).mpr ⟨ps ++ [⟨W, R, ds⟩], _, _, _, _, _, _, _, rfl, same_updN f2 (s3.trans s3b), it3, by rw [List.length_append, List.length_singleton]; omega, fun p hp => ?_, ?_, ?_, ?_⟩
        · rcases List.mem_append.mp hp with h | h
          · exact pok p h
          · rw [show p = ⟨W, R, ds⟩ by simpa using h]; exact pk
        · rw [List.flatMap_append, show ([(⟨W, R, ds⟩ : PgD)].flatMap fun p => p.watches) = W by simp]
          exact wsub2
        · rw [List.flatMap_append, show ([(⟨W, R, ds⟩ : PgD)].flatMap fun p => p.watches) = W by simp, List.length_append, wl]
          have : wn ≤ limP i - 1 := by omega
          clear wsub2 hlm e4 e7
          obtain rfl | rfl | rfl | rfl : i = 0 ∨ i = 1 ∨ i = 2 ∨ i = 3 := by omega
          all_goals (simp [limP, watchB] at *; omega)
        · rw [manyR_pg]
          have h1 : R.length ≤ limP i := by omega
          show _ * R.length ≤ _
          refine Nat.le_trans (Nat.mul_le_mul rlen h1) ?_
          clear wsub2 hlm e4 e7
          obtain rfl | rfl | rfl | rfl : i = 0 ∨ i = 1 ∨ i = 2 ∨ i = 3 := by omega
          all_goals decide
    · rintro σ' H3 hinv
      obtain ⟨ps, v4, v5, v6, v7, v8, v9, v10, rfl, s3, sd, pl, pok, wsub, wlen, rlen⟩ := (hIv _ _ _).mp hinv
      walk_at "rd"
      have k4 : ps.length ≤ 4 := by omega
      have kb : watchB kn ≤ 7 ∧ roomsB kn ≤ 54 := by
        obtain rfl | rfl | rfl | rfl : kn = 1 ∨ kn = 2 ∨ kn = 3 ∨ kn = 4 := by omega
        all_goals decide
      exact q pp H3 ps (s1.trans s3) (sd.seq PgAt.keep) ⟨⟨nlen, pok⟩, by omega, k4, ((nok.2.2.1.sublist (List.drop_sublist _ _)).sublist (List.take_sublist _ _)).sublist wsub, by omega, by omega⟩
def spMach25 (CM CD : Addr) : Sp := fun vs H Q _ => ∃ (pp : Addr) (p : PgD) (n : Nat), vs = [.ref pp] ∧ PgAt H pp p ∧ PgOk n p ∧ ∀ q H', Same H H' → H q = none → MachAt CM CD H' q p.mach → (∀ D xs, H D = some (.lst xs) → MachAt CM CD (delH D H') q p.mach) → Q (.ref q) H'
theorem ok_l_machine (T : Top K mg) : FnOk P w K mg base CX0 8 T.f_l_machine T.d_l_machine ["_law_part"] (spMach25 T.C_Machine T.C_Door) := by
  refine T.F_l_machine.ok sc_l_machine (fun vs H Q E h => ?_) (fun cdv A outer s H vs Q E hr h => ?_)
  · obtain ⟨pp, p, n, rfl, _⟩ := h; rfl
  · obtain ⟨pp, p, n, rfl, ⟨w, r, dlst, es, hw, hrm, hds⟩, ok, q⟩ := h
    refine ⟨_, (pss_cons (ps_asg (pv 0) (pg_tupA (K := K) (n := 3) rfl (by rfl) (pgs_cons (pg_name (i := 1) sc_l_machine.nd rfl (.inl rfl)) (pgs_cons (pg_name (i := 2) sc_l_machine.nd rfl (.inl rfl)) (pgs_cons (pg_name (i := 3) sc_l_machine.nd rfl (.inl rfl)) pgs_nil)))))
      (pss_cons (lc_vsS (vs := [5]) (ps_setLc (i := 4) (own := [("_law_one", 5)]) (g := gName 5) (tt := tYes) rfl sc_l_machine.nd rfl rfl (sw_true rfl rfl rfl (by decide +kernel)) (pi_listA (K := K) rfl (pv 3)) (blkOk_by (own := [("_law_one", 5)]) (N := ["_law_part", "_law_watches", "_law_rooms", "_law_doors", "_law_made", "_law_one", "_law_name"]) (sc := defScope s_l_machine) (by decide +kernel)) (fun _ _ _ _ _ => (pg_name (i := 5) sc_l_machine.nd rfl (.inl rfl))) (fun _ _ _ _ _ => pts_nil) (fun _ _ _ _ _ => (pe_makeN T.mk_Door (ok_Door_init T) (hr.mono (by decide)) rfl T.g_Door T.b_Door_init .nil pass0 (pa_cons (pe_ix (ix_tupA (K := K) rfl) (pv 5) pe_int (fun _ _ => rfl)) (pa_cons (pe_ix (ix_tupA (K := K) rfl) (pv 5) pe_int (fun _ _ => rfl)) (pa_cons (pe_callTy (call_listA (K := K) rfl) (by rfl) T.m_list (by decide +kernel) (pa_cons (pe_ix (ix_tupA (K := K) rfl) (pv 5) pe_int (fun _ _ => rfl)) pa_nil)) (pa_cons (pe_callTy (call_listA (K := K) rfl) (by rfl) T.m_list (by decide +kernel) (pa_cons (pe_ix (ix_tupA (K := K) rfl) (pv 5) pe_int (fun _ _ => rfl)) pa_nil)) (pa_cons (pe_ix (ix_tupA (K := K) rfl) (pv 5) pe_int (fun _ _ => rfl)) pa_nil)))))))) rfl)
      (pss_one (ps_ret (pe_makeN T.mk_Machine (ok_Machine_init T) (hr.mono (by decide)) rfl T.g_Machine T.b_Machine_init .nil passL (pa_cons (pe_callTy (call_listA (K := K) rfl) (by rfl) T.m_list (by decide +kernel) (pa_cons (pv 1) pa_nil)) (pa_cons (lc_vs (vs := [6]) (pe_lc (own := [("_law_name", 6)]) (g := gName 6) (tt := tYes) rfl sc_l_machine.nd (pi_listA (K := K) rfl (pv 2)) (blkOk_by (own := [("_law_name", 6)]) (N := ["_law_part", "_law_watches", "_law_rooms", "_law_doors", "_law_made", "_law_one", "_law_name"]) (sc := defScope s_l_machine) (by decide +kernel)) (fun _ _ _ _ _ => (pg_name (i := 6) sc_l_machine.nd rfl (.inl rfl))) (fun _ _ _ _ _ => pts_nil) (fun _ _ _ _ _ => (pe_tupN (pa_cons (pv 6) (pa_cons (pe_lstN pa_nil) pa_nil))))) rfl) (pa_cons (pv 4) pa_nil)))))))), ?_⟩
    obtain ⟨dqs, d1, d2, d3⟩ := id hds
    have d4 := ok.d4
    have r3 := ok.r3
    have r1 := ok.r1
    have mok := ok.mach
    refine seq_step ?_
    walk_at "rd"
    refine gTup_of (sqt es) rfl ?_
    walk_at "rd"
    refine seq_step ?_
    refine lcg_src ?_
    walk_at "rd"
    refine ⟨⟨_, .of d1⟩, ?_⟩
    refine lcMD (R := MdAt T.C_Door H) MdAt.keep (F := id) (zs := p.doors) d1 (by simp [d2]) (by simp; omega) (fun i x z H1 Yes hx hz s1 hy => ?_) (fun dq H1 s1 f1 e1 => ?_)
    · rw [List.getElem?_map] at hx
      obtain ⟨qi, h1, rfl⟩ := Option.map_eq_some_iff.mp hx
      obtain ⟨g, nn, t1, t2, t3⟩ := d3 i qi z h1 hz
      walk_at "rd"
      simp only [tMakeN]
      walk_at "rd"
      refine ix_t (sqt (s1 _ _ t1)) (by decide) rfl ?_
      refine ix_t (sqt (s1 _ _ t1)) (by decide) rfl ?_
      refine ix_t (sqt (s1 _ _ t1)) (by decide) rfl ?_
      obtain ⟨gqs, g1, g2, g3⟩ := id t2
      refine ⟨_, rfl, _, .inl (.of (s1 _ _ g1)), fun g2' H2 s2 f2 e2 => ?_⟩
      refine ix_t (sqt ((s1.trans s2) _ _ t1)) (by decide) rfl ?_
      refine ⟨_, rfl, _, .inl (.of ((s1.trans s2) _ _ t3)), fun n3 H3 s3 f3 e3 => ?_⟩
      refine ix_t (sqt ((s1.trans (s2.trans s3)) _ _ t1)) (by decide) rfl ?_
      intro pd dx H4 s4 f4 e4
      refine ⟨pd, dx, g2', n3, _, _, z.sg, _, _, rfl, e4, (s3.trans s4) _ _ e2, s4 _ _ e3, fun g' n' H5 k5 fg fn e5 eg en => ⟨rfl, ?_⟩⟩
      have s35 : Same H3 H5 := fun b o e => k5 b o (s4 _ _ e) fun y => by rw [y, f4] at e; cases e
      have s13 := s2.trans s3
      have s14 := s13.trans s4
      have s05 := s1.trans (s13.trans s35)
      refine hy pd H5 (s13.trans s35) fun D acc fD eD => ?_
      have eD4 := s14 _ _ eD
      have gls : LsAt (delH D H5) g' z.looks := ⟨gqs, del_at (fun y => by rw [y, eD4] at fg; cases fg) eg, g2, fun i q x h1 h2 => by
        have t5 := (g3 i q x h1 h2).1
        exact ⟨del_at (fun y => by rw [y, fD] at t5; cases t5) (s05 _ _ t5), (g3 i q x h1 h2).2⟩⟩
      exact ⟨dx, g', n', del_at (fun y => by rw [y, s13 _ _ eD] at f4; cases f4) e5, gls, del_at (fun y => by rw [y, eD4] at fn; cases fn) en, s1.free (s13.free f4), (s1.trans s14).free fg, (s1.trans s14).free fn⟩
    · have e1 : SeqD (MdAt T.C_Door H) H1 dq p.doors := by simpa using e1
      walk_at "rd"
      simp only [tMakeN]
      walk_at "rd"
      refine ⟨_, .inl (.of (s1 _ _ hw)), fun w2 H2 s2 f2 e2 => ?_⟩
      refine lcg_src ?_
      walk_at "rd"
      have s12 := s1.trans s2
      refine ⟨⟨_, .of (s12 _ _ hrm)⟩, ?_⟩
      refine lcM (R := RqAt) RqAt.keep' (F := fun x : Str => ((x, []) : Rq)) (zs := p.rooms) (s12 _ _ hrm) (by simp) (by simp; omega) (fun i x z H3 Yes hx hz s3 hy => ?_) (fun rq H3 s3 f3 e3 => ?_)
      · rw [List.getElem?_map] at hx
        obtain ⟨qi, h1, rfl⟩ := Option.map_eq_some_iff.mp hx
        obtain rfl : qi = z := by rw [h1] at hz; exact Option.some.inj hz
        walk_at "rd"
        intro l H5 s5 f5 e5 t H6 s6 f6 e6
        exact hy t H6 (s5.trans s6) ⟨l, cut_new (s5.free f6) e6, [], cut_new f5 (s6 _ _ e5), rfl, fun i q x h => by simp at h⟩
      · have e3' : RsAt H3 rq p.mach.rooms := e3
        walk_at "rd"
        intro pm dx H4 s4 f4 e4
        have s23 := s2.trans s3
        have s14 := s23.trans s4
        have e1' := (e1.keep MdAt.keep s14)
        obtain ⟨mqs, mq1, mq2, mq3⟩ := id e1
        have hds4 : DsAt T.C_Door H4 dq p.mach.doors := ⟨mqs, s14 _ _ mq1, mq2, fun i q x h1 h2 => by
          obtain ⟨ddx, dg, dn, a1, a2, a3, _⟩ := MdAt.keep _ _ _ _ (del_sub.trans s14) (mq3 i q x h1 h2)
          exact ⟨ddx, dg, dn, a1, a2, a3⟩⟩
        refine .inl ⟨pm, dx, w2, rq, dq, p.mach, rfl, e4, (s3.trans s4) _ _ e2, e3'.keep s4, hds4, mok, fun H5 off mach rem => ⟨rfl, ?_⟩⟩
        have s05 : Same H H5 := fun b o e => off.2 b o ((s1.trans s14) _ _ e) fun y => by
          have := (s1.trans s23) _ _ e
          rw [y, f4] at this; cases this
        refine q pm H5 s05 ((s1.trans s23).free f4) mach fun D xs hD => ?_
        rw [← del_rem]
        refine rem (fun b => b = D) (fun b h => ⟨xs, by rw [show b = D from h]; exact (s1.trans s14) _ _ hD⟩) fun q d _ _ ⟨qs, i, x1, x2, x3⟩ => ?_
        have eqs := lst_inj x1 (s14 _ _ mq1)
        subst eqs
        obtain ⟨ddx, dg, dn, z1, z2, z3, n1, n2, n3⟩ := MdAt.keep _ _ _ _ (del_sub.trans s14) (mq3 i q d x2 x3)
        have ne : ∀ {b : Addr}, H b = none → b ≠ D := fun f y => by rw [y, hD] at f; cases f
        rw [del_rem]
        exact ⟨ddx, dg, dn, del_at (ne n1) z1, z2.del (ne n2) ((s1.trans s14) _ _ hD), del_at (ne n3) z3⟩
/-- a way: a list of the names of a row -/
def WyAt (H : Hp) (q : Addr) (row : Row) : Prop := H q = some (.lst ((row.map (·.1)).map V.str))
def WyN (H0 H : Hp) (q : Addr) (row : Row) : Prop := WyAt H q row ∧ H0 q = none
theorem WyN.keep {H0 : Hp} : ∀ (H H' : Hp) (q : Addr) (r : Row), Same H H' → WyN H0 H q r → WyN H0 H' q r := fun _ _ _ _ s h => ⟨s _ _ h.1, h.2⟩
def spWays25 (K : PySem.W.Frag) : Sp := fun vs H Q _ => ∃ (pp : Addr) (ps : List PgD), vs = [.ref pp] ∧ SeqOf PgAt H pp ps ∧ PgsOk ps ∧ ∀ q H', Same H H' → H q = none → SeqOf (WyN H) H' q (rowsP (ps.map PgD.mach)) → Q (.ref q) H'
theorem ok_l_ways (T : Top K mg) : FnOk P w K mg base CX0 1 T.f_l_ways T.d_l_ways ["_law_parts_here"] (spWays25 K) := by
  refine T.F_l_ways.ok sc_l_ways (fun vs H Q E h => ?_) (fun cdv A outer s H vs Q E hr h => ?_)
  · obtain ⟨pp, ps, rfl, _⟩ := h; rfl
  · obtain ⟨pp, ps, rfl, hps, pok, q⟩ := h
    refine ⟨_, (pss_cons (ps_set (i := 1) sc_l_ways.nd rfl (.inl rfl) (pe_lstN (pa_cons (pe_lstN pa_nil) pa_nil)))
      (pss_cons (ps_for PassesOwn.never rfl (pi_listA (K := K) rfl (pv 0)) (pg_tupA (K := K) (n := 3) rfl (by rfl) (pgs_cons (pg_name (i := 2) sc_l_ways.nd rfl (.inl rfl)) (pgs_cons (pg_name (i := 3) sc_l_ways.nd rfl (.inl rfl)) (pgs_cons (pg_name (i := 4) sc_l_ways.nd rfl (.inl rfl)) pgs_nil)))) (pss_cons (ps_set (i := 5) sc_l_ways.nd rfl (.inl rfl) (pe_lstN pa_nil))
      (pss_cons (ps_for PassesOwn.never rfl (pi_listA (K := K) rfl (pv 1)) (pg_name (i := 6) sc_l_ways.nd rfl (.inl rfl)) (pss_one (ps_for PassesOwn.never rfl (pi_listA (K := K) rfl (pv 3)) (pg_name (i := 7) sc_l_ways.nd rfl (.inl rfl)) (pss_one (ps_expr (pe_bm PySem.F.plainAttrs_list PySem.F.slot_list_append PySem.F.type_list_append mt_append (pv 5) (pa_cons (pe_op op_catN (pv 6) (pe_lstN (pa_cons (pv 7) pa_nil))) pa_nil)))))))
      (pss_one (ps_set (i := 1) sc_l_ways.nd rfl (.inl rfl) (pv 5))))))
      (pss_one (ps_ret (pv 1))))), ?_⟩
    obtain ⟨pqs, p1, p2, p3⟩ := id hps
    have l4 := pok.l4
    have mok := pok.machs
    have ne : ∀ M ∈ ps.map PgD.mach, M.rooms ≠ [] := fun M hM => (mok M hM).rne
    have r64 := pok.r64
    refine seq_step ?_
    walk_at "rd"
    intro a0 H1 s1 f1 e1 l0 H2 s2 f2 e2
    have s12 := s1.trans s2
    refine seq_step ?_
    refine for_li ?_
    walk_at "rd"
    obtain ⟨Iv1, hIv1⟩ : ∃ Iv : Nat → L2.St → Hp → Prop, ∀ i σ' H', Iv i σ' H' ↔ (∃ b v2 v3 v4 v5 v6 v7, σ' = [some (.ref pp), some (.ref b), v2, v3, v4, v5, v6, v7] ∧ Same H H' ∧ H b = none ∧ SeqOf (WyN H) H' b (rowsP ((ps.map PgD.mach).take i))) := ⟨_, fun _ _ _ => Iff.rfl⟩
    refine forL_by (xs := pqs.map V.ref) Iv1 ((hIv1 _ _ _).mpr ⟨l0, _, _, _, _, _, _, rfl, s12, s1.free f2, [a0], e2, rfl, fun i q x h1 h2 => ?_⟩) (fun i σ H' _ h => (fun (⟨_, _, _, _, _, _, _, _, k, _⟩ : ∃ _ _ _ _ _ _ _, _ ∧ Same _ _ ∧ _) => .of (k _ _ p1)) ((hIv1 _ _ _).mp h)) ?_ ?_
    · have hi : i = 0 := by have := (List.getElem?_eq_some_iff.mp h1).1; simp at this; omega
      subst hi
      obtain rfl : a0 = q := by simpa using h1
      obtain rfl : [] = x := by simpa [rowsP] using h2
      exact ⟨s2 _ _ e1, f1⟩
    · rintro i x σ' H5 hi hinv
      obtain ⟨b, v2, v3, v4, v5, v6, v7, rfl, s5, fb5, sq⟩ := (hIv1 _ _ _).mp hinv
      rw [List.getElem?_map] at hi
      obtain ⟨qi, h1, rfl⟩ := Option.map_eq_some_iff.mp hi
      have hil := (List.getElem?_eq_some_iff.mp h1).1
      obtain ⟨p, hz⟩ : ∃ p, ps[i]? = some p := ⟨_, List.getElem?_eq_getElem (by omega)⟩
      have hM : (ps.map PgD.mach)[i]? = some p.mach := by rw [List.getElem?_map, hz]; rfl
      obtain ⟨w, r, dl, z1, z2, z3, z4⟩ := p3 i qi p h1 hz
      obtain ⟨n, hn⟩ := pok.ok
      have pk := hn p (List.mem_of_getElem? hz)
      have tk : rowsP ((ps.map PgD.mach).take (i + 1)) = rowStep (rowsP ((ps.map PgD.mach).take i)) p.mach := by rw [take_snoc hM, rowsP_snoc]
      have len1 := rows_len ((ps.map PgD.mach).take (i + 1))
      have le1 := manyR_take ne (k := i + 1) (by rw [List.length_map]; omega)
      have rok := rows_ok ((ps.map PgD.mach).take i)
      rw [tk] at len1
      generalize rowsP ((ps.map PgD.mach).take i) = rws at *
      obtain ⟨bqs, b1, b2, b3⟩ := id sq
      refine gTup_of (sqt (s5 _ _ z1)) rfl ?_
      walk_at "rd"
      refine seq_step ?_
      walk_at "rd"
      intro l1 H6 s6 f6 e6
      have stp : ∀ (j : Nat) (row : Row), rws[j]? = some row → rowStep (rws.take (j + 1)) p.mach = rowStep (rws.take j) p.mach ++ p.mach.rooms.map fun z => row ++ [z] := fun j row h => by
        unfold rowStep; rw [take_snoc h, List.flatMap_append]
        show _ ++ List.flatMap _ [row] = _
        rw [List.flatMap_cons, List.flatMap_nil, List.append_nil]
      have r4 := pk.r3
      have rml : p.mach.rooms.length = p.rooms.length := by show (p.rooms.map _).length = _; rw [List.length_map]
      have lj : ∀ j, (rowStep (rws.take j) p.mach).length + 4 ≤ 100 := fun j => by
        have : (rowStep (rws.take j) p.mach).length ≤ 64 := by
          rw [rowStep_len, List.length_take]
          rw [rowStep_len] at len1
          exact Nat.le_trans (Nat.mul_le_mul_right _ (Nat.min_le_right _ _)) (by omega)
        omega
      refine seq_step ?_
      refine for_li ?_
      walk_at "rd"
      obtain ⟨Iv2, hIv2⟩ : ∃ Iv : Nat → L2.St → Hp → Prop, ∀ j σ' H', Iv j σ' H' ↔ (∃ v6 v7, σ' = [some (.ref pp), some (.ref b), some (.ref w), some (.ref r), some (.ref dl), some (.ref l1), v6, v7] ∧ Same H5 H' ∧ SeqD (WyN H) H' l1 (rowStep (rws.take j) p.mach)) := ⟨_, fun _ _ _ => Iff.rfl⟩
      refine forL_by (xs := bqs.map V.ref) Iv2 ((hIv2 _ _ _).mpr ⟨_, _, rfl, s6, SeqD.nil e6⟩) (fun i σ H' _ h => (fun (⟨_, _, _, k, _⟩ : ∃ _ _, _ ∧ Same _ _ ∧ _) => .of (k _ _ b1)) ((hIv2 _ _ _).mp h)) ?_ ?_
      · rintro j x σ' H7 hj hinv
        obtain ⟨v6, v7, rfl, s7, sd⟩ := (hIv2 _ _ _).mp hinv
        rw [List.getElem?_map] at hj
        obtain ⟨qj, h2, rfl⟩ := Option.map_eq_some_iff.mp hj
        have hjl := (List.getElem?_eq_some_iff.mp h2).1
        obtain ⟨row, hr'⟩ : ∃ row, rws[j]? = some row := ⟨_, List.getElem?_eq_getElem (by omega)⟩
        have y2 : H5 qj = some (.lst ((row.map (·.1)).map V.str)) := (b3 j qj row h2 hr').1
        have tk2 := stp j row hr'
        have lnj := lj j
        have rl5 : row.length ≤ 4 := by rw [(rok row (List.mem_of_getElem? hr')).1, List.length_take, List.length_map]; omega
        generalize rowStep (rws.take j) p.mach = pre at *
        walk_at "rd"
        refine for_li ?_
        walk_at "rd"
        obtain ⟨Iv3, hIv3⟩ : ∃ Iv : Nat → L2.St → Hp → Prop, ∀ k σ' H', Iv k σ' H' ↔ (∃ v7, σ' = [some (.ref pp), some (.ref b), some (.ref w), some (.ref r), some (.ref dl), some (.ref l1), some (.ref qj), v7] ∧ Same H5 H' ∧ SeqD (WyN H) H' l1 (pre ++ (p.mach.rooms.take k).map fun z => row ++ [z])) := ⟨_, fun _ _ _ => Iff.rfl⟩
        refine forL_by (xs := p.rooms.map V.str) Iv3 ((hIv3 _ _ _).mpr ⟨_, rfl, s7, by rw [List.take_zero, List.map_nil, List.append_nil]; exact sd⟩) (fun i σ H' _ h => (fun (⟨_, _, k, _⟩ : ∃ _, _ ∧ Same _ _ ∧ _) => .of ((s5.trans k) _ _ z3)) ((hIv3 _ _ _).mp h)) ?_ ?_
        · rintro k x σ' H8 hk hinv
          obtain ⟨v7, rfl, s8, sd⟩ := (hIv3 _ _ _).mp hinv
          rw [List.getElem?_map] at hk
          obtain ⟨nm, h3, rfl⟩ := Option.map_eq_some_iff.mp hk
          have hkl := (List.getElem?_eq_some_iff.mp h3).1
          have hz' : p.mach.rooms[k]? = some (nm, []) := by show (p.rooms.map _)[k]? = _; rw [List.getElem?_map, h3]; rfl
          have s08 := s5.trans s8
          walk_at "rd"
          obtain ⟨lqs, w1, w2, w3⟩ := id sd
          refine ⟨_, rfl, .inl ⟨rfl, _, .of w1⟩, ?_⟩
          walk_at "rd"
          intro n9 H9 s9 f9 e9
          refine ⟨_, s9 _ _ (s8 _ _ y2), _, e9, small1000' (by rw [List.length_map, List.length_map]; simp; omega), fun n10 H10 s10 f10 e10 => ?_⟩
          have s810 := s9.trans s10
          have lD : ∀ {b : Addr} {J : Hp}, J b = none → Same H8 J → b ≠ l1 := fun f s y => by rw [y, s _ _ w1] at f; cases f
          have dz : WyN H (delH l1 H10) n10 (row ++ [(nm, [])]) := by
            refine ⟨del_at (lD f10 s9) ?_, (s08.trans s9).free f10⟩
            rw [List.map_append, List.map_append]; exact e10
          obtain ⟨items, it1, it2, it3⟩ := (sd.keep WyN.keep s810).app WyN.keep dz
          refine app_at it1 (by rw [it2, List.length_append, List.length_map, List.length_take]; omega) ?_
          refine (hIv3 _ _ _).mpr ⟨_, rfl, same_updN f6 (s8.trans s810), ?_⟩
          rw [take_snoc hz', List.map_append, ← List.append_assoc]
          exact it3
        · rintro σ' H8 hinv
          obtain ⟨v7, rfl, s8, sd⟩ := (hIv3 _ _ _).mp hinv
          rw [List.length_map, ← rml, List.take_length] at sd
          exact (hIv2 _ _ _).mpr ⟨_, _, rfl, s8, by rw [tk2]; exact sd⟩
      · rintro σ' H7 hinv
        obtain ⟨v6, v7, rfl, s7, sd⟩ := (hIv2 _ _ _).mp hinv
        rw [List.length_map, b2, List.take_length] at sd
        walk_at "rd"
        exact (hIv1 _ _ _).mpr ⟨l1, _, _, _, _, _, _, rfl, s5.trans s7, s5.free f6, by rw [tk]; exact sd.seq WyN.keep⟩
    · rintro σ' H5 hinv
      obtain ⟨b, v2, v3, v4, v5, v6, v7, rfl, s5, fb5, sq⟩ := (hIv1 _ _ _).mp hinv
      rw [List.length_map, p2, List.take_of_length_le (by rw [List.length_map]; omega)] at sq
      walk_at "rd"
      exact q b H5 s5 fb5 sq
theorem pg_list {K : PySem.W.Frag} {H : Hp} {pp : Addr} {ps : List PgD} {i : Nat} {p : PgD} (h : SeqOf PgAt H pp ps) (hp : ps[i]? = some p) {Q : VK} (q : ∀ dl, SeqOf DtAt H dl p.doors → Q (.ref dl) H) : rIxL K (.ref pp) (.int (i : Int)) H fun x H1 => rIxT K x (.int 2) H1 Q := by
  obtain ⟨qs, h1, h2, h3⟩ := h
  have hl := (List.getElem?_eq_some_iff.mp hp).1
  have hq := List.getElem?_eq_getElem (l := qs) (i := i) (by omega)
  obtain ⟨w, r, dl, z1, z2, z3, z4⟩ := h3 i _ p hq hp
  exact ix_l (.of h1) (Int.natCast_nonneg _) (by rw [Int.toNat_natCast, List.getElem?_map, hq]; rfl) (ix_t (sqt z1) (by decide) rfl (q dl z4))
theorem pg_fld {K : PySem.W.Frag} {H : Hp} {pp : Addr} {ps : List PgD} {i k : Nat} {p : PgD} {d : DoorD} (h : SeqOf PgAt H pp ps) (hp : ps[i]? = some p) (hd : p.doors[k]? = some d) {j : Int} (hj : 0 ≤ j) {Q : VK} (q : ∀ g n, LsAt H g d.looks → H n = some (.lst (d.backs.map V.str)) → ∃ v, ([V.str d.st, V.str d.en, .ref g, .ref n, .str d.sg])[j.toNat]? = some v ∧ Q v H) :
    rIxL K (.ref pp) (.int (i : Int)) H fun x H1 => rIxT K x (.int 2) H1 fun x H1 => rIxL K x (.int (k : Int)) H1 fun x H1 => rIxT K x (.int j) H1 Q := pg_list h hp fun dl ⟨ts, t1, t2, t3⟩ => by
  have hl := (List.getElem?_eq_some_iff.mp hd).1
  have hq := List.getElem?_eq_getElem (l := ts) (i := k) (by omega)
  obtain ⟨g, n, z1, z2, z3⟩ := t3 k _ d hq hd
  obtain ⟨v, v1, v2⟩ := q g n z2 z3
  exact ix_l (.of t1) (Int.natCast_nonneg _) (by rw [Int.toNat_natCast, List.getElem?_map, hq]; rfl) (ix_t (sqt z1) hj v1 v2)
theorem sign_split {sg : Str} (h : okSign sg = true) (ne : sg ≠ "") : ∃ (x : Str) (c : Nat), sg = x ++ (⟨#[c]⟩ : Str) ∧ (c = 33 ∨ c = 63) ∧ atI sg.cps.toList (-1) = some c := by
  unfold okSign at h
  rw [decide_eq_false ne, Bool.false_or] at h
  split at h
  · rename_i c hc
    obtain ⟨ys, e⟩ := List.getLast?_eq_some_iff.mp hc
    have hm := of_decide_eq_true (Bool.and_eq_true_iff.mp h).1
    rw [show ("!?" : Str).cps.toList = [33, 63] by decide +kernel] at hm
    refine ⟨⟨ys.toArray⟩, c, ?_, by simpa using hm, by rw [e]; exact atI_last ys c⟩
    have : sg.cps = ys.toArray ++ #[c] := by
      apply Array.toList_inj.mp
      rw [e, Array.toList_append]
    show sg = (⟨ys.toArray ++ #[c]⟩ : Str)
    rw [← this]
  · cases h
theorem ends_sign {sg x : Str} {c : Nat} (h : sg = x ++ (⟨#[c]⟩ : Str)) (hc : c = 33 ∨ c = 63) : Txt.endswith sg "!" = decide (c = 33) := by
  rcases hc with rfl | rfl
  · rw [h, PySem.W.KAf.ends_right (by decide +kernel)]; decide +kernel
  · rw [h, PySem.W.KAf.ends_right (by decide +kernel)]; decide +kernel
/-- a share beside the list that is made -/
def spGoers25 (K : PySem.W.Frag) : Sp := fun vs H Q _ => ∃ (pp : Addr) (ps : List PgD) (i k : Nat) (p : PgD) (d : DoorD), vs = [.ref pp, .int i, .int k] ∧ SeqOf PgAt H pp ps ∧ PgsOk ps ∧ ps[i]? = some p ∧ p.doors[k]? = some d ∧ ∀ q H', Same H H' → H q = none → SeqOf (GoAt H) H' q (goersP (ps.map PgD.mach) (i, k)) → Q (.ref q) H'
theorem ok_l_goers (T : Top K mg) : FnOk P w K mg base CX0 1 T.f_l_goers T.d_l_goers ["_law_parts_here", "_law_i", "_law_k"] (spGoers25 K) := by
  refine T.F_l_goers.ok sc_l_goers (fun vs H Q E h => ?_) (fun cdv A outer s H vs Q E hr h => ?_)
  · obtain ⟨pp, ps, i, k, p, d, rfl, _⟩ := h; rfl
  · obtain ⟨pp, ps, i, k, p, d, rfl, hps, pok, hp, hd, q⟩ := h
    refine ⟨_, (pss_cons (ps_set (i := 3) sc_l_goers.nd rfl (.inl rfl) (pe_ix (ix_tupA (K := K) rfl) (pe_ix (ix_listA (K := K) rfl) (pe_ix (ix_tupA (K := K) rfl) (pe_ix (ix_listA (K := K) rfl) (pv 0) (pv 1) (fun _ _ => rfl)) pe_int (fun _ _ => rfl)) (pv 2) (fun _ _ => rfl)) pe_int (fun _ _ => rfl)))
      (pss_cons (ps_if (pt_cmpR op_eq (pv 3) pe_str (nomark _)) (pss_one (ps_ret (pe_lstN (pa_cons (pe_lstN (pa_cons (pe_tupN (pa_cons (pv 1) (pa_cons (pv 2) pa_nil))) pa_nil)) pa_nil)))) pss_nil)
      (pss_cons (ps_set (i := 4) sc_l_goers.nd rfl (.inl rfl) (pe_lstN pa_nil))
      (pss_cons (ps_for PassesOwn.never rfl (pi_range1 (by rfl) T.m_range (pa_cons (pe_callB call_len_seq (by rfl) T.m_len (by decide +kernel) (pa_cons (pv 0) pa_nil)) pa_nil)) (pg_name (i := 5) sc_l_goers.nd rfl (.inl rfl)) (pss_one (ps_for PassesOwn.never rfl (pi_range1 (by rfl) T.m_range (pa_cons (pe_callB call_len_seq (by rfl) T.m_len (by decide +kernel) (pa_cons (pe_ix (ix_tupA (K := K) rfl) (pe_ix (ix_listA (K := K) rfl) (pv 0) (pv 5) (fun _ _ => rfl)) pe_int (fun _ _ => rfl)) pa_nil)) pa_nil)) (pg_name (i := 6) sc_l_goers.nd rfl (.inl rfl)) (pss_one (ps_if (PW.pt (pw_and (pt_cmpR op_ne (pv 5) (pv 1) (nomark _)) (pw_and (pt_cmpR op_eq (pe_ix ix_str (pv 3) (pe_un un_neg pe_int) (fun _ _ => rfl)) pe_str (nomark _)) (pw_and1 (pt_cmpR op_eq (pe_ix (ix_tupA (K := K) rfl) (pe_ix (ix_listA (K := K) rfl) (pe_ix (ix_tupA (K := K) rfl) (pe_ix (ix_listA (K := K) rfl) (pv 0) (pv 5) (fun _ _ => rfl)) pe_int (fun _ _ => rfl)) (pv 6) (fun _ _ => rfl)) pe_int (fun _ _ => rfl)) (pe_op op_add_str (pe_slice sl_str (pv 3) po_none (po_some (pe_un un_neg pe_int))) pe_str) (nomark _)))))) (pss_one (ps_expr (pe_bm PySem.F.plainAttrs_list PySem.F.slot_list_append PySem.F.type_list_append mt_append (pv 4) (pa_cons (pe_lstN (pa_cons (pe_tupN (pa_cons (pv 1) (pa_cons (pv 2) pa_nil))) (pa_cons (pe_tupN (pa_cons (pv 5) (pa_cons (pv 6) pa_nil))) pa_nil))) pa_nil)))) pss_nil)))))
      (pss_one (ps_ret (pv 4))))))), ?_⟩
    obtain ⟨pqs, p1, p2, p3⟩ := id hps
    have l4 := pok.l4
    obtain ⟨n, hn⟩ := pok.ok
    have hM : ∀ {j : Nat} {p' : PgD}, ps[j]? = some p' → (ps.map PgD.mach)[j]? = some p'.mach := fun h => by rw [List.getElem?_map, h]; rfl
    have hdA : doorAt (ps.map PgD.mach) (i, k) = some d := doorAt_of (hM hp) hd
    have mok := (hn p (List.mem_of_getElem? hp)).mach
    have dk := mok.door (List.mem_of_getElem? hd)
    have sgl := okSign_len dk.1
    have d4 := pok.d4
    have eqG : goersP (ps.map PgD.mach) (i, k) = if d.sg = "" then [[(i, k)]] else if Txt.endswith d.sg "!" = true then (answersP (ps.map PgD.mach) i (cutS d.sg none (some (-1)) ++ "?")).map fun o => [(i, k), o] else [] := by unfold goersP; rw [hdA]
    refine seq_step ?_
    walk_at "rd"
    refine pg_fld hps hp hd (by decide) fun g n' hg hn' => ⟨_, rfl, ?_⟩
    refine seq_step ?_
    walk_at "rd"
    rw [eqG] at q
    refine ite_d (fun c => ?_) (fun c => ?_)
    · have c' : d.sg = "" := by injection c
      rw [if_pos c'] at q
      walk_at "rd"
      intro t2 H2 s2 f2 e2 t3 H3 s3 f3 e3 t4 H4 s4 f4 e4
      refine q t4 H4 (s2.trans (s3.trans s4)) ((s2.trans s3).free f4) ⟨[t3], e4, rfl, fun i q x h1 h2 => ?_⟩
      have hi : i = 0 := by have := (List.getElem?_eq_some_iff.mp h1).1; simp at this; omega
      subst hi
      obtain rfl : t3 = q := by simpa using h1
      obtain rfl : [(_, k)] = x := by simpa using h2
      refine ⟨⟨[t2], s4 _ _ e3, rfl, fun i q x h1 h2 => ?_⟩, s2.free f3⟩
      have hi : i = 0 := by have := (List.getElem?_eq_some_iff.mp h1).1; simp at this; omega
      subst hi
      obtain rfl : t2 = q := by simpa using h1
      obtain rfl : (_, k) = x := by simpa using h2
      exact (s3.trans s4) _ _ e2
    · have c' : ¬ d.sg = "" := fun h => c (by rw [h])
      rw [if_neg c'] at q
      obtain ⟨xx, ch, sgx, chv, chl⟩ := sign_split dk.1 c'
      have ends := ends_sign sgx chv
      rw [ends] at q
      have sg1000 : d.sg.length ≤ 1000 := by omega
      have one33 : (V.str ⟨#[ch]⟩ = V.str "!") ↔ ch = 33 := by
        rcases chv with rfl | rfl <;> decide +kernel
      walk_at "rd"
      refine seq_step ?_
      walk_at "rd"
      intro fl H1 s1 f1 e1
      refine seq_step ?_
      refine for_rg ?_
      walk_at "rd"
      refine ⟨_, .inl (.of (s1 _ _ p1)), (rg_ok (by rw [List.length_map]; omega)).1, (rg_ok (by rw [List.length_map]; omega)).2, ?_⟩
      rw [List.length_map, p2, Int.toNat_natCast]
      have cl := cutS_len (x := d.sg) (lo := none) (hi := some (-1))
      have cmpE : ∀ e : Str, (V.str e = V.str (cutS d.sg none (some (-1)) ++ Str.ofString "?")) ↔ e = cutS d.sg none (some (-1)) ++ ("?" : Str) := fun e => ⟨fun h => by injection h, fun h => by rw [h]⟩
      have eqA : (if decide (ch = 33) = true then (answersP (ps.map PgD.mach) i (cutS d.sg none (some (-1)) ++ "?")).map (fun o => [(i, k), o]) else []) = (ps.map PgD.mach).zipIdx.flatMap (fun M => M.1.doors.zipIdx.filterMap fun e => if (M.2 ≠ i ∧ ch = 33) ∧ e.1.sg = cutS d.sg none (some (-1)) ++ "?" then some [(i, k), (M.2, e.2)] else none) := by
        by_cases h : ch = 33
        · rw [if_pos (decide_eq_true h)]
          unfold answersP
          rw [List.map_flatMap]
          congr 1
          funext M
          rw [List.map_filterMap]
          congr 1
          funext e
          by_cases h2 : M.2 ≠ i ∧ e.1.sg = cutS d.sg none (some (-1)) ++ "?"
          · rw [if_pos h2, if_pos ⟨⟨h2.1, h⟩, h2.2⟩]; rfl
          · rw [if_neg h2, if_neg (fun z => h2 ⟨z.1.1, z.2⟩)]; rfl
        · rw [if_neg (fun z => h (of_decide_eq_true z))]
          symm
          refine List.flatMap_eq_nil_iff.mpr fun M _ => ?_
          refine List.filterMap_eq_nil_iff.mpr fun e _ => if_neg fun z => h z.1.2
      rw [eqA] at q
      generalize hsg2 : (cutS d.sg none (some (-1)) ++ ("?" : Str)) = sg2 at *
      obtain ⟨F, hF⟩ : ∃ F : MachD × Nat → List Share, F = fun M => M.1.doors.zipIdx.filterMap fun e => if (M.2 ≠ i ∧ ch = 33) ∧ e.1.sg = sg2 then some [(i, k), (M.2, e.2)] else none := ⟨_, rfl⟩
      rw [← hF] at q
      have F4 : ∀ j : Nat, (((ps.map PgD.mach).zipIdx.take j).flatMap F).length ≤ 16 := fun j => by
        have h1 := flen ((ps.map PgD.mach).zipIdx.take j) F 4 fun M hM => by
          rw [hF]
          refine Nat.le_trans (List.length_filterMap_le _ _) ?_
          rw [List.length_zipIdx]
          exact d4 _ (List.fst_mem_of_mem_zipIdx (List.mem_of_mem_take hM))
        rw [List.length_take, List.length_zipIdx, List.length_map] at h1
        omega
      obtain ⟨Iv1, hIv1⟩ : ∃ Iv : Nat → L2.St → Hp → Prop, ∀ j σ' H', Iv j σ' H' ↔ ((∃ v5 v6, σ' = [some (.ref pp), some (.int i), some (.int k), some (.str d.sg), some (.ref fl), v5, v6]) ∧ Same H H' ∧ SeqD (GoAt H) H' fl (((ps.map PgD.mach).zipIdx.take j).flatMap F)) := ⟨_, fun _ _ _ => Iff.rfl⟩
      refine forR_by Iv1 ((hIv1 _ _ _).mpr ⟨⟨_, _, rfl⟩, s1, SeqD.nil e1⟩) ?_ ?_
      · rintro j σ' H2 hj hinv
        obtain ⟨⟨v5, v6, rfl⟩, s2, sd⟩ := (hIv1 _ _ _).mp hinv
        obtain ⟨pj, hpj⟩ : ∃ pj, ps[j]? = some pj := ⟨_, List.getElem?_eq_getElem hj⟩
        have hps2 := SeqOf.keep (fun _ _ => PgAt.keep _ _ _ _ s2) s2 hps
        have tk : ((ps.map PgD.mach).zipIdx.take (j + 1)).flatMap F = ((ps.map PgD.mach).zipIdx.take j).flatMap F ++ F (pj.mach, j) := by
          rw [take_snoc (zipIdx_at (hM hpj)), List.flatMap_append]; simp
        have l16 := F4 (j + 1)
        rw [tk, List.length_append] at l16
        have pj4 := (hn pj (List.mem_of_getElem? hpj)).d4
        generalize ((ps.map PgD.mach).zipIdx.take j).flatMap F = pre at *
        walk_at "rd"
        refine for_rg ?_
        walk_at "rd"
        refine pg_list hps2 hpj fun dl hdl => ?_
        obtain ⟨ts, t1, t2, t3⟩ := id hdl
        refine ⟨_, rfl, _, .inl (.of t1), (rg_ok (by rw [List.length_map]; omega)).1, (rg_ok (by rw [List.length_map]; omega)).2, ?_⟩
        rw [List.length_map, t2, Int.toNat_natCast]
        obtain ⟨G, hG⟩ : ∃ G : DoorD × Nat → Option Share, G = fun e => if (j ≠ i ∧ ch = 33) ∧ e.1.sg = sg2 then some [(i, k), (j, e.2)] else none := ⟨_, rfl⟩
        have FG : F (pj.mach, j) = pj.doors.zipIdx.filterMap G := by rw [hF, hG]; rfl
        obtain ⟨Iv2, hIv2⟩ : ∃ Iv : Nat → L2.St → Hp → Prop, ∀ m σ' H', Iv m σ' H' ↔ ((∃ v6, σ' = [some (.ref pp), some (.int i), some (.int k), some (.str d.sg), some (.ref fl), some (.int j), v6]) ∧ Same H H' ∧ SeqD (GoAt H) H' fl (pre ++ (pj.doors.zipIdx.take m).filterMap G)) := ⟨_, fun _ _ _ => Iff.rfl⟩
        refine forR_by Iv2 ((hIv2 _ _ _).mpr ⟨⟨_, rfl⟩, s2, by rw [List.take_zero, List.filterMap_nil, List.append_nil]; exact sd⟩) ?_ ?_
        · rintro m σ' H3 hm hinv
          obtain ⟨⟨v6, rfl⟩, s3, sd⟩ := (hIv2 _ _ _).mp hinv
          obtain ⟨e, he⟩ : ∃ e, pj.doors[m]? = some e := ⟨_, List.getElem?_eq_getElem hm⟩
          have hps3 := SeqOf.keep (fun _ _ => PgAt.keep _ _ _ _ s3) s3 hps
          have tk2 : (pj.doors.zipIdx.take (m + 1)).filterMap G = (pj.doors.zipIdx.take m).filterMap G ++ (match G (e, m) with | some o => [o] | none => []) := by
            rw [take_snoc (zipIdx_at he), List.filterMap_append]
            congr 1
            cases h : G (e, m) <;> simp [h]
          have hlen : (pre ++ (pj.doors.zipIdx.take m).filterMap G).length ≤ 900 := by
            have : ((pj.doors.zipIdx.take m).filterMap G).length ≤ (F (pj.mach, j)).length := by
              rw [FG]
              exact ((List.take_sublist m pj.doors.zipIdx).filterMap _).length_le
            rw [List.length_append]
            omega
          have eG : G (e, m) = if (j ≠ i ∧ ch = 33) ∧ e.sg = sg2 then some [(i, k), (j, m)] else none := by rw [hG]
          rw [eG] at tk2
          generalize (pj.doors.zipIdx.take m).filterMap G = pre2 at *
          have no : ¬ ((j ≠ i ∧ ch = 33) ∧ e.sg = sg2) → Iv2 (m + 1) [some (.ref pp), some (.int i), some (.int k), some (.str d.sg), some (.ref fl), some (.int j), some (.int m)] H3 := fun c => by
            refine (hIv2 _ _ _).mpr ⟨⟨_, rfl⟩, s3, ?_⟩
            rw [tk2, if_neg c, List.append_nil]; exact sd
          walk_at "rd"
          by_cases ci : j = i
          · exact if_f (by rw [decide_eq_true (by omega : (j : Int) = (i : Int))]; rfl) (no fun h => h.1.1 ci)
          refine if_t (by rw [decide_eq_false (by omega : ¬ (j : Int) = (i : Int))]; rfl) ?_
          refine ⟨d.sg, -1, ch, rfl, rfl, small1000' sg1000, chl, ?_⟩
          walk_at "rd"
          by_cases c33 : ch = 33
          rotate_left
          · exact if_f (decide_eq_false fun h => c33 (one33.mp h)) (no fun h => c33 h.1.2)
          refine if_t (decide_eq_true (one33.mpr c33)) ?_
          refine pg_fld hps3 hpj he (by decide) fun g' n'' _ _ => ⟨_, rfl, ?_⟩
          refine ⟨d.sg, rfl, small1000' sg1000, ?_⟩
          refine ⟨_, rfl, _, rfl, small1000' (by rw [show (Str.ofString "?").length = 1 by decide +kernel]; omega), rfl, ?_⟩
          rw [show (cutS d.sg none (some (-1)) ++ Str.ofString "?") = sg2 from hsg2]
          refine ite_d (fun c => ?_) (fun c => no fun h => c (by rw [h.2]))
          have c' : e.sg = sg2 := by injection c
          obtain ⟨bqs, w1, w2, w3⟩ := id sd
          walk_at "rd"
          refine ⟨_, rfl, .inl ⟨rfl, _, .of w1⟩, ?_⟩
          walk_at "rd"
          intro t4 H4 s4 f4 e4 t5 H5 s5 f5 e5 t6 H6 s6 f6 e6
          have s36 := s4.trans (s5.trans s6)
          have nfl : ∀ {b : Addr} {J : Hp}, J b = none → Same H3 J → b ≠ fl := fun f s y => by rw [y, s _ _ w1] at f; cases f
          have dz : GoAt H (delH fl H6) t6 [(i, k), (j, m)] := ⟨⟨[t4, t5], del_at (nfl f6 (s4.trans s5)) e6, rfl, fun n q x h1 h2 => by
            have hi : n = 0 ∨ n = 1 := by have := (List.getElem?_eq_some_iff.mp h1).1; simp at this; omega
            rcases hi with rfl | rfl
            · obtain rfl : t4 = q := by simpa using h1
              obtain rfl : (i, k) = x := by simpa using h2
              exact del_at (nfl f4 (Same.refl _)) ((s5.trans s6) _ _ e4)
            · obtain rfl : t5 = q := by simpa using h1
              obtain rfl : (j, m) = x := by simpa using h2
              exact del_at (nfl f5 s4) (s6 _ _ e5)⟩, (s3.trans (s4.trans s5)).free f6⟩
          obtain ⟨items, it1, it2, it3⟩ := (sd.keep GoAt.keep s36).app GoAt.keep dz
          refine app_at it1 (by omega) ?_
          refine (hIv2 _ _ _).mpr ⟨⟨_, rfl⟩, same_updN f1 (s3.trans s36), ?_⟩
          rw [tk2, if_pos ⟨⟨ci, c33⟩, c'⟩, ← List.append_assoc]; exact it3
        · rintro σ' H3 hinv
          obtain ⟨⟨v6, rfl⟩, s3, sd⟩ := (hIv2 _ _ _).mp hinv
          rw [List.take_of_length_le (by simp), ← FG] at sd
          exact (hIv1 _ _ _).mpr ⟨⟨_, _, rfl⟩, s3, by rw [tk]; exact sd⟩
      · rintro σ' H2 hinv
        obtain ⟨⟨v5, v6, rfl⟩, s2, sd⟩ := (hIv1 _ _ _).mp hinv
        rw [List.take_of_length_le (by simp)] at sd
        walk_at "rd"
        exact q fl H2 s2 f1 (sd.seq GoAt.keep)
theorem app_big {H : Hp} {l : Addr} {xs : List V} {v : V} {Q : VK} (h : H l = some (.lst xs)) (hl : xs.length ≤ 1000000) (q : Q .non (upd H l (.lst (xs ++ [v])))) : rAppend (.ref l) [v] H Q := ⟨l, xs, v, rfl, rfl, h, by unfold sizeLine; omega, q⟩
theorem set_l {H : Hp} {r : Addr} {xs : List V} {j : Nat} {v : V} {Q : Hp → Prop} (h : H r = some (.lst xs)) (hj : j < xs.length) (q : Q (upd H r (.lst (xs.set j v)))) : rSetL (.ref r) (.int (j : Int)) v H Q := by
  refine ⟨r, _, j, j, rfl, rfl, h, ?_, q⟩
  unfold ixN
  rw [if_pos (by omega), if_pos (by omega), Int.toNat_natCast]
theorem ints_eqv {xs : List Int} : PyData.eqv (.list (xs.map PyData.int)) (.list []) = decide (xs = []) := by
  cases xs with
  | nil => rfl
  | cons x xs => rfl
/-- what the law says of a door of the whole -/
def DuAt (H : Hp) (q : Addr) (x : DoorD × Share) : Prop := ∃ g n s, H q = some (.tup [.str x.1.st, .str x.1.en, .ref g, .ref n, .ref s]) ∧ LsAt H g x.1.looks ∧ H n = some (.lst (x.1.backs.map V.str)) ∧ ShAt H s x.2
theorem DuAt.keep : ∀ (H H' : Hp) (q : Addr) (x : DoorD × Share), Same H H' → DuAt H q x → DuAt H' q x := fun _ _ _ _ s ⟨g, n, p, a, b, c, d⟩ => ⟨g, n, p, s _ _ a, b.keep s, s _ _ c, ShAt.keep _ _ _ _ s d⟩
def spDue25 (K : PySem.W.Frag) : Sp := fun vs H Q _ => ∃ (pp : Addr) (ps : List PgD), vs = [.ref pp] ∧ SeqOf PgAt H pp ps ∧ PgsOk ps ∧ ∀ q H', Same H H' → H q = none → SeqOf DuAt H' q (doorsP (ps.map PgD.mach)) → Q (.ref q) H'
theorem ok_l_due (T : Top K mg) : FnOk P w K mg base CX0 2 T.f_l_due T.d_l_due ["_law_parts_here"] (spDue25 K) := by
  refine T.F_l_due.ok sc_l_due (fun vs H Q E h => ?_) (fun cdv A outer s H vs Q E hr h => ?_)
  · obtain ⟨pp, ps, rfl, _⟩ := h; rfl
  · obtain ⟨pp, ps, rfl, hps, pok, q⟩ := h
    refine ⟨_, (pss_cons (ps_set (i := 1) sc_l_due.nd rfl (.inl rfl) (pe_lstN pa_nil))
      (pss_cons (ps_set (i := 2) sc_l_due.nd rfl (.inl rfl) (pe_call (ok_l_ways T) (hr.mono (by decide)) rfl T.g_l_ways T.F_l_ways.kp T.b_l_ways .nil pass0 (pa_cons (pv 0) pa_nil)))
      (pss_cons (ps_for PassesOwn.never rfl (pi_range1 (by rfl) T.m_range (pa_cons (pe_callB call_len_seq (by rfl) T.m_len (by decide +kernel) (pa_cons (pv 0) pa_nil)) pa_nil)) (pg_name (i := 3) sc_l_due.nd rfl (.inl rfl)) (pss_one (ps_for PassesOwn.never rfl (pi_range1 (by rfl) T.m_range (pa_cons (pe_callB call_len_seq (by rfl) T.m_len (by decide +kernel) (pa_cons (pe_ix (ix_tupA (K := K) rfl) (pe_ix (ix_listA (K := K) rfl) (pv 0) (pv 3) (fun _ _ => rfl)) pe_int (fun _ _ => rfl)) pa_nil)) pa_nil)) (pg_name (i := 4) sc_l_due.nd rfl (.inl rfl)) (pss_one (ps_for PassesOwn.never rfl (pi_listA (K := K) rfl (pe_call (ok_l_goers T) (hr.mono (by decide)) rfl T.g_l_goers T.F_l_goers.kp T.b_l_goers .nil pass0 (pa_cons (pv 0) (pa_cons (pv 3) (pa_cons (pv 4) pa_nil))))) (pg_name (i := 5) sc_l_due.nd rfl (.inl rfl)) (pss_one (ps_for PassesOwn.never rfl (pi_listA (K := K) rfl (pv 2)) (pg_name (i := 6) sc_l_due.nd rfl (.inr rfl)) (pss_one (ps_if (pt_cmpR (op_eqD hr.units) (lc_vs (vs := [7, 8]) (pe_lc (own := [("_law_j", 7), ("_law_m", 8)]) rfl sc_l_due.nd (pi_listA (K := K) rfl (pv 5)) (blkOk_by (own := [("_law_j", 7), ("_law_m", 8)]) (N := ["_law_parts_here", "_law_due_here", "_law_ways_here", "_law_i", "_law_k", "_law_share", "_law_way", "_law_j", "_law_m", "_law_end", "_law_looks", "_law_noughts"]) (sc := defScope s_l_due) (by decide +kernel)) (fun _ _ _ _ _ => (pg_tupA (K := K) (n := 2) rfl (by rfl) (pgs_cons (pg_name (i := 7) sc_l_due.nd rfl (.inl rfl)) (pgs_cons (pg_name (i := 8) sc_l_due.nd rfl (.inl rfl)) pgs_nil)))) (fun _ _ _ _ _ => pts_one (pt_cmpR op_ne (pe_ix (ix_listA (K := K) rfl) (pv 6) (pv 7) (fun _ _ => rfl)) (pe_ix (ix_tupA (K := K) rfl) (pe_ix (ix_listA (K := K) rfl) (pe_ix (ix_tupA (K := K) rfl) (pe_ix (ix_listA (K := K) rfl) (pv 0) (pv 7) (fun _ _ => rfl)) pe_int (fun _ _ => rfl)) (pv 8) (fun _ _ => rfl)) pe_int (fun _ _ => rfl)) (nomark _))) (fun _ _ _ _ _ => pe_int)) rfl) (pe_lstN pa_nil) (nomark _)) (pss_cons (ps_set (i := 9) sc_l_due.nd rfl (.inl rfl) (pe_callTy (call_listA (K := K) rfl) (by rfl) T.m_list (by decide +kernel) (pa_cons (pv 6) pa_nil)))
      (pss_cons (ps_set (i := 10) sc_l_due.nd rfl (.inl rfl) (pe_lstN pa_nil))
      (pss_cons (ps_set (i := 11) sc_l_due.nd rfl (.inl rfl) (pe_lstN pa_nil))
      (pss_cons (ps_for PassesOwn.never rfl (pi_listA (K := K) rfl (pv 5)) (pg_tupA (K := K) (n := 2) rfl (by rfl) (pgs_cons (pg_name (i := 7) sc_l_due.nd rfl (.inl rfl)) (pgs_cons (pg_name (i := 8) sc_l_due.nd rfl (.inl rfl)) pgs_nil))) (pss_cons (ps_asg (pe_ix (ix_tupA (K := K) rfl) (pe_ix (ix_listA (K := K) rfl) (pe_ix (ix_tupA (K := K) rfl) (pe_ix (ix_listA (K := K) rfl) (pv 0) (pv 7) (fun _ _ => rfl)) pe_int (fun _ _ => rfl)) (pv 8) (fun _ _ => rfl)) pe_int (fun _ _ => rfl)) (pg_sub (pv 9) (pv 7) set_list))
      (pss_cons (ps_set (i := 10) sc_l_due.nd rfl (.inl rfl) (pe_op op_catN (pv 10) (pe_ix (ix_tupA (K := K) rfl) (pe_ix (ix_listA (K := K) rfl) (pe_ix (ix_tupA (K := K) rfl) (pe_ix (ix_listA (K := K) rfl) (pv 0) (pv 7) (fun _ _ => rfl)) pe_int (fun _ _ => rfl)) (pv 8) (fun _ _ => rfl)) pe_int (fun _ _ => rfl))))
      (pss_one (ps_set (i := 11) sc_l_due.nd rfl (.inl rfl) (pe_op op_catN (pv 11) (pe_ix (ix_tupA (K := K) rfl) (pe_ix (ix_listA (K := K) rfl) (pe_ix (ix_tupA (K := K) rfl) (pe_ix (ix_listA (K := K) rfl) (pv 0) (pv 7) (fun _ _ => rfl)) pe_int (fun _ _ => rfl)) (pv 8) (fun _ _ => rfl)) pe_int (fun _ _ => rfl))))))))
      (pss_one (ps_expr (pe_bm PySem.F.plainAttrs_list PySem.F.slot_list_append PySem.F.type_list_append mt_append (pv 1) (pa_cons (pe_tupN (pa_cons (pe_join pe_str (pv 6)) (pa_cons (pe_join pe_str (pv 9)) (pa_cons (pv 10) (pa_cons (pv 11) (pa_cons (pv 5) pa_nil)))))) pa_nil)))))))) pss_nil)))))))))
      (pss_one (ps_ret (pv 1)))))), ?_⟩
    obtain ⟨pqs, p1, p2, p3⟩ := id hps
    have l4 := pok.l4
    have mok := pok.machs
    obtain ⟨n0, hn0⟩ := pok.ok
    have many := pok.many
    have hM : ∀ {j : Nat} {p' : PgD}, ps[j]? = some p' → (ps.map PgD.mach)[j]? = some p'.mach := fun h => by rw [List.getElem?_map, h]; rfl
    have hMi : ∀ {j : Nat} {M : MachD}, (ps.map PgD.mach)[j]? = some M → ∃ p', ps[j]? = some p' ∧ M = p'.mach := fun {j M} h => by
      rw [List.getElem?_map] at h
      obtain ⟨p', h1, h2⟩ := Option.map_eq_some_iff.mp h
      exact ⟨p', h1, h2.symm⟩
    rw [doors_all] at q many
    generalize hMs : ps.map PgD.mach = Ms at *
    have rlen := rows_len Ms
    refine seq_step ?_
    walk_at "rd"
    intro fl H1 s1 f1 e1
    refine seq_step ?_
    walk_at "rd"
    refine ⟨pp, ps, rfl, SeqOf.keep (fun _ _ => PgAt.keep _ _ _ _ s1) s1 hps, pok, fun wq H2 s2 f2 e2 => ?_⟩
    rw [hMs] at e2
    obtain ⟨wqs, w1, w2, w3⟩ := id e2
    have s12 := s1.trans s2
    have fl2 := s2 _ _ e1
    have wfl : wq ≠ fl := fun y => by rw [y, e1] at f2; cases f2
    walk_at "rd"
    refine seq_step ?_
    refine for_rg ?_
    walk_at "rd"
    refine ⟨_, .inl (.of (s12 _ _ p1)), (rg_ok (by rw [List.length_map]; omega)).1, (rg_ok (by rw [List.length_map]; omega)).2, ?_⟩
    rw [List.length_map, p2, Int.toNat_natCast]
    have sK : ∀ {J H' : Hp} {o : HO}, Same (delH fl J) H' → Same (delH fl J) (upd H' fl o) := fun {J H' o} s b x e => by rw [upd_ne (del_of e).1]; exact s _ _ e
    have sD : ∀ {J H' : Hp}, Same (delH fl J) H' → Same (delH fl J) (delH fl H') := fun {J H'} s b x e => del_at (del_of e).1 (s _ _ e)
    have w1d := del_at wfl w1
    have w3d : ∀ (m : Nat) (q : Addr) (row : Row), wqs[m]? = some q → (rowsP Ms)[m]? = some row → delH fl H2 q = some (.lst ((row.map (·.1)).map V.str)) := fun m q row h1 h2 => by
      have h5 := (w3 m q row h1 h2).2
      exact del_at (fun y => by rw [y, e1] at h5; cases h5) (w3 m q row h1 h2).1
    obtain ⟨Iv1, hIv1⟩ : ∃ Iv : Nat → L2.St → Hp → Prop, ∀ i σ' H', Iv i σ' H' ↔ (∃ v3 v4 v5 v6 v7 v8 v9 v10 v11 found, σ' = [some (.ref pp), some (.ref fl), some (.ref wq), v3, v4, v5, v6, v7, v8, v9, v10, v11] ∧ Same H H' ∧ Same (delH fl H2) H' ∧ SeqD DuAt H' fl found ∧ machsDo Ms Ms.zipIdx = found ++ machsDo Ms (Ms.zipIdx.drop i)) := ⟨_, fun _ _ _ => Iff.rfl⟩
    refine forR_by Iv1 ((hIv1 _ _ _).mpr ⟨_, _, _, _, _, _, _, _, _, [], rfl, s12, del_sub, SeqD.nil fl2, by simp⟩) ?_ ?_
    · rintro i σ' H3 hi hinv
      obtain ⟨v3, v4, v5, v6, v7, v8, v9, v10, v11, found, rfl, s3, b3, sd, feq⟩ := (hIv1 _ _ _).mp hinv
      obtain ⟨p, hp⟩ : ∃ p, ps[i]? = some p := ⟨_, List.getElem?_eq_getElem hi⟩
      have hz := hM hp
      have dl4 := (hn0 p (List.mem_of_getElem? hp)).d4
      rw [drop_at (zipIdx_at hz)] at feq
      have feq : machsDo Ms Ms.zipIdx = found ++ (atsDo Ms i (List.range p.doors.length) ++ machsDo Ms (Ms.zipIdx.drop (i + 1))) := feq
      generalize hrest1 : machsDo Ms (Ms.zipIdx.drop (i + 1)) = rest1 at *
      walk_at "rd"
      refine for_rg ?_
      walk_at "rd"
      refine pg_list (SeqOf.keep (fun _ _ => PgAt.keep _ _ _ _ s3) s3 hps) hp fun dl hdl => ?_
      obtain ⟨ts, t1, t2, t3⟩ := id hdl
      refine ⟨_, rfl, _, .inl (.of t1), (rg_ok (by rw [List.length_map]; omega)).1, (rg_ok (by rw [List.length_map]; omega)).2, ?_⟩
      rw [List.length_map, t2, Int.toNat_natCast]
      obtain ⟨Iv2, hIv2⟩ : ∃ Iv : Nat → L2.St → Hp → Prop, ∀ j σ' H', Iv j σ' H' ↔ (∃ v4 v5 v6 v7 v8 v9 v10 v11 found, σ' = [some (.ref pp), some (.ref fl), some (.ref wq), some (.int i), v4, v5, v6, v7, v8, v9, v10, v11] ∧ Same H H' ∧ Same (delH fl H2) H' ∧ SeqD DuAt H' fl found ∧ machsDo Ms Ms.zipIdx = found ++ (atsDo Ms i ((List.range p.doors.length).drop j) ++ rest1)) := ⟨_, fun _ _ _ => Iff.rfl⟩
      refine forR_by Iv2 ((hIv2 _ _ _).mpr ⟨_, _, _, _, _, _, _, _, found, rfl, s3, b3, sd, feq⟩) ?_ ?_
      · rintro j σ' H5 hj hinv
        obtain ⟨v4, v5, v6, v7, v8, v9, v10, v11, found, rfl, s5, b5, sd, feq⟩ := (hIv2 _ _ _).mp hinv
        obtain ⟨d, hd⟩ : ∃ d, p.doors[j]? = some d := ⟨_, List.getElem?_eq_getElem hj⟩
        have hat : doorAt Ms (i, j) = some d := doorAt_of hz hd
        rw [drop_at (show (List.range p.doors.length)[j]? = some j by rw [List.getElem?_range hj])] at feq
        have feq : machsDo Ms Ms.zipIdx = found ++ (sharesDo Ms (goersP Ms (i, j)) ++ (atsDo Ms i ((List.range p.doors.length).drop (j + 1)) ++ rest1)) := by rw [feq, ← List.append_assoc (sharesDo Ms _)]; rfl
        generalize hr2 : atsDo Ms i ((List.range p.doors.length).drop (j + 1)) ++ rest1 = rest2 at *
        have gok := goers_ok hat
        walk_at "rd"
        refine for_li ?_
        walk_at "rd"
        refine ⟨pp, ps, i, j, p, d, rfl, SeqOf.keep (fun _ _ => PgAt.keep _ _ _ _ s5) s5 hps, pok, hp, hd, fun gq H6 s6 f6 e6 => ?_⟩
        rw [hMs] at e6
        obtain ⟨gqs, g1, g2, g3⟩ := id e6
        generalize goersP Ms (i, j) = shs at *
        obtain ⟨_, fl5, _⟩ := id sd
        have gfl : gq ≠ fl := fun y => by rw [y, fl5] at f6; cases f6
        have fl6 := s6 _ _ fl5
        have b26 : Same (delH fl H2) (delH fl H6) := fun b o e => del_at (del_of e).1 (s6 _ _ (b5 _ _ e))
        obtain ⟨Iv3, hIv3⟩ : ∃ Iv : Nat → L2.St → Hp → Prop, ∀ k σ' H', Iv k σ' H' ↔ (∃ v5 v6 v7 v8 v9 v10 v11 found, σ' = [some (.ref pp), some (.ref fl), some (.ref wq), some (.int i), some (.int j), v5, v6, v7, v8, v9, v10, v11] ∧ Same H H' ∧ Same (delH fl H6) H' ∧ SeqD DuAt H' fl found ∧ machsDo Ms Ms.zipIdx = found ++ (sharesDo Ms (shs.drop k) ++ rest2)) := ⟨_, fun _ _ _ => Iff.rfl⟩
        refine ⟨gq, rfl, forL_by (xs := gqs.map V.ref) Iv3 ((hIv3 _ _ _).mpr ⟨_, _, _, _, _, _, _, found, rfl, s5.trans s6, del_sub, sd.keep DuAt.keep s6, feq⟩) (fun i σ H' _ h => (fun (⟨_, _, _, _, _, _, _, _, _, _, k, _⟩ : ∃ _ _ _ _ _ _ _ _, _ ∧ _ ∧ Same _ _ ∧ _) => .of (k _ _ (del_at gfl g1))) ((hIv3 _ _ _).mp h)) ?_ ?_⟩
        · rintro k x σ' H7 hk hinv
          obtain ⟨v5, v6, v7, v8, v9, v10, v11, found, rfl, s7, b7, sd, feq⟩ := (hIv3 _ _ _).mp hinv
          rw [List.getElem?_map] at hk
          obtain ⟨qk, h2, rfl⟩ := Option.map_eq_some_iff.mp hk
          have hkl := (List.getElem?_eq_some_iff.mp h2).1
          obtain ⟨sh, hsh⟩ : ∃ sh, shs[k]? = some sh := ⟨_, List.getElem?_eq_getElem (by omega)⟩
          have shok := gok sh (List.mem_of_getElem? hsh)
          have bsh : ShAt (delH fl H6) qk sh := by
            obtain ⟨⟨us, u1, u2, u3⟩, u4⟩ := g3 k qk sh h2 hsh
            exact ⟨us, del_at (fun y => by rw [y, fl5] at u4; cases u4) u1, u2, fun i q x h1 h2 => del_at (ne_of (u3 i q x h1 h2) fl6 (by intro z; cases z)) (u3 i q x h1 h2)⟩
          rw [drop_at hsh] at feq
          have feq : machsDo Ms Ms.zipIdx = found ++ (roomsDo Ms sh (rowsP Ms) ++ (sharesDo Ms (shs.drop (k + 1)) ++ rest2)) := by rw [feq, ← List.append_assoc (roomsDo Ms _ _)]; rfl
          generalize hrest3 : sharesDo Ms (shs.drop (k + 1)) ++ rest2 = rest3 at *
          walk_at "rd"
          refine for_li ?_
          walk_at "rd"
          obtain ⟨Iv4, hIv4⟩ : ∃ Iv : Nat → L2.St → Hp → Prop, ∀ m σ' H', Iv m σ' H' ↔ (∃ v6 v7 v8 v9 v10 v11 found, σ' = [some (.ref pp), some (.ref fl), some (.ref wq), some (.int i), some (.int j), some (.ref qk), v6, v7, v8, v9, v10, v11] ∧ Same H H' ∧ Same (delH fl H6) H' ∧ SeqD DuAt H' fl found ∧ machsDo Ms Ms.zipIdx = found ++ (roomsDo Ms sh ((rowsP Ms).drop m) ++ rest3)) := ⟨_, fun _ _ _ => Iff.rfl⟩
          refine forL_by (xs := wqs.map V.ref) Iv4 ((hIv4 _ _ _).mpr ⟨_, _, _, _, _, _, found, rfl, s7, b7, sd, feq⟩) (fun i σ H' _ h => (fun (⟨_, _, _, _, _, _, _, _, _, k, _⟩ : ∃ _ _ _ _ _ _ _, _ ∧ _ ∧ Same _ _ ∧ _) => .of (k _ _ (b26 _ _ w1d))) ((hIv4 _ _ _).mp h)) ?_ ?_
          · rintro m x σ' H8 hm hinv
            obtain ⟨v6, v7, v8, v9, v10, v11, found, rfl, s8, b8, sd, feq⟩ := (hIv4 _ _ _).mp hinv
            rw [List.getElem?_map] at hm
            obtain ⟨qm, h3, rfl⟩ := Option.map_eq_some_iff.mp hm
            have hml := (List.getElem?_eq_some_iff.mp h3).1
            obtain ⟨row, hrow⟩ : ∃ row, (rowsP Ms)[m]? = some row := ⟨_, List.getElem?_eq_getElem (by omega)⟩
            have rok := rows_ok Ms row (List.mem_of_getElem? hrow)
            have erow := b26 _ _ (w3d m qm row h3 hrow)
            rw [drop_at hrow] at feq
            have feq : machsDo Ms Ms.zipIdx = found ++ ((match doorP Ms row sh with | some d => [(d, sh)] | none => []) ++ (roomsDo Ms sh ((rowsP Ms).drop (m + 1)) ++ rest3)) := by
              rw [feq, ← List.append_assoc (match doorP Ms row sh with | some d => [(d, sh)] | none => [])]
              congr 1
              congr 1
              unfold roomsDo
              rw [List.filterMap_cons]
              cases doorP Ms row sh <;> rfl
            generalize hrest4 : roomsDo Ms sh ((rowsP Ms).drop (m + 1)) ++ rest3 = rest4 at *
            obtain ⟨us, u1, u2, u3⟩ := id bsh
            have sh2 := shok.1
            have flen8 : found.length ≤ 20000 := by have := congrArg List.length feq; rw [List.length_append] at this; omega
            have at8 : ∀ {x : Nat × Nat}, x ∈ sh → ∃ (d : DoorD) (p' : PgD) (r : Rq), doorAt Ms x = some d ∧ ps[x.1]? = some p' ∧ p'.doors[x.2]? = some d ∧ row[x.1]? = some r := fun {x} hx => by
              obtain ⟨d, hd⟩ := shok.2 x hx
              obtain ⟨M, hM1, hdM⟩ := Option.bind_eq_some_iff.mp hd
              obtain ⟨p', hp', rfl⟩ := hMi hM1
              have hl := (List.getElem?_eq_some_iff.mp hM1).1
              exact ⟨d, p', _, hd, hp', hdM, List.getElem?_eq_getElem (by have := rok.1; omega)⟩
            walk_at "rd"
            refine lcg_src ?_
            walk_at "rd"
            refine ⟨⟨_, .of (b8 _ _ u1)⟩, ?_⟩
            refine lcG (RV := fun _ y x => y = V.int x) (fun _ _ _ _ _ e => e) (F := fun x : Nat × Nat => match doorAt Ms x with | some d => if (row.map (·.1))[x.1]? = some d.st then none else some (1 : Int) | none => none) (zs := sh) (b8 _ _ u1) (by simp [u2]) (by simp; omega) (fun t x z H9 Yes No hx hz s9 hy hno => ?_) (fun c5 H9 s9 f9 e9 => ?_)
            · rw [List.getElem?_map] at hx
              obtain ⟨qt, h4, rfl⟩ := Option.map_eq_some_iff.mp hx
              have et := s9 _ _ (b8 _ _ (u3 t qt z h4 hz))
              obtain ⟨d', p', r, hd', hp', hdp', hr'⟩ := at8 (List.mem_of_getElem? hz)
              have s09 := s8.trans s9
              refine gTup_of (sqt et) rfl ?_
              walk_at "rd"
              refine ix_l (.of (s9 _ _ (b8 _ _ erow))) (Int.natCast_nonneg _) (by rw [Int.toNat_natCast, List.getElem?_map, List.getElem?_map, hr']; rfl) ?_
              refine pg_fld (SeqOf.keep (fun _ _ => PgAt.keep _ _ _ _ s09) s09 hps) hp' hdp' (by decide) fun g n hg hn => ⟨_, rfl, ?_⟩
              walk_at "rd"
              by_cases c : r.1 = d'.st
              · refine if_f (by rw [decide_eq_true (by rw [c])]; rfl) (hno _ (Same.refl _) ?_)
                simp only [hd']
                rw [if_pos]
                rw [List.getElem?_map, hr', ← c]; rfl
              · refine if_t (by rw [decide_eq_false (fun h => c (by injection h))]; rfl) (hy _ _ (Same.refl _) ⟨1, ?_, fun _ _ _ _ => rfl⟩)
                simp only [hd']
                rw [if_neg]
                rw [List.getElem?_map, hr']
                intro h
                exact c (by simpa using h)
            · obtain ⟨ys, y1, y2, y3⟩ := e9
              have fitI : ((sh.filterMap fun x : Nat × Nat => match doorAt Ms x with | some d => if (row.map (·.1))[x.1]? = some d.st then none else some (1 : Int) | none => none) = []) ↔ fitsP Ms row sh = true := by
                rw [List.filterMap_eq_nil_iff]
                unfold fitsP
                rw [List.all_eq_true]
                refine forall_congr' fun x => forall_congr' fun hx => ?_
                obtain ⟨d', _, _, hd', _⟩ := at8 hx
                rw [hd']
                by_cases h : (row.map (·.1))[x.1]? = some d'.st
                · simp [h]
                · simp [h]
              generalize hFS : (sh.filterMap fun x : Nat × Nat => match doorAt Ms x with | some d => if (row.map (·.1))[x.1]? = some d.st then none else some (1 : Int) | none => none) = FS at *
              have ye : ys = FS.map V.int := by
                refine List.ext_getElem (by rw [List.length_map, y2]) fun n h1 h2 => ?_
                rw [List.getElem_map]
                exact y3 n _ _ (List.getElem?_eq_getElem h1) (List.getElem?_eq_getElem _)
              rw [ye] at y1
              walk_at "rd"
              intro l10 H10 s10 f10 e10
              refine ⟨_, _, ints_dp (s10 _ _ y1), .lst (.of e10) .nil, shaped_ints _, rfl, ?_⟩
              rw [ints_eqv]
              have s8x := s9.trans s10
              by_cases cf : fitsP Ms row sh = true
              rotate_left
              · have e : doorP Ms row sh = none := if_neg cf
                rw [e] at feq
                rw [decide_eq_false (fun h => cf (fitI.mp h))]
                walk_at "rd"
                exact (hIv4 _ _ _).mpr ⟨_, _, _, _, _, _, found, rfl, s8.trans s8x, b8.trans s8x, sd.keep DuAt.keep s8x, by rw [hrest4]; exact feq⟩
              have e : doorP Ms row sh = some _ := if_pos cf
              rw [e] at feq
              rw [decide_eq_true (fitI.mpr cf)]
              walk_at "rd"
              have s0x := s8.trans s8x
              have ex := s8x _ _ (b8 _ _ erow)
              have fl8 : ∃ xs, H8 fl = some (.lst xs) := by obtain ⟨_, w, _⟩ := id sd; exact ⟨_, w⟩
              obtain ⟨flx, fl8⟩ := fl8
              have flX := s8x _ _ fl8
              have hpsX := SeqOf.keep (fun _ _ => PgAt.keep _ _ _ _ s0x) s0x hps
              have shX : ShAt (delH fl H10) qk sh := ShAt.keep _ _ _ _ (sD (b8.trans s8x)) bsh
              have usX := (s8x _ _ (b8 _ _ u1))
              have u3X : ∀ (t : Nat) (q : Addr) (x : Nat × Nat), us[t]? = some q → sh[t]? = some x → H10 q = some (.tup [.int x.1, .int x.2]) := fun t q x h1 h2 => s8x _ _ (b8 _ _ (u3 t q x h1 h2))
              refine seq_step ?_
              walk_at "rd"
              refine ⟨_, .inl (.of ex), fun pe Ha sa fa ea => ?_⟩
              walk_at "rd"
              refine seq_step ?_
              walk_at "rd"
              intro gl Hb sb fb eb
              refine seq_step ?_
              walk_at "rd"
              intro nl Hc sc fc ec
              have sXc := sa.trans (sb.trans sc)
              refine seq_step ?_
              refine for_li ?_
              walk_at "rd"
              obtain ⟨Iv5, hIv5⟩ : ∃ Iv : Nat → L2.St → Hp → Prop, ∀ t σ' H', Iv t σ' H' ↔ (∃ v7 v8 pg pn, σ' = [some (.ref pp), some (.ref fl), some (.ref wq), some (.int i), some (.int j), some (.ref qk), some (.ref qm), v7, v8, some (.ref pe), some (.ref pg), some (.ref pn)] ∧ Same H10 H' ∧ H' pe = some (.lst ((endP Ms (row.map (·.1)) (sh.take t)).map V.str)) ∧ LsAt H' pg (looksP Ms (sh.take t)) ∧ H' pn = some (.lst ((backsP Ms (sh.take t)).map V.str)) ∧ H10 pg = none ∧ H10 pn = none ∧ pg ≠ pe ∧ pn ≠ pe ∧ (looksP Ms (sh.take t)).length ≤ 60 * t ∧ (backsP Ms (sh.take t)).length ≤ 7 * t) := ⟨_, fun _ _ _ => Iff.rfl⟩
              refine forL_by (xs := us.map V.ref) Iv5 ((hIv5 _ _ _).mpr ⟨_, _, gl, nl, rfl, sXc, (sb.trans sc) _ _ ea, ⟨[], sc _ _ eb, rfl, fun i q x h => by simp at h⟩, ec, sa.free fb, (sa.trans sb).free fc, (fun y => by rw [y, ea] at fb; cases fb), (fun y => by rw [y, sb _ _ ea] at fc; cases fc), Nat.zero_le _, Nat.zero_le _⟩) (fun i σ H' _ h => (fun (⟨_, _, _, _, _, k, _⟩ : ∃ _ _ _ _, _ ∧ Same _ _ ∧ _) => .of (k _ _ usX)) ((hIv5 _ _ _).mp h)) ?_ ?_
              · rintro t x σ' Hd ht hinv
                obtain ⟨v7, v8, pg, pn, rfl, s5', he, hg, hn, fpg, fpn, npg, npn, hl60, hb7⟩ := (hIv5 _ _ _).mp hinv
                rw [List.getElem?_map] at ht
                obtain ⟨qt, h4, rfl⟩ := Option.map_eq_some_iff.mp ht
                have htl := (List.getElem?_eq_some_iff.mp h4).1
                obtain ⟨z, hz⟩ : ∃ z, sh[t]? = some z := ⟨_, List.getElem?_eq_getElem (by omega)⟩
                obtain ⟨d', p', r, hd', hp', hdp', hr'⟩ := at8 (List.mem_of_getElem? hz)
                have et := s5' _ _ (u3X t qt z h4 hz)
                have tk := take_snoc hz
                have e_end := endP_snoc Ms (row.map (·.1)) (sh.take t) hd'
                have e_looks := looksP_snoc Ms (sh.take t) hd'
                have e_backs := backsP_snoc Ms (sh.take t) hd'
                rw [← tk] at e_end e_looks e_backs
                have mk' := (hn0 p' (List.mem_of_getElem? hp')).mach
                have dk := mk'.door (List.mem_of_getElem? hdp')
                have dsz := mk'.dsz _ (List.mem_of_getElem? hdp')
                have elen := endP_len Ms (row.map (·.1)) (sh.take t)
                rw [List.length_map] at elen
                have zl := (List.getElem?_eq_some_iff.mp hr').1
                refine gTup_of (sqt et) rfl ?_
                walk_at "rd"
                refine seq_step ?_
                walk_at "rd"
                have psd := SeqOf.keep (fun _ _ => PgAt.keep _ _ _ _ s5') s5' hpsX
                refine pg_fld psd hp' hdp' (by decide) fun g n _ _ => ⟨_, rfl, ?_⟩
                walk_at "rd"
                refine set_l he (by rw [List.length_map]; omega) ?_
                have fpe : H10 pe = none := fa
                have sJ : Same H10 (upd Hd pe (.lst (((endP Ms (row.map (·.1)) (sh.take t)).map V.str).set z.1 (.str d'.en)))) := same_updN fpe s5'
                have heJ : upd Hd pe (.lst (((endP Ms (row.map (·.1)) (sh.take t)).map V.str).set z.1 (.str d'.en))) pe = some (.lst ((endP Ms (row.map (·.1)) (sh.take (t + 1))).map V.str)) := by
                  rw [upd_same, e_end, List.map_set]
                have hgJ : LsAt (upd Hd pe (.lst (((endP Ms (row.map (·.1)) (sh.take t)).map V.str).set z.1 (.str d'.en)))) pg (looksP Ms (sh.take t)) := (hg.del npg he).keep (del_upd.trans del_sub)
                have hnJ : upd Hd pe (.lst (((endP Ms (row.map (·.1)) (sh.take t)).map V.str).set z.1 (.str d'.en))) pn = some (.lst ((backsP Ms (sh.take t)).map V.str)) := by rw [upd_ne npn]; exact hn
                generalize upd Hd pe (.lst (((endP Ms (row.map (·.1)) (sh.take t)).map V.str).set z.1 (.str d'.en))) = J at *
                have psJ := SeqOf.keep (fun _ _ => PgAt.keep _ _ _ _ sJ) sJ hpsX
                refine seq_step ?_
                walk_at "rd"
                refine pg_fld psJ hp' hdp' (by decide) fun g n hg' _ => ⟨_, rfl, ?_⟩
                obtain ⟨us', vs', k1, k2, k3, k4, fin⟩ := hgJ.cat hg'
                refine ⟨_, rfl, us', k1, vs', k2, small1000' (by rw [k3, k4]; omega), fun g7 He se fe ee => ?_⟩
                have hg7 := fin He g7 (fun _ _ => LqAt.keep se) ee
                walk_at "rd"
                have sJe := sJ.trans se
                have psE := SeqOf.keep (fun _ _ => PgAt.keep _ _ _ _ sJe) sJe hpsX
                refine pg_fld psE hp' hdp' (by decide) fun g n _ hn' => ⟨_, rfl, ?_⟩
                refine ⟨_, rfl, _, se _ _ hnJ, _, hn', small1000' (by rw [List.length_map, List.length_map]; omega), fun n9 Hf sf ff ef => ?_⟩
                have sJf := se.trans sf
                refine (hIv5 _ _ _).mpr ⟨_, _, g7, n9, rfl, sJ.trans sJf, sJf _ _ heJ, ?_, ?_, sJ.free fe, sJe.free ff, (fun y => by rw [y, heJ] at fe; cases fe), (fun y => by rw [y, se _ _ heJ] at ff; cases ff), ?_, ?_⟩
                · rw [e_looks]; exact LsAt.keep hg7 sf
                · rw [e_backs, List.map_append]; exact ef
                · rw [e_looks, List.length_append]; omega
                · rw [e_backs, List.length_append]; omega
              · rintro σ' Hd hinv
                obtain ⟨v7, v8, pg, pn, rfl, s5', he, hg, hn, fpg, fpn, npg, npn, hl60, hb7⟩ := (hIv5 _ _ _).mp hinv
                rw [List.length_map, u2, List.take_length] at he hg hn hl60 hb7
                walk_at "rd"
                obtain ⟨row', rk', er'⟩ := end_row mok sh row rok shok.2
                have sXd := s8x.trans s5'
                obtain ⟨_, w, _⟩ := id (sd.keep DuAt.keep sXd)
                refine ⟨_, rfl, .inl ⟨rfl, _, .of w⟩, ?_⟩
                walk_at "rd"
                refine ⟨⟨_, rfl⟩, _, rfl, _, rfl, _, rfl, row.map (fun z : Rq => z.1), .inl (.of (s5' _ _ ex)), join_ok (row_txt mok rok) (by rw [List.length_map, rok.1, ← hMs, List.length_map]; omega) (by decide), ?_⟩
                refine ⟨⟨_, rfl⟩, _, rfl, _, rfl, _, rfl, endP Ms (row.map (fun z : Rq => z.1)) sh, .inl (.of he), join_ok (by rw [← er']; exact row_txt mok rk') (by rw [← er', List.length_map, rk'.1, ← hMs, List.length_map]; omega) (by decide), ?_⟩
                intro tq He se fe ee
                have sXe := sXd.trans se
                have nfl : ∀ {b : Addr} {J : Hp}, J b = none → Same H10 J → b ≠ fl := fun f s y => by rw [y, s _ _ flX] at f; cases f
                have flE := (s5'.trans se) _ _ flX
                have dz : DuAt (delH fl He) tq (⟨rowName row, Txt.join "/" (endP Ms (row.map (·.1)) sh), "", looksP Ms sh, backsP Ms sh⟩, sh) := ⟨pg, pn, qk, del_at (nfl fe s5') ee, (hg.keep se).del (nfl fpg (Same.refl _)) flE, del_at (nfl fpn (Same.refl _)) (se _ _ hn), ShAt.keep _ _ _ _ (del_same (s5'.trans se)) shX⟩
                obtain ⟨items, it1, it2, it3⟩ := (sd.keep DuAt.keep sXe).app DuAt.keep dz
                refine app_big it1 (by omega) ?_
                refine (hIv4 _ _ _).mpr ⟨_, _, _, _, _, _, _, rfl, same_updN f1 (s8.trans sXe), sK (b8.trans sXe), it3, ?_⟩
                rw [hrest4, List.append_assoc]; exact feq
          · rintro σ' H8 hinv
            obtain ⟨v6, v7, v8, v9, v10, v11, found, rfl, s8, b8, sd, feq⟩ := (hIv4 _ _ _).mp hinv
            rw [List.length_map, w2, List.drop_length] at feq
            exact (hIv3 _ _ _).mpr ⟨_, _, _, _, _, _, _, found, rfl, s8, b8, sd, by rw [hrest3]; exact feq⟩
        · rintro σ' H7 hinv
          obtain ⟨v5, v6, v7, v8, v9, v10, v11, found, rfl, s7, b7, sd, feq⟩ := (hIv3 _ _ _).mp hinv
          rw [List.length_map, g2, List.drop_length] at feq
          exact (hIv2 _ _ _).mpr ⟨_, _, _, _, _, _, _, _, found, rfl, s7, b26.trans b7, sd, by rw [hr2]; exact feq⟩
      · rintro σ' H5 hinv
        obtain ⟨v4, v5, v6, v7, v8, v9, v10, v11, found, rfl, s5, b5, sd, feq⟩ := (hIv2 _ _ _).mp hinv
        rw [List.drop_of_length_le (by rw [List.length_range]; exact Nat.le_refl _)] at feq
        exact (hIv1 _ _ _).mpr ⟨_, _, _, _, _, _, _, _, _, found, rfl, s5, b5, sd, by rw [hrest1]; exact feq⟩
    · rintro σ' H3 hinv
      obtain ⟨v3, v4, v5, v6, v7, v8, v9, v10, v11, found, rfl, s3, b3, sd, feq⟩ := (hIv1 _ _ _).mp hinv
      rw [List.drop_of_length_le (by rw [List.length_zipIdx, ← hMs, List.length_map]; exact Nat.le_refl _)] at feq
      have feq : machsDo Ms Ms.zipIdx = found := by rw [feq]; show found ++ [] = found; exact List.append_nil _
      walk_at "rd"
      exact q fl H3 s3 f1 (by rw [feq]; exact sd.seq DuAt.keep)
def spSame25 (K : PySem.W.Frag) (C : Addr) : Sp := fun vs H Q _ => ∃ (pd po : Addr) (x : DoorD × Share), vs = [.ref pd, .ref po] ∧ DoorAt C H pd x.1 ∧ DuAt H po x ∧ x.1.sg = "" ∧ ((∀ l ∈ x.1.looks, LqOk l) ∧ ∀ y ∈ x.1.backs, TxOk y) ∧ ∀ H', Same H H' → Q (.bl true) H'
theorem ok_l_same (T : Top K mg) : FnOk P w K mg base CX0 3 T.f_l_same T.d_l_same ["_law_door_here", "_law_one"] (spSame25 K T.C_Door) := by
  refine T.F_l_same.ok sc_l_same (fun vs H Q E h => ?_) (fun cdv A outer s H vs Q E hr h => ?_)
  · obtain ⟨pd, po, d, rfl, _⟩ := h; rfl
  · obtain ⟨pd, po, ⟨d, sh⟩, rfl, hd, ho, sg0, ok, q⟩ := h
    refine ⟨_, (pss_cons (ps_if (PW.pt (pw_or (pt_not (pt_val (pe_callB (call_isiA (K := K) rfl) (by rfl) T.m_isinstance (by decide +kernel) (pa_cons (pv 0) (pa_cons (pe_glob (v := .ref T.C_Door) rfl T.g_Door rfl) pa_nil))))) (pw_or (pt_cmpR op_ne (pe_fldA (K := K) rfl (pv 0) rfl) (pe_ix (ix_tupA (K := K) rfl) (pv 1) pe_int (fun _ _ => rfl)) (nomark _)) (pw_or (pt_cmpR op_ne (pe_fldA (K := K) rfl (pv 0) rfl) (pe_ix (ix_tupA (K := K) rfl) (pv 1) pe_int (fun _ _ => rfl)) (nomark _)) (pw_or1 (pt_cmpR op_ne (pe_fldA (K := K) rfl (pv 0) rfl) pe_str (nomark _))))))) (pss_one (ps_ret pe_bl)) pss_nil)
      (pss_one (ps_ret (pe_and (pe_cmpR (op_eqD hr.units) (pe_meth0 (pv 0) T.cl_Door T.m_Door_asks (ok_Door_asks T) (hr.mono (by decide)) T.b_Door_asks .nil pass0) (pe_ix (ix_tupA (K := K) rfl) (pv 1) pe_int (fun _ _ => rfl)) (nomark _)) (pe_one (pe_cmpR (op_eqD hr.units) (pe_meth0 (pv 0) T.cl_Door T.m_Door_sets (ok_Door_sets T) (hr.mono (by decide)) T.b_Door_sets .nil pass0) (pe_ix (ix_tupA (K := K) rfl) (pv 1) pe_int (fun _ _ => rfl)) (nomark _))))))), ?_⟩
    obtain ⟨dx, g, n, a, b, c⟩ := id hd
    obtain ⟨og, on, os, oa, ob, oc, _⟩ := id ho
    have no : ∀ {m : Str}, ¬ m = "start" → ¬ m = "end" → ¬ m = "sign" → ¬ m = "looks" → ¬ m = "backs" → (doorF d.st d.en d.sg g n).lookup m = none := fun h1 h2 h3 h4 h5 => door_no h1 h2 h3 h4 h5
    refine seq_step ?_
    walk_at "rd"
    refine is_own a T.cl_Door T.ty_Door ?_
    walk_at "rd"
    refine ⟨_, rfl, pd, _, dx, _, _, rfl, a, T.cl_Door, T.n_Door_start, door_start, ?_⟩
    refine ix_t (sqt oa) (by decide) rfl ⟨rfl, ?_⟩
    refine if_f (by rw [decide_eq_true rfl]; rfl) ?_
    refine ⟨_, rfl, pd, _, dx, _, _, rfl, a, T.cl_Door, T.n_Door_end, door_end, ?_⟩
    refine ix_t (sqt oa) (by decide) rfl ⟨rfl, ?_⟩
    refine if_f (by rw [decide_eq_true rfl]; rfl) ?_
    refine ⟨_, rfl, pd, _, dx, _, _, rfl, a, T.cl_Door, T.n_Door_sign, door_sign, ?_⟩
    refine ⟨rfl, ?_⟩
    refine if_f (by rw [show d.sg = "" from sg0, decide_eq_true rfl]; rfl) ?_
    walk_at "rd"
    refine ⟨_, rfl, pd, dx, _, rfl, a, no (by decide +kernel) (by decide +kernel) (by decide +kernel) (by decide +kernel) (by decide +kernel), pd, d, rfl, hd, fun q1 H1 s1 f1 e1 => ?_⟩
    refine ix_t (sqt (s1 _ _ oa)) (by decide) rfl ?_
    refine ⟨_, _, dp_ls e1, dp_ls (ob.keep s1), shaped_ls ok.1, shaped_ls ok.1, ?_⟩
    rw [SeqAt.eqv_refl _ (lay_ldats ok.1).1]
    walk_at "rd"
    refine ⟨_, rfl, pd, dx, _, rfl, s1 _ _ a, no (by decide +kernel) (by decide +kernel) (by decide +kernel) (by decide +kernel) (by decide +kernel), pd, d, rfl, hd.keep s1, fun q2 H2 s2 f2 e2 => ?_⟩
    have s12 := s1.trans s2
    refine ix_t (sqt (s12 _ _ oa)) (by decide) rfl ?_
    refine ⟨_, _, names_dp e2, names_dp (s12 _ _ oc), shaped_xs ok.2, shaped_xs ok.2, ?_⟩
    rw [SeqAt.eqv_refl _ (lay_strs ok.2).1]
    exact q _ s12
def spMany25 (K : PySem.W.Frag) (CM CD : Addr) : Sp := fun vs H Q _ => ∃ (p : Addr) (Ms : List MachD) (wh : Int), vs = [.ref p, .int wh] ∧ (wh = 0 ∨ wh = 1) ∧ MsAt CM CD H p Ms ∧ TogOk Ms ∧ 200 < (doorsP Ms).length ∧ ∀ H', Same H H' → Q (.bl true) H'
theorem ok_l_many (T : Top K mg) : FnOk P w K mg base CX0 10 T.f_l_many T.d_l_many ["_law_machines", "_law_way"] (spMany25 K T.C_Machine T.C_Door) := by
  refine T.F_l_many.ok sc_l_many (fun vs H Q E h => ?_) (fun cdv A outer s H vs Q E hr h => ?_)
  · obtain ⟨p, Ms, wh, rfl, _⟩ := h; rfl
  · obtain ⟨p, Ms, wh, rfl, hw, hms, tog, big, q⟩ := h
    refine ⟨_, (pss_cons (ps_try_as (i := 2) rfl rfl sc_l_many.nd rfl rfl ⟨rfl, by decide, .inl T.g_TooMany⟩ takes0 (fun W pn xe tk _ => (pss_one (ps_if (pt_cmpR op_eq (pv 1) pe_int (nomark _)) (pss_one (ps_expr (pe_callS (ok_together T) (hr.mono (by decide)) rfl T.g_together T.F_together.kp T.b_together (fun σ => passAt tk σ) (pa_cons (pv 0) pa_nil)))) (pss_one (ps_expr (pe_callS (ok_shares T) (hr.mono (by decide)) rfl T.g_shares T.F_shares.kp T.b_shares (fun σ => passAt tk σ) (pa_cons (pv 0) pa_nil))))))) (fun a oe cls d pn hz hf => (pss_one (ps_ret (pe_callB (call_isE2 hz hf) (by rfl) T.m_isinstance (by decide +kernel) (pa_cons (pv 2) (pa_cons (pe_bltn (v := .ty "ValueError") (u := .type "ValueError") (by rfl) T.m_ValueError (by decide +kernel) rfl) pa_nil)))))))
      (pss_one (ps_ret pe_bl))), ?_⟩
    have XB : ExcC K T.C_TooMany := ⟨T.e1_TooMany, T.e2_TooMany, T.b_TooMany, T.e4_TooMany, T.e5_TooMany, T.e6_, T.e7_, T.e8_TooMany⟩
    refine seq_step ?_
    walk_at "rd"
    rcases hw with rfl | rfl
    · walk_at "rd"
      refine ⟨p, Ms, rfl, hms, tog, (fun c => absurd c (by omega)), fun _ H1 s1 => ?_⟩
      refine ⟨true, exm_two T.b_TooMany T.e4_TooMany T.t_TooMany T.s_TooMany_TooMany, fun _ a ha => ?_, fun z => nomatch z⟩
      walk_at "rd"
      refine ⟨_, rfl, XB, _, .type "ValueError", _, rfl, (fun _ e => e), T.k_TooMany_v, ?_⟩
      exact q _ s1
    · walk_at "rd"
      refine ⟨p, Ms, rfl, hms, tog, (fun c => absurd c (by omega)), fun _ H1 s1 => ?_⟩
      refine ⟨true, exm_two T.b_TooMany T.e4_TooMany T.t_TooMany T.s_TooMany_TooMany, fun _ a ha => ?_, fun z => nomatch z⟩
      walk_at "rd"
      refine ⟨_, rfl, XB, _, .type "ValueError", _, rfl, (fun _ e => e), T.k_TooMany_v, ?_⟩
      exact q _ s1
def prdat (x : Nat × Nat) : PyData := .tuple [.int x.1, .int x.2]
def shdat (sh : Share) : PyData := .list (sh.map prdat)
theorem dp_sh {K : PySem.W.Frag} {H : Hp} {p : Addr} {sh : Share} (h : ShAt H p sh) : Dp K H (.ref p) (shdat sh) := dp_seq (fun q x (h : PrAt H q x) => .tup (.of h) (.cons (.int _) (.cons (.int _) .nil))) h
theorem lay_shs (shs : List Share) : (PyData.list (shs.map shdat)).canLay0 = true ∧ (PyData.list (shs.map shdat)).depth ≤ 4 := lay_listM fun d hd => by
  obtain ⟨sh, _, rfl⟩ := List.mem_map.mp hd
  refine lay_listM fun d hd => ?_
  obtain ⟨x, _, rfl⟩ := List.mem_map.mp hd
  refine lay_tup (k := 1) fun d hd => ?_
  simp only [List.mem_cons, List.not_mem_nil, or_false] at hd
  rcases hd with rfl | rfl
  · exact ⟨rfl, Nat.zero_le _⟩
  · exact ⟨rfl, Nat.zero_le _⟩
theorem shaped_shs (shs : List Share) : SeqAt.shaped (.list (shs.map shdat)) = true := Bool.and_eq_true_iff.mpr ⟨(lay_shs shs).1, decide_eq_true (by have := (lay_shs shs).2; omega)⟩
theorem doorsP_sg {Ms : List MachD} {x : DoorD × Share} (h : x ∈ doorsP Ms) : x.1.sg = "" := by
  obtain ⟨sh, hsh, hx2⟩ := List.mem_flatMap.mp h
  obtain ⟨row, hrow, hx3⟩ := List.mem_filterMap.mp hx2
  obtain ⟨d, hd', rfl⟩ := Option.map_eq_some_iff.mp hx3
  unfold doorP at hd'
  split at hd'
  · rw [← Option.some.inj hd']
  · cases hd'
def spLaw (K : PySem.W.Frag) : Sp := fun vs H Q _ => ∃ (a : Addr) (ns : List Int), vs = [.ref a] ∧ SqL K H a (ns.map V.int) ∧ ns.length ≤ 63 ∧ ∀ H', Q (.bl true) H'
theorem ok_law (T : Top K mg) : FnOk P w K mg base CX0 11 T.f_law T.d_law ["_law_script"] (spLaw K) := by
  refine T.F_law.ok sc_law (fun vs H Q E h => ?_) (fun cdv A outer s H vs Q E hr h => ?_)
  · obtain ⟨a, ns, rfl, _⟩ := h; rfl
  · obtain ⟨a, cs, rfl, hS, h63, q⟩ := h
    refine ⟨_, (pss_cons (ps_set (i := 1) sc_law.nd rfl (.inl rfl) (pe_call (ok_l_parts T) (hr.mono (by decide)) rfl T.g_l_parts T.F_l_parts.kp T.b_l_parts .nil pass0 (pa_cons (pv 0) pa_nil)))
      (pss_cons (lc_vsS (vs := [8]) (ps_setLc (i := 2) (own := [("_law_part", 8)]) (g := gName 8) (tt := tYes) rfl sc_law.nd rfl rfl (sw_true rfl rfl rfl (by decide +kernel)) (pi_listA (K := K) rfl (pv 1)) (blkOk_by (own := [("_law_part", 8)]) (N := ["_law_script", "_law_parts_here", "_law_machines", "_law_due_here", "_law_whole", "_law_told", "_law_doors", "_law_share", "_law_part", "_law_door_here", "_law_one"]) (sc := defScope s_law) (by decide +kernel)) (fun _ _ _ _ _ => (pg_name (i := 8) sc_law.nd rfl (.inl rfl))) (fun _ _ _ _ _ => pts_nil) (fun _ _ _ _ _ => (pe_call (ok_l_machine T) (hr.mono (by decide)) rfl T.g_l_machine T.F_l_machine.kp T.b_l_machine .nil pass0 (pa_cons (pv 8) pa_nil)))) rfl)
      (pss_cons (ps_set (i := 3) sc_law.nd rfl (.inl rfl) (pe_call (ok_l_due T) (hr.mono (by decide)) rfl T.g_l_due T.F_l_due.kp T.b_l_due .nil pass0 (pa_cons (pv 1) pa_nil)))
      (pss_cons (ps_if (pt_cmpR op_gt (pe_callB call_len_seq (by rfl) T.m_len (by decide +kernel) (pa_cons (pv 3) pa_nil)) pe_int (nomark _)) (pss_one (ps_ret (pe_and (pe_call (ok_l_many T) (hr.mono (by decide)) rfl T.g_l_many T.F_l_many.kp T.b_l_many .nil pass0 (pa_cons (pe_callTy (call_listA (K := K) rfl) (by rfl) T.m_list (by decide +kernel) (pa_cons (pv 2) pa_nil)) (pa_cons pe_int pa_nil))) (pe_one (pe_call (ok_l_many T) (hr.mono (by decide)) rfl T.g_l_many T.F_l_many.kp T.b_l_many .nil pass0 (pa_cons (pe_callTy (call_listA (K := K) rfl) (by rfl) T.m_list (by decide +kernel) (pa_cons (pv 2) pa_nil)) (pa_cons pe_int pa_nil))))))) pss_nil)
      (pss_cons (ps_set (i := 4) sc_law.nd rfl (.inl rfl) (pe_call (ok_together T) (hr.mono (by decide)) rfl T.g_together T.F_together.kp T.b_together .nil passL (pa_cons (pe_callTy (call_listA (K := K) rfl) (by rfl) T.m_list (by decide +kernel) (pa_cons (pv 2) pa_nil)) pa_nil)))
      (pss_cons (ps_set (i := 5) sc_law.nd rfl (.inl rfl) (pe_call (ok_shares T) (hr.mono (by decide)) rfl T.g_shares T.F_shares.kp T.b_shares .nil passL (pa_cons (pe_callTy (call_listA (K := K) rfl) (by rfl) T.m_list (by decide +kernel) (pa_cons (pv 2) pa_nil)) pa_nil)))
      (pss_cons (ps_set (i := 6) sc_law.nd rfl (.inl rfl) (pe_meth0 (pv 4) T.cl_Machine T.m_Machine_doors (ok_Machine_doors T) (hr.mono (by decide)) T.b_Machine_doors .nil pass0))
      (pss_cons (ps_if (PW.pt (pw_or (pt_not (pt_val (pe_callB (call_isiA (K := K) rfl) (by rfl) T.m_isinstance (by decide +kernel) (pa_cons (pv 6) (pa_cons (pe_bltn (v := .ty "list") (u := .type "list") (by rfl) T.m_list (by decide +kernel) rfl) pa_nil))))) (pw_or (pt_cmpR op_ne (pe_callB call_len_seq (by rfl) T.m_len (by decide +kernel) (pa_cons (pv 6) pa_nil)) (pe_callB call_len_seq (by rfl) T.m_len (by decide +kernel) (pa_cons (pv 3) pa_nil)) (nomark _)) (pw_or1 (pt_not (pt_val (pe_callB (call_isiA (K := K) rfl) (by rfl) T.m_isinstance (by decide +kernel) (pa_cons (pv 5) (pa_cons (pe_bltn (v := .ty "list") (u := .type "list") (by rfl) T.m_list (by decide +kernel) rfl) pa_nil))))))))) (pss_one (ps_ret pe_bl)) pss_nil)
      (pss_cons (ps_if (pt_not (pt_val (pe_callB (cr_all rfl) (by rfl) T.m_all (by decide +kernel) (pa_cons (lc_vs (vs := [9, 10]) (pe_lc (own := [("_law_door_here", 9), ("_law_one", 10)]) (tt := tYes) rfl sc_law.nd (pi_zipK (K := K) rfl (by rfl) T.m_zip (pa_wk (pa_cons (pv 6) (pa_cons (pv 3) pa_nil)))) (blkOk_by (own := [("_law_door_here", 9), ("_law_one", 10)]) (N := ["_law_script", "_law_parts_here", "_law_machines", "_law_due_here", "_law_whole", "_law_told", "_law_doors", "_law_share", "_law_part", "_law_door_here", "_law_one"]) (sc := defScope s_law) (by decide +kernel)) (fun _ _ _ _ _ => (pg_tupA (K := K) (n := 2) rfl (by rfl) (pgs_cons (pg_name (i := 9) sc_law.nd rfl (.inl rfl)) (pgs_cons (pg_name (i := 10) sc_law.nd rfl (.inl rfl)) pgs_nil)))) (fun _ _ _ _ _ => pts_nil) (fun _ _ _ _ _ => (pe_call (ok_l_same T) (hr.mono (by decide)) rfl T.g_l_same T.F_l_same.kp T.b_l_same .nil pass0 (pa_cons (pv 9) (pa_cons (pv 10) pa_nil))))) rfl) pa_nil)))) (pss_one (ps_ret pe_bl)) pss_nil)
      (pss_cons (ps_if (PW.pt (pw_or (pt_cmpR (op_neD hr.units) (pv 5) (lc_vs (vs := [10]) (pe_lc (own := [("_law_one", 10)]) (g := gName 10) (tt := tYes) rfl sc_law.nd (pi_listA (K := K) rfl (pv 3)) (blkOk_by (own := [("_law_one", 10)]) (N := ["_law_script", "_law_parts_here", "_law_machines", "_law_due_here", "_law_whole", "_law_told", "_law_doors", "_law_share", "_law_part", "_law_door_here", "_law_one"]) (sc := defScope s_law) (by decide +kernel)) (fun _ _ _ _ _ => (pg_name (i := 10) sc_law.nd rfl (.inl rfl))) (fun _ _ _ _ _ => pts_nil) (fun _ _ _ _ _ => (pe_ix (ix_tupA (K := K) rfl) (pv 10) pe_int (fun _ _ => rfl)))) rfl) (nomark _)) (pw_or1 (pt_not (pt_val (pe_callB (cr_all rfl) (by rfl) T.m_all (by decide +kernel) (pa_cons (lc_vs (vs := [7]) (pe_lc (own := [("_law_share", 7)]) (g := gName 7) (tt := tYes) rfl sc_law.nd (pi_listA (K := K) rfl (pv 5)) (blkOk_by (own := [("_law_share", 7)]) (N := ["_law_script", "_law_parts_here", "_law_machines", "_law_due_here", "_law_whole", "_law_told", "_law_doors", "_law_share", "_law_part", "_law_door_here", "_law_one"]) (sc := defScope s_law) (by decide +kernel)) (fun _ _ _ _ _ => (pg_name (i := 7) sc_law.nd rfl (.inl rfl))) (fun _ _ _ _ _ => pts_nil) (fun _ _ _ _ _ => (pe_callB (call_isiA (K := K) rfl) (by rfl) T.m_isinstance (by decide +kernel) (pa_cons (pv 7) (pa_cons (pe_bltn (v := .ty "list") (u := .type "list") (by rfl) T.m_list (by decide +kernel) rfl) pa_nil))))) rfl) pa_nil))))))) (pss_one (ps_ret pe_bl)) pss_nil)
      (pss_cons (ps_for PassesOwn.never rfl (pi_listA (K := K) rfl (pv 5)) (pg_name (i := 7) sc_law.nd rfl (.inl rfl)) (pss_one (ps_expr (pe_bm PySem.F.plainAttrs_list PySem.F.slot_list_append PySem.F.type_list_append mt_append (pv 7) (pa_cons (pe_tupN (pa_cons pe_int (pa_cons pe_int pa_nil))) pa_nil)))))
      (pss_cons (ps_expr (pe_bm0 PySem.F.plainAttrs_list PySem.F.slot_list_clear PySem.F.type_list_clear mt_clear (pv 6)))
      (pss_one (ps_ret (pe_and (pe_cmpR (op_eqD hr.units) (pe_call (ok_shares T) (hr.mono (by decide)) rfl T.g_shares T.F_shares.kp T.b_shares .nil passL (pa_cons (pe_callTy (call_listA (K := K) rfl) (by rfl) T.m_list (by decide +kernel) (pa_cons (pv 2) pa_nil)) pa_nil)) (lc_vs (vs := [10]) (pe_lc (own := [("_law_one", 10)]) (g := gName 10) (tt := tYes) rfl sc_law.nd (pi_listA (K := K) rfl (pv 3)) (blkOk_by (own := [("_law_one", 10)]) (N := ["_law_script", "_law_parts_here", "_law_machines", "_law_due_here", "_law_whole", "_law_told", "_law_doors", "_law_share", "_law_part", "_law_door_here", "_law_one"]) (sc := defScope s_law) (by decide +kernel)) (fun _ _ _ _ _ => (pg_name (i := 10) sc_law.nd rfl (.inl rfl))) (fun _ _ _ _ _ => pts_nil) (fun _ _ _ _ _ => (pe_ix (ix_tupA (K := K) rfl) (pv 10) pe_int (fun _ _ => rfl)))) rfl) (nomark _)) (pe_one (pe_cmpR op_eq (pe_callB call_len_seq (by rfl) T.m_len (by decide +kernel) (pa_cons (pe_meth0 (pv 4) T.cl_Machine T.m_Machine_doors (ok_Machine_doors T) (hr.mono (by decide)) T.b_Machine_doors .nil pass0) pa_nil)) (pe_callB call_len_seq (by rfl) T.m_len (by decide +kernel) (pa_cons (pv 3) pa_nil)) (nomark _)))))))))))))))))), ?_⟩
    refine seq_step ?_
    walk_at "rd"
    refine ⟨a, cs, rfl, hS, fun pp H1 ps s1 hps pok => ?_⟩
    obtain ⟨pqs, p1, p2, p3⟩ := id hps
    have l4 := pok.l4
    have l1 := pok.l1
    have mok := pok.machs
    obtain ⟨n, hn⟩ := pok.ok
    have tog := pok.tog
    walk_at "rd"
    refine seq_step ?_
    refine lcg_src ?_
    walk_at "rd"
    refine ⟨⟨_, .of p1⟩, ?_⟩
    refine lcMD (R := MachAt T.C_Machine T.C_Door) (fun _ _ _ _ s h => MachAt.keep s h) (F := PgD.mach) (zs := ps) p1 (by simp [p2]) (by simp; omega) (fun i x z H2 Yes hx hz s2 hy => ?_) (fun mq H2 s2 f2 e2 => ?_)
    · rw [List.getElem?_map] at hx
      obtain ⟨qi, h1, rfl⟩ := Option.map_eq_some_iff.mp hx
      have hz' := List.mem_of_getElem? hz
      walk_at "rd"
      exact ⟨qi, z, n, rfl, PgAt.keep _ _ _ _ s2 (p3 i qi z h1 hz), hn z hz', fun q3 H3 s3 f3 m3 dm3 => hy q3 H3 s3 fun D acc fD eD => dm3 D acc eD⟩
    have hms : MsAt T.C_Machine T.C_Door H2 mq (ps.map PgD.mach) := e2.seq fun _ _ _ _ s h => MachAt.keep s h
    obtain ⟨mqs, m1, m2, m3⟩ := id hms
    have s12 := s2
    walk_at "rd"
    refine seq_step ?_
    walk_at "rd"
    refine ⟨pp, ps, rfl, SeqOf.keep (fun _ _ => PgAt.keep _ _ _ _ s2) s2 hps, pok, fun dq H3 s3 f3 hdue => ?_⟩
    obtain ⟨dqs, d1, d2, d3⟩ := id hdue
    walk_at "rd"
    refine seq_step ?_
    walk_at "rd"
    refine ⟨_, .inl (.of d1), ?_⟩
    rw [List.length_map, d2]
    have copy : ∀ {H4 H5 : Hp} {cq : Addr}, Same H3 H4 → Same H4 H5 → H5 cq = some (.lst (mqs.map V.ref)) → MsAt T.C_Machine T.C_Door H5 cq (ps.map PgD.mach) := fun s4 s5 e => ⟨mqs, e, m2, fun i q x h1 h2 => (m3 i q x h1 h2).keep (s3.trans (s4.trans s5))⟩
    generalize hMs : ps.map PgD.mach = Ms at *
    refine ite_d (fun big => ?_) (fun small => ?_)
    · walk_at "rd"
      refine ⟨_, .inl (.of (s3 _ _ m1)), fun c1 H4 s4 f4 e4 => ?_⟩
      refine ⟨c1, Ms, 0, rfl, .inl rfl, copy (Same.refl _) s4 e4, tog, by omega, fun H5 s5 => ?_⟩
      walk_at "rd"
      refine ⟨_, .inl (.of ((s3.trans (s4.trans s5)) _ _ m1)), fun c2 H6 s6 f6 e6 => ?_⟩
      exact ⟨c2, Ms, 1, rfl, .inr rfl, copy (s4.trans s5) s6 e6, tog, by omega, fun H7 s7 => q H7⟩
    have d200 : (doorsP Ms).length ≤ 200 := by omega
    walk_at "rd"
    refine seq_step ?_
    walk_at "rd"
    refine ⟨_, .inl (.of (s3 _ _ m1)), fun c1 H4 s4 f4 e4 => ?_⟩
    refine ⟨c1, Ms, rfl, copy (Same.refl _) s4 e4, tog, fun _ wm H5 s5 hmF => ?_, fun c => absurd c (by omega)⟩
    have tm := tog.mach d200
    have hm := hmF.1
    have s35 := s4.trans s5
    walk_at "rd"
    refine seq_step ?_
    walk_at "rd"
    refine ⟨_, .inl (.of ((s3.trans s35) _ _ m1)), fun c2 H6 s6 f6 e6 => ?_⟩
    refine ⟨c2, Ms, rfl, copy s35 s6 e6, tog, fun _ tq H7 s7 htold => ?_, fun c => absurd c (by omega)⟩
    have s57 := s6.trans s7
    have s37 := s35.trans s57
    walk_at "rd"
    refine seq_step ?_
    walk_at "rd"
    have hm7 := hm.keep s57
    obtain ⟨dx, wn, rn, sl, dl, a7, _⟩ := id hm7
    have mno : ∀ {m : Str}, ¬ m = "watch_names" → ¬ m = "room_names" → ¬ m = "stay_looks" → ¬ m = "door_list" → (machF wn rn sl dl).lookup m = none := fun h1 h2 h3 h4 => mach_no h1 h2 h3 h4
    refine ⟨_, rfl, wm, dx, _, rfl, a7, mno (by decide +kernel) (by decide +kernel) (by decide +kernel) (by decide +kernel), wm, _, rfl, hm7, fun wdq H8 wqs s8 f8 e8 l8 w8 => ?_⟩
    have w8 := w8 H7 (Same.refl _) hm7
    have l8 : wqs.length = (doorsP Ms).length := by rw [l8]; show ((doorsP Ms).map (·.1)).length = _; rw [List.length_map]
    have told8 := htold.keep ShN.keep s8
    obtain ⟨tqs, t1, t2, t3⟩ := id told8
    rw [List.length_map] at t2
    have s38 := s37.trans s8
    have d18 := s38 _ _ d1
    have due8 : ∀ (i : Nat) (q : Addr) (x : DoorD × Share), dqs[i]? = some q → (doorsP Ms)[i]? = some x → DuAt H8 q x := fun i q x h1 h2 => DuAt.keep _ _ _ _ s38 (d3 i q x h1 h2)
    have wdoor8 : ∀ (i : Nat) (q : Addr) (x : DoorD × Share), wqs[i]? = some q → (doorsP Ms)[i]? = some x → DoorAt T.C_Door H8 q x.1 := fun i q x h1 h2 => (w8 i q x.1 h1 (by show ((doorsP Ms).map (·.1))[i]? = _; rw [List.getElem?_map, h2]; rfl)).keep s8
    walk_at "rd"
    refine seq_step ?_
    walk_at "rd"
    refine isi (r := true) (.base (.lst e8)) (by decide +kernel) ?_
    walk_at "rd"
    refine ⟨_, .inl (.of e8), _, .inl (.of d18), ?_⟩
    refine if_f (by rw [List.length_map, List.length_map, l8, d2, decide_eq_true rfl]; rfl) ?_
    refine isi (r := true) (.base (.lst t1)) (by decide +kernel) ?_
    walk_at "rd"
    refine seq_step ?_
    walk_at "rd"
    refine lcz_src ?_
    walk_at "rd"
    refine ⟨_, .of e8, _, .of d18, ?_⟩
    refine lcZ_vals (F := fun _ => V.bl true) e8 d18 (by rw [List.length_map, List.length_map, l8, d2]) (by rw [List.length_map]; omega) (fun i x y tT H9 Yes hx hy s9 hT hyes => ?_) (fun D9 H9 s9 f9 e9 => ?_)
    · rw [List.getElem?_map] at hx hy
      obtain ⟨qx, hqx, rfl⟩ := Option.map_eq_some_iff.mp hx
      obtain ⟨qy, hqy, rfl⟩ := Option.map_eq_some_iff.mp hy
      have hil := (List.getElem?_eq_some_iff.mp hqx).1
      obtain ⟨z, hz⟩ : ∃ z, (doorsP Ms)[i]? = some z := ⟨_, List.getElem?_eq_getElem (by omega)⟩
      have hzm : z.1 ∈ (togM Ms).doors := List.mem_map_of_mem (List.mem_of_getElem? hz)
      have zk := tm.door hzm
      refine gTup_of (sqt hT) rfl ?_
      walk_at "rd"
      refine ⟨qx, qy, z, rfl, (wdoor8 i qx z hqx hz).keep s9, DuAt.keep _ _ _ _ s9 (due8 i qy z hqy hz), doorsP_sg (List.mem_of_getElem? hz), ⟨fun l hl => look_ok (by decide +kernel) tm.watch (List.all_eq_true.mp zk.2.2.2.1 l hl), fun x hx => okWatch_tx (tm.watch x (zk.2.2.2.2.1 x hx))⟩, fun H10 s10 => hyes H10 s10⟩
    refine ⟨D9, (List.range (wqs.map V.ref).length).map fun _ => true, rfl, .of (e9.trans (by rw [List.map_map]; rfl)), ?_⟩
    rw [show (((List.range (wqs.map V.ref).length).map fun _ => true).all id) = true by rw [List.all_map]; simp]
    walk_at "rd"
    refine seq_step ?_
    walk_at "rd"
    have told9 := told8.keep ShN.keep s9
    have d19 := s9 _ _ d18
    refine lcg_src ?_
    walk_at "rd"
    refine ⟨⟨_, .of d19⟩, ?_⟩
    refine lcM (R := ShAt) ShAt.keep (F := fun x : DoorD × Share => x.2) (zs := doorsP Ms) d19 (by simp [d2]) (by simp; omega) (fun i x z H10 Yes hx hz s10 hy => ?_) (fun sq H10 s10 f10 e10 => ?_)
    · rw [List.getElem?_map] at hx
      obtain ⟨qi, h1, rfl⟩ := Option.map_eq_some_iff.mp hx
      obtain ⟨g, nn, ss, x1, x2, x3, x4⟩ := DuAt.keep _ _ _ _ s9 (due8 i qi z h1 hz)
      walk_at "rd"
      refine ix_t (sqt (s10 _ _ x1)) (by decide) rfl ?_
      exact hy ss H10 (Same.refl _) (ShAt.keep _ _ _ _ (cut_same s10) x4)
    have told10 := told9.keep ShN.keep s10
    refine ⟨_, _, dp_seq (fun q x (h : ShN _ _ q x) => dp_sh h.1) (told10.seq ShN.keep), dp_seq (fun q x (h : ShAt _ q x) => dp_sh h) e10, shaped_shs _, shaped_shs _, ?_⟩
    rw [SeqAt.eqv_refl _ (lay_shs _).1]
    refine ⟨_, rfl, ?_⟩
    refine if_f rfl ?_
    have t10 := (s9.trans s10) _ _ t1
    have t310 : ∀ (i : Nat) (q : Addr) (x : Share), tqs[i]? = some q → ((doorsP Ms).map (·.2))[i]? = some x → ShN H6 (delH tq H10) q x := fun i q x h1 h2 => ShN.keep _ _ _ _ (del_same (s9.trans s10)) (t3 i q x h1 h2)
    refine lcg_src ?_
    walk_at "rd"
    refine ⟨⟨_, .of t10⟩, ?_⟩
    refine lcF (F := fun _ : Share => V.bl true) (zs := (doorsP Ms).map (·.2)) t10 (by simp [t2]) (by simp; omega) (fun i x z H11 Yes hx hz s11 hy => ?_) (fun c11 H11 s11 f11 e11 => ?_)
    · rw [List.getElem?_map] at hx
      obtain ⟨qi, h1, rfl⟩ := Option.map_eq_some_iff.mp hx
      obtain ⟨us, u1, _⟩ := (t310 i qi z h1 hz).1
      walk_at "rd"
      refine isi (r := true) (.base (.lst (s11 _ _ (del_of u1).2))) (by decide +kernel) ?_
      exact hy _ (Same.refl _)
    refine ⟨c11, ((doorsP Ms).map (·.2)).map fun _ => true, rfl, .of (e11.trans (by rw [List.map_map, List.map_map, List.map_map]; rfl)), ?_⟩
    rw [show ((((doorsP Ms).map (·.2)).map fun _ => true).all id) = true by rw [List.all_map]; simp]
    walk_at "rd"
    have s6b : Same H6 H11 := s7.trans (s8.trans (s9.trans (s10.trans s11)))
    have s7b : Same H7 H11 := s8.trans (s9.trans (s10.trans s11))
    have tne : ∀ (i : Nat) (q : Addr), tqs[i]? = some q → q ≠ tq ∧ q ≠ wdq ∧ H6 q = none ∧ ∃ xs, H11 q = some (.lst xs) ∧ xs.length ≤ 2 := fun i q h => by
      have hl := (List.getElem?_eq_some_iff.mp h).1
      obtain ⟨z, hz⟩ : ∃ z, (doorsP Ms)[i]? = some z := ⟨_, List.getElem?_eq_getElem (by omega)⟩
      have hz2 : ((doorsP Ms).map (·.2))[i]? = some z.2 := by rw [List.getElem?_map, hz]; rfl
      obtain ⟨⟨us, u1, u2, _⟩, u4⟩ := t310 i q z.2 h hz2
      obtain ⟨sh, hsh, hx2⟩ := List.mem_flatMap.mp (List.mem_of_getElem? hz)
      obtain ⟨row, _, hx3⟩ := List.mem_filterMap.mp hx2
      obtain ⟨_, _, e5⟩ := Option.map_eq_some_iff.mp hx3
      have e2 : z.2 = sh := by rw [← e5]
      have := share_ok hsh
      obtain ⟨tqs', t1', _, t3'⟩ := id htold
      have : tqs' = tqs := lst_inj (s8 _ _ t1') t1
      subst this
      obtain ⟨⟨us', u1', _⟩, _⟩ := t3' i q z.2 h hz2
      refine ⟨(del_of u1).1, fun y => ?_, u4, _, s11 _ _ (del_of u1).2, by rw [List.length_map, u2, e2]; omega⟩
      have := (del_of u1').2
      rw [y, f8] at this; cases this
    have t11 := s11 _ _ t10
    have w11 := (s9.trans (s10.trans s11)) _ _ e8
    have fwd : H6 wdq = none := s7.free f8
    refine seq_step ?_
    refine for_li ?_
    walk_at "rd"
    obtain ⟨Iv, hIv⟩ : ∃ Iv : Nat → L2.St → Hp → Prop, ∀ i σ' H', Iv i σ' H' ↔ (∃ v7 v8 v9 v10 : Option V, σ' = [some (.ref a), some (.ref pp), some (.ref mq), some (.ref dq), some (.ref wm), some (.ref tq), some (.ref wdq), v7, v8, v9, v10] ∧ Same H6 H' ∧ H' tq = some (.lst (tqs.map V.ref)) ∧ H' wdq = some (.lst (wqs.map V.ref)) ∧ ∀ (k : Nat) (q : Addr), tqs[k]? = some q → ∃ xs, H' q = some (.lst xs) ∧ xs.length ≤ 2 + i) := ⟨_, fun _ _ _ => Iff.rfl⟩
    refine forL_by (xs := tqs.map V.ref) Iv ((hIv _ _ _).mpr ⟨_, _, _, _, rfl, s6b, t11, w11, fun k q h => (tne k q h).2.2.2⟩) (fun i σ H' _ h => (fun (⟨_, _, _, _, _, _, k, _⟩ : ∃ _ _ _ _, _ ∧ _ ∧ _ ∧ _) => .of k) ((hIv _ _ _).mp h)) ?_ ?_
    · rintro i x σ' H12 hi hinv
      obtain ⟨v7, v8, v9, v10, rfl, s12, e12, k12, l12⟩ := (hIv _ _ _).mp hinv
      rw [List.getElem?_map] at hi
      obtain ⟨qi, h1, rfl⟩ := Option.map_eq_some_iff.mp hi
      have hil := (List.getElem?_eq_some_iff.mp h1).1
      obtain ⟨n1, n2, n3, _⟩ := tne i qi h1
      obtain ⟨xs, x1, x2⟩ := l12 i qi h1
      walk_at "rd"
      refine ⟨_, rfl, .inl ⟨rfl, _, .of x1⟩, ?_⟩
      walk_at "rd"
      intro t H13 s13 f13 e13
      refine app_at (s13 _ _ x1) (by omega) ?_
      refine (hIv _ _ _).mpr ⟨_, _, _, _, rfl, same_updN n3 (s12.trans s13), by rw [upd_ne (Ne.symm n1)]; exact s13 _ _ e12, by rw [upd_ne (Ne.symm n2)]; exact s13 _ _ k12, fun k q h => ?_⟩
      by_cases c : q = qi
      · rw [c, upd_same]
        exact ⟨_, rfl, by rw [List.length_append, List.length_singleton]; omega⟩
      · obtain ⟨ys, y1, y2⟩ := l12 k q h
        exact ⟨ys, by rw [upd_ne c]; exact s13 _ _ y1, by omega⟩
    · rintro σ' H12 hinv
      obtain ⟨v7, v8, v9, v10, rfl, s12, e12, k12, l12⟩ := (hIv _ _ _).mp hinv
      walk_at "rd"
      refine seq_step ?_
      walk_at "rd"
      refine ⟨_, rfl, .inl ⟨rfl, _, .of k12⟩, ?_⟩
      refine ⟨wdq, _, rfl, rfl, k12, ?_⟩
      have sJ : Same H6 (upd H12 wdq (.lst [])) := same_updN fwd s12
      generalize upd H12 wdq (.lst []) = J at *
      have s36 : Same H3 H6 := s35.trans s6
      have s3J := s36.trans sJ
      walk_at "rd"
      refine ⟨_, .inl (.of ((s3.trans s3J) _ _ m1)), fun c3 H14 s14 f14 e14 => ?_⟩
      refine ⟨c3, Ms, rfl, copy s3J s14 e14, tog, fun _ tq2 H15 s15 htold2 => ?_, fun c => absurd c (by omega)⟩
      have s3F := s3J.trans (s14.trans s15)
      have dF := s3F _ _ d1
      refine lcg_src ?_
      walk_at "rd"
      refine ⟨⟨_, .of dF⟩, ?_⟩
      refine lcM (R := ShAt) ShAt.keep (F := fun x : DoorD × Share => x.2) (zs := doorsP Ms) dF (by simp [d2]) (by simp; omega) (fun i x z H16 Yes hx hz s16 hy => ?_) (fun sq2 H16 s16 f16 e16 => ?_)
      · rw [List.getElem?_map] at hx
        obtain ⟨qi, h1, rfl⟩ := Option.map_eq_some_iff.mp hx
        obtain ⟨g, nn, ss, x1, x2, x3, x4⟩ := DuAt.keep _ _ _ _ s3F (d3 i qi z h1 hz)
        walk_at "rd"
        refine ix_t (sqt (s16 _ _ x1)) (by decide) rfl ?_
        exact hy ss H16 (Same.refl _) (ShAt.keep _ _ _ _ (cut_same s16) x4)
      refine ⟨_, _, dp_seq (fun q x (h : ShN _ _ q x) => dp_sh h.1) ((htold2.keep ShN.keep s16).seq ShN.keep), dp_seq (fun q x (h : ShAt _ q x) => dp_sh h) e16, shaped_shs _, shaped_shs _, ?_⟩
      rw [SeqAt.eqv_refl _ (lay_shs _).1]
      walk_at "rd"
      have s5F : Same H5 H16 := s6.trans (sJ.trans (s14.trans (s15.trans s16)))
      have hmF2 := hm.keep s5F
      obtain ⟨dx2, wn2, rn2, sl2, dl2, a2, _⟩ := id hmF2
      refine ⟨_, rfl, wm, dx2, _, rfl, a2, mach_no (by decide +kernel) (by decide +kernel) (by decide +kernel) (by decide +kernel), wm, _, rfl, hmF2, fun wd2 H17 wqs2 s17 f17 e17 l17 _ => ?_⟩
      have l17 : wqs2.length = (doorsP Ms).length := by rw [l17]; show ((doorsP Ms).map (·.1)).length = _; rw [List.length_map]
      refine ⟨_, rfl, _, .inl (.of e17), ?_⟩
      walk_at "rd"
      refine ⟨_, .inl (.of ((s3F.trans (s16.trans s17)) _ _ d1)), ?_⟩
      rw [List.length_map, List.length_map, l17, d2, decide_eq_true rfl]
      exact q _
end
/-! ### what the top has left -/
theorem all_mk {P : Program} {w : World} {K : PySem.W.Frag} {h : Heap} {mg : Str → Option Value} {fa : Addr} (X : K.In h) (G : h.Ns mainGlobals mg) (hfa : mg "law" = some (.ref fa))
    {CDoor : Addr}
    {CMachine : Addr}
    {tBELOW : Addr} {oBELOW : Obj} {nBELOW : Nat} {tkBELOW0 tkBELOW1 : Tok}
    {tWORDS : Addr} {oWORDS : Obj} {nWORDS : Nat} {tkWORDS0 tkWORDS1 tkWORDS2 tkWORDS3 tkWORDS4 : Tok}
    {f0 : Addr} {od0 an0 : Option Addr} {sl0 : Array (Option Value)} {oc0 kV0 dc0 pm0 cd0 ct0 : Value}
    {f1 : Addr} {od1 an1 : Option Addr} {sl1 : Array (Option Value)} {oc1 kV1 dc1 pm1 cd1 ct1 : Value}
    {f2 : Addr} {od2 an2 : Option Addr} {sl2 : Array (Option Value)} {oc2 kV2 dc2 pm2 cd2 ct2 : Value}
    {f3 : Addr} {od3 an3 : Option Addr} {sl3 : Array (Option Value)} {oc3 kV3 dc3 pm3 cd3 ct3 : Value}
    {f4 : Addr} {od4 an4 : Option Addr} {sl4 : Array (Option Value)} {oc4 kV4 dc4 pm4 cd4 ct4 : Value}
    {f5 : Addr} {od5 an5 : Option Addr} {sl5 : Array (Option Value)} {oc5 kV5 dc5 pm5 cd5 ct5 : Value}
    {f6 : Addr} {od6 an6 : Option Addr} {sl6 : Array (Option Value)} {oc6 kV6 dc6 pm6 cd6 ct6 : Value}
    {f7 : Addr} {od7 an7 : Option Addr} {sl7 : Array (Option Value)} {oc7 kV7 dc7 pm7 cd7 ct7 : Value}
    {f8 : Addr} {od8 an8 : Option Addr} {sl8 : Array (Option Value)} {oc8 kV8 dc8 pm8 cd8 ct8 : Value}
    {f9 : Addr} {od9 an9 : Option Addr} {sl9 : Array (Option Value)} {oc9 kV9 dc9 pm9 cd9 ct9 : Value}
    {t9 : Addr} {o9 : Obj} {n9 : Nat}
    {tk9 : Tok}
    {f10 : Addr} {od10 an10 : Option Addr} {sl10 : Array (Option Value)} {oc10 kV10 dc10 pm10 cd10 ct10 : Value}
    {f11 : Addr} {od11 an11 : Option Addr} {sl11 : Array (Option Value)} {oc11 kV11 dc11 pm11 cd11 ct11 : Value}
    {f12 : Addr} {od12 an12 : Option Addr} {sl12 : Array (Option Value)} {oc12 kV12 dc12 pm12 cd12 ct12 : Value}
    {f13 : Addr} {od13 an13 : Option Addr} {sl13 : Array (Option Value)} {oc13 kV13 dc13 pm13 cd13 ct13 : Value}
    {f14 : Addr} {od14 an14 : Option Addr} {sl14 : Array (Option Value)} {oc14 kV14 dc14 pm14 cd14 ct14 : Value}
    {f15 : Addr} {od15 an15 : Option Addr} {sl15 : Array (Option Value)} {oc15 kV15 dc15 pm15 cd15 ct15 : Value}
    {f16 : Addr} {od16 an16 : Option Addr} {sl16 : Array (Option Value)} {oc16 kV16 dc16 pm16 cd16 ct16 : Value}
    {f17 : Addr} {od17 an17 : Option Addr} {sl17 : Array (Option Value)} {oc17 kV17 dc17 pm17 cd17 ct17 : Value}
    {f18 : Addr} {od18 an18 : Option Addr} {sl18 : Array (Option Value)} {oc18 kV18 dc18 pm18 cd18 ct18 : Value}
    {f19 : Addr} {od19 an19 : Option Addr} {sl19 : Array (Option Value)} {oc19 kV19 dc19 pm19 cd19 ct19 : Value}
    {f20 : Addr} {od20 an20 : Option Addr} {sl20 : Array (Option Value)} {oc20 kV20 dc20 pm20 cd20 ct20 : Value}
    {f21 : Addr} {od21 an21 : Option Addr} {sl21 : Array (Option Value)} {oc21 kV21 dc21 pm21 cd21 ct21 : Value}
    {f22 : Addr} {od22 an22 : Option Addr} {sl22 : Array (Option Value)} {oc22 kV22 dc22 pm22 cd22 ct22 : Value}
    {f23 : Addr} {od23 an23 : Option Addr} {sl23 : Array (Option Value)} {oc23 kV23 dc23 pm23 cd23 ct23 : Value}
    {f24 : Addr} {od24 an24 : Option Addr} {sl24 : Array (Option Value)} {oc24 kV24 dc24 pm24 cd24 ct24 : Value}
    {f25 : Addr} {od25 an25 : Option Addr} {sl25 : Array (Option Value)} {oc25 kV25 dc25 pm25 cd25 ct25 : Value}
    {f26 : Addr} {od26 an26 : Option Addr} {sl26 : Array (Option Value)} {oc26 kV26 dc26 pm26 cd26 ct26 : Value}
    {f27 : Addr} {od27 an27 : Option Addr} {sl27 : Array (Option Value)} {oc27 kV27 dc27 pm27 cd27 ct27 : Value}
    {f28 : Addr} {od28 an28 : Option Addr} {sl28 : Array (Option Value)} {oc28 kV28 dc28 pm28 cd28 ct28 : Value}
    {f29 : Addr} {od29 an29 : Option Addr} {sl29 : Array (Option Value)} {oc29 kV29 dc29 pm29 cd29 ct29 : Value}
    {f30 : Addr} {od30 an30 : Option Addr} {sl30 : Array (Option Value)} {oc30 kV30 dc30 pm30 cd30 ct30 : Value}
    {f31 : Addr} {od31 an31 : Option Addr} {sl31 : Array (Option Value)} {oc31 kV31 dc31 pm31 cd31 ct31 : Value}
    {f32 : Addr} {od32 an32 : Option Addr} {sl32 : Array (Option Value)} {oc32 kV32 dc32 pm32 cd32 ct32 : Value}
    {f33 : Addr} {od33 an33 : Option Addr} {sl33 : Array (Option Value)} {oc33 kV33 dc33 pm33 cd33 ct33 : Value}
    {f34 : Addr} {od34 an34 : Option Addr} {sl34 : Array (Option Value)} {oc34 kV34 dc34 pm34 cd34 ct34 : Value}
    {f35 : Addr} {od35 an35 : Option Addr} {sl35 : Array (Option Value)} {oc35 kV35 dc35 pm35 cd35 ct35 : Value}
    {f36 : Addr} {od36 an36 : Option Addr} {sl36 : Array (Option Value)} {oc36 kV36 dc36 pm36 cd36 ct36 : Value}
    {f37 : Addr} {od37 an37 : Option Addr} {sl37 : Array (Option Value)} {oc37 kV37 dc37 pm37 cd37 ct37 : Value}
    {f38 : Addr} {od38 an38 : Option Addr} {sl38 : Array (Option Value)} {oc38 kV38 dc38 pm38 cd38 ct38 : Value}
    {f39 : Addr} {od39 an39 : Option Addr} {sl39 : Array (Option Value)} {oc39 kV39 dc39 pm39 cd39 ct39 : Value}
    {f40 : Addr} {od40 an40 : Option Addr} {sl40 : Array (Option Value)} {oc40 kV40 dc40 pm40 cd40 ct40 : Value}
    {f41 : Addr} {od41 an41 : Option Addr} {sl41 : Array (Option Value)} {oc41 kV41 dc41 pm41 cd41 ct41 : Value}
    {f42 : Addr} {od42 an42 : Option Addr} {sl42 : Array (Option Value)} {oc42 kV42 dc42 pm42 cd42 ct42 : Value}
    {f43 : Addr} {od43 an43 : Option Addr} {sl43 : Array (Option Value)} {oc43 kV43 dc43 pm43 cd43 ct43 : Value}
    {f44 : Addr} {od44 an44 : Option Addr} {sl44 : Array (Option Value)} {oc44 kV44 dc44 pm44 cd44 ct44 : Value}
    {f45 : Addr} {od45 an45 : Option Addr} {sl45 : Array (Option Value)} {oc45 kV45 dc45 pm45 cd45 ct45 : Value}
    {CBadMachine : Addr}
    {CTooMany : Addr}
    {uLETTERS : Tok}
    {uMOST_DOORS : Tok}
    {uMOST_PARTS : Tok}
    {uMOST_ROOMS : Tok}
    {uMOST_WATCHES : Tok}
    (gDoor : PySem.W.nsIn K mainGlobals "Door" = some (some (.ref CDoor)))
    (pgDoor : PySem.W.plainGet K CDoor Str.empty = true)
    (hdDoor : PySem.W.hasDictIn K CDoor = true)
    (poDoor : PySem.W.plainOver K CDoor = true)
    (saDoor : PySem.W.findIn K (.ref CDoor) "__setattr__" = some (some (.builtin "object.__setattr__")))
    (mkDoor : PySem.W.makesIn K CDoor = true)
    (kcDoor : PySem.W.keepIn K (.ref CDoor) = true)
    (hcDoor : PySem.W.findIn K (.ref CDoor) "__class__" = some (some (.builtin "object.__class__")))
    (hnDoor : PySem.W.specialIn K (.builtin "object.__class__") "__get__" = some (some (.builtin "getset_descriptor.__get__")))
    (htDoor : PySem.W.takesIn K (.builtin "object.__class__") = some true)
    (hmDoor : PySem.W.mroIn K CDoor (.type "object") = some true)
    (nDoor_backs : PySem.W.findIn K (.ref CDoor) "backs" = some none)
    (nDoor_end : PySem.W.findIn K (.ref CDoor) "end" = some none)
    (nDoor_looks : PySem.W.findIn K (.ref CDoor) "looks" = some none)
    (nDoor_sign : PySem.W.findIn K (.ref CDoor) "sign" = some none)
    (nDoor_start : PySem.W.findIn K (.ref CDoor) "start" = some none)
    (gMachine : PySem.W.nsIn K mainGlobals "Machine" = some (some (.ref CMachine)))
    (pgMachine : PySem.W.plainGet K CMachine Str.empty = true)
    (hdMachine : PySem.W.hasDictIn K CMachine = true)
    (poMachine : PySem.W.plainOver K CMachine = true)
    (saMachine : PySem.W.findIn K (.ref CMachine) "__setattr__" = some (some (.builtin "object.__setattr__")))
    (mkMachine : PySem.W.makesIn K CMachine = true)
    (kcMachine : PySem.W.keepIn K (.ref CMachine) = true)
    (hcMachine : PySem.W.findIn K (.ref CMachine) "__class__" = some (some (.builtin "object.__class__")))
    (hnMachine : PySem.W.specialIn K (.builtin "object.__class__") "__get__" = some (some (.builtin "getset_descriptor.__get__")))
    (htMachine : PySem.W.takesIn K (.builtin "object.__class__") = some true)
    (hmMachine : PySem.W.mroIn K CMachine (.type "object") = some true)
    (nMachine_door_list : PySem.W.findIn K (.ref CMachine) "door_list" = some none)
    (nMachine_room_names : PySem.W.findIn K (.ref CMachine) "room_names" = some none)
    (nMachine_stay_looks : PySem.W.findIn K (.ref CMachine) "stay_looks" = some none)
    (nMachine_watch_names : PySem.W.findIn K (.ref CMachine) "watch_names" = some none)
    (gBELOW : PySem.W.nsIn K mainGlobals "BELOW" = some (some (.ref tBELOW)))
    (lBELOW : K.lookup tBELOW = some oBELOW)
    (cBELOW : oBELOW.cls = .type "tuple")
    (dBELOW : oBELOW.data = .seq ([Value.str "<" tkBELOW0, Value.str "<=" tkBELOW1] : List Value).toArray nBELOW)
    (gWORDS : PySem.W.nsIn K mainGlobals "WORDS" = some (some (.ref tWORDS)))
    (lWORDS : K.lookup tWORDS = some oWORDS)
    (cWORDS : oWORDS.cls = .type "tuple")
    (dWORDS : oWORDS.data = .seq ([Value.str "<" tkWORDS0, Value.str "<=" tkWORDS1, Value.str ">" tkWORDS2, Value.str ">=" tkWORDS3, Value.str "=" tkWORDS4] : List Value).toArray nWORDS)
    (a0 : PySem.W.nsIn K mainGlobals "is_whole" = some (some (.ref f0)))
    (l0 : K.lookup f0 = some ⟨oc0, od0, .func (PySem.W.fnOf "is_whole" "is_whole" (defArgs s_is_whole) (defBody s_is_whole) (defScope s_is_whole) .none kV0 dc0 pm0 an0 cd0 ct0), sl0⟩)
    (c0 : PySem.W.codeIn K cd0 "is_whole" = true)
    (k0 : PySem.W.keepIn K (.ref f0) = true)
    (a1 : PySem.W.nsIn K mainGlobals "of_signs" = some (some (.ref f1)))
    (l1 : K.lookup f1 = some ⟨oc1, od1, .func (PySem.W.fnOf "of_signs" "of_signs" (defArgs s_of_signs) (defBody s_of_signs) (defScope s_of_signs) .none kV1 dc1 pm1 an1 cd1 ct1), sl1⟩)
    (c1 : PySem.W.codeIn K cd1 "of_signs" = true)
    (k1 : PySem.W.keepIn K (.ref f1) = true)
    (a2 : PySem.W.nsIn K mainGlobals "is_name" = some (some (.ref f2)))
    (l2 : K.lookup f2 = some ⟨oc2, od2, .func (PySem.W.fnOf "is_name" "is_name" (defArgs s_is_name) (defBody s_is_name) (defScope s_is_name) .none kV2 dc2 pm2 an2 cd2 ct2), sl2⟩)
    (c2 : PySem.W.codeIn K cd2 "is_name" = true)
    (k2 : PySem.W.keepIn K (.ref f2) = true)
    (a3 : PySem.W.nsIn K mainGlobals "is_watch_name" = some (some (.ref f3)))
    (l3 : K.lookup f3 = some ⟨oc3, od3, .func (PySem.W.fnOf "is_watch_name" "is_watch_name" (defArgs s_is_watch_name) (defBody s_is_watch_name) (defScope s_is_watch_name) .none kV3 dc3 pm3 an3 cd3 ct3), sl3⟩)
    (c3 : PySem.W.codeIn K cd3 "is_watch_name" = true)
    (k3 : PySem.W.keepIn K (.ref f3) = true)
    (a4 : PySem.W.nsIn K mainGlobals "is_sign" = some (some (.ref f4)))
    (l4 : K.lookup f4 = some ⟨oc4, od4, .func (PySem.W.fnOf "is_sign" "is_sign" (defArgs s_is_sign) (defBody s_is_sign) (defScope s_is_sign) .none kV4 dc4 pm4 an4 cd4 ct4), sl4⟩)
    (c4 : PySem.W.codeIn K cd4 "is_sign" = true)
    (k4 : PySem.W.keepIn K (.ref f4) = true)
    (a5 : PySem.W.nsIn K mainGlobals "is_look" = some (some (.ref f5)))
    (l5 : K.lookup f5 = some ⟨oc5, od5, .func (PySem.W.fnOf "is_look" "is_look" (defArgs s_is_look) (defBody s_is_look) (defScope s_is_look) .none kV5 dc5 pm5 an5 cd5 ct5), sl5⟩)
    (c5 : PySem.W.codeIn K cd5 "is_look" = true)
    (k5 : PySem.W.keepIn K (.ref f5) = true)
    (a6 : PySem.W.nsIn K mainGlobals "is_guard" = some (some (.ref f6)))
    (l6 : K.lookup f6 = some ⟨oc6, od6, .func (PySem.W.fnOf "is_guard" "is_guard" (defArgs s_is_guard) (defBody s_is_guard) (defScope s_is_guard) .none kV6 dc6 pm6 an6 cd6 ct6), sl6⟩)
    (c6 : PySem.W.codeIn K cd6 "is_guard" = true)
    (k6 : PySem.W.keepIn K (.ref f6) = true)
    (a7 : PySem.W.nsIn K mainGlobals "unlike" = some (some (.ref f7)))
    (l7 : K.lookup f7 = some ⟨oc7, od7, .func (PySem.W.fnOf "unlike" "unlike" (defArgs s_unlike) (defBody s_unlike) (defScope s_unlike) .none kV7 dc7 pm7 an7 cd7 ct7), sl7⟩)
    (c7 : PySem.W.codeIn K cd7 "unlike" = true)
    (k7 : PySem.W.keepIn K (.ref f7) = true)
    (a8 : PySem.W.nsIn K mainGlobals "own" = some (some (.ref f8)))
    (l8 : K.lookup f8 = some ⟨oc8, od8, .func (PySem.W.fnOf "own" "own" (defArgs s_own) (defBody s_own) (defScope s_own) .none kV8 dc8 pm8 an8 cd8 ct8), sl8⟩)
    (c8 : PySem.W.codeIn K cd8 "own" = true)
    (k8 : PySem.W.keepIn K (.ref f8) = true)
    (a9 : PySem.W.findIn K (.ref CDoor) "__init__" = some (some (.ref f9)))
    (i9 : PySem.W.isFn K (.ref f9) = true)
    (l9 : K.lookup f9 = some ⟨oc9, od9, .func (PySem.W.fnOf "__init__" "Door.__init__" (defArgs s_Door_init) (defBody s_Door_init) (defScope s_Door_init) (.ref t9) kV9 dc9 pm9 an9 cd9 ct9), sl9⟩)
    (c9 : PySem.W.codeIn K cd9 "Door.__init__" = true)
    (k9 : PySem.W.keepIn K (.ref f9) = true)
    (lt9 : K.lookup t9 = some o9)
    (ld9 : o9.data = .seq ([Value.str "" tk9] : List Value).toArray n9)
    (a10 : PySem.W.findIn K (.ref CDoor) "asks" = some (some (.ref f10)))
    (i10 : PySem.W.isFn K (.ref f10) = true)
    (l10 : K.lookup f10 = some ⟨oc10, od10, .func (PySem.W.fnOf "asks" "Door.asks" (defArgs s_Door_asks) (defBody s_Door_asks) (defScope s_Door_asks) .none kV10 dc10 pm10 an10 cd10 ct10), sl10⟩)
    (c10 : PySem.W.codeIn K cd10 "Door.asks" = true)
    (k10 : PySem.W.keepIn K (.ref f10) = true)
    (a11 : PySem.W.findIn K (.ref CDoor) "sets" = some (some (.ref f11)))
    (i11 : PySem.W.isFn K (.ref f11) = true)
    (l11 : K.lookup f11 = some ⟨oc11, od11, .func (PySem.W.fnOf "sets" "Door.sets" (defArgs s_Door_sets) (defBody s_Door_sets) (defScope s_Door_sets) .none kV11 dc11 pm11 an11 cd11 ct11), sl11⟩)
    (c11 : PySem.W.codeIn K cd11 "Door.sets" = true)
    (k11 : PySem.W.keepIn K (.ref f11) = true)
    (a12 : PySem.W.nsIn K mainGlobals "are_watches" = some (some (.ref f12)))
    (l12 : K.lookup f12 = some ⟨oc12, od12, .func (PySem.W.fnOf "are_watches" "are_watches" (defArgs s_are_watches) (defBody s_are_watches) (defScope s_are_watches) .none kV12 dc12 pm12 an12 cd12 ct12), sl12⟩)
    (c12 : PySem.W.codeIn K cd12 "are_watches" = true)
    (k12 : PySem.W.keepIn K (.ref f12) = true)
    (a13 : PySem.W.nsIn K mainGlobals "is_room" = some (some (.ref f13)))
    (l13 : K.lookup f13 = some ⟨oc13, od13, .func (PySem.W.fnOf "is_room" "is_room" (defArgs s_is_room) (defBody s_is_room) (defScope s_is_room) .none kV13 dc13 pm13 an13 cd13 ct13), sl13⟩)
    (c13 : PySem.W.codeIn K cd13 "is_room" = true)
    (k13 : PySem.W.keepIn K (.ref f13) = true)
    (a14 : PySem.W.nsIn K mainGlobals "are_rooms" = some (some (.ref f14)))
    (l14 : K.lookup f14 = some ⟨oc14, od14, .func (PySem.W.fnOf "are_rooms" "are_rooms" (defArgs s_are_rooms) (defBody s_are_rooms) (defScope s_are_rooms) .none kV14 dc14 pm14 an14 cd14 ct14), sl14⟩)
    (c14 : PySem.W.codeIn K cd14 "are_rooms" = true)
    (k14 : PySem.W.keepIn K (.ref f14) = true)
    (a15 : PySem.W.nsIn K mainGlobals "is_door" = some (some (.ref f15)))
    (l15 : K.lookup f15 = some ⟨oc15, od15, .func (PySem.W.fnOf "is_door" "is_door" (defArgs s_is_door) (defBody s_is_door) (defScope s_is_door) .none kV15 dc15 pm15 an15 cd15 ct15), sl15⟩)
    (c15 : PySem.W.codeIn K cd15 "is_door" = true)
    (k15 : PySem.W.keepIn K (.ref f15) = true)
    (a16 : PySem.W.findIn K (.ref CMachine) "__init__" = some (some (.ref f16)))
    (i16 : PySem.W.isFn K (.ref f16) = true)
    (l16 : K.lookup f16 = some ⟨oc16, od16, .func (PySem.W.fnOf "__init__" "Machine.__init__" (defArgs s_Machine_init) (defBody s_Machine_init) (defScope s_Machine_init) .none kV16 dc16 pm16 an16 cd16 ct16), sl16⟩)
    (c16 : PySem.W.codeIn K cd16 "Machine.__init__" = true)
    (k16 : PySem.W.keepIn K (.ref f16) = true)
    (a17 : PySem.W.findIn K (.ref CMachine) "watches" = some (some (.ref f17)))
    (i17 : PySem.W.isFn K (.ref f17) = true)
    (l17 : K.lookup f17 = some ⟨oc17, od17, .func (PySem.W.fnOf "watches" "Machine.watches" (defArgs s_Machine_watches) (defBody s_Machine_watches) (defScope s_Machine_watches) .none kV17 dc17 pm17 an17 cd17 ct17), sl17⟩)
    (c17 : PySem.W.codeIn K cd17 "Machine.watches" = true)
    (k17 : PySem.W.keepIn K (.ref f17) = true)
    (a18 : PySem.W.findIn K (.ref CMachine) "rooms" = some (some (.ref f18)))
    (i18 : PySem.W.isFn K (.ref f18) = true)
    (l18 : K.lookup f18 = some ⟨oc18, od18, .func (PySem.W.fnOf "rooms" "Machine.rooms" (defArgs s_Machine_rooms) (defBody s_Machine_rooms) (defScope s_Machine_rooms) .none kV18 dc18 pm18 an18 cd18 ct18), sl18⟩)
    (c18 : PySem.W.codeIn K cd18 "Machine.rooms" = true)
    (k18 : PySem.W.keepIn K (.ref f18) = true)
    (a19 : PySem.W.findIn K (.ref CMachine) "doors" = some (some (.ref f19)))
    (i19 : PySem.W.isFn K (.ref f19) = true)
    (l19 : K.lookup f19 = some ⟨oc19, od19, .func (PySem.W.fnOf "doors" "Machine.doors" (defArgs s_Machine_doors) (defBody s_Machine_doors) (defScope s_Machine_doors) .none kV19 dc19 pm19 an19 cd19 ct19), sl19⟩)
    (c19 : PySem.W.codeIn K cd19 "Machine.doors" = true)
    (k19 : PySem.W.keepIn K (.ref f19) = true)
    (a20 : PySem.W.findIn K (.ref CMachine) "stay" = some (some (.ref f20)))
    (i20 : PySem.W.isFn K (.ref f20) = true)
    (l20 : K.lookup f20 = some ⟨oc20, od20, .func (PySem.W.fnOf "stay" "Machine.stay" (defArgs s_Machine_stay) (defBody s_Machine_stay) (defScope s_Machine_stay) .none kV20 dc20 pm20 an20 cd20 ct20), sl20⟩)
    (c20 : PySem.W.codeIn K cd20 "Machine.stay" = true)
    (k20 : PySem.W.keepIn K (.ref f20) = true)
    (a21 : PySem.W.nsIn K mainGlobals "watches_of" = some (some (.ref f21)))
    (l21 : K.lookup f21 = some ⟨oc21, od21, .func (PySem.W.fnOf "watches_of" "watches_of" (defArgs s_watches_of) (defBody s_watches_of) (defScope s_watches_of) .none kV21 dc21 pm21 an21 cd21 ct21), sl21⟩)
    (c21 : PySem.W.codeIn K cd21 "watches_of" = true)
    (k21 : PySem.W.keepIn K (.ref f21) = true)
    (a22 : PySem.W.nsIn K mainGlobals "rooms_of" = some (some (.ref f22)))
    (l22 : K.lookup f22 = some ⟨oc22, od22, .func (PySem.W.fnOf "rooms_of" "rooms_of" (defArgs s_rooms_of) (defBody s_rooms_of) (defScope s_rooms_of) .none kV22 dc22 pm22 an22 cd22 ct22), sl22⟩)
    (c22 : PySem.W.codeIn K cd22 "rooms_of" = true)
    (k22 : PySem.W.keepIn K (.ref f22) = true)
    (a23 : PySem.W.nsIn K mainGlobals "stay_of" = some (some (.ref f23)))
    (l23 : K.lookup f23 = some ⟨oc23, od23, .func (PySem.W.fnOf "stay_of" "stay_of" (defArgs s_stay_of) (defBody s_stay_of) (defScope s_stay_of) .none kV23 dc23 pm23 an23 cd23 ct23), sl23⟩)
    (c23 : PySem.W.codeIn K cd23 "stay_of" = true)
    (k23 : PySem.W.keepIn K (.ref f23) = true)
    (a24 : PySem.W.nsIn K mainGlobals "answers_to" = some (some (.ref f24)))
    (l24 : K.lookup f24 = some ⟨oc24, od24, .func (PySem.W.fnOf "answers_to" "answers_to" (defArgs s_answers_to) (defBody s_answers_to) (defScope s_answers_to) .none kV24 dc24 pm24 an24 cd24 ct24), sl24⟩)
    (c24 : PySem.W.codeIn K cd24 "answers_to" = true)
    (k24 : PySem.W.keepIn K (.ref f24) = true)
    (a25 : PySem.W.nsIn K mainGlobals "goers" = some (some (.ref f25)))
    (l25 : K.lookup f25 = some ⟨oc25, od25, .func (PySem.W.fnOf "goers" "goers" (defArgs s_goers) (defBody s_goers) (defScope s_goers) .none kV25 dc25 pm25 an25 cd25 ct25), sl25⟩)
    (c25 : PySem.W.codeIn K cd25 "goers" = true)
    (k25 : PySem.W.keepIn K (.ref f25) = true)
    (a26 : PySem.W.nsIn K mainGlobals "moved" = some (some (.ref f26)))
    (l26 : K.lookup f26 = some ⟨oc26, od26, .func (PySem.W.fnOf "moved" "moved" (defArgs s_moved) (defBody s_moved) (defScope s_moved) .none kV26 dc26 pm26 an26 cd26 ct26), sl26⟩)
    (c26 : PySem.W.codeIn K cd26 "moved" = true)
    (k26 : PySem.W.keepIn K (.ref f26) = true)
    (a27 : PySem.W.nsIn K mainGlobals "door_of" = some (some (.ref f27)))
    (l27 : K.lookup f27 = some ⟨oc27, od27, .func (PySem.W.fnOf "door_of" "door_of" (defArgs s_door_of) (defBody s_door_of) (defScope s_door_of) .none kV27 dc27 pm27 an27 cd27 ct27), sl27⟩)
    (c27 : PySem.W.codeIn K cd27 "door_of" = true)
    (k27 : PySem.W.keepIn K (.ref f27) = true)
    (a28 : PySem.W.nsIn K mainGlobals "doors_of" = some (some (.ref f28)))
    (l28 : K.lookup f28 = some ⟨oc28, od28, .func (PySem.W.fnOf "doors_of" "doors_of" (defArgs s_doors_of) (defBody s_doors_of) (defScope s_doors_of) .none kV28 dc28 pm28 an28 cd28 ct28), sl28⟩)
    (c28 : PySem.W.codeIn K cd28 "doors_of" = true)
    (k28 : PySem.W.keepIn K (.ref f28) = true)
    (a29 : PySem.W.nsIn K mainGlobals "joined" = some (some (.ref f29)))
    (l29 : K.lookup f29 = some ⟨oc29, od29, .func (PySem.W.fnOf "joined" "joined" (defArgs s_joined) (defBody s_joined) (defScope s_joined) .none kV29 dc29 pm29 an29 cd29 ct29), sl29⟩)
    (c29 : PySem.W.codeIn K cd29 "joined" = true)
    (k29 : PySem.W.keepIn K (.ref f29) = true)
    (a30 : PySem.W.nsIn K mainGlobals "together" = some (some (.ref f30)))
    (l30 : K.lookup f30 = some ⟨oc30, od30, .func (PySem.W.fnOf "together" "together" (defArgs s_together) (defBody s_together) (defScope s_together) .none kV30 dc30 pm30 an30 cd30 ct30), sl30⟩)
    (c30 : PySem.W.codeIn K cd30 "together" = true)
    (k30 : PySem.W.keepIn K (.ref f30) = true)
    (a31 : PySem.W.nsIn K mainGlobals "shares" = some (some (.ref f31)))
    (l31 : K.lookup f31 = some ⟨oc31, od31, .func (PySem.W.fnOf "shares" "shares" (defArgs s_shares) (defBody s_shares) (defScope s_shares) .none kV31 dc31 pm31 an31 cd31 ct31), sl31⟩)
    (c31 : PySem.W.codeIn K cd31 "shares" = true)
    (k31 : PySem.W.keepIn K (.ref f31) = true)
    (a32 : PySem.W.nsIn K mainGlobals "_law_cell_at" = some (some (.ref f32)))
    (l32 : K.lookup f32 = some ⟨oc32, od32, .func (PySem.W.fnOf "_law_cell_at" "_law_cell_at" (defArgs s_l_cell_at) (defBody s_l_cell_at) (defScope s_l_cell_at) .none kV32 dc32 pm32 an32 cd32 ct32), sl32⟩)
    (c32 : PySem.W.codeIn K cd32 "_law_cell_at" = true)
    (k32 : PySem.W.keepIn K (.ref f32) = true)
    (a33 : PySem.W.nsIn K mainGlobals "_law_stream" = some (some (.ref f33)))
    (l33 : K.lookup f33 = some ⟨oc33, od33, .func (PySem.W.fnOf "_law_stream" "_law_stream" (defArgs s_l_stream) (defBody s_l_stream) (defScope s_l_stream) .none kV33 dc33 pm33 an33 cd33 ct33), sl33⟩)
    (c33 : PySem.W.codeIn K cd33 "_law_stream" = true)
    (k33 : PySem.W.keepIn K (.ref f33) = true)
    (a34 : PySem.W.nsIn K mainGlobals "_law_draws" = some (some (.ref f34)))
    (l34 : K.lookup f34 = some ⟨oc34, od34, .func (PySem.W.fnOf "_law_draws" "_law_draws" (defArgs s_l_draws) (defBody s_l_draws) (defScope s_l_draws) .none kV34 dc34 pm34 an34 cd34 ct34), sl34⟩)
    (c34 : PySem.W.codeIn K cd34 "_law_draws" = true)
    (k34 : PySem.W.keepIn K (.ref f34) = true)
    (a35 : PySem.W.nsIn K mainGlobals "_law_names" = some (some (.ref f35)))
    (l35 : K.lookup f35 = some ⟨oc35, od35, .func (PySem.W.fnOf "_law_names" "_law_names" (defArgs s_l_names) (defBody s_l_names) (defScope s_l_names) .none kV35 dc35 pm35 an35 cd35 ct35), sl35⟩)
    (c35 : PySem.W.codeIn K cd35 "_law_names" = true)
    (k35 : PySem.W.keepIn K (.ref f35) = true)
    (a36 : PySem.W.nsIn K mainGlobals "_law_guard" = some (some (.ref f36)))
    (l36 : K.lookup f36 = some ⟨oc36, od36, .func (PySem.W.fnOf "_law_guard" "_law_guard" (defArgs s_l_guard) (defBody s_l_guard) (defScope s_l_guard) .none kV36 dc36 pm36 an36 cd36 ct36), sl36⟩)
    (c36 : PySem.W.codeIn K cd36 "_law_guard" = true)
    (k36 : PySem.W.keepIn K (.ref f36) = true)
    (a37 : PySem.W.nsIn K mainGlobals "_law_door" = some (some (.ref f37)))
    (l37 : K.lookup f37 = some ⟨oc37, od37, .func (PySem.W.fnOf "_law_door" "_law_door" (defArgs s_l_door) (defBody s_l_door) (defScope s_l_door) .none kV37 dc37 pm37 an37 cd37 ct37), sl37⟩)
    (c37 : PySem.W.codeIn K cd37 "_law_door" = true)
    (k37 : PySem.W.keepIn K (.ref f37) = true)
    (a38 : PySem.W.nsIn K mainGlobals "_law_parts" = some (some (.ref f38)))
    (l38 : K.lookup f38 = some ⟨oc38, od38, .func (PySem.W.fnOf "_law_parts" "_law_parts" (defArgs s_l_parts) (defBody s_l_parts) (defScope s_l_parts) .none kV38 dc38 pm38 an38 cd38 ct38), sl38⟩)
    (c38 : PySem.W.codeIn K cd38 "_law_parts" = true)
    (k38 : PySem.W.keepIn K (.ref f38) = true)
    (a39 : PySem.W.nsIn K mainGlobals "_law_machine" = some (some (.ref f39)))
    (l39 : K.lookup f39 = some ⟨oc39, od39, .func (PySem.W.fnOf "_law_machine" "_law_machine" (defArgs s_l_machine) (defBody s_l_machine) (defScope s_l_machine) .none kV39 dc39 pm39 an39 cd39 ct39), sl39⟩)
    (c39 : PySem.W.codeIn K cd39 "_law_machine" = true)
    (k39 : PySem.W.keepIn K (.ref f39) = true)
    (a40 : PySem.W.nsIn K mainGlobals "_law_ways" = some (some (.ref f40)))
    (l40 : K.lookup f40 = some ⟨oc40, od40, .func (PySem.W.fnOf "_law_ways" "_law_ways" (defArgs s_l_ways) (defBody s_l_ways) (defScope s_l_ways) .none kV40 dc40 pm40 an40 cd40 ct40), sl40⟩)
    (c40 : PySem.W.codeIn K cd40 "_law_ways" = true)
    (k40 : PySem.W.keepIn K (.ref f40) = true)
    (a41 : PySem.W.nsIn K mainGlobals "_law_goers" = some (some (.ref f41)))
    (l41 : K.lookup f41 = some ⟨oc41, od41, .func (PySem.W.fnOf "_law_goers" "_law_goers" (defArgs s_l_goers) (defBody s_l_goers) (defScope s_l_goers) .none kV41 dc41 pm41 an41 cd41 ct41), sl41⟩)
    (c41 : PySem.W.codeIn K cd41 "_law_goers" = true)
    (k41 : PySem.W.keepIn K (.ref f41) = true)
    (a42 : PySem.W.nsIn K mainGlobals "_law_due" = some (some (.ref f42)))
    (l42 : K.lookup f42 = some ⟨oc42, od42, .func (PySem.W.fnOf "_law_due" "_law_due" (defArgs s_l_due) (defBody s_l_due) (defScope s_l_due) .none kV42 dc42 pm42 an42 cd42 ct42), sl42⟩)
    (c42 : PySem.W.codeIn K cd42 "_law_due" = true)
    (k42 : PySem.W.keepIn K (.ref f42) = true)
    (a43 : PySem.W.nsIn K mainGlobals "_law_many" = some (some (.ref f43)))
    (l43 : K.lookup f43 = some ⟨oc43, od43, .func (PySem.W.fnOf "_law_many" "_law_many" (defArgs s_l_many) (defBody s_l_many) (defScope s_l_many) .none kV43 dc43 pm43 an43 cd43 ct43), sl43⟩)
    (c43 : PySem.W.codeIn K cd43 "_law_many" = true)
    (k43 : PySem.W.keepIn K (.ref f43) = true)
    (a44 : PySem.W.nsIn K mainGlobals "_law_same" = some (some (.ref f44)))
    (l44 : K.lookup f44 = some ⟨oc44, od44, .func (PySem.W.fnOf "_law_same" "_law_same" (defArgs s_l_same) (defBody s_l_same) (defScope s_l_same) .none kV44 dc44 pm44 an44 cd44 ct44), sl44⟩)
    (c44 : PySem.W.codeIn K cd44 "_law_same" = true)
    (k44 : PySem.W.keepIn K (.ref f44) = true)
    (a45 : PySem.W.nsIn K mainGlobals "law" = some (some (.ref f45)))
    (l45 : K.lookup f45 = some ⟨oc45, od45, .func (PySem.W.fnOf "law" "law" (defArgs s_law) (defBody s_law) (defScope s_law) .none kV45 dc45 pm45 an45 cd45 ct45), sl45⟩)
    (c45 : PySem.W.codeIn K cd45 "law" = true)
    (k45 : PySem.W.keepIn K (.ref f45) = true)
    (gBadMachine : PySem.W.nsIn K mainGlobals "BadMachine" = some (some (.ref CBadMachine)))
    (xBadMachine : PySem.W.excIn K CBadMachine [.type "ValueError", .type "Exception", .type "BaseException", .type "object"] "ValueError.__new__" = true)
    (kBadMachine : PySem.W.keepIn K (.ref CBadMachine) = true)
    (bBadMachine : PySem.W.subIn K (.ref CBadMachine) (.type "BaseException") = some true)
    (tBadMachine : PySem.W.typeIn K (.ref CBadMachine) = some (.type "type"))
    (iBadMachine : PySem.W.isClsIn K CBadMachine = true)
    (gTooMany : PySem.W.nsIn K mainGlobals "TooMany" = some (some (.ref CTooMany)))
    (xTooMany : PySem.W.excIn K CTooMany [.type "ValueError", .type "Exception", .type "BaseException", .type "object"] "ValueError.__new__" = true)
    (kTooMany : PySem.W.keepIn K (.ref CTooMany) = true)
    (bTooMany : PySem.W.subIn K (.ref CTooMany) (.type "BaseException") = some true)
    (tTooMany : PySem.W.typeIn K (.ref CTooMany) = some (.type "type"))
    (iTooMany : PySem.W.isClsIn K CTooMany = true)
    (gLETTERS : PySem.W.nsIn K mainGlobals "LETTERS" = some (some (.str "abcdefghijklmnopqrstuvwxyz" uLETTERS)))
    (gMOST_DOORS : PySem.W.nsIn K mainGlobals "MOST_DOORS" = some (some (.int 200 uMOST_DOORS)))
    (gMOST_PARTS : PySem.W.nsIn K mainGlobals "MOST_PARTS" = some (some (.int 6 uMOST_PARTS)))
    (gMOST_ROOMS : PySem.W.nsIn K mainGlobals "MOST_ROOMS" = some (some (.int 64 uMOST_ROOMS)))
    (gMOST_WATCHES : PySem.W.nsIn K mainGlobals "MOST_WATCHES" = some (some (.int 7 uMOST_WATCHES)))
    (zValueError : PySem.W.nsIn K mainGlobals "ValueError" = some none)
    (zall : PySem.W.nsIn K mainGlobals "all" = some none)
    (zbool : PySem.W.nsIn K mainGlobals "bool" = some none)
    (zenumerate : PySem.W.nsIn K mainGlobals "enumerate" = some none)
    (zint : PySem.W.nsIn K mainGlobals "int" = some none)
    (zisinstance : PySem.W.nsIn K mainGlobals "isinstance" = some none)
    (zlen : PySem.W.nsIn K mainGlobals "len" = some none)
    (zlist : PySem.W.nsIn K mainGlobals "list" = some none)
    (zrange : PySem.W.nsIn K mainGlobals "range" = some none)
    (zset : PySem.W.nsIn K mainGlobals "set" = some none)
    (zstr : PySem.W.nsIn K mainGlobals "str" = some none)
    (ztuple : PySem.W.nsIn K mainGlobals "tuple" = some none)
    (zzip : PySem.W.nsIn K mainGlobals "zip" = some none)
    (he1_TooMany : PySem.W.findIn K (.ref CTooMany) "__getattribute__" = some (some (.builtin "BaseException.__getattribute__")))
    (he2_TooMany : PySem.W.findIn K (.ref CTooMany) "__getattr__" = some none)
    (he4_TooMany : PySem.W.hasDictIn K CTooMany = true)
    (he5_TooMany : PySem.W.findIn K (.ref CTooMany) "__class__" = some (some (.builtin "object.__class__")))
    (he8_TooMany : PySem.W.mroIn K CTooMany (.type "object") = some true)
    (hs_TooMany_TooMany : PySem.W.subIn K (.ref CTooMany) (.ref CTooMany) = some true)
    (he6_ : PySem.W.specialIn K (.builtin "object.__class__") "__get__" = some (some (.builtin "getset_descriptor.__get__")))
    (he7_ : PySem.W.takesIn K (.builtin "object.__class__") = some true)
    (hk_TooMany_v : PySem.W.kitOne K (.ref CTooMany) (.type "ValueError") = some true) :
    ∃ fd : FuncData, (∀ (s : Shared) (v : Value), BindsTo s fd ⟨[v], []⟩ [("_law_script", v)]) ∧ ∀ base : Heap, K.In base → base.Ns mainGlobals mg → FnOk P w K mg base CX0 11 fa fd ["_law_script"] (spLaw K) := by
  have e := hfa.symm.trans (PySem.W.mg_of X G a45)
  cases e
  have F9 := funD_mk (st := s_Door_init) (dvs := [.str ""]) l9 c9 k9 lt9 ld9 (.cons ⟨_, rfl⟩ .nil) (by simp)
  obtain ⟨dz9, vz9, bz9⟩ := F9.binds1 (ps := ["self", "start", "end", "guard", "noughts", "sign"]) 6 1 (by simp) rfl fun _ _ _ _ _ _ _ us its h1 h2 => match us, h1, its, h2 with | [_, _, _, _, _, _], _, [_], _ => ⟨_, rfl, rfl⟩
  cases vz9
  obtain ⟨dd9, vd9, bd9⟩ := F9.binds1 (ps := ["self", "start", "end", "guard", "noughts", "sign"]) 5 0 (by simp) rfl fun _ _ _ _ _ _ _ us its h1 h2 => match us, h1, its, h2 with | [_, _, _, _, _], _, [_], _ => ⟨_, rfl, rfl⟩
  let T : Top K mg := {
      C_Door := CDoor,
      g_Door := PySem.W.mg_of X G gDoor,
      cl_Door := ⟨pgDoor, hdDoor, poDoor, saDoor⟩,
      ty_Door := ⟨hcDoor, hnDoor, htDoor, hmDoor⟩,
      n_Door_backs := nDoor_backs,
      n_Door_end := nDoor_end,
      n_Door_looks := nDoor_looks,
      n_Door_sign := nDoor_sign,
      n_Door_start := nDoor_start,
      C_Machine := CMachine,
      g_Machine := PySem.W.mg_of X G gMachine,
      cl_Machine := ⟨pgMachine, hdMachine, poMachine, saMachine⟩,
      ty_Machine := ⟨hcMachine, hnMachine, htMachine, hmMachine⟩,
      n_Machine_door_list := nMachine_door_list,
      n_Machine_room_names := nMachine_room_names,
      n_Machine_stay_looks := nMachine_stay_looks,
      n_Machine_watch_names := nMachine_watch_names,
      t_BELOW := tBELOW,
      g_BELOW := PySem.W.mg_of X G gBELOW,
      q_BELOW := fun H => .inr ⟨oBELOW, _, nBELOW, lBELOW, cBELOW, dBELOW, small1000' (by simp), (.cons ⟨_, rfl⟩ (.cons ⟨_, rfl⟩ .nil))⟩,
      t_WORDS := tWORDS,
      g_WORDS := PySem.W.mg_of X G gWORDS,
      q_WORDS := fun H => .inr ⟨oWORDS, _, nWORDS, lWORDS, cWORDS, dWORDS, small1000' (by simp), (.cons ⟨_, rfl⟩ (.cons ⟨_, rfl⟩ (.cons ⟨_, rfl⟩ (.cons ⟨_, rfl⟩ (.cons ⟨_, rfl⟩ .nil)))))⟩,
      f_is_whole := f0,
      d_is_whole := _,
      F_is_whole := fun_mk (st := s_is_whole) l0 c0 k0,
      g_is_whole := PySem.W.mg_of X G a0,
      b_is_whole := (fun_mk (st := s_is_whole) l0 c0 k0).binds (ps := ["thing"]) fun _ _ _ _ _ _ us hl => match us, hl with | [_], _ => rfl,
      f_of_signs := f1,
      d_of_signs := _,
      F_of_signs := fun_mk (st := s_of_signs) l1 c1 k1,
      g_of_signs := PySem.W.mg_of X G a1,
      b_of_signs := (fun_mk (st := s_of_signs) l1 c1 k1).binds (ps := ["thing", "signs", "most"]) fun _ _ _ _ _ _ us hl => match us, hl with | [_, _, _], _ => rfl,
      f_is_name := f2,
      d_is_name := _,
      F_is_name := fun_mk (st := s_is_name) l2 c2 k2,
      g_is_name := PySem.W.mg_of X G a2,
      b_is_name := (fun_mk (st := s_is_name) l2 c2 k2).binds (ps := ["thing"]) fun _ _ _ _ _ _ us hl => match us, hl with | [_], _ => rfl,
      f_is_watch_name := f3,
      d_is_watch_name := _,
      F_is_watch_name := fun_mk (st := s_is_watch_name) l3 c3 k3,
      g_is_watch_name := PySem.W.mg_of X G a3,
      b_is_watch_name := (fun_mk (st := s_is_watch_name) l3 c3 k3).binds (ps := ["thing"]) fun _ _ _ _ _ _ us hl => match us, hl with | [_], _ => rfl,
      f_is_sign := f4,
      d_is_sign := _,
      F_is_sign := fun_mk (st := s_is_sign) l4 c4 k4,
      g_is_sign := PySem.W.mg_of X G a4,
      b_is_sign := (fun_mk (st := s_is_sign) l4 c4 k4).binds (ps := ["thing"]) fun _ _ _ _ _ _ us hl => match us, hl with | [_], _ => rfl,
      f_is_look := f5,
      d_is_look := _,
      F_is_look := fun_mk (st := s_is_look) l5 c5 k5,
      g_is_look := PySem.W.mg_of X G a5,
      b_is_look := (fun_mk (st := s_is_look) l5 c5 k5).binds (ps := ["thing", "words", "watches"]) fun _ _ _ _ _ _ us hl => match us, hl with | [_, _, _], _ => rfl,
      f_is_guard := f6,
      d_is_guard := _,
      F_is_guard := fun_mk (st := s_is_guard) l6 c6 k6,
      g_is_guard := PySem.W.mg_of X G a6,
      b_is_guard := (fun_mk (st := s_is_guard) l6 c6 k6).binds (ps := ["thing", "words", "watches"]) fun _ _ _ _ _ _ us hl => match us, hl with | [_, _, _], _ => rfl,
      f_unlike := f7,
      d_unlike := _,
      F_unlike := fun_mk (st := s_unlike) l7 c7 k7,
      g_unlike := PySem.W.mg_of X G a7,
      b_unlike := (fun_mk (st := s_unlike) l7 c7 k7).binds (ps := ["things"]) fun _ _ _ _ _ _ us hl => match us, hl with | [_], _ => rfl,
      f_own := f8,
      d_own := _,
      F_own := fun_mk (st := s_own) l8 c8 k8,
      g_own := PySem.W.mg_of X G a8,
      b_own := (fun_mk (st := s_own) l8 c8 k8).binds (ps := ["thing"]) fun _ _ _ _ _ _ us hl => match us, hl with | [_], _ => rfl,
      f_Door_init := f9,
      d_Door_init := _,
      F_Door_init := F9,
      mk_Door := ⟨mkDoor, a9, i9, kcDoor⟩,
      b_Door_init := bz9,
      dv_Door_init := dd9,
      v_Door_init := vd9,
      bd_Door_init := bd9,
      f_Door_asks := f10,
      d_Door_asks := _,
      F_Door_asks := fun_mk (st := s_Door_asks) l10 c10 k10,
      m_Door_asks := ⟨a10, i10, k10⟩,
      b_Door_asks := (fun_mk (st := s_Door_asks) l10 c10 k10).binds (ps := ["self"]) fun _ _ _ _ _ _ us hl => match us, hl with | [_], _ => rfl,
      f_Door_sets := f11,
      d_Door_sets := _,
      F_Door_sets := fun_mk (st := s_Door_sets) l11 c11 k11,
      m_Door_sets := ⟨a11, i11, k11⟩,
      b_Door_sets := (fun_mk (st := s_Door_sets) l11 c11 k11).binds (ps := ["self"]) fun _ _ _ _ _ _ us hl => match us, hl with | [_], _ => rfl,
      f_are_watches := f12,
      d_are_watches := _,
      F_are_watches := fun_mk (st := s_are_watches) l12 c12 k12,
      g_are_watches := PySem.W.mg_of X G a12,
      b_are_watches := (fun_mk (st := s_are_watches) l12 c12 k12).binds (ps := ["thing"]) fun _ _ _ _ _ _ us hl => match us, hl with | [_], _ => rfl,
      f_is_room := f13,
      d_is_room := _,
      F_is_room := fun_mk (st := s_is_room) l13 c13 k13,
      g_is_room := PySem.W.mg_of X G a13,
      b_is_room := (fun_mk (st := s_is_room) l13 c13 k13).binds (ps := ["thing", "watches"]) fun _ _ _ _ _ _ us hl => match us, hl with | [_, _], _ => rfl,
      f_are_rooms := f14,
      d_are_rooms := _,
      F_are_rooms := fun_mk (st := s_are_rooms) l14 c14 k14,
      g_are_rooms := PySem.W.mg_of X G a14,
      b_are_rooms := (fun_mk (st := s_are_rooms) l14 c14 k14).binds (ps := ["thing", "watches"]) fun _ _ _ _ _ _ us hl => match us, hl with | [_, _], _ => rfl,
      f_is_door := f15,
      d_is_door := _,
      F_is_door := fun_mk (st := s_is_door) l15 c15 k15,
      g_is_door := PySem.W.mg_of X G a15,
      b_is_door := (fun_mk (st := s_is_door) l15 c15 k15).binds (ps := ["thing", "watches", "names"]) fun _ _ _ _ _ _ us hl => match us, hl with | [_, _, _], _ => rfl,
      f_Machine_init := f16,
      d_Machine_init := _,
      F_Machine_init := fun_mk (st := s_Machine_init) l16 c16 k16,
      mk_Machine := ⟨mkMachine, a16, i16, kcMachine⟩,
      b_Machine_init := (fun_mk (st := s_Machine_init) l16 c16 k16).binds (ps := ["self", "watches", "rooms", "doors"]) fun _ _ _ _ _ _ us hl => match us, hl with | [_, _, _, _], _ => rfl,
      f_Machine_watches := f17,
      d_Machine_watches := _,
      F_Machine_watches := fun_mk (st := s_Machine_watches) l17 c17 k17,
      m_Machine_watches := ⟨a17, i17, k17⟩,
      b_Machine_watches := (fun_mk (st := s_Machine_watches) l17 c17 k17).binds (ps := ["self"]) fun _ _ _ _ _ _ us hl => match us, hl with | [_], _ => rfl,
      f_Machine_rooms := f18,
      d_Machine_rooms := _,
      F_Machine_rooms := fun_mk (st := s_Machine_rooms) l18 c18 k18,
      m_Machine_rooms := ⟨a18, i18, k18⟩,
      b_Machine_rooms := (fun_mk (st := s_Machine_rooms) l18 c18 k18).binds (ps := ["self"]) fun _ _ _ _ _ _ us hl => match us, hl with | [_], _ => rfl,
      f_Machine_doors := f19,
      d_Machine_doors := _,
      F_Machine_doors := fun_mk (st := s_Machine_doors) l19 c19 k19,
      m_Machine_doors := ⟨a19, i19, k19⟩,
      b_Machine_doors := (fun_mk (st := s_Machine_doors) l19 c19 k19).binds (ps := ["self"]) fun _ _ _ _ _ _ us hl => match us, hl with | [_], _ => rfl,
      f_Machine_stay := f20,
      d_Machine_stay := _,
      F_Machine_stay := fun_mk (st := s_Machine_stay) l20 c20 k20,
      m_Machine_stay := ⟨a20, i20, k20⟩,
      b_Machine_stay := (fun_mk (st := s_Machine_stay) l20 c20 k20).binds (ps := ["self", "room"]) fun _ _ _ _ _ _ us hl => match us, hl with | [_, _], _ => rfl,
      f_watches_of := f21,
      d_watches_of := _,
      F_watches_of := fun_mk (st := s_watches_of) l21 c21 k21,
      g_watches_of := PySem.W.mg_of X G a21,
      b_watches_of := (fun_mk (st := s_watches_of) l21 c21 k21).binds (ps := ["machines"]) fun _ _ _ _ _ _ us hl => match us, hl with | [_], _ => rfl,
      f_rooms_of := f22,
      d_rooms_of := _,
      F_rooms_of := fun_mk (st := s_rooms_of) l22 c22 k22,
      g_rooms_of := PySem.W.mg_of X G a22,
      b_rooms_of := (fun_mk (st := s_rooms_of) l22 c22 k22).binds (ps := ["machines"]) fun _ _ _ _ _ _ us hl => match us, hl with | [_], _ => rfl,
      f_stay_of := f23,
      d_stay_of := _,
      F_stay_of := fun_mk (st := s_stay_of) l23 c23 k23,
      g_stay_of := PySem.W.mg_of X G a23,
      b_stay_of := (fun_mk (st := s_stay_of) l23 c23 k23).binds (ps := ["machines", "room"]) fun _ _ _ _ _ _ us hl => match us, hl with | [_, _], _ => rfl,
      f_answers_to := f24,
      d_answers_to := _,
      F_answers_to := fun_mk (st := s_answers_to) l24 c24 k24,
      g_answers_to := PySem.W.mg_of X G a24,
      b_answers_to := (fun_mk (st := s_answers_to) l24 c24 k24).binds (ps := ["machines", "number", "sign"]) fun _ _ _ _ _ _ us hl => match us, hl with | [_, _, _], _ => rfl,
      f_goers := f25,
      d_goers := _,
      F_goers := fun_mk (st := s_goers) l25 c25 k25,
      g_goers := PySem.W.mg_of X G a25,
      b_goers := (fun_mk (st := s_goers) l25 c25 k25).binds (ps := ["machines", "number", "at"]) fun _ _ _ _ _ _ us hl => match us, hl with | [_, _, _], _ => rfl,
      f_moved := f26,
      d_moved := _,
      F_moved := fun_mk (st := s_moved) l26 c26 k26,
      g_moved := PySem.W.mg_of X G a26,
      b_moved := (fun_mk (st := s_moved) l26 c26 k26).binds (ps := ["room", "number", "name"]) fun _ _ _ _ _ _ us hl => match us, hl with | [_, _, _], _ => rfl,
      f_door_of := f27,
      d_door_of := _,
      F_door_of := fun_mk (st := s_door_of) l27 c27 k27,
      g_door_of := PySem.W.mg_of X G a27,
      b_door_of := (fun_mk (st := s_door_of) l27 c27 k27).binds (ps := ["machines", "share", "room"]) fun _ _ _ _ _ _ us hl => match us, hl with | [_, _, _], _ => rfl,
      f_doors_of := f28,
      d_doors_of := _,
      F_doors_of := fun_mk (st := s_doors_of) l28 c28 k28,
      g_doors_of := PySem.W.mg_of X G a28,
      b_doors_of := (fun_mk (st := s_doors_of) l28 c28 k28).binds (ps := ["machines", "rooms"]) fun _ _ _ _ _ _ us hl => match us, hl with | [_, _], _ => rfl,
      f_joined := f29,
      d_joined := _,
      F_joined := fun_mk (st := s_joined) l29 c29 k29,
      g_joined := PySem.W.mg_of X G a29,
      b_joined := (fun_mk (st := s_joined) l29 c29 k29).binds (ps := ["machines"]) fun _ _ _ _ _ _ us hl => match us, hl with | [_], _ => rfl,
      f_together := f30,
      d_together := _,
      F_together := fun_mk (st := s_together) l30 c30 k30,
      g_together := PySem.W.mg_of X G a30,
      b_together := (fun_mk (st := s_together) l30 c30 k30).binds (ps := ["machines"]) fun _ _ _ _ _ _ us hl => match us, hl with | [_], _ => rfl,
      f_shares := f31,
      d_shares := _,
      F_shares := fun_mk (st := s_shares) l31 c31 k31,
      g_shares := PySem.W.mg_of X G a31,
      b_shares := (fun_mk (st := s_shares) l31 c31 k31).binds (ps := ["machines"]) fun _ _ _ _ _ _ us hl => match us, hl with | [_], _ => rfl,
      f_l_cell_at := f32,
      d_l_cell_at := _,
      F_l_cell_at := fun_mk (st := s_l_cell_at) l32 c32 k32,
      g_l_cell_at := PySem.W.mg_of X G a32,
      b_l_cell_at := (fun_mk (st := s_l_cell_at) l32 c32 k32).binds (ps := ["_law_script", "_law_k"]) fun _ _ _ _ _ _ us hl => match us, hl with | [_, _], _ => rfl,
      f_l_stream := f33,
      d_l_stream := _,
      F_l_stream := fun_mk (st := s_l_stream) l33 c33 k33,
      g_l_stream := PySem.W.mg_of X G a33,
      b_l_stream := (fun_mk (st := s_l_stream) l33 c33 k33).binds (ps := ["_law_cell", "_law_many_here"]) fun _ _ _ _ _ _ us hl => match us, hl with | [_, _], _ => rfl,
      f_l_draws := f34,
      d_l_draws := _,
      F_l_draws := fun_mk (st := s_l_draws) l34 c34 k34,
      g_l_draws := PySem.W.mg_of X G a34,
      b_l_draws := (fun_mk (st := s_l_draws) l34 c34 k34).binds (ps := ["_law_cell", "_law_k", "_law_many_here"]) fun _ _ _ _ _ _ us hl => match us, hl with | [_, _, _], _ => rfl,
      f_l_names := f35,
      d_l_names := _,
      F_l_names := fun_mk (st := s_l_names) l35 c35 k35,
      g_l_names := PySem.W.mg_of X G a35,
      b_l_names := (fun_mk (st := s_l_names) l35 c35 k35).binds (ps := ["_law_cell", "_law_many_here"]) fun _ _ _ _ _ _ us hl => match us, hl with | [_, _], _ => rfl,
      f_l_guard := f36,
      d_l_guard := _,
      F_l_guard := fun_mk (st := s_l_guard) l36 c36 k36,
      g_l_guard := PySem.W.mg_of X G a36,
      b_l_guard := (fun_mk (st := s_l_guard) l36 c36 k36).binds (ps := ["_law_number", "_law_watches", "_law_unit"]) fun _ _ _ _ _ _ us hl => match us, hl with | [_, _, _], _ => rfl,
      f_l_door := f37,
      d_l_door := _,
      F_l_door := fun_mk (st := s_l_door) l37 c37 k37,
      g_l_door := PySem.W.mg_of X G a37,
      b_l_door := (fun_mk (st := s_l_door) l37 c37 k37).binds (ps := ["_law_number", "_law_k", "_law_rooms", "_law_watches", "_law_names_here", "_law_unit"]) fun _ _ _ _ _ _ us hl => match us, hl with | [_, _, _, _, _, _], _ => rfl,
      f_l_parts := f38,
      d_l_parts := _,
      F_l_parts := fun_mk (st := s_l_parts) l38 c38 k38,
      g_l_parts := PySem.W.mg_of X G a38,
      b_l_parts := (fun_mk (st := s_l_parts) l38 c38 k38).binds (ps := ["_law_script"]) fun _ _ _ _ _ _ us hl => match us, hl with | [_], _ => rfl,
      f_l_machine := f39,
      d_l_machine := _,
      F_l_machine := fun_mk (st := s_l_machine) l39 c39 k39,
      g_l_machine := PySem.W.mg_of X G a39,
      b_l_machine := (fun_mk (st := s_l_machine) l39 c39 k39).binds (ps := ["_law_part"]) fun _ _ _ _ _ _ us hl => match us, hl with | [_], _ => rfl,
      f_l_ways := f40,
      d_l_ways := _,
      F_l_ways := fun_mk (st := s_l_ways) l40 c40 k40,
      g_l_ways := PySem.W.mg_of X G a40,
      b_l_ways := (fun_mk (st := s_l_ways) l40 c40 k40).binds (ps := ["_law_parts_here"]) fun _ _ _ _ _ _ us hl => match us, hl with | [_], _ => rfl,
      f_l_goers := f41,
      d_l_goers := _,
      F_l_goers := fun_mk (st := s_l_goers) l41 c41 k41,
      g_l_goers := PySem.W.mg_of X G a41,
      b_l_goers := (fun_mk (st := s_l_goers) l41 c41 k41).binds (ps := ["_law_parts_here", "_law_i", "_law_k"]) fun _ _ _ _ _ _ us hl => match us, hl with | [_, _, _], _ => rfl,
      f_l_due := f42,
      d_l_due := _,
      F_l_due := fun_mk (st := s_l_due) l42 c42 k42,
      g_l_due := PySem.W.mg_of X G a42,
      b_l_due := (fun_mk (st := s_l_due) l42 c42 k42).binds (ps := ["_law_parts_here"]) fun _ _ _ _ _ _ us hl => match us, hl with | [_], _ => rfl,
      f_l_many := f43,
      d_l_many := _,
      F_l_many := fun_mk (st := s_l_many) l43 c43 k43,
      g_l_many := PySem.W.mg_of X G a43,
      b_l_many := (fun_mk (st := s_l_many) l43 c43 k43).binds (ps := ["_law_machines", "_law_way"]) fun _ _ _ _ _ _ us hl => match us, hl with | [_, _], _ => rfl,
      f_l_same := f44,
      d_l_same := _,
      F_l_same := fun_mk (st := s_l_same) l44 c44 k44,
      g_l_same := PySem.W.mg_of X G a44,
      b_l_same := (fun_mk (st := s_l_same) l44 c44 k44).binds (ps := ["_law_door_here", "_law_one"]) fun _ _ _ _ _ _ us hl => match us, hl with | [_, _], _ => rfl,
      f_law := fa,
      d_law := _,
      F_law := fun_mk (st := s_law) l45 c45 k45,
      g_law := PySem.W.mg_of X G a45,
      b_law := (fun_mk (st := s_law) l45 c45 k45).binds (ps := ["_law_script"]) fun _ _ _ _ _ _ us hl => match us, hl with | [_], _ => rfl,
      C_BadMachine := CBadMachine,
      g_BadMachine := PySem.W.mg_of X G gBadMachine,
      x_BadMachine := xBadMachine,
      k_BadMachine := kBadMachine,
      b_BadMachine := bBadMachine,
      t_BadMachine := tBadMachine,
      i_BadMachine := iBadMachine,
      C_TooMany := CTooMany,
      g_TooMany := PySem.W.mg_of X G gTooMany,
      x_TooMany := xTooMany,
      k_TooMany := kTooMany,
      b_TooMany := bTooMany,
      t_TooMany := tTooMany,
      i_TooMany := iTooMany,
      t_LETTERS := uLETTERS,
      g_LETTERS := PySem.W.mg_of X G gLETTERS,
      t_MOST_DOORS := uMOST_DOORS,
      g_MOST_DOORS := PySem.W.mg_of X G gMOST_DOORS,
      t_MOST_PARTS := uMOST_PARTS,
      g_MOST_PARTS := PySem.W.mg_of X G gMOST_PARTS,
      t_MOST_ROOMS := uMOST_ROOMS,
      g_MOST_ROOMS := PySem.W.mg_of X G gMOST_ROOMS,
      t_MOST_WATCHES := uMOST_WATCHES,
      g_MOST_WATCHES := PySem.W.mg_of X G gMOST_WATCHES,
      m_ValueError := PySem.W.mg_none_of X G zValueError,
      m_all := PySem.W.mg_none_of X G zall,
      m_bool := PySem.W.mg_none_of X G zbool,
      m_enumerate := PySem.W.mg_none_of X G zenumerate,
      m_int := PySem.W.mg_none_of X G zint,
      m_isinstance := PySem.W.mg_none_of X G zisinstance,
      m_len := PySem.W.mg_none_of X G zlen,
      m_list := PySem.W.mg_none_of X G zlist,
      m_range := PySem.W.mg_none_of X G zrange,
      m_set := PySem.W.mg_none_of X G zset,
      m_str := PySem.W.mg_none_of X G zstr,
      m_tuple := PySem.W.mg_none_of X G ztuple,
      m_zip := PySem.W.mg_none_of X G zzip,
      e1_TooMany := he1_TooMany,
      e2_TooMany := he2_TooMany,
      e4_TooMany := he4_TooMany,
      e5_TooMany := he5_TooMany,
      e8_TooMany := he8_TooMany,
      s_TooMany_TooMany := hs_TooMany_TooMany,
      e6_ := he6_,
      e7_ := he7_,
      k_TooMany_v := hk_TooMany_v }
  exact ⟨_, fun s v => .of_eq rfl, fun base _ _ => ok_law T⟩
end ZW
open PySem PySem.W PyProof.Rows
set_option maxRecDepth 100000 in
set_option maxHeartbeats 0 in
theorem PySem.Challenge.cw_zonewalk_k25_whole_doors_and_shares_holds : PySem.Challenge.rw_zonewalk_k25_whole_doors_and_shares.Holds := by
  w_on; o_law; k_head; (case hw => w_witness2)
  k_fill
  refine L2.walk_of (l := PySem.Challenge.rw_zonewalk_k25_whole_doors_and_shares) (n := 63) (k := 11) (x := "_law_script") (CX := fun _ => L2.CX0) (sp := fun w => ZW.spLaw _) rfl (by decide) rfl ⟨rfl, by decide, by decide⟩ (fun w h Y => PySem.W.kIn_of Y) ?F (fun _ _ a ns hl _ hS => ⟨a, ns, rfl, hS, hl, fun _ => rfl⟩) (fun _ _ _ _ _ h => h)
  case F =>
    intro w mg fa h KX G hmg
    refine' ZW.all_mk KX G hmg ?gDoor ?pgDoor ?hdDoor ?poDoor ?saDoor ?mkDoor ?kcDoor ?hcDoor ?hnDoor ?htDoor ?hmDoor ?nDoor_backs ?nDoor_end ?nDoor_looks ?nDoor_sign ?nDoor_start ?gMachine ?pgMachine ?hdMachine ?poMachine ?saMachine ?mkMachine ?kcMachine ?hcMachine ?hnMachine ?htMachine ?hmMachine ?nMachine_door_list ?nMachine_room_names ?nMachine_stay_looks ?nMachine_watch_names ?gBELOW ?lBELOW ?cBELOW ?dBELOW ?gWORDS ?lWORDS ?cWORDS ?dWORDS ?a0 ?l0 ?c0 ?k0 ?a1 ?l1 ?c1 ?k1 ?a2 ?l2 ?c2 ?k2 ?a3 ?l3 ?c3 ?k3 ?a4 ?l4 ?c4 ?k4 ?a5 ?l5 ?c5 ?k5 ?a6 ?l6 ?c6 ?k6 ?a7 ?l7 ?c7 ?k7 ?a8 ?l8 ?c8 ?k8 ?a9 ?i9 ?l9 ?c9 ?k9 ?lt9 ?ld9 ?a10 ?i10 ?l10 ?c10 ?k10 ?a11 ?i11 ?l11 ?c11 ?k11 ?a12 ?l12 ?c12 ?k12 ?a13 ?l13 ?c13 ?k13 ?a14 ?l14 ?c14 ?k14 ?a15 ?l15 ?c15 ?k15 ?a16 ?i16 ?l16 ?c16 ?k16 ?a17 ?i17 ?l17 ?c17 ?k17 ?a18 ?i18 ?l18 ?c18 ?k18 ?a19 ?i19 ?l19 ?c19 ?k19 ?a20 ?i20 ?l20 ?c20 ?k20 ?a21 ?l21 ?c21 ?k21 ?a22 ?l22 ?c22 ?k22 ?a23 ?l23 ?c23 ?k23 ?a24 ?l24 ?c24 ?k24 ?a25 ?l25 ?c25 ?k25 ?a26 ?l26 ?c26 ?k26 ?a27 ?l27 ?c27 ?k27 ?a28 ?l28 ?c28 ?k28 ?a29 ?l29 ?c29 ?k29 ?a30 ?l30 ?c30 ?k30 ?a31 ?l31 ?c31 ?k31 ?a32 ?l32 ?c32 ?k32 ?a33 ?l33 ?c33 ?k33 ?a34 ?l34 ?c34 ?k34 ?a35 ?l35 ?c35 ?k35 ?a36 ?l36 ?c36 ?k36 ?a37 ?l37 ?c37 ?k37 ?a38 ?l38 ?c38 ?k38 ?a39 ?l39 ?c39 ?k39 ?a40 ?l40 ?c40 ?k40 ?a41 ?l41 ?c41 ?k41 ?a42 ?l42 ?c42 ?k42 ?a43 ?l43 ?c43 ?k43 ?a44 ?l44 ?c44 ?k44 ?a45 ?l45 ?c45 ?k45 ?gBadMachine ?xBadMachine ?kBadMachine ?bBadMachine ?tBadMachine ?iBadMachine ?gTooMany ?xTooMany ?kTooMany ?bTooMany ?tTooMany ?iTooMany ?gLETTERS ?gMOST_DOORS ?gMOST_PARTS ?gMOST_ROOMS ?gMOST_WATCHES ?zValueError ?zall ?zbool ?zenumerate ?zint ?zisinstance ?zlen ?zlist ?zrange ?zset ?zstr ?ztuple ?zzip ?he1_TooMany ?he2_TooMany ?he4_TooMany ?he5_TooMany ?he8_TooMany ?hs_TooMany_TooMany ?he6_ ?he7_ ?hk_TooMany_v
    (case gDoor => first | k_is | k_exc | rfl)
    (case pgDoor => first | k_is | k_exc | rfl)
    (case hdDoor => first | k_is | k_exc | rfl)
    (case poDoor => first | k_is | k_exc | rfl)
    (case saDoor => first | k_is | k_exc | rfl)
    (case mkDoor => first | k_is | k_exc | rfl)
    (case kcDoor => first | k_is | k_exc | rfl)
    (case hcDoor => first | k_is | k_exc | rfl)
    (case hnDoor => first | k_is | k_exc | rfl)
    (case htDoor => first | k_is | k_exc | rfl)
    (case hmDoor => first | k_is | k_exc | rfl)
    (case nDoor_backs => first | k_is | k_exc | rfl)
    (case nDoor_end => first | k_is | k_exc | rfl)
    (case nDoor_looks => first | k_is | k_exc | rfl)
    (case nDoor_sign => first | k_is | k_exc | rfl)
    (case nDoor_start => first | k_is | k_exc | rfl)
    (case gMachine => first | k_is | k_exc | rfl)
    (case pgMachine => first | k_is | k_exc | rfl)
    (case hdMachine => first | k_is | k_exc | rfl)
    (case poMachine => first | k_is | k_exc | rfl)
    (case saMachine => first | k_is | k_exc | rfl)
    (case mkMachine => first | k_is | k_exc | rfl)
    (case kcMachine => first | k_is | k_exc | rfl)
    (case hcMachine => first | k_is | k_exc | rfl)
    (case hnMachine => first | k_is | k_exc | rfl)
    (case htMachine => first | k_is | k_exc | rfl)
    (case hmMachine => first | k_is | k_exc | rfl)
    (case nMachine_door_list => first | k_is | k_exc | rfl)
    (case nMachine_room_names => first | k_is | k_exc | rfl)
    (case nMachine_stay_looks => first | k_is | k_exc | rfl)
    (case nMachine_watch_names => first | k_is | k_exc | rfl)
    (case gBELOW => first | k_is | k_exc | rfl)
    (case lBELOW => first | k_is | k_exc | rfl)
    (case cBELOW => first | k_is | k_exc | rfl)
    (case dBELOW => first | k_is | k_exc | rfl)
    (case gWORDS => first | k_is | k_exc | rfl)
    (case lWORDS => first | k_is | k_exc | rfl)
    (case cWORDS => first | k_is | k_exc | rfl)
    (case dWORDS => first | k_is | k_exc | rfl)
    (case a0 => first | k_is | k_exc | rfl)
    (case l0 => first | k_is | k_exc | rfl)
    (case c0 => first | k_is | k_exc | rfl)
    (case k0 => first | k_is | k_exc | rfl)
    (case a1 => first | k_is | k_exc | rfl)
    (case l1 => first | k_is | k_exc | rfl)
    (case c1 => first | k_is | k_exc | rfl)
    (case k1 => first | k_is | k_exc | rfl)
    (case a2 => first | k_is | k_exc | rfl)
    (case l2 => first | k_is | k_exc | rfl)
    (case c2 => first | k_is | k_exc | rfl)
    (case k2 => first | k_is | k_exc | rfl)
    (case a3 => first | k_is | k_exc | rfl)
    (case l3 => first | k_is | k_exc | rfl)
    (case c3 => first | k_is | k_exc | rfl)
    (case k3 => first | k_is | k_exc | rfl)
    (case a4 => first | k_is | k_exc | rfl)
    (case l4 => first | k_is | k_exc | rfl)
    (case c4 => first | k_is | k_exc | rfl)
    (case k4 => first | k_is | k_exc | rfl)
    (case a5 => first | k_is | k_exc | rfl)
    (case l5 => first | k_is | k_exc | rfl)
    (case c5 => first | k_is | k_exc | rfl)
    (case k5 => first | k_is | k_exc | rfl)
    (case a6 => first | k_is | k_exc | rfl)
    (case l6 => first | k_is | k_exc | rfl)
    (case c6 => first | k_is | k_exc | rfl)
    (case k6 => first | k_is | k_exc | rfl)
    (case a7 => first | k_is | k_exc | rfl)
    (case l7 => first | k_is | k_exc | rfl)
    (case c7 => first | k_is | k_exc | rfl)
    (case k7 => first | k_is | k_exc | rfl)
    (case a8 => first | k_is | k_exc | rfl)
    (case l8 => first | k_is | k_exc | rfl)
    (case c8 => first | k_is | k_exc | rfl)
    (case k8 => first | k_is | k_exc | rfl)
    (case a9 => first | k_is | k_exc | rfl)
    (case i9 => first | k_is | k_exc | rfl)
    (case l9 => first | k_is | k_exc | rfl)
    (case c9 => first | k_is | k_exc | rfl)
    (case k9 => first | k_is | k_exc | rfl)
    (case lt9 => first | k_is | k_exc | rfl)
    (case ld9 => first | k_is | k_exc | rfl)
    (case a10 => first | k_is | k_exc | rfl)
    (case i10 => first | k_is | k_exc | rfl)
    (case l10 => first | k_is | k_exc | rfl)
    (case c10 => first | k_is | k_exc | rfl)
    (case k10 => first | k_is | k_exc | rfl)
    (case a11 => first | k_is | k_exc | rfl)
    (case i11 => first | k_is | k_exc | rfl)
    (case l11 => first | k_is | k_exc | rfl)
    (case c11 => first | k_is | k_exc | rfl)
    (case k11 => first | k_is | k_exc | rfl)
    (case a12 => first | k_is | k_exc | rfl)
    (case l12 => first | k_is | k_exc | rfl)
    (case c12 => first | k_is | k_exc | rfl)
    (case k12 => first | k_is | k_exc | rfl)
    (case a13 => first | k_is | k_exc | rfl)
    (case l13 => first | k_is | k_exc | rfl)
    (case c13 => first | k_is | k_exc | rfl)
    (case k13 => first | k_is | k_exc | rfl)
    (case a14 => first | k_is | k_exc | rfl)
    (case l14 => first | k_is | k_exc | rfl)
    (case c14 => first | k_is | k_exc | rfl)
    (case k14 => first | k_is | k_exc | rfl)
    (case a15 => first | k_is | k_exc | rfl)
    (case l15 => first | k_is | k_exc | rfl)
    (case c15 => first | k_is | k_exc | rfl)
    (case k15 => first | k_is | k_exc | rfl)
    (case a16 => first | k_is | k_exc | rfl)
    (case i16 => first | k_is | k_exc | rfl)
    (case l16 => first | k_is | k_exc | rfl)
    (case c16 => first | k_is | k_exc | rfl)
    (case k16 => first | k_is | k_exc | rfl)
    (case a17 => first | k_is | k_exc | rfl)
    (case i17 => first | k_is | k_exc | rfl)
    (case l17 => first | k_is | k_exc | rfl)
    (case c17 => first | k_is | k_exc | rfl)
    (case k17 => first | k_is | k_exc | rfl)
    (case a18 => first | k_is | k_exc | rfl)
    (case i18 => first | k_is | k_exc | rfl)
    (case l18 => first | k_is | k_exc | rfl)
    (case c18 => first | k_is | k_exc | rfl)
    (case k18 => first | k_is | k_exc | rfl)
    (case a19 => first | k_is | k_exc | rfl)
    (case i19 => first | k_is | k_exc | rfl)
    (case l19 => first | k_is | k_exc | rfl)
    (case c19 => first | k_is | k_exc | rfl)
    (case k19 => first | k_is | k_exc | rfl)
    (case a20 => first | k_is | k_exc | rfl)
    (case i20 => first | k_is | k_exc | rfl)
    (case l20 => first | k_is | k_exc | rfl)
    (case c20 => first | k_is | k_exc | rfl)
    (case k20 => first | k_is | k_exc | rfl)
    (case a21 => first | k_is | k_exc | rfl)
    (case l21 => first | k_is | k_exc | rfl)
    (case c21 => first | k_is | k_exc | rfl)
    (case k21 => first | k_is | k_exc | rfl)
    (case a22 => first | k_is | k_exc | rfl)
    (case l22 => first | k_is | k_exc | rfl)
    (case c22 => first | k_is | k_exc | rfl)
    (case k22 => first | k_is | k_exc | rfl)
    (case a23 => first | k_is | k_exc | rfl)
    (case l23 => first | k_is | k_exc | rfl)
    (case c23 => first | k_is | k_exc | rfl)
    (case k23 => first | k_is | k_exc | rfl)
    (case a24 => first | k_is | k_exc | rfl)
    (case l24 => first | k_is | k_exc | rfl)
    (case c24 => first | k_is | k_exc | rfl)
    (case k24 => first | k_is | k_exc | rfl)
    (case a25 => first | k_is | k_exc | rfl)
    (case l25 => first | k_is | k_exc | rfl)
    (case c25 => first | k_is | k_exc | rfl)
    (case k25 => first | k_is | k_exc | rfl)
    (case a26 => first | k_is | k_exc | rfl)
    (case l26 => first | k_is | k_exc | rfl)
    (case c26 => first | k_is | k_exc | rfl)
    (case k26 => first | k_is | k_exc | rfl)
    (case a27 => first | k_is | k_exc | rfl)
    (case l27 => first | k_is | k_exc | rfl)
    (case c27 => first | k_is | k_exc | rfl)
    (case k27 => first | k_is | k_exc | rfl)
    (case a28 => first | k_is | k_exc | rfl)
    (case l28 => first | k_is | k_exc | rfl)
    (case c28 => first | k_is | k_exc | rfl)
    (case k28 => first | k_is | k_exc | rfl)
    (case a29 => first | k_is | k_exc | rfl)
    (case l29 => first | k_is | k_exc | rfl)
    (case c29 => first | k_is | k_exc | rfl)
    (case k29 => first | k_is | k_exc | rfl)
    (case a30 => first | k_is | k_exc | rfl)
    (case l30 => first | k_is | k_exc | rfl)
    (case c30 => first | k_is | k_exc | rfl)
    (case k30 => first | k_is | k_exc | rfl)
    (case a31 => first | k_is | k_exc | rfl)
    (case l31 => first | k_is | k_exc | rfl)
    (case c31 => first | k_is | k_exc | rfl)
    (case k31 => first | k_is | k_exc | rfl)
    (case a32 => first | k_is | k_exc | rfl)
    (case l32 => first | k_is | k_exc | rfl)
    (case c32 => first | k_is | k_exc | rfl)
    (case k32 => first | k_is | k_exc | rfl)
    (case a33 => first | k_is | k_exc | rfl)
    (case l33 => first | k_is | k_exc | rfl)
    (case c33 => first | k_is | k_exc | rfl)
    (case k33 => first | k_is | k_exc | rfl)
    (case a34 => first | k_is | k_exc | rfl)
    (case l34 => first | k_is | k_exc | rfl)
    (case c34 => first | k_is | k_exc | rfl)
    (case k34 => first | k_is | k_exc | rfl)
    (case a35 => first | k_is | k_exc | rfl)
    (case l35 => first | k_is | k_exc | rfl)
    (case c35 => first | k_is | k_exc | rfl)
    (case k35 => first | k_is | k_exc | rfl)
    (case a36 => first | k_is | k_exc | rfl)
    (case l36 => first | k_is | k_exc | rfl)
    (case c36 => first | k_is | k_exc | rfl)
    (case k36 => first | k_is | k_exc | rfl)
    (case a37 => first | k_is | k_exc | rfl)
    (case l37 => first | k_is | k_exc | rfl)
    (case c37 => first | k_is | k_exc | rfl)
    (case k37 => first | k_is | k_exc | rfl)
    (case a38 => first | k_is | k_exc | rfl)
    (case l38 => first | k_is | k_exc | rfl)
    (case c38 => first | k_is | k_exc | rfl)
    (case k38 => first | k_is | k_exc | rfl)
    (case a39 => first | k_is | k_exc | rfl)
    (case l39 => first | k_is | k_exc | rfl)
    (case c39 => first | k_is | k_exc | rfl)
    (case k39 => first | k_is | k_exc | rfl)
    (case a40 => first | k_is | k_exc | rfl)
    (case l40 => first | k_is | k_exc | rfl)
    (case c40 => first | k_is | k_exc | rfl)
    (case k40 => first | k_is | k_exc | rfl)
    (case a41 => first | k_is | k_exc | rfl)
    (case l41 => first | k_is | k_exc | rfl)
    (case c41 => first | k_is | k_exc | rfl)
    (case k41 => first | k_is | k_exc | rfl)
    (case a42 => first | k_is | k_exc | rfl)
    (case l42 => first | k_is | k_exc | rfl)
    (case c42 => first | k_is | k_exc | rfl)
    (case k42 => first | k_is | k_exc | rfl)
    (case a43 => first | k_is | k_exc | rfl)
    (case l43 => first | k_is | k_exc | rfl)
    (case c43 => first | k_is | k_exc | rfl)
    (case k43 => first | k_is | k_exc | rfl)
    (case a44 => first | k_is | k_exc | rfl)
    (case l44 => first | k_is | k_exc | rfl)
    (case c44 => first | k_is | k_exc | rfl)
    (case k44 => first | k_is | k_exc | rfl)
    (case a45 => first | k_is | k_exc | rfl)
    (case l45 => first | k_is | k_exc | rfl)
    (case c45 => first | k_is | k_exc | rfl)
    (case k45 => first | k_is | k_exc | rfl)
    (case gBadMachine => first | k_is | k_exc | rfl)
    (case xBadMachine => first | k_is | k_exc | rfl)
    (case kBadMachine => first | k_is | k_exc | rfl)
    (case bBadMachine => first | k_is | k_exc | rfl)
    (case tBadMachine => first | k_is | k_exc | rfl)
    (case iBadMachine => first | k_is | k_exc | rfl)
    (case gTooMany => first | k_is | k_exc | rfl)
    (case xTooMany => first | k_is | k_exc | rfl)
    (case kTooMany => first | k_is | k_exc | rfl)
    (case bTooMany => first | k_is | k_exc | rfl)
    (case tTooMany => first | k_is | k_exc | rfl)
    (case iTooMany => first | k_is | k_exc | rfl)
    (case gLETTERS => first | k_is | k_exc | rfl)
    (case gMOST_DOORS => first | k_is | k_exc | rfl)
    (case gMOST_PARTS => first | k_is | k_exc | rfl)
    (case gMOST_ROOMS => first | k_is | k_exc | rfl)
    (case gMOST_WATCHES => first | k_is | k_exc | rfl)
    (case zValueError => first | k_is | k_exc | rfl)
    (case zall => first | k_is | k_exc | rfl)
    (case zbool => first | k_is | k_exc | rfl)
    (case zenumerate => first | k_is | k_exc | rfl)
    (case zint => first | k_is | k_exc | rfl)
    (case zisinstance => first | k_is | k_exc | rfl)
    (case zlen => first | k_is | k_exc | rfl)
    (case zlist => first | k_is | k_exc | rfl)
    (case zrange => first | k_is | k_exc | rfl)
    (case zset => first | k_is | k_exc | rfl)
    (case zstr => first | k_is | k_exc | rfl)
    (case ztuple => first | k_is | k_exc | rfl)
    (case zzip => first | k_is | k_exc | rfl)
    (case he1_TooMany => first | k_is | k_exc | rfl)
    (case he2_TooMany => first | k_is | k_exc | rfl)
    (case he4_TooMany => first | k_is | k_exc | rfl)
    (case he5_TooMany => first | k_is | k_exc | rfl)
    (case he8_TooMany => first | k_is | k_exc | rfl)
    (case hs_TooMany_TooMany => first | k_is | k_exc | rfl)
    (case he6_ => first | k_is | k_exc | rfl)
    (case he7_ => first | k_is | k_exc | rfl)
    (case hk_TooMany_v => first | k_is | k_exc | rfl)
